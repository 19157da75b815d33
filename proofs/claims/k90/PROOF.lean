import PyProof.Rows.All
import Wide.All
import OpenK.AllK
import Wide.FinOn
import HandS.ForMost
import HandS.Walk
import HandS.IsInst
import HandS.Style
import HandS.Defaults
import HandS.Ends
import HandS.HeadEnd
import HandS.Words
import HandS.SortInts
import HandS.SortRule
import HandS.DictComp
import HandS.TryOnly
import HandS.DictTup
import PyProof.ReprRoads
import HandS.Conv
import HandS.WideBits
import HandS.Small
import PySem.Challenge.RW_voicerows_k90_whole_counts_that_pairs_ne
import PyProof.ReprLen
import PyProof.Rows.ReprShort
import KE.KStateDown
import HandS.Head0
import HandS.Head1
import HandS.Head2
import HandS.HeadHook1
import HandS.HeadHook2
import HandS.WordsExc
set_option Elab.async false
set_option linter.all false
set_option maxRecDepth 100000
set_option maxHeartbeats 4000000
/-! Calls of defs where nothing is being shown (no repr under way): as HandS.Call, with that one fact more. -/
namespace Ev
open PySem PySem.Spec PyProof.Rows L2

/-- a def's promise, at every place at which no repr is under way -/
structure FnG (P : Program) (w : World) (K : PySem.W.Frag) (mg : Str → Option Value) (base : Heap) (CX : CXT) (k : Nat) (f : Addr) (fd : FuncData) (ps : List Str) (sp : Sp) : Prop where
  len : ∀ vs H Q E, sp vs H Q E → vs.length = ps.length
  run : ∀ (A : Around) (outer : List Env) (s : Shared) (H : Hp) (args : Args) (us : List Value) (vs : List V) (Q : VK) (E : XK), A.guards = some [] → Room k A → Env0 P w K mg base A outer s H → BindsTo s fd args (ps.zip us) → Vals vs us → sp vs H Q E →
    codeAny (model P w) A (.call (.ref f) args) (CR CX outer P w H s Q E) s
section
variable {P : Program} {w : World} {K : PySem.W.Frag} {mg : Str → Option Value} {base : Heap} {CX : CXT} {j k : Nat} {f : Addr} {fd : FuncData} {ps : List Str} {sp sp' : Sp}
theorem FnG.of_ok (F : FnOk P w K mg base CX k f fd ps sp) : FnG P w K mg base CX k f fd ps sp := ⟨F.len, fun A outer s H args us vs Q E _ hr => F.run A outer s H args us vs Q E hr⟩
theorem FnG.mono (F : FnG P w K mg base CX j f fd ps sp) (h : j ≤ k) : FnG P w K mg base CX k f fd ps sp := ⟨F.len, fun A outer s H args us vs Q E hg hr => F.run A outer s H args us vs Q E hg (hr.mono h)⟩
theorem FnG.imp (F : FnG P w K mg base CX k f fd ps sp) (h : ∀ vs H Q E, sp' vs H Q E → sp vs H Q E) : FnG P w K mg base CX k f fd ps sp' :=
  ⟨fun vs H Q E q => F.len vs H Q E (h _ _ _ _ q), fun A outer s H args us vs Q E hg hr he hb hv hs => F.run A outer s H args us vs Q E hg hr he hb hv (h _ _ _ _ hs)⟩
/-- a def by its body -/
theorem FnG.of {x qual : Str} {params : Arguments} {body : List Stmt} {scope : Scope} {dvs : List V} {kws : List (Str × V)} {N : List Str} (F : FunD K x qual params body scope dvs kws f fd) (S : FnScope N ps scope) (len : ∀ vs H Q E, sp vs H Q E → vs.length = ps.length)
    (hbody : ∀ (cdv : Value) (A : Around) (outer : List Env) (s : Shared) (H : Hp) (vs : List V) (Q : VK) (E : XK), A.guards = some [] → Room k (A.deeper (envOfC qual scope s.heap.objs.size f cdv)) → sp vs H Q E →
      ∃ t, PSs (cxOf CX P w K mg base N qual scope f cdv A outer s H E) body t ∧ t { nx := fun _ H' => Q .non H', rt := Q } (start N vs) H) : FnG P w K mg base CX (k + 1) f fd ps sp := by
  obtain ⟨oc, od, dV, kV, doc, pm, an, cdv, ct, osl, rfl, lk, hcd, _, _⟩ := F.ex
  refine ⟨len, fun A outer s H args us vs Q E hg hr e0 hb r hsp => ?_⟩
  have hl := len _ _ _ _ hsp
  have KX : K.In s.heap := e0.mod.kin.keeps fun b o e => (e0.bs b o e).1
  have lim : s.heap.NoLimit := e0.mod.nolimit.keeps fun b o e => (e0.bs b o e).1
  have hkind : ∀ y ∈ ps.zip us, scope.names.lookup y.1 = some .local ∨ (scope.names.lookup y.1 = some .cell ∧ ((cellsFrom (s.heap.objs.size + 1) scope.names []).lookup y.1).isSome = true) := fun ⟨n, v⟩ hy => by
    rcases S.par n (List.of_mem_zip hy).1 with q | q
    · exact .inl q
    · exact .inr ⟨q, PySem.W.cellsFrom_some _ _ _ (.inl q)⟩
  refine codeAny_call_function hr.depth (KX _ _ lk) rfl S.co S.gen rfl (PySem.W.codeRec_of KX hcd) (hb _ _ _ _ ?_)
  refine wpAny_newFunctionEnv_cells S.kind hkind fun env he s1 x => ?_
  subst he
  refine ⟨lim.keeps x.toInCall.keep, codeAny_func ?_⟩
  obtain ⟨t, ht, hq⟩ := hbody cdv A outer s H vs Q E hg (hr.deeper _) hsp
  have I : Inv (cxOf CX P w K mg base N qual scope f cdv A outer s H E) [] (start N vs) H s1 := inv_start S hr.hd e0 hl r x
  refine wpAny_mono (ht.run [] s1 (start N vs) H _ I hq) (fun fl s' hs => ?_) fun e s' hs => hs
  cases fl with
  | ret u =>
    obtain ⟨v, σ', H', J, rv, q⟩ := hs
    exact ⟨v, H', J.os, J.bare, J.base, J.hok, rv, q⟩
  | next =>
    obtain ⟨σ', H', J, q⟩ := hs
    exact ⟨.non, H', J.os, J.bare, J.base, J.hok, rfl, q⟩
  | brk =>
    obtain ⟨_, _, _, q⟩ := hs
    exact False.elim q
  | cont =>
    obtain ⟨_, _, _, q⟩ := hs
    exact False.elim q
end
section
variable {X : Cx} {CX : CXT} {k : Nat} {f : Addr} {fd : FuncData} {ps ks : List Str} {sp : Sp} {dvs : List V} {ds : List Value} {E : XK} {x : Str} {p pos : Pos} {e : Expr} {es : List Expr} {t tk : TA}
theorem FnG.call {pins : List (Addr × Obj)} {σ : L2.St} {H : Hp} {s : Shared} {Q : VK} {us us' : List Value} {kw : List (Str × Value)} {vs : List V} (hG : X.A.guards = some []) (F : FnG X.prog X.w X.K X.mg X.base CX k f fd ps sp) (hr : Room k X.A) (hx : Passes CX X E)
    (I : Inv X pins σ H s) (hb : us.length = ps.length → BindsTo s fd ⟨us', kw⟩ (ps.zip us)) (r : Vals vs us) (h : sp vs H Q E) : wpAny (model X.prog X.w) X.A (call (.ref f) us' kw) (EP X pins σ Q) X.xe s := by
  have hl : us.length = ps.length := by rw [← r.length]; exact F.len _ _ _ _ h
  refine wpAny_call (codeAny_mono (F.run X.A X.stack s H ⟨us', kw⟩ us vs Q E hG hr I.env0 (hb hl) r h) fun r s' hq => ?_)
  cases r with
  | error e => exact hx pins σ H s e s' I hq
  | ok fl =>
    cases fl with
    | ret u => exact I.after hq
    | next => exact False.elim hq
    | brk => exact False.elim hq
    | cont => exact False.elim hq
theorem run_fnG {pins : List (Addr × Obj)} {σ : L2.St} {H : Hp} {s : Shared} {Q : VK} {us : List Value} {vs : List V} (hG : X.A.guards = some []) (F : FnG X.prog X.w X.K X.mg X.base CX k f fd ps sp) (hr : Room k X.A) (hb : Binds X.K fd ps ds) (hd : Vals dvs ds) (hx : Passes CX X E)
    (I : Inv X pins σ H s) (r : Vals vs us) (h : sp (vs ++ dvs) H Q E) : wpAny (model X.prog X.w) X.A (call (.ref f) us) (EP X pins σ Q) X.xe s :=
  FnG.call hG F hr hx I (fun hl => hb s us I.kIn hl) (r.append hd) h
theorem pe_callG (hG : X.A.guards = some []) (F : FnG X.prog X.w X.K X.mg X.base CX k f fd ps sp) (hr : Room k X.A) (hg : Gl X x) (hm : X.mg x = some (.ref f)) (hk : PySem.W.keepIn X.K (.ref f) = true) (hb : Binds X.K fd ps ds) (hd : Vals dvs ds) (hx : Passes CX X E)
    (ha : PA X (e :: es) t) (hdb : (x == ("__debug__" : Str)) = false) (he : starEach (e :: es) X.env = (false, eval e X.env) :: starEach es X.env) (hpl : (backTo pos (starEach es X.env)).any (·.1) = false) :
    PE X (.Call (.Name x p) (e :: es) [] pos) (tCall sp dvs E t) := by
  refine ⟨fun pins s σ H Q I h => ?_⟩
  refine wpAny_Call_Name_kw (ld_glob I hg hm ?_ hdb)
  refine PySem.W.callWith_K (h₀ := X.base) I.ok.mod.kin hk (thn (ha.run pos pins s σ H _ I h) fun us s1 ⟨vs, H1, I1, r, q⟩ => ⟨I1.kIn, ?_⟩) he hpl
  exact run_fnG hG F hr hb hd hx I1 r q
theorem pe_callG0 (hG : X.A.guards = some []) (F : FnG X.prog X.w X.K X.mg X.base CX k f fd ps sp) (hr : Room k X.A) (hg : Gl X x) (hm : X.mg x = some (.ref f)) (hk : PySem.W.keepIn X.K (.ref f) = true) (hb : Binds X.K fd ps ds) (hd : Vals dvs ds) (hx : Passes CX X E)
    (hdb : (x == ("__debug__" : Str)) = false) : PE X (.Call (.Name x p) [] [] pos) (tCall sp dvs E tNil) := by
  refine ⟨fun pins s σ H Q I h => ?_⟩
  refine wpAny_Call_Name_kw (ld_glob I hg hm ?_ hdb)
  exact PySem.W.callWith_K0 I.kIn hk (run_fnG (us := []) hG F hr hb hd hx I .nil h)
/-- keywords alone, all parameters named: pm, where each parameter's value stands among the written ones -/
def KwB (K : PySem.W.Frag) (fd : FuncData) (ps ks : List Str) (pm : List Nat) : Prop :=
  ∀ (s : Shared) (ws : List Value), K.In s.heap → ws.length = ks.length → BindsTo s fd ⟨[], ks.zip ws⟩ (ps.zip (pm.map fun i => ws.getD i .none))
theorem vals_pm {vs : List V} {ws : List Value} (r : Vals vs ws) : ∀ pm : List Nat, Vals (pm.map fun i => vs.getD i .non) (pm.map fun i => ws.getD i .none)
  | [] => .nil
  | i :: pm => .cons (by
      show L2.RelV (vs.getD i V.non) (ws.getD i Value.none)
      rw [List.getD_eq_getElem?_getD, List.getD_eq_getElem?_getD]
      cases e : vs[i]? with
      | none => rw [Vals.none_of r e]; exact rfl
      | some v =>
        obtain ⟨u, eu, ru⟩ := r.get e
        rw [eu]
        exact ru) (vals_pm r pm)
theorem pe_callGK {kws : List Keyword} {pm : List Nat} (hG : X.A.guards = some []) (F : FnG X.prog X.w X.K X.mg X.base CX k f fd ps sp) (hr : Room k X.A) (hg : Gl X x) (hm : X.mg x = some (.ref f)) (hk : PySem.W.keepIn X.K (.ref f) = true) (hb : KwB X.K fd ps ks pm) (hx : Passes CX X E)
    (hkw : PK X kws tk) (hall : (backToKw pos (keywordEach kws X.env)).all (·.1.isSome) = true) (hks : (backToKw pos (keywordEach kws X.env)).filterMap (·.1) = ks)
    (hdb : (x == ("__debug__" : Str)) = false) (hpl : ((backTo pos (starEach [] X.env)).any (·.1) || (backToKw pos (keywordEach kws X.env)).any (·.1.isNone)) = false) :
    PE X (.Call (.Name x p) [] kws pos) (fun σ H Q => tk σ H fun vs H1 => vs.length = ks.length ∧ sp (pm.map fun i => vs.getD i .non) H1 Q E) := by
  refine ⟨fun pins s σ H Q I h => ?_⟩
  refine wpAny_Call_Name_kw (ld_glob I hg hm ?_ hdb)
  refine PySem.W.callWith_KW0 (h₀ := X.base) I.ok.mod.kin hk hall (thn (hkw.run pos pins s σ H _ I h) fun ws s2 ⟨zs, H2, I2, rz, hl, q2⟩ => ⟨I2.kIn, ?_⟩) hpl
  rw [hks]
  exact FnG.call hG F hr hx I2 (fun _ => hb s2 ws I2.kIn (rz.length.symm.trans hl)) (vals_pm rz pm) q2
end

/-! ### the law's end -/
theorem law_callG {P : Program} {w : World} {K : PySem.W.Frag} {mg mb : Str → Option Value} {CX : CXT} {k : Nat} {fa a : Addr} {fd : FuncData} {x : Str} {sp : Sp} {s₁ : Shared} {vs : List Value} {ns : List Int}
    (KX : K.In s₁.heap) (hns : s₁.heap.Ns mainGlobals mg) (hb : s₁.heap.Ns builtinsNs mb) (hbb : ∀ x : Str, x ≠ "__name__" → mb x = bootBuiltins x) (hlim : s₁.heap.NoLimit) (hg : s₁.gens = #[])
    (ha : s₁.heap.get? a = some { cls := .type "list", data := .seq vs.toArray }) (hi : IntsAre vs ns) (hl : ns.length ≤ sizeLine) (hr : Room k callerA)
    (F : ∀ base : Heap, K.In base → base.Ns mainGlobals mg → FnG P w K mg base CX k fa fd [x] sp) (hbind : ∀ (s : Shared) (u : Value), BindsTo s fd ⟨[u], []⟩ [(x, u)])
    (hsp : ∀ H : Hp, Only H → SqL K H a (ns.map V.int) → sp [.ref a] H (fun v _ => v = .bl true) fun _ _ _ => False)
    (hCX : ∀ H e s', CX [] H s₁ (fun _ _ _ => False) e s' → False) :
    codeAny (model P w) callerA (.call (.ref fa) ⟨[.ref a], []⟩) (fun r s' => r = .ok (.ret (.bool true)) ∧ OldK s₁.heap s'.heap ∧ s'.os = s₁.os ∧ AllBare s'.gens) s₁ := by
  have rv := vals_ints hi
  let ob : Obj := { cls := .type "list", data := .seq vs.toArray }
  -- H tracks the script alone, or (it is a module's own object) nothing
  have go : ∀ H : Hp, (∀ b u, H b = some u → b = a ∧ u = .frz ob (.lst (ns.map V.int))) → (H a ≠ none → K.lookup a = none) → SqL K H a (ns.map V.int) →
      codeAny (model P w) callerA (.call (.ref fa) ⟨[.ref a], []⟩) (fun r s' => r = .ok (.ret (.bool true)) ∧ OldK s₁.heap s'.heap ∧ s'.os = s₁.os ∧ AllBare s'.gens) s₁ := by
    intro H hA hK hS
    have off : ∀ {b : Addr} {o : Obj}, s₁.heap.get? b = some o → (b = a → K.lookup a ≠ none ∨ ∃ es ep, o.data = .dict es ep) → H b = none := fun {b o} e hq => by
      cases q : H b with
      | none => rfl
      | some u =>
        obtain ⟨rfl, _⟩ := hA b u q
        rcases hq rfl with z | ⟨es, ep, z⟩
        · exact absurd (hK (by rw [q]; simp)) z
        · rw [ha] at e
          cases e
          cases z
    have okH : HOk P w H s₁.heap := fun b u e => by
      obtain ⟨rfl, rfl⟩ := hA b u e
      exact ⟨ha, by rw [List.length_map]; exact hl, vs, _, rv, ha⟩
    have ns1 : ∀ {b : Addr} {m : Str → Option Value}, s₁.heap.Ns b m → (hidT s₁.heap H).Ns b m := fun {b m} ⟨o, es, ep, e, d, r⟩ => ⟨o, es, ep, hidT_get e (off e fun _ => .inr ⟨es, ep, d⟩), d, r⟩
    have K1 : K.In (hidT s₁.heap H) := fun b o e => hidT_get (KX b o e) (off (KX b o e) fun z => .inl (by subst z; rw [e]; simp))
    have M1 : Mod K mg (hidT s₁.heap H) := ⟨K1, ns1 hns, ⟨mb, ns1 hb, hbb⟩, let ⟨mc, h1, h2⟩ := hlim; ⟨mc, ns1 h1, h2⟩⟩
    have e0 : Env0 P w K mg (hidT s₁.heap H) callerA [] s₁ H := ⟨rfl, M1, fun b o e => of_hidT e, Nat.le_of_eq (hidT_size _ _), trivial, fun b hb => absurd (show b ∈ ([] : List Addr) from hb) (by simp), okH, .of_eq hg⟩
    have hO : Only H := fun b => by
      cases q : H b with
      | none => exact .inl rfl
      | some u =>
        obtain ⟨_, rfl⟩ := hA b u q
        exact .inr ⟨_, _, rfl⟩
    refine codeAny_mono ((F _ K1 (ns1 hns)).run callerA [] s₁ H ⟨[.ref a], []⟩ [.ref a] [.ref a] _ _ rfl hr e0 (hbind s₁ (.ref a)) (.cons rfl .nil) (hsp H hO hS)) fun r s' h => ?_
    cases r with
    | error e => exact (hCX H e s' h).elim
    | ok fl =>
      cases fl with
      | next => exact False.elim h
      | brk => exact False.elim h
      | cont => exact False.elim h
      | ret u =>
        obtain ⟨v, H', os, bare, un, okH', r', q⟩ := h
        have q' : v = .bl true := q
        subst q'
        obtain rfl : u = Value.bool true := r'
        refine ⟨rfl, OldK.of_keep fun b o e => ?_, os, bare⟩
        cases q : H b with
        | none => exact un.keep b o e q (by intro z; exact absurd (show b ∈ ([] : List Addr) from z) (by simp)) (by simp)
        | some u =>
          obtain ⟨rfl, rfl⟩ := hA b u q
          obtain ⟨e1, _⟩ := okH b _ q
          obtain ⟨e2, _⟩ := okH' b _ (un.frzs b ob _ q)
          rw [e] at e1; cases e1
          exact e2
  cases hk : K.lookup a with
  | some o =>
    have e := KX a o hk
    rw [ha] at e
    cases e
    exact go (fun _ => none) (fun b u z => by cases z) (fun z => absurd rfl z) (.inr ⟨_, vs.toArray, _, hk, rfl, rfl, rfl, by rw [List.size_toArray, hi.length]; exact hl, by simpa using rv⟩)
  | none =>
    refine go (fun b => if b = a then some (.frz ob (.lst (ns.map V.int))) else none) (fun b u z => ?_) (fun _ => hk) (.inl (.inr ⟨ob, if_pos rfl⟩))
    by_cases hb : b = a
    · exact ⟨hb, (Option.some.inj ((if_pos hb).symm.trans z)).symm⟩
    · exact absurd ((if_neg hb).symm.trans z) (by simp)
theorem walk_G {l : PySem.W.OpenLaw} {n k : Nat} {q : Program} {loose : List Str} {XP : (Str → Option Value) → Heap → Prop} {YP : World → Heap → Prop} {d : DefRec} {CX : CXT} {x : Str}
    (hn : l.most = some n) (hn2 : n ≤ sizeLine) (hdf : d.params.defaults = []) (hr : Room k callerA)
    (F : ∀ (w : World) (mg : Str → Option Value) (fa : Addr) (h : Heap), YP w h → h.Ns mainGlobals mg → mg d.name = some (.ref fa) →
      ∃ (K : PySem.W.Frag) (fd : FuncData) (sp : Sp), K.In h ∧ (∀ (s : Shared) (u : Value), BindsTo s fd ⟨[u], []⟩ [(x, u)]) ∧
        (∀ (H : Hp) (a : Addr) (ns : List Int), ns.length ≤ n → Only H → SqL K H a (ns.map V.int) → sp [.ref a] H (fun v _ => v = .bl true) fun _ _ _ => False) ∧
        ∀ base : Heap, K.In base → base.Ns mainGlobals mg → FnG l.prog w K mg base CX k fa fd [x] sp)
    (hCX : ∀ (H : Hp) (s : Shared) (e : Value) (s' : Shared), CX [] H s (fun _ _ _ => False) e s' → False) :
    PySem.W.WalkO q loose XP YP l.row.toRowW d [] (fun f vs => PySem.call f vs) := by
  refine Att.attach_call hn hdf fun w s₀ s₁ mg mb fa o pm cd doc a vs ns G Y ho hd hcd hmg hobj hints hlen hg => ?_
  obtain ⟨K, fd, sp, KX, hb, hsp, hF⟩ := F w mg fa _ Y G.T.g hmg
  exact law_callG KX G.T.g G.T.b G.T.builtins G.T.nolimit hg hobj hints (Nat.le_trans hlen hn2) hr hF hb (fun H hO hS => hsp H a ns hlen hO hS) fun H e s' => hCX H s₁ e s'
end Ev

set_option Elab.async false
set_option linter.all false
set_option maxRecDepth 100000
set_option maxHeartbeats 4000000
/-! Rules that the library lacks: sorted of dicts, repr of whole data, {t: v}, powers of wide ints, tuples and lists taken apart. -/
namespace Ev
open PySem PySem.Spec PyProof.Rows L2
/-! ### what a dict hands out, whatever its keys -/
theorem kdl_raw {prog : Program} {w : World} {d : Addr} {o : Obj} {es : Array DictEntry} {ep : Nat} (lo : (d == sysModules) = false) (hx : o.ExactDict) (hd : o.data = .dict es ep) :
    PySem.W.KdlSrc prog w "dict" d d es.size (fun i v => ∃ en, es[i]? = some en ∧ en.key = v) (fun h => h.get? d = some o) where
  type := fun _ hm => ⟨o, hm, hx.1⟩
  there := fun _ hm => ⟨Heap.lt_size hm, Heap.lt_size hm⟩
  keep := fun _ _ hm hk => hk d (.inl rfl) o hm
  notList := by decide
  notTuple := by decide
  hint := fun _ _ _ _ hm hq => PySem.W.kdl_hint_dict ⟨o, hm, hx.1⟩ hq
  iter := fun A s hh hm => ⟨{ cls := .type "dict_keyiterator", data := .fields #[.ref d, .int 0 0, .int es.size 0, .int ep 0] }, fun i h => h.IsKeyIter s.heap.objs.size d i es.size ep ∧ h.get? d = some o,
    fun E Q hq => iter_keys lo hm hx hd hq,
    { sub := fun b hb => by simp at hb; simp [hb]
      frame := fun i h h' st hk => ⟨st.1.at fun oi e => hk _ (by simp) oi e, hk d (by simp) o st.2⟩
      item := fun i s1 Q E hi st hQ => by
        have hne : d ≠ s.heap.objs.size := Nat.ne_of_lt (Heap.lt_size hm)
        obtain ⟨en, hen⟩ : ∃ en, es[i]? = some en := ⟨es[i], by simp [hi]⟩
        refine next_key_item st.1 st.2 hd rfl hen fun h' st' sb => ?_
        exact hQ en.key h' s1.toks ⟨en, hen, rfl⟩ ⟨st', (sb.2 d hne).trans st.2⟩ fun b ob hb e => (sb.2 b (fun z => hb (by simp [z]))).trans e
      done := fun s1 Q E st hQ => next_key_end hh st.1 st.2 hd rfl (Nat.le_refl _) fun h' eb => hQ h' s1.toks fun b ob hb e => eb b ob (fun z => hb (by simp [z])) e
      self := fun i s1 Q E st h => by
        refine wpAny_pyIter_slot st.1.typeIs F.slot_dict_keyiterator_iter (wpAny_call_entry F.slot_dict_keyiterator_iter st.1.typeIs F.entry_dict_keyiterator_iter ?_ (F.args_dict_keyiterator_iter_1 _))
        show wpAny _ _ (ret (.ref s.heap.objs.size)) _ _ s1
        exact wpAny_pure ⟨_, rfl, "dict_keyiterator", _, st.1.typeIs, F.slot_dict_keyiterator_next.lookup, h⟩ },
    ⟨⟨_, Heap.get?_push_size _ rfl, rfl, rfl⟩, Heap.get?_push_of_some _ hm⟩⟩
section
variable {X : Cx}
/-- sorted(d): the keys are collected, then sorted by any order that fits them -/
theorem sorted_raw {pins : List (Addr × Obj)} {σ : L2.St} {H : Hp} {s : Shared} {d : Addr} {o : Obj} {es : Array DictEntry} {ep : Nat} {ltv : Value → Value → Bool} {Q : Value → Shared → Prop} (hc : X.calm = true) (I : Inv X pins σ H s)
    (lo : (d == sysModules) = false) (ho : s.heap.get? d = some o) (hx : o.ExactDict) (hd : o.data = .dict es ep) (hz : es.size ≤ sizeLine) (O : SrtO.Swo ltv)
    (hS : 2 ≤ es.size → ∀ (h₁ : Heap) (tk : Nat) (a : Addr), h₁.get? a = some (seqObj "list" (es.toList.map (·.key)).toArray 0) → (∀ b o, s.heap.get? b = some o → b ≠ a ∧ h₁.get? b = some o) → SrtO.SortableO X.prog X.w X.A.in1.in1 { s with heap := h₁, toks := tk } a (es.toList.map (·.key)) ltv)
    (h : ∀ (h1 h' : Heap) (tk : Nat) (p : Addr) (out : List Value) (n : Nat), Inv X pins σ H { s with heap := h1, toks := tk } → SrtO.Srtd ltv out → SrtO.Stb ltv out (es.toList.map (·.key)) → (∀ b o, h1.get? b = some o → h'.get? b = some o) → h1.objs.size ≤ p → h'.get? p = some (seqObj "list" out.toArray n) →
      Q (.ref p) { s with heap := h', toks := tk }) :
    wpAny (model X.prog X.w) X.A (call (.builtin "sorted") [.ref d]) Q X.xe s := by
  refine Calls.call_function_entry PyProof.Rows.kind_sorted PyProof.Rows.plain_sorted PyProof.Rows.entry_sorted (PyProof.Rows.args_sorted1 _) ?_
  unfold Builtin.«sorted»
  refine wpAny_bind (m := checkCount "sorted" 1 1 _) (wpAny_pure ?_)
  refine wpAny_bind (PySem.W.kdu_collect (A := X.A.in1) (kdl_raw lo hx hd) (I.ok.hd hc) ho hz fun h' tk acc hk hacc => ?_)
  have hal : acc.toList.length = es.size := by rw [Array.length_toList]; exact hacc.1
  have ea : acc.toList = es.toList.map (·.key) := by
    apply List.ext_getElem?
    intro i
    cases e : acc.toList[i]? with
    | none =>
      have l := List.getElem?_eq_none_iff.mp e
      exact (List.getElem?_eq_none_iff.mpr (by rw [List.length_map, Array.length_toList]; omega)).symm
    | some v =>
      obtain ⟨en, e1, e2⟩ := hacc.2 i v (by rw [← Array.getElem?_toList]; exact e)
      rw [List.getElem?_map, Array.getElem?_toList, e1]
      exact congrArg some e2.symm
  rw [ea]
  have hl2 : (es.toList.map (·.key)).length = es.size := by rw [List.length_map, Array.length_toList]
  have I1 : Inv X pins σ H { s with heap := h', toks := tk } := I.kept hk
  refine wpAny_bind (wpAny_newList ?_ (by rw [hl2]; exact hz))
  have hoL : (h'.push (seqObj "list" (es.toList.map (·.key)).toArray 0)).get? h'.objs.size = some (seqObj "list" (es.toList.map (·.key)).toArray 0) := Heap.get?_push_size _ rfl
  have keep : ∀ b o, s.heap.get? b = some o → b ≠ h'.objs.size ∧ (h'.push (seqObj "list" (es.toList.map (·.key)).toArray 0)).get? b = some o := fun b ob e =>
    ⟨Nat.ne_of_lt (Heap.lt_size (hk _ _ e)), Heap.get?_push_of_some _ (hk _ _ e)⟩
  show wpAny _ _ _ _ _ { s with heap := h'.push (seqObj "list" (es.toList.map (·.key)).toArray 0), toks := tk }
  refine wpAny_bind (wpAny_holding (wpAny_call_entry PyProof.Rows.slot_list_sort ⟨_, hoL, rfl⟩ PyProof.Rows.entry_list_sort
    (SrtO.list_sort_ord (s := { s with heap := h'.push (seqObj "list" (es.toList.map (·.key)).toArray 0), toks := tk }) O hoL (by rw [hl2]; exact hz) (fun h2 => hS (by rw [← hl2]; exact h2) _ _ _ hoL keep) fun out h1 h2 => ⟨_, rfl, ?_⟩) (PyProof.Rows.args_list_sort _)))
  obtain ⟨e', he'⟩ := PyProof.Rows.sortedHeap_at (vs := es.toList.map (·.key)) (out := out.toArray) hoL
  refine wpAny_pure ⟨_, rfl, h h' _ tk h'.objs.size out e' I1 h1 h2 (fun b u e => ?_) (Nat.le_refl _) he'⟩
  have n1 : b ≠ h'.objs.size := Nat.ne_of_lt (Heap.lt_size e)
  have n2 : (h'.push (seqObj "list" (es.toList.map (·.key)).toArray 0)).get? b = some u := Heap.get?_push_of_some _ e
  rw [PyProof.Rows.sortedHeap_old n1 (Heap.lt_size n2)]
  exact n2
/-- sorted(d), the keys ints, any number of them -/
def rSortedDI : V → Hp → VK → Prop := fun x H Q => ∃ (a : Addr) (kvs : List (Key × V)) (ks : List Int), x = .ref a ∧ Rd H a (.dK kvs) ∧ kvs.map (·.1) = ks.map Sum.inl ∧
  ∀ (ys : List Int) (p : Addr), ys.Perm ks → ys.Pairwise (· ≤ ·) → H p = none → Q (.ref p) (upd H p (.lst (ys.map V.int)))
theorem cr_sortedDI (hc : X.calm = true) : CallR X (.builtin "sorted") (fun xs H Q => ∃ x, xs = [x] ∧ rSortedDI x H Q) := by
  intro pins s σ H xs us Q I r q
  obtain ⟨x, rfl, a, kvs, ks, rfl, hd, hks, q⟩ := q
  rw [Vals.ref1 r]
  obtain ⟨z, lo, vs, rel, o, es, ep, ho, hx, hdt, hes, hnd⟩ := dk_rd I.hok hd
  have hkeys : vs.map (·.1) = ks.map Sum.inl := rel.keys.symm.trans hks
  obtain ⟨hpk, hpv⟩ := hnd
  have hint : IntsAre (es.toList.map (·.key)) ks := by
    have e1 : ∀ {l : List DictEntry} {vs : List (Key × Value)} {ks : List Int}, Pairs (mixKind X.prog X.w) l vs → vs.map (·.1) = ks.map Sum.inl → IntsAre (l.map (·.key)) ks := by
      intro l vs ks h
      induction h generalizing ks with
      | nil => intro e; cases ks with
        | nil => exact .nil
        | cons _ _ => cases e
      | @cons en kv l vs hk hv t ih =>
        intro e
        cases ks with
        | nil => cases e
        | cons k ks =>
          simp only [List.map_cons, List.cons.injEq] at e
          rcases keyIs_shape (show keyIs kv.1 en.key = true from hk) with ⟨i, t, ek, ev⟩ | ⟨z, t, ek, ev⟩
          · rw [e.1] at ek
            cases ek
            rw [List.map_cons, ev]
            exact .cons _ _ (ih e.2)
          · rw [e.1] at ek
            cases ek
    exact e1 hpk hkeys
  have hlen : es.size = ks.length := by
    have := hint.length
    rw [List.length_map, Array.length_toList] at this
    exact this
  have hz : es.size ≤ sizeLine := by
    rw [hlen]
    have e := congrArg List.length hks
    rw [List.length_map, List.length_map] at e
    omega
  refine sorted_raw hc I lo ho hx hdt hz SrtO.swo_int (fun h2 h₁ tk a' _ _ => SrtO.ints_sortable hint (by rw [hint.length, ← hlen]; exact h2)) fun h1 h' tk p out n I1 g1 g2 hk hp hat => ?_
  obtain ⟨k1, k2, k3⟩ := SrtO.ints_out hint g1 g2
  have hl : ((out.map SrtO.iv).map V.int).length ≤ sizeLine := by
    rw [List.length_map, k2.length_eq, ← hlen]
    exact hz
  exact ⟨.ref p, upd H p (.lst ((out.map SrtO.iv).map V.int)), I1.laid (t' := tk) hk hp ⟨hl, out, n, vals_of_ints k1, hat⟩, rfl, q _ _ k2 k3 (I1.hok.fresh hp)⟩
/-- sorted(d), the keys pairs of ints, any number of them -/
def rSortedDT : V → Hp → VK → Prop := fun x H Q => ∃ (a : Addr) (kvs : List (List Key × V)) (ks : List (Int × Int)), x = .ref a ∧ Rd H a (.dT kvs) ∧ kvs.map (·.1) = ks.map (fun k => [Sum.inl k.1, Sum.inl k.2]) ∧
  ∀ (qs : List Addr) (ys : List (Int × Int)) (p : Addr), Paired (fun q y => H q = some (.tup [.int y.1, .int y.2])) qs ys → ys.Perm ks → ys.Pairwise (fun a b => SrtO.lexB b a = false) → H p = none → Q (.ref p) (upd H p (.lst (qs.map V.ref)))
theorem isPair_of {pins : List (Addr × Obj)} {σ : L2.St} {H : Hp} {s : Shared} {q : Addr} {i j : Int} (I : Inv X pins σ H s) (h : H q = some (.tup [.int i, .int j])) : Srt.IsPair s.heap (.ref q) i j := by
  obtain ⟨_, its2, r2, o, ho, hc, n, hd⟩ := I.hok _ _ h
  obtain ⟨u1, u2, rfl, ri, rj⟩ := vals2 r2
  obtain ⟨t1, rfl⟩ := ri
  obtain ⟨t2, rfl⟩ := rj
  exact ⟨q, o, t1, t2, n, rfl, ho, hc, hd⟩
/-- whose pair stands at an address -/
def pairAt (H : Hp) (v : Value) : Int × Int := match v with
  | .ref q => match H q with | some (.tup [.int i, .int j]) => (i, j) | _ => (0, 0)
  | _ => (0, 0)
theorem cr_sortedDT (hc : X.calm = true) : CallR X (.builtin "sorted") (fun xs H Q => ∃ x, xs = [x] ∧ rSortedDT x H Q) := by
  intro pins s σ H xs us Q I r q
  obtain ⟨x, rfl, a, kvs, ks, rfl, hd, hks, q⟩ := q
  rw [Vals.ref1 r]
  obtain ⟨z, lo, xs, rel, o, es, ep, ho, hx, hdt, hes, hnd⟩ := dt_rd I.hok hd
  have hkey : ∀ {kvs : List (List Key × V)} {ks : List (Int × Int)} {xs : List (List Key × Addr × Value)}, KT H kvs xs → kvs.map (·.1) = ks.map (fun k => [Sum.inl k.1, Sum.inl k.2]) →
      Paired (fun (q : List Key × Addr × Value) (y : Int × Int) => H q.2.1 = some (.tup [.int y.1, .int y.2])) xs ks := by
    intro kvs ks xs h
    induction h generalizing ks with
    | nil => intro e; cases ks with
      | nil => exact .nil
      | cons _ _ => cases e
    | @cons p q ps qs hq t ih =>
      intro e
      cases ks with
      | nil => cases e
      | cons k ks =>
        simp only [List.map_cons, List.cons.injEq] at e
        refine .cons ?_ (ih e.2)
        have := hq.2.1
        rw [e.1] at this
        exact this
  have hP := hkey rel hks
  have he : es.toList.map (·.key) = xs.map fun x => Value.ref x.2.1 := by
    rw [hes, List.map_map]
    rfl
  have hsz : es.size = kvs.length := by
    have e1 := congrArg List.length hes
    rw [List.length_map, Array.length_toList] at e1
    rw [e1, ← Paired.length rel]
  have hat0 : ∀ x ∈ xs, ∃ i j, H x.2.1 = some (.tup [.int i, .int j]) := by
    have : ∀ {xs : List (List Key × Addr × Value)} {ks : List (Int × Int)}, Paired (fun (q : List Key × Addr × Value) (y : Int × Int) => H q.2.1 = some (.tup [.int y.1, .int y.2])) xs ks → ∀ x ∈ xs, ∃ i j, H x.2.1 = some (.tup [.int i, .int j]) := by
      intro xs ks h
      induction h with
      | nil => intro x hx; cases hx
      | cons h t ih =>
        intro x hx
        rcases List.mem_cons.mp hx with rfl | hx
        · exact ⟨_, _, h⟩
        · exact ih x hx
    exact this hP
  have hks2 : (es.toList.map (·.key)).map (pairAt H) = ks := by
    rw [he]
    have : ∀ {xs : List (List Key × Addr × Value)} {ks : List (Int × Int)}, Paired (fun (q : List Key × Addr × Value) (y : Int × Int) => H q.2.1 = some (.tup [.int y.1, .int y.2])) xs ks → (xs.map fun x => Value.ref x.2.1).map (pairAt H) = ks := by
      intro xs ks h
      induction h with
      | nil => rfl
      | @cons x y xs ys h t ih =>
        rw [List.map_cons, List.map_cons, ih]
        have e : pairAt H (.ref x.2.1) = (y.1, y.2) := by unfold pairAt; simp only [h]
        rw [e]
    exact this hP
  have hpair : ∀ v ∈ es.toList.map (·.key), Srt.IsPair s.heap v (pairAt H v).1 (pairAt H v).2 := fun v hv => by
    rw [he] at hv
    obtain ⟨x, hx, rfl⟩ := List.mem_map.mp hv
    obtain ⟨i, j, h⟩ := hat0 x hx
    have e : pairAt H (.ref x.2.1) = (i, j) := by unfold pairAt; simp only [h]
    rw [e]
    exact isPair_of I h
  refine sorted_raw hc I lo ho hx hdt (by rw [hsz]; exact z) (SrtO.swo_lex (pairAt H)) (fun h2 h₁ tk a' ha kk => SrtO.pairs_sortableO (by rw [List.length_map, Array.length_toList]; omega) (fun v hv => (hpair v hv).keeps fun b o e _ => (kk b o e).2) fun o e => ?_) fun h1 h' tk p out n I1 g1 g2 hk hp hat => ?_
  · have e' := e.symm.trans ha
    cases e'
    intro c
    exact absurd (Value.type.inj c) (by decide)
  · have ho3 : ∀ v ∈ out, ∃ q i j, v = Value.ref q ∧ H q = some (.tup [.int i, .int j]) := fun v hv => by
      have hm := g2.perm.mem_iff.mp hv
      rw [he] at hm
      obtain ⟨x, hx, rfl⟩ := List.mem_map.mp hm
      obtain ⟨i, j, h⟩ := hat0 x hx
      exact ⟨_, i, j, rfl, h⟩
    have key : ∀ {out : List Value}, (∀ v ∈ out, ∃ q i j, v = Value.ref q ∧ H q = some (.tup [.int i, .int j])) → ∃ qs : List Addr, Vals (qs.map V.ref) out ∧ Paired (fun q (y : Int × Int) => H q = some (.tup [.int y.1, .int y.2])) qs (out.map (pairAt H)) := by
      intro out
      induction out with
      | nil => exact fun _ => ⟨[], .nil, .nil⟩
      | cons v out ih =>
        intro h
        obtain ⟨qs, k1, k2⟩ := ih fun v hv => h v (List.mem_cons_of_mem _ hv)
        obtain ⟨q, i, j, rfl, hq⟩ := h v (List.mem_cons_self ..)
        have e : pairAt H (.ref q) = (i, j) := by unfold pairAt; simp only [hq]
        refine ⟨q :: qs, .cons (show RelV (.ref q) (.ref q) from rfl) k1, .cons ?_ k2⟩
        rw [e]
        exact hq
    obtain ⟨qs, k1, k2⟩ := key ho3
    have hl : (qs.map V.ref).length ≤ sizeLine := by
      rw [k1.length, g2.perm.length_eq, List.length_map, Array.length_toList, hsz]
      exact z
    refine ⟨.ref p, upd H p (.lst (qs.map V.ref)), I1.laid (t' := tk) hk hp ⟨hl, out, n, k1, hat⟩, rfl, q qs (out.map (pairAt H)) p k2 ?_ ?_ (I1.hok.fresh hp)⟩
    · rw [← hks2]
      exact g2.perm.map _
    · rw [List.pairwise_map]
      exact g1
/-! ### repr of whole data -/
def rRepr (K : PySem.W.Frag) (x : V) (H : Hp) (Q : VK) : Prop := ∃ (a : Addr) (d : PyData), x = .ref a ∧ Dp K H x d ∧ d.showable = true ∧ d.hasDict = false ∧ d.depth < 60 ∧ d.shown.length ≤ sizeLine ∧ Q (.str d.shown) H
theorem cr_repr (hG : X.A.guards = some []) (hu : X.A.units + 64 < cLine) : CallR X (.builtin "repr") (fun xs H Q => ∃ x, xs = [x] ∧ rRepr X.K x H Q) := by
  intro pins s σ H xs us Q I r q
  obtain ⟨x, rfl, a, d, rfl, hd, h1, h2, h3, h4, q⟩ := q
  rw [Vals.ref1 r]
  obtain ⟨as, rd⟩ := Dp.reads I d _ (.ref a) hd rfl
  refine repr_of_reads' rd h1 (fun z => by rw [h2] at z; cases z) hG (by omega) (fun b o e => e) (fun h' u tk hk => ?_) h4
  exact ⟨.str d.shown, H, I.kept hk, ⟨u, rfl⟩, q⟩
/-! ### powers of any ints -/
def CPowB (i j : Int) : Prop := 0 ≤ j ∧ (Builtin.Int.intBits i : Int) * j ≤ 2 ^ 27
theorem op_powB : OpR X (binaryOp .Pow) (rI CPowB fun i j => .int (i ^ j.toNat)) := opI fun _ _ _ _ _ _ _ hc q => pow_int hc.1 hc.2 q
/-! ### {t: v} -/
def tDisp1T (tk tv : TE) : TE := fun σ H Q => ∀ p, H p = none → tk σ (upd H p (.dT [])) fun x H1 => tv σ H1 fun y H2 => H2 p = some (.dT []) ∧ ∃ (b : Addr) (ks : List Key), x = .ref b ∧ H2 b = some (.tup (ks.map kV)) ∧ Q (.ref p) (upd H2 p (.dT [(ks, y)]))
theorem pe_disp1T {k v : Expr} {tk tv : TE} {pos : Pos} (hu : X.A.units + 1 < cLine) (hk : PE X k tk) (hv : PE X v tv) : PE X (.Dict [some k] [v] pos) (tDisp1T tk tv) := by
  refine ⟨fun pins s σ H Q I q => ?_⟩
  have hn := I.hok.fresh (Nat.le_refl s.heap.objs.size)
  have I1 := I.laid (a := s.heap.objs.size) (o := .dT []) (h' := s.heap.push { cls := .type "dict", data := .dict #[] }) (t' := s.toks) (fun _ _ q => Heap.get?_push_of_some _ q) (Nat.le_refl _) (dt_empty s.heap I.big)
  rw [arm_eval_Dict, zip_pairTrees [some k] [v] _ _ rfl rfl, dictDisplay_pairs _ (by simp [pairTrees]) (by simp [pairTrees])]
  refine wpAny_bind (wpAny_standAt (wpAny_bind ?_))
  unfold subDict
  refine wpAny_bind (wpAny_alloc ?_)
  refine wpAny_bind (wpAny_holding ?_)
  rw [if_pos (by simp [pairTrees])]
  refine wpAny_bind (pairTrees_cons_walk (thn (hk.run pins _ σ _ _ I1 (q _ hn)) fun u s1 ⟨x, H1, I1, rx, q1⟩ => thn (hv.run pins s1 σ H1 _ I1 q1) fun w2 s2 ⟨y, H2, I2, ry, q2⟩ => pairTrees_nil_walk ?_))
  obtain ⟨e, b, ks, rfl, eb, q2⟩ := q2
  obtain rfl : u = Value.ref b := rx
  refine wpAny_holding ?_
  rw [List.forIn_cons]
  obtain ⟨z, hd, xs, rel, dd⟩ := dt_of I2.hok e
  cases rel
  refine wpAny_bind ?_
  refine wpAny_bind ?_
  show wpAny (model X.prog X.w) X.A (dictSet s.heap.objs.size (.ref b) w2 >>= fun _ => pure (ForInStep.yield PUnit.unit)) _ _ s2
  refine wpAny_bind (wpAny_dictSet_heap (knd := tupleKind (mixKind X.prog X.w)) (k := ks) (xs := []) (show X.A.units < cLine by omega) (key_of I2.hok eb) dd (fun h' dd' hs => ?_) (by decide))
  obtain ⟨oq, es, ep, hq, h2, h3, h4, _, h5⟩ := dd'
  have e2 : storedH ([] : List (List Key × Addr × Value)) ks b w2 = [(ks, b, w2)] := rfl
  rw [e2] at h4 h5
  have I3 : Inv X pins σ (upd H2 s.heap.objs.size (.dT [(ks, y)])) { s2 with heap := h', toks := s2.toks + (tupleKind (mixKind X.prog X.w)).draws ks } := by
    refine d_write I2 (by rw [e]; exact True.intro) hs ⟨oq, hq⟩ ⟨(by show 1 ≤ sizeLine; decide), hd, [(ks, b, w2)], .cons ⟨rfl, ?_, ry⟩ .nil, oq, es, ep, hq, h2, h3, h4, h5⟩
    show upd H2 s.heap.objs.size _ b = _
    rw [upd_ne (ne_of eb e (fun z => nomatch z))]
    exact eb
  refine wpAny_pure ?_
  show wpAny _ _ (forIn [] PUnit.unit _) _ _ _
  rw [List.forIn_nil]
  first
    | exact wpAny_pure (wpAny_pure (wpAny_pure (wpAny_pure ⟨.ref s.heap.objs.size, _, I3, rfl, q2⟩)))
    | exact wpAny_pure (wpAny_pure (wpAny_pure ⟨.ref s.heap.objs.size, _, I3, rfl, q2⟩))
end
/-! ### a tuple or a list taken apart -/
section
variable {X : Cx}
theorem pg_any {es : List Expr} {k : Nat} {t : TGs} {n : Nat} {pos : Pos} (hc : X.calm = true) (h : PGs X es t) (hn : (assignEach es X.env).length = n) (hst : (assignEach es X.env).findIdx? (·.1) = none) :
    PG X (.Tuple es k pos) (fun v σ H Q => ∃ a xs, v = .ref a ∧ (SqT X.K H a xs ∨ SqL X.K H a xs) ∧ xs.length = n ∧ t xs σ H Q) := by
  refine ⟨fun pins s σ H v u Q I r ⟨a, xs, e, hq, hl, q⟩ => ?_⟩
  rcases hq with hq | hq
  · exact (pg_tup hc h hn hst).run pins s σ H v u Q I r ⟨a, xs, e, hq, hl, q⟩
  · exact (pg_lst hc h hn hst).run pins s σ H v u Q I r ⟨a, xs, e, hq, hl, q⟩
end
end Ev

set_option Elab.async false
set_option linter.all false
set_option maxRecDepth 100000
set_option maxHeartbeats 4000000
/-! A compact syntax for the Python of these laws, its reading (computed), and the one theorem that the reading is that of the text. -/
namespace Ev
open PySem PySem.Spec PyProof.Rows L2

/-! ### the compact syntax -/
inductive Blt where
  | len | min | max | sum | list | tuple | sorted | int | str | isinst | dict | all | repr
  deriving DecidableEq
inductive Mth where
  | append | pop0 | pop1 | insert | reverse | get2 | update | bitlen | index | extend | split | join
  deriving DecidableEq
mutual
inductive E where
  | var (i : Nat)
  | cst (v : V)
  | ty (n : String)
  | glb (c : Nat)
  | bin (op : Operator) (a b : E)
  | neg (a : E)
  | not (a : E)
  | cmp (op : CmpOp) (a b : E)
  | chn (op op' : CmpOp) (a b c : E)
  | and (a b : E)
  | or (a b : E)
  | ite (c a b : E)
  | tup (es : Es)
  | lst (es : Es)
  | call (k : Nat) (es : Es)
  | blt (b : Blt) (es : Es)
  | mth (m : Mth) (o : E) (es : Es)
  | sub (a b : E)
  | slc (a lo hi : E)
  | rev (a : E)
  | lrng1 (a : E)
  | lrng2 (a b : E)
  | dict0 (t : Bool)
  | dict1 (a b : E)
  | dc (own : List (Str × Nat)) (k v : E) (tg : Tg) (it : It') (ifs : Es)
  | lock (own : List (Str × Nat)) (elt : E) (tg : Tg) (d : E) (ifs : Es)
  | kcall (k : Nat) (ks : List Str) (pm : List Nat) (es : Es)
  | lc (own : List (Str × Nat)) (elt : E) (tg : Tg) (it : It') (ifs : Es)
inductive Es where
  | nil
  | cons (e : E) (es : Es)
inductive It' where
  | seq (e : E)
  | rng1 (a : E)
  | rng2 (a b : E)
  | enum (e : E)
  | dct (e : E)
inductive Tg where
  | nm (i : Nat)
  | tp (l : Tgs)
  | sub (o i : E)
inductive Tgs where
  | nil
  | cons (t : Tg) (ts : Tgs)
end
mutual
inductive S where
  | set (t : Tg) (e : E)
  | par2 (i j : Nat) (a b : E)
  | par3 (i j k : Nat) (a b c : E)
  | setlc (i : Nat) (own : List (Str × Nat)) (elt : E) (tg : Tg) (it : It') (ifs : Es)
  | augn (i : Nat) (op : Operator) (e : E)
  | augs (o i : E) (op : Operator) (e : E)
  | exp (e : E)
  | ret (e : E)
  | ite (c : E) (a b : Ss)
  | while (c : E) (b : Ss)
  | for (tg : Tg) (it : It') (b : Ss)
  | lock (s : S)
  | cont | brk | pass | never
inductive Ss where
  | nil
  | cons (s : S) (ss : Ss)
end
def Es.len : Es → Nat
  | .nil => 0
  | .cons _ es => es.len + 1
def Tgs.len : Tgs → Nat
  | .nil => 0
  | .cons _ es => es.len + 1

/-! ### what stands around -/
/-- a def that is called: its name, how many parameters, defaults, its promise -/
structure FnI where
  name : Str
  n : Nat
  dfl : List V
  sp : Sp
  kws : List (List Str × List Nat) := []
structure Tab where
  fns : List FnI
  cst : List (Str × V)
  free : List Str
def FnI.dv (d : FnI) (len : Nat) : List V := d.dfl.drop (len + d.dfl.length - d.n)
structure CallOk (X : Cx) (d : FnI) : Prop where
  ok : ∃ (f : Addr) (fd : FuncData) (k : Nat) (ps : List Str), X.mg d.name = some (.ref f) ∧ PySem.W.keepIn X.K (.ref f) = true ∧ Room k X.A ∧ FnG X.prog X.w X.K X.mg X.base CX0 k f fd ps d.sp ∧
    (∀ j, j ≤ d.dfl.length → ∃ ds, Vals (d.dfl.drop j) ds ∧ Binds X.K fd ps ds) ∧ ∀ q ∈ d.kws, KwB X.K fd ps q.1 q.2
structure XG (T : Tab) (X : Cx) : Prop where
  hG : X.A.guards = some []
  calm : X.calm = true
  nd : X.N.Nodup
  hu : X.A.units + 64 < cLine
  fns : ∀ (k : Nat) (d : FnI), T.fns[k]? = some d → CallOk X d
  cst : ∀ (c : Nat) (p : Str × V), T.cst[c]? = some p → ∃ u, X.mg p.1 = some u ∧ RelV p.2 u
  free : ∀ x ∈ T.free, X.mg x = none

/-! ### readings by values -/
def rBin (K : PySem.W.Frag) (op : Operator) (x y : V) (H : Hp) (Q : VK) : Prop :=
  match op, x, y with
  | .Add, .int i, .int j => Q (.int (i + j)) H
  | .Add, .str a, .str b => a.length + b.length ≤ sizeLine ∧ Q (.str (a ++ b)) H
  | .Add, .ref a, .ref b => (∃ xs ys, H a = some (.lst xs) ∧ H b = some (.lst ys) ∧ xs.length + ys.length ≤ sizeLine ∧ ∀ p, H p = none → Q (.ref p) (upd H p (.lst (xs ++ ys)))) ∨
      (∃ xs ys, SqT K H a xs ∧ SqT K H b ys ∧ xs ≠ [] ∧ ys ≠ [] ∧ xs.length + ys.length ≤ sizeLine ∧ ∀ p, H p = none → Q (.ref p) (upd H p (.tup (xs ++ ys))))
  | .Sub, .int i, .int j => Q (.int (i - j)) H
  | .Mult, .int i, .int j => CMul i j ∧ Q (.int (i * j)) H
  | .Mult, .ref l, .int k => ∃ xs, H l = some (.lst xs) ∧ -(2 ^ 63) ≤ k ∧ k < 2 ^ 63 ∧ xs.length * k.toNat ≤ sizeLine ∧ ∀ p, H p = none → Q (.ref p) (upd H p (.lst (List.replicate k.toNat xs).flatten))
  | .FloorDiv, .int i, .int j => CDiv i j ∧ Q (.int (i / j)) H
  | .Mod, .int i, .int j => 0 < j ∧ Q (.int (i % j)) H
  | .Pow, .int i, .int j => (CPow i j ∨ CPowB i j) ∧ Q (.int (i ^ j.toNat)) H
  | .LShift, .int i, .int j => CPow i j ∧ Q (.int (i * 2 ^ j.toNat)) H
  | .RShift, .int i, .int j => 0 ≤ j ∧ Q (.int (i / 2 ^ j.toNat)) H
  | .BitAnd, .int i, .int j => Q (.int (Builtin.bitAnd i j)) H
  | .BitOr, .int i, .int j => Q (.int (Builtin.bitOr i j)) H
  | .BitXor, .int i, .int j => Q (.int (Builtin.bitXor i j)) H
  | _, _, _ => False
section
variable {X : Cx}
theorem op_bin (op : Operator) : OpR X (binaryOp op) (rBin X.K op) := by
  intro pins s σ H x y v u Q I rx ry h
  unfold rBin at h
  split at h
  · exact op_add pins s σ H _ _ v u Q I rx ry ⟨_, _, rfl, rfl, h⟩
  · exact op_add_str pins s σ H _ _ v u Q I rx ry ⟨_, _, rfl, rfl, h.1, h.2⟩
  · rcases h with ⟨xs, ys, h1, h2, h3, h4⟩ | ⟨xs, ys, h1, h2, h3, h4, h5, h6⟩
    · exact op_cat pins s σ H _ _ v u Q I rx ry ⟨_, _, _, _, rfl, rfl, h1, h2, h3, h4⟩
    · exact op_catT pins s σ H _ _ v u Q I rx ry ⟨_, _, _, _, rfl, rfl, h1, h2, h3, h5, fun z => absurd z h4, fun _ => h6⟩
  · exact op_sub pins s σ H _ _ v u Q I rx ry ⟨_, _, rfl, rfl, h⟩
  · exact op_mul pins s σ H _ _ v u Q I rx ry ⟨_, _, rfl, rfl, h.1, h.2⟩
  · obtain ⟨xs, h1, h2, h3, h4, h5⟩ := h
    exact op_rep pins s σ H _ _ v u Q I rx ry ⟨_, _, _, rfl, rfl, h1, h2, h3, h4, h5⟩
  · exact op_fdiv pins s σ H _ _ v u Q I rx ry ⟨_, _, rfl, rfl, h.1, h.2⟩
  · exact op_mod pins s σ H _ _ v u Q I rx ry ⟨_, _, rfl, rfl, h.1, h.2⟩
  · obtain ⟨h1 | h1, h2⟩ := h
    · exact op_pow pins s σ H _ _ v u Q I rx ry ⟨_, _, rfl, rfl, h1, h2⟩
    · exact op_powB pins s σ H _ _ v u Q I rx ry ⟨_, _, rfl, rfl, h1, h2⟩
  · exact op_shl pins s σ H _ _ v u Q I rx ry ⟨_, _, rfl, rfl, h.1, h.2⟩
  · exact op_shr pins s σ H _ _ v u Q I rx ry ⟨_, _, rfl, rfl, h.1, h.2⟩
  · exact op_and pins s σ H _ _ v u Q I rx ry ⟨_, _, rfl, rfl, h⟩
  · exact op_or pins s σ H _ _ v u Q I rx ry ⟨_, _, rfl, rfl, h⟩
  · exact op_xor pins s σ H _ _ v u Q I rx ry ⟨_, _, rfl, rfl, h⟩
  · exact h.elim

/-- == of two values, != : ints, texts, whole data -/
def rEqq (K : PySem.W.Frag) (neg : Bool) (x y : V) (H : Hp) (Q : VK) : Prop :=
  match x, y with
  | .int i, .int j => Q (.bl (neg ^^ decide (i = j))) H
  | .str a, .str b => Q (.bl (neg ^^ decide (a = b))) H
  | .bl a, .bl b => Q (.bl (neg ^^ decide (a = b))) H
  | _, _ => ∃ d e, Dp K H x d ∧ Dp K H y e ∧ SeqAt.shaped d = true ∧ SeqAt.shaped e = true ∧ Q (.bl (neg ^^ PyData.eqv d e)) H
def isNon : V → Bool
  | .non => true
  | _ => false
def rIs (neg : Bool) (x y : V) (H : Hp) (Q : VK) : Prop :=
  match x, y with
  | x, .non => Q (.bl (neg ^^ isNon x)) H
  | .bl a, .bl b => Q (.bl (neg ^^ decide (a = b))) H
  | _, _ => False
/-- x in y: a sign in a text; a flat value in a list or tuple; a key in a dict -/
def rMem (K : PySem.W.Frag) (neg : Bool) (x y : V) (H : Hp) (Q : VK) : Prop :=
  match y with
  | .str z => ∃ c, x = .str ⟨#[c]⟩ ∧ Q (.bl (neg ^^ decide (c ∈ z.cps.toList))) H
  | .ref p => (∃ xs, (SqL K H p xs ∨ SqT K H p xs) ∧ flatV x = true ∧ xs.all flatV = true ∧ Q (.bl (neg ^^ inV x xs)) H) ∨ ∃ o, DGet H p x o ∧ Q (.bl (neg ^^ o.isSome)) H
  | _ => False
def rCmp (K : PySem.W.Frag) (op : CmpOp) (x y : V) (H : Hp) (Q : VK) : Prop :=
  match op with
  | .Eq => rEqq K false x y H Q
  | .NotEq => rEqq K true x y H Q
  | .Is => rIs false x y H Q
  | .IsNot => rIs true x y H Q
  | .In => rMem K false x y H Q
  | .NotIn => rMem K true x y H Q
  | .Lt => match x, y with | .int i, .int j => Q (.bl (decide (i < j))) H | _, _ => False
  | .LtE => match x, y with | .int i, .int j => Q (.bl (decide (i ≤ j))) H | _, _ => False
  | .Gt => match x, y with | .int i, .int j => Q (.bl (decide (j < i))) H | _, _ => False
  | .GtE => match x, y with | .int i, .int j => Q (.bl (decide (j ≤ i))) H | _, _ => False
theorem isNon_eq (x : V) : isNon x = decide (x = .non) := by cases x <;> rfl
theorem op_eqq (hu : X.A.units + 64 < cLine) : OpR X (compareOp .Eq) (rEqq X.K false) := by
  intro pins s σ H x y v u Q I rx ry h
  unfold rEqq at h
  split at h
  · exact op_eq pins s σ H _ _ v u Q I rx ry ⟨rfl, by simpa using h⟩
  · exact op_eq pins s σ H _ _ v u Q I rx ry ⟨rfl, by simpa using h⟩
  · exact op_eq pins s σ H _ _ v u Q I rx ry ⟨rfl, by simpa using h⟩
  · obtain ⟨d, e, h1, h2, h3, h4, h5⟩ := h
    exact op_eqD hu pins s σ H _ _ v u Q I rx ry ⟨d, e, h1, h2, h3, h4, by simpa using h5⟩
theorem op_neq (hu : X.A.units + 64 < cLine) : OpR X (compareOp .NotEq) (rEqq X.K true) := by
  intro pins s σ H x y v u Q I rx ry h
  unfold rEqq at h
  split at h
  · exact op_ne pins s σ H _ _ v u Q I rx ry ⟨rfl, by simpa using h⟩
  · exact op_ne pins s σ H _ _ v u Q I rx ry ⟨rfl, by simpa using h⟩
  · exact op_ne pins s σ H _ _ v u Q I rx ry ⟨rfl, by simpa using h⟩
  · obtain ⟨d, e, h1, h2, h3, h4, h5⟩ := h
    exact op_neD hu pins s σ H _ _ v u Q I rx ry ⟨d, e, h1, h2, h3, h4, by simpa using h5⟩
theorem op_is' : OpR X (compareOp .Is) (rIs false) := by
  intro pins s σ H x y v u Q I rx ry h
  unfold rIs at h
  split at h
  · exact op_isN pins s σ H _ _ v u Q I rx ry ⟨rfl, by rw [← isNon_eq]; simpa using h⟩
  · exact op_isBl pins s σ H _ _ v u Q I rx ry ⟨_, _, rfl, rfl, by simpa using h⟩
  · exact h.elim
theorem op_isnot' : OpR X (compareOp .IsNot) (rIs true) := by
  intro pins s σ H x y v u Q I rx ry h
  unfold rIs at h
  split at h
  · exact op_notN pins s σ H _ _ v u Q I rx ry ⟨rfl, by rw [← isNon_eq]; simpa using h⟩
  · exact op_notBl pins s σ H _ _ v u Q I rx ry ⟨_, _, rfl, rfl, by simpa using h⟩
  · exact h.elim
theorem op_mem (hu : X.A.units + 1 < cLine) : OpR X (compareOp .In) (rMem X.K false) := by
  intro pins s σ H x y v u Q I rx ry h
  unfold rMem at h
  split at h
  · obtain ⟨c, h1, h2⟩ := h
    exact op_in_sign pins s σ H _ _ v u Q I rx ry ⟨_, _, h1, rfl, by simpa using h2⟩
  · rcases h with ⟨xs, h1, h2, h3, h4⟩ | ⟨o, h1, h2⟩
    · exact op_in_seq pins s σ H _ _ v u Q I rx ry ⟨_, _, rfl, h1, h2, h3, by simpa using h4⟩
    · obtain rfl := (show u = Value.ref _ from ry)
      exact d_in hu I h1 rx fun s3 I3 => ⟨.bl o.isSome, H, I3, rfl, by simpa using h2⟩
  · exact h.elim
theorem op_notmem (hu : X.A.units + 1 < cLine) : OpR X (compareOp .NotIn) (rMem X.K true) := by
  intro pins s σ H x y v u Q I rx ry h
  unfold rMem at h
  split at h
  · obtain ⟨c, h1, h2⟩ := h
    exact op_notIn_sign pins s σ H _ _ v u Q I rx ry ⟨_, _, h1, rfl, by simpa using h2⟩
  · rcases h with ⟨xs, h1, h2, h3, h4⟩ | ⟨o, h1, h2⟩
    · exact op_notIn_seq pins s σ H _ _ v u Q I rx ry ⟨_, _, rfl, h1, h2, h3, by simpa using h4⟩
    · obtain rfl := (show u = Value.ref _ from ry)
      exact d_notIn hu I h1 rx fun s3 I3 => ⟨.bl (!o.isSome), H, I3, rfl, by simpa using h2⟩
  · exact h.elim
theorem op_cmp (hu : X.A.units + 64 < cLine) (op : CmpOp) : OpR X (compareOp op) (rCmp X.K op) := by
  cases op with
  | Eq => exact op_eqq hu
  | NotEq => exact op_neq hu
  | Is => exact op_is'
  | IsNot => exact op_isnot'
  | In => exact op_mem (by omega)
  | NotIn => exact op_notmem (by omega)
  | Lt =>
    intro pins s σ H x y v u Q I rx ry h
    unfold rCmp at h
    simp only at h
    split at h
    · exact op_lt pins s σ H _ _ v u Q I rx ry ⟨_, _, rfl, rfl, h⟩
    · exact h.elim
  | LtE =>
    intro pins s σ H x y v u Q I rx ry h
    unfold rCmp at h
    simp only at h
    split at h
    · exact op_le pins s σ H _ _ v u Q I rx ry ⟨_, _, rfl, rfl, h⟩
    · exact h.elim
  | Gt =>
    intro pins s σ H x y v u Q I rx ry h
    unfold rCmp at h
    simp only at h
    split at h
    · exact op_gt pins s σ H _ _ v u Q I rx ry ⟨_, _, rfl, rfl, h⟩
    · exact h.elim
  | GtE =>
    intro pins s σ H x y v u Q I rx ry h
    unfold rCmp at h
    simp only at h
    split at h
    · exact op_ge pins s σ H _ _ v u Q I rx ry ⟨_, _, rfl, rfl, h⟩
    · exact h.elim
/-- a[b] -/
def rIxx (K : PySem.W.Frag) (x y : V) (H : Hp) (Q : VK) : Prop :=
  match x with
  | .str z => ∃ i c, y = .int i ∧ z.length ≤ sizeLine ∧ atI z.cps.toList i = some c ∧ Q (.str ⟨#[c]⟩) H
  | .ref p => (∃ xs i v, y = .int i ∧ (SqL K H p xs ∨ SqT K H p xs) ∧ atI xs i = some v ∧ Q v H) ∨ ∃ v, DGet H p y (some v) ∧ Q v H
  | _ => False
theorem tail_gi {prog : Program} {w : World} {A : Around} {E : Value → Shared → Prop} {s : Shared} {value slice : Expr} {T id : String} {o i : Value} {Q : Value → Shared → Prop}
    (hT : s.TypeIs o T) (hl : typeLookup (.type T) "__getitem__" = pure (some (.builtin id))) (hs : subscripted slice false o i = operate [o, i] (getItem o i))
    (h : wpAny (model prog w) A (getItem o i) Q E s) : wpAny (model prog w) A (subscriptTail value slice o i) Q E s := by
  unfold subscriptTail
  refine wpAny_bind ?_
  rw [getitemInPython_of_ne hT.not_modules]
  refine wpAny_bind (wpAny_specialOf hT hl ?_)
  have fin : wpAny (model prog w) A (subscripted slice false o i) (fun r s₃ => wpAny (model prog w) A (letTemporaryGo value o r >>= fun _ => pure r) Q E s₃) E s := by
    rw [hs]
    exact wpAny_operating (wpAny_mono h (fun r s₃ h₃ => wpAny_bind (wpAny_letTemporaryGo (wpAny_pure h₃))) fun _ _ x => x)
  first
    | exact wpAny_pure (wpAny_bind fin)
    | exact wpAny_bind (wpAny_pure (wpAny_bind fin))
    | exact wpAny_bind fin
theorem ix_dict (hu : X.A.units + 1 < cLine) : IxR X (fun x y H Q => ∃ p v, x = .ref p ∧ DGet H p y (some v) ∧ Q v H) := by
  intro value slice pins s σ H x y v u Q I rx ry h hs
  obtain ⟨p, w, rfl, hg, q⟩ := h
  obtain rfl := (show v = Value.ref p from rx)
  exact tail_gi (dict_typeIs I hg) PySem.F.slot_dict_getitem.lookup hs (d_getItem hu I hg ry fun w' s3 I3 rw' => ⟨w, H, I3, rw', q⟩)
theorem ix_ixx (hu : X.A.units + 1 < cLine) : IxR X (rIxx X.K) := by
  intro value slice pins s σ H x y v u Q I rx ry h hs
  unfold rIxx at h
  split at h
  · obtain ⟨i, c, rfl, h1, h2, h3⟩ := h
    exact ix_str value slice pins s σ H _ _ v u Q I rx ry ⟨_, _, _, rfl, rfl, h1, h2, h3⟩ hs
  · rcases h with ⟨xs, i, z, rfl, hq | hq, h2, h3⟩ | ⟨z, h1, h2⟩
    · exact ix_list value slice pins s σ H _ _ v u Q I rx ry ⟨_, _, _, _, rfl, rfl, hq, h2, h3⟩ hs
    · exact ix_tup value slice pins s σ H _ _ v u Q I rx ry ⟨_, _, _, _, rfl, rfl, hq, h2, h3⟩ hs
    · exact ix_dict hu value slice pins s σ H _ _ v u Q I rx ry ⟨_, _, rfl, h1, h2⟩ hs
  · exact h.elim
/-- a[lo:hi] -/
def rSl (K : PySem.W.Frag) (x : V) (lo hi : Option Int) (H : Hp) (Q : VK) : Prop :=
  match x with
  | .str z => z.length ≤ sizeLine ∧ Q (.str (cutS z lo hi)) H
  | .ref a => ∃ xs, SqL K H a xs ∧ ∀ p, H p = none → Q (.ref p) (upd H p (.lst (cutV xs lo hi)))
  | _ => False
theorem sl_any : SlR X (rSl X.K) := by
  have h0 := SlR.or (X := X) sl_list sl_str
  intro pins s σ H x v vl vu lo hi sl Q I rx hs pl pu q
  refine h0 pins s σ H x v vl vu lo hi sl Q I rx hs pl pu ?_
  unfold rSl at q
  split at q
  · exact .inr ⟨_, rfl, q⟩
  · obtain ⟨xs, h1, h2⟩ := q
    exact .inl ⟨_, xs, rfl, h1, h2⟩
  · exact q.elim
/-! ### built-in functions -/
def rBlt (K : PySem.W.Frag) (b : Blt) (vs : List V) (H : Hp) (Q : VK) : Prop :=
  match b, vs with
  | .len, [x] => ∃ n, LenV K x H n ∧ Q (.int n) H
  | .min, [.int i, .int j] => Q (.int (if j < i then j else i)) H
  | .max, [.int i, .int j] => Q (.int (if j > i then j else i)) H
  | .min, [.ref a] => ∃ ns : List Int, SqL K H a (ns.map V.int) ∧ 0 < ns.length ∧ ∀ m, m ∈ ns → (∀ y, y ∈ ns → m ≤ y) → Q (.int m) H
  | .max, [.ref a] => ∃ ns : List Int, SqL K H a (ns.map V.int) ∧ 0 < ns.length ∧ ∀ m, m ∈ ns → (∀ y, y ∈ ns → y ≤ m) → Q (.int m) H
  | .sum, [.ref a] => ∃ ns : List Int, SqL K H a (ns.map V.int) ∧ Q (.int ns.sum) H
  | .list, [.ref a] => (∃ ys, (SqL K H a ys ∨ SqT K H a ys) ∧ ∀ l, H l = none → Q (.ref l) (upd H l (.lst ys))) ∨
      ∃ kvs : List (Key × V), Rd H a (.dK kvs) ∧ ∀ p, H p = none → Q (.ref p) (upd H p (.lst (kvs.map fun kv => kV kv.1)))
  | .tuple, [.ref a] => ∃ ys, (SqL K H a ys ∧ ∀ l, H l = none → Q (.ref l) (upd H l (.tup ys))) ∨ (SqT K H a ys ∧ Q (.ref a) H)
  | .sorted, [x] => rSortedI K [x] H Q ∨ rSortedPO K [x] H Q ∨ rSortedDI x H Q ∨ rSortedDT x H Q
  | .repr, [x] => rRepr K x H Q
  | .int, [.int i] => Q (.int i) H
  | .int, [.bl k] => Q (.int (if k then 1 else 0)) H
  | .int, [.str a] => ∃ n, PySem.intText? a = some n ∧ a.length ≤ 640 ∧ Q (.int n) H
  | .str, [.int i] => i.natAbs.log2 < 1920 ∧ Q (.str (toString i)) H
  | .isinst, [x, c] => rIsi K [x, c] H Q
  | .dict, [.ref a] => ∃ (ps : List Addr) (kvs : List (Key × V)), SqL K H a (ps.map V.ref) ∧ Paired (fun p kv => SqT K H p [kV kv.1, kv.2]) ps kvs ∧ ∀ p, H p = none → Q (.ref p) (upd H p (.dK (mergeK [] kvs)))
  | .all, [.ref a] => ∃ bs : List Bool, SqL K H a (bs.map V.bl) ∧ Q (.bl (bs.all _root_.id)) H
  | _, _ => False
def Blt.val : Blt → Value
  | .len => .builtin "len" | .min => .builtin "min" | .max => .builtin "max" | .sum => .builtin "sum" | .list => .type "list" | .tuple => .type "tuple" | .sorted => .builtin "sorted"
  | .int => .type "int" | .str => .type "str" | .isinst => .builtin "isinstance" | .dict => .type "dict" | .all => .builtin "all" | .repr => .builtin "repr"
def Blt.nm : Blt → Str
  | .len => "len" | .min => "min" | .max => "max" | .sum => "sum" | .list => "list" | .tuple => "tuple" | .sorted => "sorted"
  | .int => "int" | .str => "str" | .isinst => "isinstance" | .dict => "dict" | .all => "all" | .repr => "repr"
theorem boot_of (b : Blt) : bootBuiltins b.nm = some b.val := by
  cases b <;> decide +kernel
theorem blt_ok (hc : X.calm = true) (hG : X.A.guards = some []) (hu : X.A.units + 64 < cLine) (b : Blt) : CallR X b.val (rBlt X.K b) := by
  intro pins s σ H xs us Q I r h
  unfold rBlt at h
  split at h
  · obtain ⟨n, h1, h2⟩ := h
    exact call_len pins s σ H _ us Q I r ⟨_, n, rfl, h1, h2⟩
  · exact call_min2 hc pins s σ H _ us Q I r ⟨_, _, rfl, h⟩
  · exact call_max2 hc pins s σ H _ us Q I r ⟨_, _, rfl, h⟩
  · obtain ⟨ns, h1, h2, h3⟩ := h
    exact cr_min hc pins s σ H _ us Q I r ⟨_, ns, rfl, h1, h2, h3⟩
  · obtain ⟨ns, h1, h2, h3⟩ := h
    exact cr_max hc pins s σ H _ us Q I r ⟨_, ns, rfl, h1, h2, h3⟩
  · obtain ⟨ns, h1, h2⟩ := h
    exact cr_sum hc pins s σ H _ us Q I r ⟨_, ns, rfl, h1, h2⟩
  · rcases h with ⟨ys, h1, h2⟩ | ⟨kvs, h1, h2⟩
    · exact call_list_of pins s σ H _ us Q I r ⟨_, ys, rfl, h1, h2⟩
    · exact call_listD hc pins s σ H _ us Q I r ⟨_, kvs, rfl, h1, h2⟩
  · obtain ⟨ys, h⟩ := h
    exact call_tuple_of pins s σ H _ us Q I r ⟨_, ys, rfl, h⟩
  · rcases h with h | h | h | h
    · exact cr_sortedI pins s σ H _ us Q I r h
    · exact cr_sortedPO pins s σ H _ us Q I r h
    · exact cr_sortedDI hc pins s σ H _ us Q I r ⟨_, rfl, h⟩
    · exact cr_sortedDT hc pins s σ H _ us Q I r ⟨_, rfl, h⟩
  · exact cr_repr hG hu pins s σ H _ us Q I r ⟨_, rfl, h⟩
  · exact call_int1 pins s σ H _ us Q I r (.inl ⟨_, rfl, h⟩)
  · exact call_int1 pins s σ H _ us Q I r (.inr ⟨_, rfl, h⟩)
  · obtain ⟨n, h1, h2, h3⟩ := h
    exact call_int_str pins s σ H _ us Q I r ⟨_, n, rfl, h1, h2, h3⟩
  · exact call_str_int pins s σ H _ us Q I r ⟨_, rfl, h.1, h.2⟩
  · exact call_isi pins s σ H _ us Q I r h
  · obtain ⟨ps, kvs, h1, h2, h3⟩ := h
    exact call_dictP hc pins s σ H _ us Q I r ⟨_, ps, kvs, rfl, h1, h2, h3⟩
  · obtain ⟨bs, h1, h2⟩ := h
    exact cr_all hc pins s σ H _ us Q I r ⟨_, bs, rfl, h1, h2⟩
  · exact h.elim
/-! ### methods of built-in types -/
def Mth.ty : Mth → String
  | .append | .pop0 | .pop1 | .insert | .reverse | .index | .extend => "list"
  | .get2 | .update => "dict"
  | .bitlen => "int"
  | .split | .join => "str"
def Mth.nm : Mth → Str
  | .append => "append" | .pop0 => "pop" | .pop1 => "pop" | .insert => "insert" | .reverse => "reverse" | .index => "index" | .extend => "extend"
  | .get2 => "get" | .update => "update" | .bitlen => "bit_length" | .split => "split" | .join => "join"
def Mth.id : Mth → String
  | .append => "list.append" | .pop0 => "list.pop" | .pop1 => "list.pop" | .insert => "list.insert" | .reverse => "list.reverse" | .index => "list.index" | .extend => "list.extend"
  | .get2 => "dict.get" | .update => "dict.update" | .bitlen => "int.bit_length" | .split => "str.split" | .join => "str.join"
def rMth (K : PySem.W.Frag) (m : Mth) (x : V) (vs : List V) (H : Hp) (Q : VK) : Prop :=
  match m, x, vs with
  | .append, .ref l, [y] => ∃ xs, H l = some (.lst xs) ∧ xs.length < sizeLine ∧ Q .non (upd H l (.lst (xs ++ [y])))
  | .pop0, .ref l, [] => ∃ xs y, H l = some (.lst xs) ∧ xs[xs.length - 1]? = some y ∧ Q y (upd H l (.lst xs.dropLast))
  | .pop1, .ref l, [.int i] => ∃ xs k y, H l = some (.lst xs) ∧ -(2 ^ 63) ≤ i ∧ i < 2 ^ 63 ∧ seqIndex? i xs.length = some k ∧ xs[k]? = some y ∧ Q y (upd H l (.lst (xs.eraseIdx k)))
  | .insert, .ref l, [.int i, y] => ∃ xs, H l = some (.lst xs) ∧ xs.length < sizeLine ∧ 0 ≤ i ∧ i < 2 ^ 63 ∧ Q .non (upd H l (.lst (xs.take i.toNat ++ [y] ++ xs.drop i.toNat)))
  | .reverse, .ref l, [] => ∃ xs, H l = some (.lst xs) ∧ Q .non (upd H l (.lst xs.reverse))
  | .index, .ref a, [y] => ∃ (ys : List V) (j : Nat) (z : V), SqL K H a ys ∧ flatV y = true ∧ ys.all flatV = true ∧ ys[j]? = some z ∧ eqV z y = true ∧ (∀ (m : Nat) (z' : V), m < j → ys[m]? = some z' → eqV z' y = false) ∧ Q (.int (j : Nat)) H
  | .extend, .ref l, [.ref b] => ∃ xs zs, H l = some (.lst xs) ∧ H b = some (.lst zs) ∧ xs.length + zs.length ≤ sizeLine ∧ Q .non (upd H l (.lst (xs ++ zs)))
  | .get2, .ref a, [y, z] => ∃ o, DGet H a y o ∧ Q (o.getD z) H
  | .update, .ref d, [.ref o] => ∃ kvs more, H d = some (.dK kvs) ∧ H o = some (.dK more) ∧ d ≠ o ∧ kvs.length + more.length ≤ sizeLine ∧ Q .non (upd H d (.dK (mergeK kvs more)))
  | .bitlen, .int i, [] => Q (.int (Builtin.Int.intBits i : Nat)) H
  | .split, .str a, [.str b] => (b.length == 0) = false ∧ a.length + 2 ≤ sizeLine ∧ ∀ p, H p = none → Q (.ref p) (upd H p (.lst ((Txt.split a b).map V.str)))
  | .join, .str a, [.ref p] => ∃ ys : List Str, (SqL K H p (ys.map V.str) ∨ SqT K H p (ys.map V.str)) ∧ (ys.map (·.length)).sum + ys.length * a.length ≤ 16777216 ∧ Q (.str (Txt.join a ys)) H
  | _, _, _ => False
theorem mt_upd : MtR X "dict.update" (fun x vs H Q => ∃ d o kvs more, x = .ref d ∧ vs = [.ref o] ∧ H d = some (.dK kvs) ∧ H o = some (.dK more) ∧ d ≠ o ∧ kvs.length + more.length ≤ sizeLine ∧ Q .non (upd H d (.dK (mergeK kvs more)))) := by
  intro pins s σ H x vs v us Q I rx rs h
  obtain ⟨d, o, kvs, more, rfl, rfl, hd, ho, hne, hz, q⟩ := h
  obtain rfl := (show v = Value.ref d from rx)
  obtain ⟨u, rfl, ru⟩ := Vals.one rs
  obtain rfl := (show u = Value.ref o from ru)
  obtain ⟨z1, l1, vs1, rel1, dd1⟩ := dk_of I.hok hd
  obtain ⟨z2, l2, vs2, rel2, dd2⟩ := dk_of I.hok ho
  refine call_meetsIn PySem.F.slot_dict_update dd1.typeIs PySem.F.entry_dict_update (PySem.F.args_dict_update_2 _ _) (meets_dict_update (mixKind X.prog X.w) d o hne l2)
    ⟨vs1, vs2, dd1, dd2, by rw [← rel1.length, ← rel2.length]; exact hz, fun h' dd' _ hs => ?_⟩
  have he : ∃ q, h'.get? d = some q := let ⟨q, _, _, hq, _⟩ := dd'; ⟨q, hq⟩
  refine ⟨.non, upd H d (.dK (mergeK kvs more)), d_write I (by rw [hd]; exact True.intro) hs he (dk_new ?_ l1 (KV.merge rel2 rel1) dd'), rfl, q⟩
  have := length_mergeK more kvs
  omega
theorem mth_ok (hu : X.A.units + 1 < cLine) (m : Mth) : MtR X m.id (rMth X.K m) := by
  intro pins s σ H x vs v us Q I rx rs h
  unfold rMth at h
  split at h
  · obtain ⟨xs, h1, h2, h3⟩ := h
    exact mt_append pins s σ H _ _ v us Q I rx rs ⟨_, xs, _, rfl, rfl, h1, h2, h3⟩
  · obtain ⟨xs, y, h1, h2, h3⟩ := h
    exact mt_pop pins s σ H _ _ v us Q I rx rs ⟨_, xs, y, rfl, rfl, h1, h2, h3⟩
  · obtain ⟨xs, k, y, h1, h2, h3, h4, h5, h6⟩ := h
    exact mt_popAt pins s σ H _ _ v us Q I rx rs ⟨_, xs, _, k, y, rfl, rfl, h1, h2, h3, h4, h5, h6⟩
  · obtain ⟨xs, h1, h2, h3, h4, h5⟩ := h
    exact mt_insert pins s σ H _ _ v us Q I rx rs ⟨_, xs, _, _, rfl, rfl, h1, h2, h3, h4, h5⟩
  · obtain ⟨xs, h1, h2⟩ := h
    exact mt_reverse pins s σ H _ _ v us Q I rx rs ⟨_, xs, rfl, rfl, h1, h2⟩
  · obtain ⟨ys, j, z, h1, h2, h3, h4, h5, h6, h7⟩ := h
    exact mt_index pins s σ H _ _ v us Q I rx rs ⟨_, ys, _, j, z, rfl, rfl, h1, h2, h3, h4, h5, h6, h7⟩
  · obtain ⟨xs, zs, h1, h2, h3, h4⟩ := h
    exact mt_extend pins s σ H _ _ v us Q I rx rs ⟨_, _, xs, zs, rfl, rfl, h1, h2, h3, h4⟩
  · obtain ⟨o, h1, h2⟩ := h
    obtain rfl := (show v = Value.ref _ from rx)
    cases rs with
    | cons r1 rr =>
      cases rr with
      | cons r2 rr =>
        cases rr
        exact d_get2 hu I h1 r1 r2 fun w' s4 I4 rw' => ⟨_, H, I4, rw', h2⟩
  · obtain ⟨kvs, more, h1, h2, h3, h4, h5⟩ := h
    exact mt_upd pins s σ H _ _ v us Q I rx rs ⟨_, _, kvs, more, rfl, rfl, h1, h2, h3, h4, h5⟩
  · obtain ⟨t, rfl⟩ := (show ∃ t, v = Value.int _ t from rx)
    cases rs
    exact call_int_bit_length ⟨.int _, H, I.tok _, ⟨_, rfl⟩, h⟩
  · obtain ⟨h1, h2, h3⟩ := h
    exact mt_split pins s σ H _ _ v us Q I rx rs ⟨_, _, rfl, rfl, h1, h2, h3⟩
  · obtain ⟨ys, h1, h2, h3⟩ := h
    exact mt_join pins s σ H _ _ v us Q I rx rs ⟨_, _, ys, rfl, rfl, h1, h2, h3⟩
  · exact h.elim
end
end Ev

set_option Elab.async false
set_option linter.all false
set_option maxRecDepth 100000
set_option maxHeartbeats 4000000
namespace Ev
open PySem PySem.Spec PyProof.Rows L2

/-! ### the computed reading -/
def isNonE : E → Bool
  | .cst .non => true
  | _ => false
def rSet (K : PySem.W.Frag) (o i v : V) (H : Hp) (Q : Hp → Prop) : Prop :=
  rSetL o i v H Q ∨ rSetD o i v H Q
def rAug (op : Operator) (x y : V) (H : Hp) (Q : VK) : Prop :=
  match op, x, y with
  | .Add, .int i, .int j => Q (.int (i + j)) H
  | .Sub, .int i, .int j => Q (.int (i - j)) H
  | _, _, _ => False
mutual
def rdE (T : Tab) (K : PySem.W.Frag) : E → TE
  | .var i => fun σ H Q => match σ[i]? with | some (some v) => Q v H | _ => False
  | .cst v => fun _ H Q => Q v H
  | .ty n => fun _ H Q => Q (.ty n) H
  | .glb c => fun _ H Q => match T.cst[c]? with | some p => Q p.2 H | none => False
  | .bin op a b => fun σ H Q => rdE T K a σ H fun x H1 => rdE T K b σ H1 fun y H2 => rBin K op x y H2 Q
  | .neg a => fun σ H Q => rdE T K a σ H fun x H1 => match x with | .int i => Q (.int (-i)) H1 | _ => False
  | .not a => fun σ H Q => rdE T K a σ H fun x H1 => match x with | .bl b => Q (.bl (!b)) H1 | _ => False
  | .cmp op a b => fun σ H Q => rdE T K a σ H fun x H1 => rdE T K b σ H1 fun y H2 => rCmp K op x y H2 Q
  | .chn op op' a b c => fun σ H Q => rdE T K a σ H fun x H1 => rdE T K b σ H1 fun y H2 => rCmp K op x y H2 fun z H3 =>
      match z with | .bl k => if k = true then rdE T K c σ H3 fun w H4 => rCmp K op' y w H4 Q else Q (.bl false) H3 | _ => False
  | .and a b => fun σ H Q => rdE T K a σ H fun x H1 => match x with | .bl k => if k = true then rdE T K b σ H1 Q else Q (.bl false) H1 | _ => False
  | .or a b => fun σ H Q => rdE T K a σ H fun x H1 => match x with | .bl k => if k = true then Q (.bl true) H1 else rdE T K b σ H1 Q | _ => False
  | .ite c a b => fun σ H Q => rdE T K c σ H fun x H1 => match x with | .bl k => if k = true then rdE T K a σ H1 Q else rdE T K b σ H1 Q | _ => False
  | .tup es => fun σ H Q => rdEs T K es σ H fun xs H1 => xs.length ≤ sizeLine ∧ ∀ p, H1 p = none → Q (.ref p) (upd H1 p (.tup xs))
  | .lst es => fun σ H Q => rdEs T K es σ H fun xs H1 => xs.length ≤ sizeLine ∧ ∀ p, H1 p = none → Q (.ref p) (upd H1 p (.lst xs))
  | .call k es => fun σ H Q => rdEs T K es σ H fun vs H1 => match T.fns[k]? with | some d => d.sp (vs ++ d.dv es.len) H1 Q E0 | none => False
  | .blt b es => fun σ H Q => rdEs T K es σ H fun vs H1 => rBlt K b vs H1 Q
  | .mth m o es => fun σ H Q => rdE T K o σ H fun x H1 => tyV K m.ty x H1 ∧ rdEs T K es σ H1 fun vs H2 => rMth K m x vs H2 Q
  | .sub a b => fun σ H Q => rdE T K a σ H fun x H1 => rdE T K b σ H1 fun y H2 => rIxx K x y H2 Q
  | .slc a lo hi => fun σ H Q => rdE T K a σ H fun x H1 =>
      (fun k => match isNonE lo with | true => k none H1 | false => rdE T K lo σ H1 fun l H2 => match l with | .int i => k (some i) H2 | _ => False) fun l H2 =>
      (fun k => match isNonE hi with | true => k none H2 | false => rdE T K hi σ H2 fun u H3 => match u with | .int i => k (some i) H3 | _ => False) fun u H3 => rSl K x l u H3 Q
  | .rev a => fun σ H Q => rdE T K a σ H fun x H1 => match x with | .ref a => ∃ xs, SqL K H1 a xs ∧ ∀ p, H1 p = none → Q (.ref p) (upd H1 p (.lst xs.reverse)) | _ => False
  | .lrng1 a => fun σ H Q => rdE T K a σ H fun x H1 => match x with | .int n => RgOk 0 n ∧ ∀ q, H1 q = none → Q (.ref q) (upd H1 q (.lst (rgV 0 n))) | _ => False
  | .lrng2 a b => fun σ H Q => rdE T K a σ H fun x H1 => rdE T K b σ H1 fun y H2 => match x, y with | .int i, .int n => RgOk i n ∧ ∀ q, H2 q = none → Q (.ref q) (upd H2 q (.lst (rgV i n))) | _, _ => False
  | .dict0 t => fun _ H Q => ∀ p, H p = none → Q (.ref p) (upd H p (match t with | true => .dT [] | false => .dK []))
  | .dict1 a b => tDisp1T (rdE T K a) (rdE T K b)
  | .dc own k v tg it ifs => tDc (rdI T K it) (rdG T K tg) (rdTs T K ifs) (rdE T K k) (rdE T K v) (own.map (·.2))
  | .lock own elt tg d ifs => tLockE (tLc (fun σ H R => rdE T K d σ H fun x H1 => match x with
      | .ref d => ∃ o, (∃ kvs, H1 d = some (.frz o (.dK kvs)) ∧ R (Itk d o kvs) H1) ∨ ∃ kvs, H1 d = some (.frz o (.dT kvs)) ∧ R (Itkt d o kvs) H1
      | _ => False) (rdG T K tg) (rdTs T K ifs) (rdE T K elt) (own.map (·.2)))
  | .kcall k ks pm es => fun σ H Q => rdEs T K es σ H fun vs H1 => vs.length = ks.length ∧ match T.fns[k]? with | some d => d.sp (pm.map fun i => vs.getD i .non) H1 Q E0 | none => False
  | .lc own elt tg it ifs => tLc (rdI T K it) (rdG T K tg) (rdTs T K ifs) (rdE T K elt) (own.map (·.2))
def rdTs (T : Tab) (K : PySem.W.Frag) : Es → TT
  | .nil => fun _ H Q => Q true H
  | .cons c _ => fun σ H Q => rdE T K c σ H fun x H1 => match x with | .bl b => Q b H1 | _ => False
def rdEs (T : Tab) (K : PySem.W.Frag) : Es → TA
  | .nil => fun _ H Q => Q [] H
  | .cons e es => fun σ H Q => rdE T K e σ H fun x H1 => rdEs T K es σ H1 fun xs H2 => Q (x :: xs) H2
def rdI (T : Tab) (K : PySem.W.Frag) : It' → TI
  | .seq e => fun σ H R => rdE T K e σ H fun x H1 => match x with
      | .ref a => ((∃ xs, SqL K H1 a xs) ∧ R (Itl K a) H1) ∨ ((∃ xs, SqT K H1 a xs) ∧ R (Itt K a) H1)
      | .str z => R (Its z) H1
      | _ => False
  | .rng1 a => fun σ H R => rdE T K a σ H fun x H1 => match x with | .int j => -(2 ^ 62) ≤ j ∧ j < 2 ^ 62 ∧ R (Itr 0 j.toNat) H1 | _ => False
  | .rng2 a b => fun σ H R => rdE T K a σ H fun x H1 => rdE T K b σ H1 fun y H2 => match x, y with
      | .int i, .int j => (-(2 ^ 62) ≤ i ∧ i < 2 ^ 62 ∧ -(2 ^ 62) ≤ j ∧ j < 2 ^ 62) ∧ R (Itr i (j - i).toNat) H2
      | _, _ => False
  | .enum e => fun σ H R => rdE T K e σ H fun x H1 => match x with | .ref a => (∃ xs, SqL K H1 a xs) ∧ R (Ite K a) H1 | _ => False
  | .dct e => fun σ H R => rdE T K e σ H fun x H1 => match x with
      | .ref d => ∃ o, (∃ kvs, H1 d = some (.frz o (.dK kvs)) ∧ R (Itk d o kvs) H1) ∨ ∃ kvs, H1 d = some (.frz o (.dT kvs)) ∧ R (Itkt d o kvs) H1
      | _ => False
def rdG (T : Tab) (K : PySem.W.Frag) : Tg → TG
  | .nm i => fun v σ H Q => Q (σ.set i (some v)) H
  | .tp ts => fun v σ H Q => match v with | .ref a => ∃ xs, (SqT K H a xs ∨ SqL K H a xs) ∧ xs.length = ts.len ∧ rdGs T K ts xs σ H Q | _ => False
  | .sub o i => fun v σ H Q => rdE T K o σ H fun x H1 => rdE T K i σ H1 fun y H2 => rSet K x y v H2 fun H3 => Q σ H3
def rdGs (T : Tab) (K : PySem.W.Frag) : Tgs → TGs
  | .nil => fun vs σ H Q => match vs with | [] => Q σ H | _ => False
  | .cons t ts => fun vs σ H Q => match vs with | v :: r => rdG T K t v σ H fun σ' H' => rdGs T K ts r σ' H' Q | [] => False
end
/-- a test's reading -/
def rdT (T : Tab) (K : PySem.W.Frag) (e : E) : TT := fun σ H Q => rdE T K e σ H fun x H1 => match x with | .bl b => Q b H1 | _ => False
mutual
def rdS (T : Tab) (K : PySem.W.Frag) : S → TS
  | .set t e => fun D σ H => rdE T K e σ H fun x H1 => rdG T K t x σ H1 D.nx
  | .par2 i j a b => fun D σ H => rdE T K a σ H fun x H1 => rdE T K b σ H1 fun y H2 => D.nx ((σ.set i (some x)).set j (some y)) H2
  | .par3 i j k a b c => fun D σ H => rdE T K a σ H fun x H1 => rdE T K b σ H1 fun y H2 => rdE T K c σ H2 fun z H3 => D.nx (((σ.set i (some x)).set j (some y)).set k (some z)) H3
  | .setlc i own elt tg it ifs => fun D σ H => tLc (rdI T K it) (rdG T K tg) (rdTs T K ifs) (rdE T K elt) (own.map (·.2)) σ H fun x H1 => D.nx (σ.set i (some x)) H1
  | .augn i op e => fun D σ H => match σ[i]? with | some (some x) => rdE T K e σ H fun y H1 => rAug op x y H1 fun z H2 => D.nx (σ.set i (some z)) H2 | _ => False
  | .augs o i op e => fun D σ H => rdE T K o σ H fun a H1 => rdE T K i σ H1 fun j H2 => rIxx K a j H2 fun x H3 => rdE T K e σ H3 fun y H4 => rAug op x y H4 fun z H5 => rSet K a j z H5 fun H6 => D.nx σ H6
  | .exp e => fun D σ H => rdE T K e σ H fun _ H1 => D.nx σ H1
  | .ret e => fun D σ H => rdE T K e σ H D.rt
  | .ite c a b => fun D σ H => rdE T K c σ H fun x H1 => match x with | .bl k => if k = true then rdSs T K a D σ H1 else rdSs T K b D σ H1 | _ => False
  | .while c b => tWhile (rdT T K c) (rdSs T K b)
  | .for tg it b => tFor (rdI T K it) (rdG T K tg) (rdSs T K b)
  | .lock s => tLock (rdS T K s)
  | .cont => fun D σ H => D.ct σ H
  | .brk => fun D σ H => D.bk σ H
  | .pass => fun D σ H => D.nx σ H
  | .never => fun _ _ _ => False
def rdSs (T : Tab) (K : PySem.W.Frag) : Ss → TS
  | .nil => fun D σ H => D.nx σ H
  | .cons s ss => fun D σ H => rdS T K s { D with nx := rdSs T K ss D } σ H
end

/-! ### the check -/
structure Sc where
  N : List Str
  sc : Scope
  fn : Str → Bool
def okNm (x : Str) : Bool := !(x == ("__debug__" : Str)) && !(x == ("__classdict__" : Str))
def visB (sc : Scope) (x : Str) : Bool := match sc.names.lookup x with | some .local => true | some .cell => true | some .free => true | _ => false
def glB (sc : Scope) (x : Str) : Bool := match sc.names.lookup x with | some .globalImplicit => true | _ => false
/-- a name that is stored -/
def stB (c : Sc) (i : Nat) (x : Str) : Bool := decide (c.N[i]? = some x) && (match c.sc.names.lookup x with | some .local => true | some .cell => c.fn x | _ => false)
def cstB : V → Const → Bool
  | .non, .none => true
  | .bl a, .bool b => a == b
  | .int i, .int j => decide (i = j)
  | .str x, .str y => decide (x = y)
  | _, _ => false
def freeB (T : Tab) (c : Sc) (x : Str) : Bool := glB c.sc x && decide (x ∈ T.free)
def tyNames : List String := ["int", "bool", "str", "list", "tuple", "dict"]
def baseB : Expr → Bool
  | .Call (.Name ..) [] [] _ => false
  | _ => true
def isSlice : Expr → Bool
  | .Slice .. => true
  | _ => false
/-- the scope of a comprehension's block as it runs -/
def blkSc (c : Sc) (scope : Scope) : Sc := ⟨c.N, relS scope c.sc, fun x => scope.names.lookup x == some .cell⟩
mutual
def mE (T : Tab) : E → Sc → Expr → Bool
  | .var i, c, e => match e with | .Name x _ => decide (c.N[i]? = some x) && (visB c.sc x && okNm x) | _ => false
  | .cst v, _, e => match e with | .Constant k _ _ => cstB v k | _ => false
  | .ty n, c, e => match e with | .Name x _ => decide (x = Str.ofString n) && (decide (n ∈ tyNames) && freeB T c x) | _ => false
  | .glb k, c, e => match e with | .Name x _ => (match T.cst[k]? with | some p => decide (p.1 = x) | none => false) && (glB c.sc x && okNm x) | _ => false
  | .bin op a b, c, e => match e with | .BinOp x op' y _ => decide (op = op') && (mE T a c x && mE T b c y) | _ => false
  | .neg a, c, e => match e with | .UnaryOp .USub x _ => mE T a c x | _ => false
  | .not a, c, e => match e with | .UnaryOp .Not x _ => mE T a c x | _ => false
  | .cmp op a b, c, e => match e with | .Compare x [op'] [y] _ => decide (op = op') && (mE T a c x && mE T b c y) | _ => false
  | .chn op op2 a b d, c, e => match e with | .Compare x [op', op2'] [y, z] _ => (decide (op = op') && decide (op2 = op2')) && (mE T a c x && (mE T b c y && mE T d c z)) | _ => false
  | .and a b, c, e => match e with
      | .BoolOp .And (x :: y :: r) pos => mE T a c x && (match r with | [] => mE T b c y | _ :: _ => mE T b c (.BoolOp .And (y :: r) pos))
      | _ => false
  | .or a b, c, e => match e with
      | .BoolOp .Or (x :: y :: r) pos => mE T a c x && (match r with | [] => mE T b c y | _ :: _ => mE T b c (.BoolOp .Or (y :: r) pos))
      | _ => false
  | .ite d a b, c, e => match e with | .IfExp x y z _ => mE T d c x && (mE T a c y && mE T b c z) | _ => false
  | .tup es, c, e => match e with | .Tuple xs _ _ => mEs T es c xs | _ => false
  | .lst es, c, e => match e with | .List xs _ => mEs T es c xs | _ => false
  | .call k es, c, e => match e with
      | .Call (.Name x _) xs [] _ => (match T.fns[k]? with | some d => decide (d.name = x) && decide (es.len + d.dfl.length - d.n ≤ d.dfl.length) | none => false) && ((glB c.sc x && okNm x) && mEs T es c xs)
      | _ => false
  | .blt b es, c, e => match e with | .Call (.Name x _) (y :: xs) [] _ => decide (x = b.nm) && (freeB T c x && mEs T es c (y :: xs)) | _ => false
  | .mth m o es, c, e => match e with
      | .Call (.Attribute y a apos) xs [] cpos => decide (a = m.nm) && (baseB y && ((apos.endLine == cpos.line) && (decide (xs.length < 20) && (mE T o c y && mEs T es c xs))))
      | _ => false
  | .sub a b, c, e => match e with | .Subscript x y _ => !isSlice y && (mE T a c x && mE T b c y) | _ => false
  | .slc a lo hi, c, e => match e with
      | .Subscript x (.Slice l h none _) _ => mE T a c x && ((match l with | none => isNonE lo | some y => !isNonE lo && mE T lo c y) && (match h with | none => isNonE hi | some y => !isNonE hi && mE T hi c y))
      | _ => false
  | .rev a, c, e => match e with | .Subscript x (.Slice none none (some (.UnaryOp .USub (.Constant (.int 1) _ _) _)) _) _ => mE T a c x | _ => false
  | .lrng1 a, c, e => match e with
      | .Call (.Name x _) [.Call (.Name y _) [z] [] _] [] _ => decide (x = ("list" : Str)) && (decide (y = ("range" : Str)) && (freeB T c x && (freeB T c y && mE T a c z)))
      | _ => false
  | .lrng2 a b, c, e => match e with
      | .Call (.Name x _) [.Call (.Name y _) [z, z2] [] _] [] _ => decide (x = ("list" : Str)) && (decide (y = ("range" : Str)) && (freeB T c x && (freeB T c y && (mE T a c z && mE T b c z2))))
      | _ => false
  | .dict0 _, _, e => match e with | .Dict [] [] _ => true | _ => false
  | .dict1 a b, c, e => match e with | .Dict [some x] [y] _ => mE T a c x && mE T b c y | _ => false
  | .dc own k v tg it ifs, c, e => match e with
      | .DictComp x y [⟨t, i, fs, 0⟩] scope _ => blkC c.N c.sc scope own && (mI T it c t i && (mTs T ifs (blkSc c scope) fs && (mE T k (blkSc c scope) x && (mE T v (blkSc c scope) y && mG T tg (blkSc c scope) t))))
      | _ => false
  | .lock own elt tg d ifs, c, e => match e with
      | .ListComp y [⟨t, i, fs, 0⟩] scope _ => blkC c.N c.sc scope own && (mE T d c i && (mTs T ifs (blkSc c scope) fs && (mE T elt (blkSc c scope) y && mG T tg (blkSc c scope) t)))
      | _ => false
  | .kcall k ks pm es, c, e => match e with
      | .Call (.Name x _) [] kws _ => (match T.fns[k]? with | some d => decide (d.name = x) && decide ((ks, pm) ∈ d.kws) | none => false) && ((glB c.sc x && okNm x) && mKs T es c ks kws)
      | _ => false
  | .lc own elt tg it ifs, c, e => match e with
      | .ListComp y [⟨t, i, fs, 0⟩] scope _ => blkC c.N c.sc scope own && (mI T it c t i && (mTs T ifs (blkSc c scope) fs && (mE T elt (blkSc c scope) y && mG T tg (blkSc c scope) t)))
      | _ => false
def mTs (T : Tab) : Es → Sc → List Expr → Bool
  | .nil, _, xs => xs.isEmpty
  | .cons e es, c, xs => match es, xs with | .nil, [x] => mE T e c x | _, _ => false
def mEs (T : Tab) : Es → Sc → List Expr → Bool
  | .nil, _, xs => xs.isEmpty
  | .cons e es, c, xs => match xs with | x :: r => mE T e c x && mEs T es c r | [] => false
def mKs (T : Tab) : Es → Sc → List Str → List Keyword → Bool
  | .nil, _, ks, kws => ks.isEmpty && kws.isEmpty
  | .cons e es, c, ks, kws => match ks, kws with | k :: kr, ⟨some n, x, _⟩ :: r => decide (n = k) && (mE T e c x && mKs T es c kr r) | _, _ => false
def mI (T : Tab) : It' → Sc → Expr → Expr → Bool
  | .seq a, c, _, e => mE T a c e
  | .rng1 a, c, _, e => match e with | .Call (.Name x _) [y] [] _ => decide (x = ("range" : Str)) && (freeB T c x && mE T a c y) | _ => false
  | .rng2 a b, c, _, e => match e with | .Call (.Name x _) [y, z] [] _ => decide (x = ("range" : Str)) && (freeB T c x && (mE T a c y && mE T b c z)) | _ => false
  | .enum a, c, t, e => match t, e with | .Tuple _ _ _, .Call (.Name x _) [y] [] _ => decide (x = ("enumerate" : Str)) && (freeB T c x && mE T a c y) | _, _ => false
  | .dct a, c, _, e => mE T a c e
def mG (T : Tab) : Tg → Sc → Expr → Bool
  | .nm i, c, e => match e with | .Name x _ => stB c i x | _ => false
  | .tp ts, c, e => match e with | .Tuple xs _ _ => mGs T ts c xs | _ => false
  | .sub o i, c, e => match e with | .Subscript x y _ => !isSlice y && (mE T o c x && mE T i c y) | _ => false
def mGs (T : Tab) : Tgs → Sc → List Expr → Bool
  | .nil, _, xs => xs.isEmpty
  | .cons t ts, c, xs => match xs with | x :: r => mG T t c x && mGs T ts c r | [] => false
end
end Ev

set_option Elab.async false
set_option linter.all false
set_option maxRecDepth 100000
set_option maxHeartbeats 4000000
namespace Ev
open PySem PySem.Spec PyProof.Rows L2

theorem band {a b : Bool} (h : (a && b) = true) : a = true ∧ b = true := Bool.and_eq_true_iff.mp h
section
variable {X : Cx}
theorem pe_imp {e : Expr} {t t' : TE} (h : PE X e t) (hi : ∀ σ H Q, t' σ H Q → t σ H Q) : PE X e t' := ⟨fun pins s σ H Q I q => h.run pins s σ H Q I (hi σ H Q q)⟩
theorem pt_imp {e : Expr} {t t' : TT} (h : PT X e t) (hi : ∀ σ H Q, t' σ H Q → t σ H Q) : PT X e t' := ⟨fun pins s σ H Q I q => h.run pins s σ H Q I (hi σ H Q q)⟩
theorem pi_imp {tg e : Expr} {t t' : TI} (h : PI X tg e t) (hi : ∀ σ H R, t' σ H R → t σ H R) : PI X tg e t' := ⟨fun pins s σ H R I q => h.run pins s σ H R I (hi σ H R q)⟩
theorem ps_imp {e : Stmt} {t t' : TS} (h : PS X e t) (hi : ∀ D σ H, t' D σ H → t D σ H) : PS X e t' := ⟨fun pins s σ H D I q => h.run pins s σ H D I (hi D σ H q)⟩
theorem pg_imp {e : Expr} {t t' : TG} (h : PG X e t) (hi : ∀ v σ H Q, t' v σ H Q → t v σ H Q) : PG X e t' := ⟨fun pins s σ H v u Q I r q => h.run pins s σ H v u Q I r (hi v σ H Q q)⟩

theorem rEqq_mono {K : PySem.W.Frag} {neg : Bool} {x y : V} {H : Hp} {Q Q' : VK} (hi : ∀ v H', Q v H' → Q' v H') (h : rEqq K neg x y H Q) : rEqq K neg x y H Q' := by
  unfold rEqq at h ⊢
  split at h
  · exact hi _ _ h
  · exact hi _ _ h
  · exact hi _ _ h
  · obtain ⟨d, e, h1, h2, h3, h4, h5⟩ := h
    exact ⟨d, e, h1, h2, h3, h4, hi _ _ h5⟩
theorem rIs_mono {neg : Bool} {x y : V} {H : Hp} {Q Q' : VK} (hi : ∀ v H', Q v H' → Q' v H') (h : rIs neg x y H Q) : rIs neg x y H Q' := by
  unfold rIs at h ⊢
  split at h
  · exact hi _ _ h
  · exact hi _ _ h
  · exact h.elim
theorem rMem_mono {K : PySem.W.Frag} {neg : Bool} {x y : V} {H : Hp} {Q Q' : VK} (hi : ∀ v H', Q v H' → Q' v H') (h : rMem K neg x y H Q) : rMem K neg x y H Q' := by
  unfold rMem at h ⊢
  split at h
  · obtain ⟨c, h1, h2⟩ := h
    exact ⟨c, h1, hi _ _ h2⟩
  · rcases h with ⟨xs, h1, h2, h3, h4⟩ | ⟨o, h1, h2⟩
    · exact .inl ⟨xs, h1, h2, h3, hi _ _ h4⟩
    · exact .inr ⟨o, h1, hi _ _ h2⟩
  · exact h.elim
theorem rCmp_mono {K : PySem.W.Frag} {op : CmpOp} {x y : V} {H : Hp} {Q Q' : VK} (hi : ∀ v H', Q v H' → Q' v H') (h : rCmp K op x y H Q) : rCmp K op x y H Q' := by
  cases op with
  | Eq => exact rEqq_mono hi h
  | NotEq => exact rEqq_mono hi h
  | Is => exact rIs_mono hi h
  | IsNot => exact rIs_mono hi h
  | In => exact rMem_mono hi h
  | NotIn => exact rMem_mono hi h
  | Lt =>
    unfold rCmp at h ⊢
    simp only at h ⊢
    split at h
    · exact hi _ _ h
    · exact h.elim
  | LtE =>
    unfold rCmp at h ⊢
    simp only at h ⊢
    split at h
    · exact hi _ _ h
    · exact h.elim
  | Gt =>
    unfold rCmp at h ⊢
    simp only at h ⊢
    split at h
    · exact hi _ _ h
    · exact h.elim
  | GtE =>
    unfold rCmp at h ⊢
    simp only at h ⊢
    split at h
    · exact hi _ _ h
    · exact h.elim

/-! ### the shapes -/
def noStar : Expr → Bool
  | .Starred .. => false
  | _ => true
theorem mE_noStar {T : Tab} {c : Sc} : ∀ {E : E} {e : Expr}, mE T E c e = true → noStar e = true := by
  intro E e h
  cases e with
  | Starred v p => cases E <;> simp [mE] at h
  | _ => rfl
theorem star_cons {e : Expr} {es : List Expr} {env : Env} (h : noStar e = true) : starEach (e :: es) env = (false, eval e env) :: starEach es env := by
  cases e <;> first | rfl | cases h
theorem mEs_star {T : Tab} {c : Sc} {env : Env} : ∀ {ES : Es} {es : List Expr}, mEs T ES c es = true → starEach es env = es.map fun e => (false, eval e env) := by
  intro ES
  induction ES using Es.rec (motive_1 := fun _ => True) (motive_3 := fun _ => True) (motive_4 := fun _ => True) (motive_5 := fun _ => True) with
  | nil =>
    intro es h
    cases es with
    | nil => rfl
    | cons _ _ => simp [mEs] at h
  | cons e es' _ ih =>
    intro es h
    cases es with
    | nil => simp [mEs] at h
    | cons x r =>
      simp only [mEs] at h
      obtain ⟨h1, h2⟩ := band h
      rw [star_cons (mE_noStar h1), ih h2] <;> rfl
  | _ => trivial
theorem starMap_any {es : List Expr} {env : Env} {pos : Pos} : (backTo pos (es.map fun e => (false, eval e env))).any (·.1) = false := by
  unfold backTo
  rw [List.any_eq_false]
  intro x hx
  obtain ⟨y, hy, rfl⟩ := List.mem_map.mp hx
  obtain ⟨z, hz, rfl⟩ := List.mem_map.mp hy
  simp
theorem mE_noSet {T : Tab} {c : Sc} : ∀ {E : E} {elts : List Expr} {k : Nat} {pos : Pos}, mE T E c (.Set elts k pos) = true → False := by
  intro E elts k pos h
  cases E <;> simp [mE] at h
theorem behind_of {T : Tab} {c : Sc} {E : E} {e : Expr} {op : CmpOp} (h : mE T E c e = true) : behindInMarks op e = false := by
  cases e <;> first | rfl | exact (mE_noSet h).elim
theorem folded_of {T : Tab} {c : Sc} {E : E} {e : Expr} {env : Env} (h : mE T E c e = true) : ∀ x, foldedSetIterable e env x = pure x := by
  intro x
  cases e <;> first | rfl | exact (mE_noSet h).elim
theorem sub_of {e : Expr} (h : isSlice e = false) : ∀ o i, subscripted e false o i = operate [o, i] (getItem o i) := by
  intro o i
  cases e <;> first | rfl | cases h
theorem base_of {e : Expr} {a : Str} {env : Env} (h : baseB e = true) : attributeBase e a env (eval e env) = eval e env := by
  unfold attributeBase
  split
  · simp [baseB] at h
  · rfl
theorem noComp_sw {e : Expr} {tg : Option Expr} {l : Nat} {env : Env} (h : match e with | .ListComp .. => False | .SetComp .. => False | .DictComp .. => False | _ => True) : swapsWith e tg l env = pure false := by
  cases e <;> first | rfl | cases h
end
end Ev

set_option Elab.async false
set_option linter.all false
set_option maxRecDepth 100000
set_option maxHeartbeats 4000000
namespace Ev
open PySem PySem.Spec PyProof.Rows L2

structure Fits (T : Tab) (c : Sc) (X : Cx) : Prop where
  g : XG T X
  hN : X.N = c.N
  hs : X.env.scope = c.sc
  hf : X.fn = c.fn
theorem Fits.blk {T : Tab} {c : Sc} {X : Cx} (f : Fits T c X) (s : Shared) (H : Hp) (scope : Scope) (C : Addr) (cl : List (Str × Addr)) (fp : List Addr) :
    Fits T (blkSc c scope) (X.blk s H scope (compEnvC scope cl C X.env) fp) := by
  refine ⟨⟨f.g.hG, f.g.calm, f.g.nd, f.g.hu, fun k d h => ⟨(f.g.fns k d h).ok⟩, f.g.cst, f.g.free⟩, f.hN, ?_, rfl⟩
  show relS scope X.env.scope = relS scope c.sc
  rw [f.hs]
section
variable {T : Tab} {c : Sc} {X : Cx}
theorem Fits.vis (f : Fits T c X) {x : Str} (h : visB c.sc x = true) : Vis X.env.scope x := by
  unfold Vis
  rw [f.hs]
  unfold visB at h
  split at h
  · exact .inl (by assumption)
  · exact .inr (.inl (by assumption))
  · exact .inr (.inr (by assumption))
  · cases h
theorem Fits.gl (f : Fits T c X) {x : Str} (h : glB c.sc x = true) : Gl X x := by
  unfold Gl Env.kindOf
  rw [f.hs]
  unfold glB at h
  split at h
  · assumption
  · cases h
theorem Fits.free (f : Fits T c X) {x : Str} (h : freeB T c x = true) : Gl X x ∧ X.mg x = none := by
  obtain ⟨h1, h2⟩ := band h
  exact ⟨f.gl h1, f.g.free x (of_decide_eq_true h2)⟩
theorem okNm_1 {x : Str} (h : okNm x = true) : (x == ("__debug__" : Str)) = false := by
  unfold okNm at h
  simp only [Bool.and_eq_true, Bool.not_eq_true'] at h
  exact h.1
theorem okNm_2 {x : Str} (h : okNm x = true) : (x == ("__classdict__" : Str)) = false := by
  unfold okNm at h
  simp only [Bool.and_eq_true, Bool.not_eq_true'] at h
  exact h.2
theorem Fits.store (f : Fits T c X) {i : Nat} {x : Str} (h : stB c i x = true) : X.N[i]? = some x ∧ L2.Loc X.env.scope x ∧ (X.fn x = true ∨ X.env.scope.names.lookup x = some .local) := by
  obtain ⟨h1, h2⟩ := band h
  refine ⟨by rw [f.hN]; exact of_decide_eq_true h1, ?_, ?_⟩
  · unfold L2.Loc
    rw [f.hs]
    split at h2
    · exact .inl (by assumption)
    · exact .inr (by assumption)
    · cases h2
  · rw [f.hs, f.hf]
    split at h2
    · exact .inr (by assumption)
    · exact .inl h2
    · cases h2
theorem cst_ok {v : V} {k : Const} {j : Nat} {pos : Pos} (h : cstB v k = true) : PE X (.Constant k j pos) (tC v) := by
  unfold cstB at h
  split at h
  · exact pe_non
  · rw [eq_of_beq h]; exact pe_bl
  · rw [of_decide_eq_true h]; exact pe_int
  · rw [of_decide_eq_true h]; exact pe_str
  · cases h
theorem blt_nm (b : Blt) : b.nm ≠ ("__name__" : Str) ∧ (b.nm == ("__debug__" : Str)) = false := by
  cases b <;> decide +kernel
theorem ty_boot {n : String} (h : n ∈ tyNames) : bootBuiltins (Str.ofString n) = some (.type n) ∧ Str.ofString n ≠ ("__name__" : Str) ∧ (Str.ofString n == ("__debug__" : Str)) = false := by
  have k : ∀ n ∈ tyNames, bootBuiltins (Str.ofString n) = some (.type n) ∧ Str.ofString n ≠ ("__name__" : Str) ∧ (Str.ofString n == ("__debug__" : Str)) = false := by decide +kernel
  exact k n h
/-- a call of a built-in function or type -/
theorem pe_blt {b : Blt} {p pos : Pos} {e : Expr} {es : List Expr} {t : TA} (hc : X.calm = true) (hG : X.A.guards = some []) (hu : X.A.units + 64 < cLine) (hg : Gl X b.nm) (hm : X.mg b.nm = none) (ha : PA X (e :: es) t)
    (he : starEach (e :: es) X.env = (false, eval e X.env) :: starEach es X.env) (hpl : (backTo pos (starEach es X.env)).any (·.1) = false) :
    PE X (.Call (.Name b.nm p) (e :: es) [] pos) (tCB (rBlt X.K b) t) := by
  have h1 := boot_of b
  have h2 := blt_ok hc hG hu (X := X) b
  obtain ⟨n1, n2⟩ := blt_nm b
  have k : (∃ id, b.val = .builtin id) ∨ ∃ T', b.val = .type T' := by cases b <;> first | exact .inl ⟨_, rfl⟩ | exact .inr ⟨_, rfl⟩
  rcases k with ⟨id, e1⟩ | ⟨ty, e1⟩
  · rw [e1] at h1 h2
    exact pe_callB h2 hg hm h1 ha n1 n2 he hpl
  · rw [e1] at h1 h2
    exact pe_callTy h2 hg hm h1 ha n1 n2 he hpl
theorem mth_facts (m : Mth) : PlainAttrs m.ty ∧ Slot m.ty m.nm m.id ∧ typeOf (.builtin m.id) = pure (.type "method_descriptor") := by
  cases m with
  | append => exact ⟨PySem.F.plainAttrs_list, PySem.F.slot_list_append, PySem.F.type_list_append⟩
  | pop0 => exact ⟨PySem.F.plainAttrs_list, PySem.F.slot_list_pop, PySem.F.type_list_pop⟩
  | pop1 => exact ⟨PySem.F.plainAttrs_list, PySem.F.slot_list_pop, PySem.F.type_list_pop⟩
  | insert => exact ⟨PySem.F.plainAttrs_list, PySem.F.slot_list_insert, PySem.F.type_list_insert⟩
  | reverse => exact ⟨PySem.F.plainAttrs_list, PySem.F.slot_list_reverse, PySem.F.type_list_reverse⟩
  | index => exact ⟨PySem.F.plainAttrs_list, PySem.F.slot_list_index, PySem.F.type_list_index⟩
  | extend => exact ⟨PySem.F.plainAttrs_list, PySem.F.slot_list_extend, PySem.F.type_list_extend⟩
  | get2 => exact ⟨PySem.F.plainAttrs_dict, PySem.F.slot_dict_get, PySem.F.type_dict_get⟩
  | update => exact ⟨PySem.F.plainAttrs_dict, PySem.F.slot_dict_update, PySem.F.type_dict_update⟩
  | bitlen => exact ⟨PySem.F.plainAttrs_int, PySem.F.slot_int_bit_length, PySem.F.type_int_bit_length⟩
  | split => exact ⟨PySem.F.plainAttrs_str, PySem.F.slot_str_split, PySem.F.type_str_split⟩
  | join => exact ⟨PySem.F.plainAttrs_str, PySem.F.slot_str_join, PySem.F.type_str_join⟩
theorem last_of {T : Tab} {c : Sc} {A B : E} {b d : Expr} {op op' : CmpOp} (h1 : mE T A c b = true) (h2 : mE T B c d = true) : lastMarks [op, op'] [b, d] = false := by
  show lastMarks [op'] [d] = false
  show behindInMarks op' d = false
  exact behind_of h2
theorem pt_ifE {t b o : Expr} {tt tb to : TT} {pos : Pos} (ht : PT X t tt) (hb : PT X b tb) (ho : PT X o to) : PT X (.IfExp t b o pos) (fun σ H Q => tt σ H fun k H1 => if k = true then tb σ H1 Q else to σ H1 Q) := by
  refine ⟨fun pins s σ H Q I h => ?_⟩
  show wpAny _ _ (isTrue t X.env (eval t X.env) >>= fun k => if k = true then isTrue b X.env (eval b X.env) else isTrue o X.env (eval o X.env)) _ _ s
  refine wpAny_bind (thn (ht.run pins s σ H _ I h) fun k s1 ⟨H1, I1, q1⟩ => ?_)
  cases k with
  | true => exact hb.run pins s1 σ H1 Q I1 q1
  | false => exact ho.run pins s1 σ H1 Q I1 q1
end
end Ev

set_option Elab.async false
set_option linter.all false
set_option maxRecDepth 100000
set_option maxHeartbeats 8000000
namespace Ev
open PySem PySem.Spec PyProof.Rows L2
section
variable {T : Tab}
/-- the test's continuation, as HandS has it -/
theorem tB_eq (t : TE) : (fun (σ : L2.St) (H : Hp) (Q : Bool → Hp → Prop) => t σ H fun x H1 => match x with | .bl b => Q b H1 | _ => False) = tB t := by
  funext σ H Q
  unfold tB
  congr 1
  funext x H1
  cases x with
  | bl b => exact propext ⟨fun h => ⟨b, rfl, h⟩, fun ⟨k, e, h⟩ => by cases e; exact h⟩
  | _ => exact propext ⟨fun h => False.elim h, fun ⟨k, e, h⟩ => (by cases e)⟩
theorem tTest_eq (t : TE) : (fun (σ : L2.St) (H : Hp) (Q : Bool → Hp → Prop) => t σ H fun x H1 => match x with | .bl b => Q b H1 | _ => False) = tTest t := by
  rw [tB_eq]
  rfl
theorem ex_bl {x : V} {A : Bool → Prop} : (∃ k, x = .bl k ∧ A k) = (match x with | .bl b => A b | _ => False) := by
  cases x with
  | bl b => exact propext ⟨fun ⟨k, e, h⟩ => (by cases e; exact h), fun h => ⟨b, rfl, h⟩⟩
  | _ => exact propext ⟨fun ⟨k, e, h⟩ => (by cases e), fun h => False.elim h⟩
theorem ex_int {x : V} {A : Int → Prop} : (∃ k, x = .int k ∧ A k) = (match x with | .int b => A b | _ => False) := by
  cases x with
  | int b => exact propext ⟨fun ⟨k, e, h⟩ => (by cases e; exact h), fun h => ⟨b, rfl, h⟩⟩
  | _ => exact propext ⟨fun ⟨k, e, h⟩ => (by cases e), fun h => False.elim h⟩
theorem ex_ref {x : V} {A : Addr → Prop} : (∃ k, x = .ref k ∧ A k) = (match x with | .ref b => A b | _ => False) := by
  cases x with
  | ref b => exact propext ⟨fun ⟨k, e, h⟩ => (by cases e; exact h), fun h => ⟨b, rfl, h⟩⟩
  | _ => exact propext ⟨fun ⟨k, e, h⟩ => (by cases e), fun h => False.elim h⟩
/-- a part of a slice -/
theorem po_of {X : Cx} {lo : E} {l : Option Expr} {c : Sc} (h : (match l with | none => isNonE lo | some y => !isNonE lo && mE T lo c y) = true)
    (hE : ∀ y, l = some y → mE T lo c y = true → PE X y (rdE T X.K lo)) :
    PO X l (fun σ H k => match isNonE lo with | true => k none H | false => rdE T X.K lo σ H fun l H2 => match l with | .int i => k (some i) H2 | _ => False) := by
  cases l with
  | none =>
    have e : isNonE lo = true := h
    simp only [e]
    exact po_none
  | some y =>
    obtain ⟨h1, h2⟩ := band (show (!isNonE lo && mE T lo c y) = true from h)
    have e : isNonE lo = false := by simpa using h1
    simp only [e]
    have q := po_some (hE y rfl h2)
    refine ⟨fun pins s σ H Q I hw => q.run pins s σ H Q I ?_⟩
    unfold tPart
    simp only [ex_int]
    exact hw
/-- a list, a tuple or a text that is walked -/
theorem pi_seq {X : Cx} {tg l : Expr} {tl : TE} (hl : PE X l tl) : PI X tg l (fun σ H R => tl σ H fun x H1 => match x with
      | .ref a => ((∃ xs, SqL X.K H1 a xs) ∧ R (Itl X.K a) H1) ∨ ((∃ xs, SqT X.K H1 a xs) ∧ R (Itt X.K a) H1)
      | .str z => R (Its z) H1
      | _ => False) := by
  refine ⟨fun pins s σ H R I h => ?_⟩
  refine thn (hl.run pins s σ H _ I h) fun v s1 ⟨x, H1, I1, r1, q1⟩ => ?_
  dsimp only at q1
  split at q1
  · rename_i a
    cases r1
    rcases q1 with ⟨⟨xs, hq⟩, q⟩ | ⟨⟨xs, hq⟩, q⟩
    · obtain ⟨its, rv, p, hz⟩ := I1.list hq
      refine wpAny_pyIter_list p.isList ?_
      refine ⟨s1.heap.objs.size, [s1.heap.objs.size], _, _, H1, rfl, I1.kept (t' := s1.toks) fun b o e => Heap.get?_push_of_some _ e, turn_list a _, ⟨_, Heap.get?_push_size _ rfl, rfl, rfl⟩, fun b hb => ?_, q⟩
      have e : b = s1.heap.objs.size := by simpa using hb
      subst e
      exact I1.fpOk (Nat.le_refl _) (I1.hok.fresh (Nat.le_refl _))
    · obtain ⟨its, rv, p, hz⟩ := I1.tuple hq
      refine wpAny_pyIter_tuple (show s1.heap.IsTuple a its.toArray from p) ?_
      refine ⟨s1.heap.objs.size, [s1.heap.objs.size], _, _, H1, rfl, I1.kept (t' := s1.toks) fun b o e => Heap.get?_push_of_some _ e, turn_tuple a _, ⟨_, Heap.get?_push_size _ rfl, rfl, rfl⟩, fun b hb => ?_, q⟩
      have e : b = s1.heap.objs.size := by simpa using hb
      subst e
      exact I1.fpOk (Nat.le_refl _) (I1.hok.fresh (Nat.le_refl _))
  · rename_i x
    obtain ⟨t, rfl⟩ := (show ∃ t, v = Value.str x t from r1)
    cases ha : x.cps.all (· < 128)
    · exact wpAny_pyIter_wide ha (pi_one (tk := s1.toks) I1 _ (turn_str _ x t "str_iterator" (.inr rfl)) ⟨_, Heap.get?_push_size _ rfl, rfl, rfl⟩ q1)
    · exact wpAny_pyIter_ascii ha (pi_one (tk := s1.toks) I1 _ (turn_str _ x t "str_ascii_iterator" (.inl rfl)) ⟨_, Heap.get?_push_size _ rfl, rfl, rfl⟩ q1)
  · exact False.elim q1
theorem set_any {X : Cx} (hu : X.A.units + 1 < cLine) : PSet X (rSet X.K) := by
  intro pins s σ H o i v ov iv u Q I ro ri rv h
  rcases h with h | h
  · exact set_list pins s σ H o i v ov iv u Q I ro ri rv h
  · exact set_dict hu pins s σ H o i v ov iv u Q I ro ri rv h
end
end Ev

set_option Elab.async false
set_option linter.all false
set_option maxRecDepth 100000
set_option maxHeartbeats 8000000
namespace Ev
open PySem PySem.Spec PyProof.Rows L2
section
variable {T : Tab}
/-- a value's reading serves a test, where nothing is special about it -/
def isBO : Expr → Bool
  | .BoolOp .. => true
  | _ => false
theorem wrapV {X : Cx} {E : E} {e : Expr} (he : ∀ whole, isTrue e X.env whole = (do let v ← whole; standAt e.pos; holding [v] (truthy v))) (hb : isBO e = false) (h : PE X e (rdE T X.K E)) :
    PE X e (rdE T X.K E) ∧ PT X e (rdT T X.K E) ∧ (isBO e = true → PW X e (rdT T X.K E)) := by
  refine ⟨h, ?_, fun z => by rw [hb] at z; cases z⟩
  have q := pt_val h he
  rw [← tB_eq] at q
  exact q
theorem sIf : ∀ (E : It') {c : Sc} {tg e : Expr} {env : Env}, mI T E c tg e = true → ∀ x, foldedSetIterable e env x = pure x
  | .seq a, _, _, _, _, h => by
    simp only [mI] at h
    exact folded_of h
  | .rng1 a, _, _, _, _, h => by
    simp only [mI] at h
    split at h
    · exact fun _ => rfl
    · cases h
  | .rng2 a b, _, _, _, _, h => by
    simp only [mI] at h
    split at h
    · exact fun _ => rfl
    · cases h
  | .enum a, _, _, _, _, h => by
    simp only [mI] at h
    split at h
    · exact fun _ => rfl
    · cases h
  | .dct a, _, _, _, _, h => by
    simp only [mI] at h
    exact folded_of h
theorem mG_noStar {c : Sc} {t : Tg} {e : Expr} (h : mG T t c e = true) : noStar e = true := by
  cases e with
  | Starred v p => cases t <;> simp [mG] at h
  | _ => rfl
theorem asg1_cons {e : Expr} {es : List Expr} {env : Env} (h : noStar e = true) : assignEach (e :: es) env = (false, assign e env) :: assignEach es env := by
  cases e <;> first | rfl | cases h
theorem asg_sub {x y : Expr} {pos : Pos} {env : Env} (h : isSlice y = false) (v : Value) : assign (.Subscript x y pos) env v = (do let ov ← holding [v] (eval x env); let iv ← holding [v, ov] (eval y env); standAt pos; holding [v, ov, iv] (setItem ov iv v); release [v, ov, iv] []) := by
  cases y <;> first | rfl | cases h
theorem asg_cons {e : Expr} {es : List Expr} {env : Env} (h : noStar e = true) : (assignEach (e :: es) env).map (·.2) = assign e env :: (assignEach es env).map (·.2) := by
  rw [asg1_cons h] <;> rfl
theorem mGs_star {c : Sc} {env : Env} : ∀ {ts : Tgs} {es : List Expr}, mGs T ts c es = true → assignEach es env = es.map fun e => (false, assign e env)
  | .nil, es, h => by
    cases es with
    | nil => rfl
    | cons _ _ => simp [mGs] at h
  | .cons t ts, es, h => by
    cases es with
    | nil => simp [mGs] at h
    | cons x r =>
      simp only [mGs, Bool.and_eq_true] at h
      rw [asg1_cons (mG_noStar h.1), mGs_star h.2] <;> rfl
theorem mGs_len {c : Sc} : ∀ {ts : Tgs} {es : List Expr}, mGs T ts c es = true → es.length = ts.len
  | .nil, es, h => by
    cases es with
    | nil => rfl
    | cons _ _ => simp [mGs] at h
  | .cons t ts, es, h => by
    cases es with
    | nil => simp [mGs] at h
    | cons x r =>
      simp only [mGs, Bool.and_eq_true] at h
      show r.length + 1 = ts.len + 1
      rw [mGs_len h.2]
theorem starMapG {es : List Expr} {env : Env} : (es.map fun e => (false, assign e env)).findIdx? (·.1) = none := by
  rw [List.findIdx?_eq_none_iff]
  intro x hx
  obtain ⟨y, hy, rfl⟩ := List.mem_map.mp hx
  rfl
theorem dct_pi {X : Cx} {tg e : Expr} {td : TE} (he : PE X e td) : PI X tg e (fun σ H R => td σ H fun x H1 => match x with
      | .ref d => ∃ o, (∃ kvs, H1 d = some (.frz o (.dK kvs)) ∧ R (Itk d o kvs) H1) ∨ ∃ kvs, H1 d = some (.frz o (.dT kvs)) ∧ R (Itkt d o kvs) H1
      | _ => False) := by
  refine pi_imp (pi_keys he) fun σ H R q => ?_
  unfold iKeys
  refine cast ?_ q
  congr 1
  funext x H1
  cases x with
  | ref d => exact propext ⟨fun ⟨o, h⟩ => ⟨d, o, rfl, h⟩, fun ⟨d', o, e, h⟩ => by cases e; exact ⟨o, h⟩⟩
  | _ => exact propext ⟨fun h => False.elim h, fun ⟨d', o, e, h⟩ => by cases e⟩
theorem sKw {c : Sc} {pos : Pos} {env : Env} : ∀ {E : Es} {ks : List Str} {e : List Keyword}, mKs T E c ks e = true → (backToKw pos (keywordEach e env)).all (·.1.isSome) = true ∧ (backToKw pos (keywordEach e env)).filterMap (·.1) = ks ∧
    ((backTo pos (starEach [] env)).any (·.1) || (backToKw pos (keywordEach e env)).any (·.1.isNone)) = false
  | .nil, ks, e, h => by
    simp only [mKs, Bool.and_eq_true, List.isEmpty_iff] at h
    obtain ⟨rfl, rfl⟩ := h
    exact ⟨rfl, rfl, rfl⟩
  | .cons a es, ks, e, h => by
    simp only [mKs] at h
    split at h
    · simp only [Bool.and_eq_true] at h
      obtain ⟨h1, ⟨h2, h3⟩⟩ := h
      have e1 := of_decide_eq_true h1
      subst e1
      obtain ⟨k1, k2, k3⟩ := sKw h3
      refine ⟨?_, ?_, ?_⟩
      · show (true && (backToKw pos (keywordEach _ env)).all (·.1.isSome)) = true
        rw [k1]
        rfl
      · show _ :: (backToKw pos (keywordEach _ env)).filterMap (·.1) = _
        rw [k2]
      · show (false || (backToKw pos (keywordEach _ env)).any (·.1.isNone)) = false
        have k4 : (false || (backToKw pos (keywordEach _ env)).any (·.1.isNone)) = false := k3
        exact k4
    · cases h
mutual
theorem sE : ∀ (E : E) {c : Sc} {X : Cx} {e : Expr}, Fits T c X → mE T E c e = true → PE X e (rdE T X.K E) ∧ PT X e (rdT T X.K E) ∧ (isBO e = true → PW X e (rdT T X.K E))
  | .var i, c, X, e, f, h => by
    simp only [mE] at h
    split at h
    · refine wrapV (fun _ => rfl) rfl ?_
      simp only [Bool.and_eq_true] at h
      obtain ⟨h1, ⟨h2, h3⟩⟩ := h
      refine pe_imp (pe_var (i := i) (by rw [f.hN]; exact of_decide_eq_true h1) (f.vis h2) (okNm_1 h3) (okNm_2 h3)) fun σ H Q q => ?_
      unfold rdE at q
      split at q
      · exact ⟨_, by assumption, q⟩
      · exact False.elim q
    · cases h
  | .cst v, c, X, e, f, h => by
    simp only [mE] at h
    split at h
    · refine wrapV (fun _ => rfl) rfl ?_
      exact pe_imp (cst_ok h) fun σ H Q q => by unfold rdE at q; exact q
    · cases h
  | .ty n, c, X, e, f, h => by
    simp only [mE] at h
    split at h
    · refine wrapV (fun _ => rfl) rfl ?_
      simp only [Bool.and_eq_true] at h
      obtain ⟨h1, ⟨h2, h3⟩⟩ := h
      have e1 := of_decide_eq_true h1
      subst e1
      obtain ⟨b1, b2, b3⟩ := ty_boot (of_decide_eq_true h2)
      obtain ⟨g1, g2⟩ := f.free h3
      refine pe_imp (pe_bltn (v := .ty n) g1 g2 b1 rfl b2 b3) fun σ H Q q => by unfold rdE at q; exact q
    · cases h
  | .glb k, c, X, e, f, h => by
    simp only [mE] at h
    split at h
    · refine wrapV (fun _ => rfl) rfl ?_
      simp only [Bool.and_eq_true] at h
      obtain ⟨h1, ⟨h2, h3⟩⟩ := h
      split at h1
      · rename_i p hp
        have e1 := of_decide_eq_true h1
        subst e1
        obtain ⟨u, m, r⟩ := f.g.cst k p hp
        refine pe_imp (pe_glob (v := p.2) (f.gl h2) m r (okNm_1 h3)) fun σ H Q q => ?_
        unfold rdE at q
        rw [hp] at q
        exact q
      · cases h1
    · cases h
  | .bin op a b, c, X, e, f, h => by
    simp only [mE] at h
    split at h
    · refine wrapV (fun _ => rfl) rfl ?_
      simp only [Bool.and_eq_true] at h
      obtain ⟨h1, ⟨h2, h3⟩⟩ := h
      have e1 := of_decide_eq_true h1
      subst e1
      exact pe_imp (pe_op (op_bin op) (sE a f h2).1 (sE b f h3).1) fun σ H Q q => by unfold rdE at q; exact q
    · cases h
  | .neg a, c, X, e, f, h => by
    simp only [mE] at h
    split at h
    · refine wrapV (fun _ => rfl) rfl ?_
      refine pe_imp (pe_un un_neg (sE a f h).1) fun σ H Q q => ?_
      unfold rdE at q
      unfold tUn rU
      simp only [ex_int]
      exact q
    · cases h
  | .not a, c, X, e, f, h => by
    simp only [mE] at h
    split at h
    · refine ⟨?_, ?_, fun z => by cases z⟩
      · refine pe_imp (pe_not (sE a f h).1) fun σ H Q q => ?_
        unfold rdE at q
        unfold tNotV
        simp only [ex_bl]
        exact q
      · refine pt_imp (pt_not (sE a f h).2.1) fun σ H Q q => ?_
        unfold rdT rdE at q
        unfold tNot rdT
        exact q
    · cases h
  | .cmp op a b, c, X, e, f, h => by
    simp only [mE] at h
    split at h
    · simp only [Bool.and_eq_true] at h
      obtain ⟨h1, ⟨h2, h3⟩⟩ := h
      have e1 := of_decide_eq_true h1
      subst e1
      refine ⟨pe_imp (pe_cmpR (op_cmp f.g.hu op) (sE a f h2).1 (sE b f h3).1 (behind_of h3)) fun σ H Q q => by unfold rdE at q; exact q, ?_, fun z => by cases z⟩
      refine pt_imp (pt_cmpR (op_cmp f.g.hu op) (sE a f h2).1 (sE b f h3).1 (behind_of h3)) fun σ H Q q => ?_
      unfold rdT rdE at q
      unfold tTest
      simp only [ex_bl]
      exact q
    · cases h
  | .chn op op2 a b d, c, X, e, f, h => by
    simp only [mE] at h
    split at h
    · simp only [Bool.and_eq_true] at h
      obtain ⟨⟨h1, h1'⟩, ⟨h2, ⟨h3, h4⟩⟩⟩ := h
      have e1 := of_decide_eq_true h1
      have e2 := of_decide_eq_true h1'
      subst e1 e2
      refine ⟨?_, ?_, fun z => by cases z⟩
      · refine pe_imp (pe_chain (r := fun x y H Q => rCmp X.K op x y H Q) (op_cmp f.g.hu op) (op_cmp f.g.hu op2) (sE a f h2).1 (sE b f h3).1 (sE d f h4).1 (last_of h3 h4)) fun σ H Q q => ?_
        unfold rdE at q
        unfold tChain
        simp only [ex_bl]
        exact q
      · refine pt_imp (pt_chain (r := fun x y H Q => rCmp X.K op x y H Q) (op_cmp f.g.hu op) (op_cmp f.g.hu op2) (sE a f h2).1 (sE b f h3).1 (sE d f h4).1 (last_of h3 h4)) fun σ H Q q => ?_
        unfold rdT rdE at q
        unfold tTest tChain
        simp only [ex_bl]
        exact q
    · cases h
  | .and a b, c, X, e, f, h => by
    simp only [mE] at h
    split at h
    · rename_i x y r pos
      simp only [Bool.and_eq_true] at h
      obtain ⟨h1, h2⟩ := h
      have hb : PE X (.BoolOp .And (y :: r) pos) (rdE T X.K b) ∧ PW X (.BoolOp .And (y :: r) pos) (rdT T X.K b) := by
        split at h2
        · exact ⟨pe_one (sE b f h2).1, pw_and1 (sE b f h2).2.1⟩
        · exact ⟨(sE b f h2).1, (sE b f h2).2.2 rfl⟩
      have hw : PW X (.BoolOp .And (x :: y :: r) pos) (rdT T X.K (.and a b)) := by
        have q := pw_and (sE a f h1).2.1 hb.2
        refine ⟨fun wh pins s σ H Q I hq => q.run wh pins s σ H Q I ?_⟩
        unfold rdT rdE at hq
        unfold tAnd rdT
        refine cast (congrArg (fun z => rdE T X.K a σ H z) ?_) hq
        funext x H1
        cases x with
        | bl k => cases k <;> rfl
        | _ => rfl
      refine ⟨?_, hw.pt, fun _ => hw⟩
      refine pe_imp (pe_and (sE a f h1).1 hb.1) fun σ H Q q => ?_
      unfold rdE at q
      unfold tAndV
      simp only [ex_bl]
      exact q
    · cases h
  | .or a b, c, X, e, f, h => by
    simp only [mE] at h
    split at h
    · rename_i x y r pos
      simp only [Bool.and_eq_true] at h
      obtain ⟨h1, h2⟩ := h
      have hb : PE X (.BoolOp .Or (y :: r) pos) (rdE T X.K b) ∧ PW X (.BoolOp .Or (y :: r) pos) (rdT T X.K b) := by
        split at h2
        · exact ⟨pe_one (sE b f h2).1, pw_or1 (sE b f h2).2.1⟩
        · exact ⟨(sE b f h2).1, (sE b f h2).2.2 rfl⟩
      have hw : PW X (.BoolOp .Or (x :: y :: r) pos) (rdT T X.K (.or a b)) := by
        have q := pw_or (sE a f h1).2.1 hb.2
        refine ⟨fun wh pins s σ H Q I hq => q.run wh pins s σ H Q I ?_⟩
        unfold rdT rdE at hq
        unfold tOr rdT
        refine cast (congrArg (fun z => rdE T X.K a σ H z) ?_) hq
        funext x H1
        cases x with
        | bl k => cases k <;> rfl
        | _ => rfl
      refine ⟨?_, hw.pt, fun _ => hw⟩
      refine pe_imp (pe_or (sE a f h1).1 hb.1) fun σ H Q q => ?_
      unfold rdE at q
      unfold tOrV
      simp only [ex_bl]
      exact q
    · cases h
  | .ite d a b, c, X, e, f, h => by
    simp only [mE] at h
    split at h
    · simp only [Bool.and_eq_true] at h
      obtain ⟨h1, ⟨h2, h3⟩⟩ := h
      refine ⟨?_, ?_, fun z => by cases z⟩
      · refine pe_imp (pe_ifExp (sE d f h1).2.1 (sE a f h2).1 (sE b f h3).1) fun σ H Q q => ?_
        unfold rdE at q
        unfold tIf rdT
        exact q
      · refine pt_imp (pt_ifE (sE d f h1).2.1 (sE a f h2).2.1 (sE b f h3).2.1) fun σ H Q q => ?_
        unfold rdT rdE at q
        unfold rdT
        exact q
    · cases h
  | .tup es, c, X, e, f, h => by
    simp only [mE] at h
    split at h
    · refine wrapV (fun _ => rfl) rfl ?_
      exact pe_imp (pe_tup (sEs es f h)) fun σ H Q q => by unfold rdE at q; exact q
    · cases h
  | .lst es, c, X, e, f, h => by
    simp only [mE] at h
    split at h
    · refine wrapV (fun _ => rfl) rfl ?_
      exact pe_imp (pe_lst (sEs es f h)) fun σ H Q q => by unfold rdE at q; exact q
    · cases h
  | .call k es, c, X, e, f, h => by
    simp only [mE] at h
    split at h
    · refine wrapV (fun _ => rfl) rfl ?_
      rename_i x p xs pos
      simp only [Bool.and_eq_true] at h
      obtain ⟨h1, ⟨⟨h2, h4⟩, h3⟩⟩ := h
      split at h1
      · rename_i d hd
        obtain ⟨h1, h5⟩ := band h1
        have e1 := of_decide_eq_true h1
        subst e1
        obtain ⟨a, fd, kk, ps, m, kp, hr, F, B, _⟩ := (f.g.fns k d hd).ok
        obtain ⟨ds, v1, b1⟩ := B _ (of_decide_eq_true h5)
        have ha := sEs es f h3
        cases xs with
        | nil =>
          refine pe_imp (pe_callG0 (p := p) (pos := pos) f.g.hG F hr (f.gl h2) m kp b1 v1 (pass0 (X := X)) (okNm_1 h4)) fun σ H Q q => ?_
          unfold rdE at q
          rw [hd] at q
          cases es with
          | nil => unfold rdEs at q; exact q
          | cons _ _ => simp [mEs] at h3
        | cons y ys =>
          have st := mEs_star (env := X.env) h3
          have hy : starEach (y :: ys) X.env = (false, eval y X.env) :: starEach ys X.env ∧ starEach ys X.env = ys.map fun e => (false, eval e X.env) := by
            cases es with
            | nil => simp [mEs] at h3
            | cons e1 es1 =>
              simp only [mEs] at h3
              obtain ⟨k1, k2⟩ := band h3
              exact ⟨star_cons (mE_noStar k1), mEs_star k2⟩
          refine pe_imp (pe_callG f.g.hG F hr (f.gl h2) m kp b1 v1 pass0 ha (okNm_1 h4) hy.1 (by rw [hy.2]; exact starMap_any)) fun σ H Q q => ?_
          unfold rdE at q
          rw [hd] at q
          exact q
      · cases h1
    · cases h
  | .blt b es, c, X, e, f, h => by
    simp only [mE] at h
    split at h
    · refine wrapV (fun _ => rfl) rfl ?_
      rename_i x p y xs pos
      simp only [Bool.and_eq_true] at h
      obtain ⟨h1, ⟨h2, h3⟩⟩ := h
      have e1 := of_decide_eq_true h1
      subst e1
      obtain ⟨g1, g2⟩ := f.free h2
      have hy : starEach (y :: xs) X.env = (false, eval y X.env) :: starEach xs X.env ∧ starEach xs X.env = xs.map fun e => (false, eval e X.env) := by
        cases es with
        | nil => simp [mEs] at h3
        | cons e1 es1 =>
          simp only [mEs] at h3
          obtain ⟨k1, k2⟩ := band h3
          exact ⟨star_cons (mE_noStar k1), mEs_star k2⟩
      exact pe_imp (pe_blt f.g.calm f.g.hG f.g.hu g1 g2 (sEs es f h3) hy.1 (by rw [hy.2]; exact starMap_any)) fun σ H Q q => by unfold rdE at q; exact q
    · cases h
  | .mth m o es, c, X, e, f, h => by
    simp only [mE] at h
    split at h
    · refine wrapV (fun _ => rfl) rfl ?_
      rename_i y a apos xs cpos
      simp only [Bool.and_eq_true] at h
      obtain ⟨h1, ⟨h2, ⟨h3, ⟨h4, ⟨h5, h6⟩⟩⟩⟩⟩ := h
      have e1 := of_decide_eq_true h1
      subst e1
      obtain ⟨m1, m2, m3⟩ := mth_facts m
      have hu : X.A.units + 1 < cLine := by have := f.g.hu; omega
      cases xs with
      | nil =>
        refine pe_imp (pe_bm0 m1 m2 m3 (mth_ok hu m) (sE o f h5).1 (base_of h2) h3) fun σ H Q q => ?_
        unfold rdE at q
        cases es with
        | nil => unfold rdEs at q; exact q
        | cons _ _ => simp [mEs] at h6
      | cons z zs =>
        have hy : starEach (z :: zs) X.env = (false, eval z X.env) :: starEach zs X.env ∧ starEach zs X.env = zs.map fun e => (false, eval e X.env) := by
          cases es with
          | nil => simp [mEs] at h6
          | cons e1 es1 =>
            simp only [mEs] at h6
            obtain ⟨k1, k2⟩ := band h6
            exact ⟨star_cons (mE_noStar k1), mEs_star k2⟩
        have hl := of_decide_eq_true h4
        refine pe_imp (pe_bm m1 m2 m3 (mth_ok hu m) (sE o f h5).1 (sEs es f h6) (base_of h2) ?_ h3 hy.1 (by rw [hy.2]; exact starMap_any)) fun σ H Q q => by unfold rdE at q; exact q
        rw [hy.1, hy.2]
        have k1 : ((backTo cpos ((false, eval z X.env) :: zs.map fun e => (false, eval e X.env))).all fun x => !x.1) = true := by
          have := starMap_any (es := z :: zs) (env := X.env) (pos := cpos)
          rw [List.all_eq_true]
          intro w hw
          have h9 := List.any_eq_false.mp this w hw
          simpa using h9
        rw [k1]
        simp only [List.length_cons] at hl
        simp [backToKw, keywordEach]
        omega
    · cases h
  | .sub a b, c, X, e, f, h => by
    simp only [mE] at h
    split at h
    · refine wrapV (fun _ => rfl) rfl ?_
      simp only [Bool.and_eq_true] at h
      obtain ⟨h1, ⟨h2, h3⟩⟩ := h
      have hu : X.A.units + 1 < cLine := by have := f.g.hu; omega
      exact pe_imp (pe_ix (ix_ixx hu) (sE a f h2).1 (sE b f h3).1 (sub_of (by simpa using h1))) fun σ H Q q => by unfold rdE at q; exact q
    · cases h
  | .slc a lo hi, c, X, e, f, h => by
    simp only [mE] at h
    split at h
    · refine wrapV (fun _ => rfl) rfl ?_
      simp only [Bool.and_eq_true] at h
      obtain ⟨h1, ⟨h2, h3⟩⟩ := h
      refine pe_imp (pe_slice sl_any (sE a f h1).1 (po_of h2 fun y _ hy => (sE lo f hy).1) (po_of h3 fun y _ hy => (sE hi f hy).1)) fun σ H Q q => ?_
      unfold rdE at q
      exact q
    · cases h
  | .rev a, c, X, e, f, h => by
    simp only [mE] at h
    split at h
    · refine wrapV (fun _ => rfl) rfl ?_
      refine pe_imp (pe_revL (sE a f h).1) fun σ H Q q => ?_
      unfold rdE at q
      unfold tRevL
      have ee : ∀ (x : V) (H1 : Hp), (∃ a xs, x = .ref a ∧ SqL X.K H1 a xs ∧ ∀ p, H1 p = none → Q (.ref p) (upd H1 p (.lst xs.reverse))) =
          (match x with | .ref a => ∃ xs, SqL X.K H1 a xs ∧ ∀ p, H1 p = none → Q (.ref p) (upd H1 p (.lst xs.reverse)) | _ => False) := fun x H1 => by
        cases x <;> simp
      simp only [ee]
      exact q
    · cases h
  | .lrng1 a, c, X, e, f, h => by
    simp only [mE] at h
    split at h
    · refine wrapV (fun _ => rfl) rfl ?_
      simp only [Bool.and_eq_true] at h
      obtain ⟨h1, ⟨h2, ⟨h3, ⟨h4, h5⟩⟩⟩⟩ := h
      have e1 := of_decide_eq_true h1
      have e2 := of_decide_eq_true h2
      subst e1 e2
      obtain ⟨g1, g2⟩ := f.free h3
      obtain ⟨g3, g4⟩ := f.free h4
      refine pe_imp (pe_listRg f.g.calm g1 g2 (prg_1 g3 g4 (sE a f h5).1 (star_cons (mE_noStar h5)))) fun σ H Q q => ?_
      unfold rdE at q
      unfold tLstRg tRg1
      simp only [ex_int]
      exact q
    · cases h
  | .lrng2 a b, c, X, e, f, h => by
    simp only [mE] at h
    split at h
    · refine wrapV (fun _ => rfl) rfl ?_
      simp only [Bool.and_eq_true] at h
      obtain ⟨h1, ⟨h2, ⟨h3, ⟨h4, ⟨h5, h6⟩⟩⟩⟩⟩ := h
      have e1 := of_decide_eq_true h1
      have e2 := of_decide_eq_true h2
      subst e1 e2
      obtain ⟨g1, g2⟩ := f.free h3
      obtain ⟨g3, g4⟩ := f.free h4
      refine pe_imp (pe_listRg f.g.calm g1 g2 (prg_2 g3 g4 (sE a f h5).1 (sE b f h6).1 (star_cons (mE_noStar h5)) (star_cons (mE_noStar h6)) (by rw [star_cons (mE_noStar h6)] <;> rfl))) fun σ H Q q => ?_
      unfold rdE at q
      unfold tLstRg tRg2
      have ee : ∀ (x y : V) (A : Int → Int → Prop), (∃ i j, x = .int i ∧ y = .int j ∧ A i j) = (match x, y with | .int i, .int j => A i j | _, _ => False) := fun x y A => by
        cases x <;> cases y <;> simp
      simp only [ee]
      exact q
    · cases h
  | .dict0 t, c, X, e, f, h => by
    simp only [mE] at h
    split at h
    · refine wrapV (fun _ => rfl) rfl ?_
      cases t with
      | true => exact pe_imp pe_dnewT fun σ H Q q => by unfold rdE at q; exact q
      | false => exact pe_imp pe_dnewK fun σ H Q q => by unfold rdE at q; exact q
    · cases h
  | .dict1 a b, c, X, e, f, h => by
    simp only [mE] at h
    split at h
    · refine wrapV (fun _ => rfl) rfl ?_
      simp only [Bool.and_eq_true] at h
      have hu : X.A.units + 1 < cLine := by have := f.g.hu; omega
      exact pe_imp (pe_disp1T hu (sE a f h.1).1 (sE b f h.2).1) fun σ H Q q => by unfold rdE at q; exact q
    · cases h
  | .dc own k v tg it ifs, c, X, e, f, h => by
    simp only [mE] at h
    split at h
    · refine wrapV (fun _ => rfl) rfl ?_
      simp only [Bool.and_eq_true] at h
      obtain ⟨h1, ⟨h2, ⟨h3, ⟨h4, ⟨h5, h6⟩⟩⟩⟩⟩ := h
      refine pe_imp (pe_dc f.g.calm f.g.nd (sI it f h2) (blkOk_by (own := own) (by rw [f.hN, f.hs]; exact h1)) (fun s H C cl fp => sG tg (f.blk s H _ C cl fp) h6) (fun s H C cl fp => sTs ifs (f.blk s H _ C cl fp) h3)
        (fun s H C cl fp => (sE k (f.blk s H _ C cl fp) h4).1) (fun s H C cl fp => (sE v (f.blk s H _ C cl fp) h5).1) (sIf it h2)) fun σ H Q q => by unfold rdE at q; exact q
    · cases h
  | .lock own elt tg d ifs, c, X, e, f, h => by
    simp only [mE] at h
    split at h
    · refine wrapV (fun _ => rfl) rfl ?_
      simp only [Bool.and_eq_true] at h
      obtain ⟨h1, ⟨h2, ⟨h3, ⟨h4, h5⟩⟩⟩⟩ := h
      refine pe_imp (pe_lock (pe_lc f.g.calm f.g.nd (dct_pi (sE d f h2).1) (blkOk_by (own := own) (by rw [f.hN, f.hs]; exact h1)) (fun s H C cl fp => sG tg (f.blk s H _ C cl fp) h5) (fun s H C cl fp => sTs ifs (f.blk s H _ C cl fp) h3)
        (fun s H C cl fp => (sE elt (f.blk s H _ C cl fp) h4).1) (folded_of h2))) fun σ H Q q => by unfold rdE at q; exact q
    · cases h
  | .kcall k ks pm es, c, X, e, f, h => by
    simp only [mE] at h
    split at h
    · refine wrapV (fun _ => rfl) rfl ?_
      rename_i x p kws pos
      simp only [Bool.and_eq_true] at h
      obtain ⟨h1, ⟨⟨h2, h4⟩, h3⟩⟩ := h
      split at h1
      · rename_i d hd
        obtain ⟨h1, h5⟩ := band h1
        have e1 := of_decide_eq_true h1
        subst e1
        obtain ⟨a, fd, kk, ps, m, kp, hr, F, _, B⟩ := (f.g.fns k d hd).ok
        have hk := sKw (pos := pos) (env := X.env) h3
        refine pe_imp (pe_callGK (p := p) (pos := pos) f.g.hG F hr (f.gl h2) m kp (B (ks, pm) (of_decide_eq_true h5)) (pass0 (X := X)) (sKs es f h3) hk.1 hk.2.1 (okNm_1 h4) hk.2.2) fun σ H Q q => ?_
        unfold rdE at q
        rw [hd] at q
        exact q
      · cases h1
    · cases h
  | .lc own elt tg it ifs, c, X, e, f, h => by
    simp only [mE] at h
    split at h
    · refine wrapV (fun _ => rfl) rfl ?_
      simp only [Bool.and_eq_true] at h
      obtain ⟨h1, ⟨h2, ⟨h3, ⟨h4, h5⟩⟩⟩⟩ := h
      refine pe_imp (pe_lc f.g.calm f.g.nd (sI it f h2) (blkOk_by (own := own) (by rw [f.hN, f.hs]; exact h1)) (fun s H C cl fp => sG tg (f.blk s H _ C cl fp) h5) (fun s H C cl fp => sTs ifs (f.blk s H _ C cl fp) h3)
        (fun s H C cl fp => (sE elt (f.blk s H _ C cl fp) h4).1) (sIf it h2)) fun σ H Q q => by unfold rdE at q; exact q
    · cases h
theorem sTs : ∀ (E : Es) {c : Sc} {X : Cx} {e : List Expr}, Fits T c X → mTs T E c e = true → PTs X e (rdTs T X.K E)
  | .nil, c, X, e, f, h => by
    cases e with
    | nil => exact ⟨fun pins s σ H Q I q => pts_nil.run pins s σ H Q I (by unfold rdTs at q; exact q)⟩
    | cons _ _ => simp [mTs] at h
  | .cons a es, c, X, e, f, h => by
    simp only [mTs] at h
    split at h
    · exact ⟨fun pins s σ H Q I q => (pts_one (sE a f h).2.1).run pins s σ H Q I (by unfold rdTs at q; exact q)⟩
    · cases h
theorem sEs : ∀ (E : Es) {c : Sc} {X : Cx} {e : List Expr}, Fits T c X → mEs T E c e = true → PA X e (rdEs T X.K E)
  | .nil, c, X, e, f, h => by
    cases e with
    | nil => exact ⟨fun pos pins s σ H Q I q => pa_nil.run pos pins s σ H Q I (by unfold rdEs at q; exact q)⟩
    | cons _ _ => simp [mEs] at h
  | .cons a es, c, X, e, f, h => by
    cases e with
    | nil => simp [mEs] at h
    | cons x r =>
      simp only [mEs] at h
      simp only [Bool.and_eq_true] at h
      obtain ⟨h1, h2⟩ := h
      exact ⟨fun pos pins s σ H Q I q => (pa_cons (sE a f h1).1 (sEs es f h2) (star_cons (mE_noStar h1))).run pos pins s σ H Q I (by unfold rdEs at q; exact q)⟩
theorem sKs : ∀ (E : Es) {c : Sc} {X : Cx} {ks : List Str} {e : List Keyword}, Fits T c X → mKs T E c ks e = true → PK X e (rdEs T X.K E)
  | .nil, c, X, ks, e, f, h => by
    cases e with
    | nil => exact ⟨fun pos pins s σ H Q I q => pk_nil.run pos pins s σ H Q I (by unfold rdEs at q; exact q)⟩
    | cons _ _ => simp [mKs] at h
  | .cons a es, c, X, ks, e, f, h => by
    simp only [mKs] at h
    split at h
    · simp only [Bool.and_eq_true] at h
      obtain ⟨h1, ⟨h2, h3⟩⟩ := h
      exact ⟨fun pos pins s σ H Q I q => (pk_cons (sE a f h2).1 (sKs es f h3)).run pos pins s σ H Q I (by unfold rdEs at q; exact q)⟩
    · cases h
theorem sI : ∀ (E : It') {c : Sc} {X : Cx} {tg e : Expr}, Fits T c X → mI T E c tg e = true → PI X tg e (rdI T X.K E)
  | .seq a, c, X, tg, e, f, h => by
    simp only [mI] at h
    exact pi_imp (pi_seq (sE a f h).1) fun σ H R q => by unfold rdI at q; exact q
  | .rng1 a, c, X, tg, e, f, h => by
    simp only [mI] at h
    split at h
    · rename_i x p y pos
      simp only [Bool.and_eq_true] at h
      obtain ⟨h1, h2, h3⟩ := h
      have e1 := of_decide_eq_true h1
      subst e1
      obtain ⟨g1, g2⟩ := f.free h2
      have st : starEach [y] X.env = [(false, eval y X.env)] := by rw [star_cons (mE_noStar h3)] <;> rfl
      have ha : PA X [y] (fun σ H Q => rdE T X.K a σ H fun x H1 => Q [x] H1) := pa_cons (sE a f h3).1 pa_nil (star_cons (mE_noStar h3))
      refine pi_imp (pi_range1 g1 g2 ha st) fun σ H R q => ?_
      unfold rdI at q
      unfold iRng1
      have ee : ∀ (x : V) (A : Int → Prop), (∃ j : Int, [x] = [V.int j] ∧ A j) = (match x with | .int j => A j | _ => False) := fun x A => by
        cases x <;> simp
      simp only [ee]
      exact q
    · cases h
  | .rng2 a b, c, X, tg, e, f, h => by
    simp only [mI] at h
    split at h
    · rename_i x p y z pos
      simp only [Bool.and_eq_true] at h
      obtain ⟨h1, h2, h3, h4⟩ := h
      have e1 := of_decide_eq_true h1
      subst e1
      obtain ⟨g1, g2⟩ := f.free h2
      have st2 : starEach [z] X.env = [(false, eval z X.env)] := by rw [star_cons (mE_noStar h4)] <;> rfl
      have st : starEach [y, z] X.env = [(false, eval y X.env), (false, eval z X.env)] := by rw [star_cons (mE_noStar h3), st2]
      have ha : PA X [y, z] (fun σ H Q => rdE T X.K a σ H fun x H1 => rdE T X.K b σ H1 fun y H2 => Q [x, y] H2) := pa_cons (sE a f h3).1 (pa_cons (sE b f h4).1 pa_nil (star_cons (mE_noStar h4))) (star_cons (mE_noStar h3))
      refine pi_imp (pi_range2 g1 g2 ha st st2) fun σ H R q => ?_
      unfold rdI at q
      unfold iRng2
      have ee : ∀ (x y : V) (A : Int → Int → Prop), (∃ i j : Int, [x, y] = [V.int i, V.int j] ∧ A i j) = (match x, y with | .int i, .int j => A i j | _, _ => False) := fun x y A => by
        cases x with
        | int i => cases y with
          | int j => exact propext ⟨fun ⟨_, _, e, h⟩ => (by cases e; exact h), fun h => ⟨i, j, rfl, h⟩⟩
          | _ => exact propext ⟨fun ⟨_, _, e, h⟩ => (by cases e), fun h => False.elim h⟩
        | _ => exact propext ⟨fun ⟨_, _, e, h⟩ => (by cases e), fun h => False.elim h⟩
      simp only [ee]
      exact q
    · cases h
  | .enum a, c, X, tg, e, f, h => by
    simp only [mI] at h
    split at h
    · rename_i elts kk tpos x p y pos
      simp only [Bool.and_eq_true] at h
      obtain ⟨h1, h2, h3⟩ := h
      have e1 := of_decide_eq_true h1
      subst e1
      obtain ⟨g1, g2⟩ := f.free h2
      have st : starEach [y] X.env = [(false, eval y X.env)] := by rw [star_cons (mE_noStar h3)] <;> rfl
      have ha : PA X [y] (fun σ H Q => rdE T X.K a σ H fun x H1 => Q [x] H1) := pa_cons (sE a f h3).1 pa_nil (star_cons (mE_noStar h3))
      refine pi_imp (pi_enum g1 g2 ha st) fun σ H R q => ?_
      unfold rdI at q
      unfold iEnum
      have ee : ∀ (x : V) (H1 : Hp), (∃ a xs, [x] = [V.ref a] ∧ SqL X.K H1 a xs ∧ R (Ite X.K a) H1) = (match x with | .ref a => (∃ xs, SqL X.K H1 a xs) ∧ R (Ite X.K a) H1 | _ => False) := fun x H1 => by
        cases x <;> simp
      simp only [ee]
      exact q
    · cases h
  | .dct a, c, X, tg, e, f, h => by
    simp only [mI] at h
    exact pi_imp (dct_pi (sE a f h).1) fun σ H R q => by unfold rdI at q; exact q
theorem sG : ∀ (E : Tg) {c : Sc} {X : Cx} {e : Expr}, Fits T c X → mG T E c e = true → PG X e (rdG T X.K E)
  | .nm i, c, X, e, f, h => by
    simp only [mG] at h
    split at h
    · obtain ⟨k1, k2, k3⟩ := f.store h
      exact pg_imp (pg_name f.g.nd k1 k2 k3) fun v σ H Q q => by unfold rdG at q; exact q
    · cases h
  | .tp ts, c, X, e, f, h => by
    simp only [mG] at h
    split at h
    · rename_i xs kk pos
      have st := mGs_star (env := X.env) h
      refine pg_imp (pg_any (n := ts.len) f.g.calm (sGs ts f h) (by rw [st, List.length_map]; exact mGs_len h) (by rw [st]; exact starMapG)) fun v σ H Q q => ?_
      unfold rdG at q
      cases v with
      | ref a => obtain ⟨xs, h1, h2, h3⟩ := q; exact ⟨a, xs, rfl, h1, h2, h3⟩
      | _ => exact False.elim q
    · cases h
  | .sub o i, c, X, e, f, h => by
    simp only [mG] at h
    split at h
    · simp only [Bool.and_eq_true] at h
      obtain ⟨h1, h2, h3⟩ := h
      have hu : X.A.units + 1 < cLine := by have := f.g.hu; omega
      exact pg_imp (pg_sub (sE o f h2).1 (sE i f h3).1 (set_any hu) (asg_sub (by simpa using h1))) fun v σ H Q q => by unfold rdG at q; exact q
    · cases h
theorem sGs : ∀ (E : Tgs) {c : Sc} {X : Cx} {e : List Expr}, Fits T c X → mGs T E c e = true → PGs X e (rdGs T X.K E)
  | .nil, c, X, e, f, h => by
    cases e with
    | nil =>
      refine ⟨fun pins s σ H vs us Q I r q => pgs_nil.run pins s σ H vs us Q I r ?_⟩
      unfold rdGs at q
      split at q
      · exact ⟨rfl, q⟩
      · exact False.elim q
    | cons _ _ => simp [mGs] at h
  | .cons a es, c, X, e, f, h => by
    cases e with
    | nil => simp [mGs] at h
    | cons x r =>
      simp only [mGs, Bool.and_eq_true] at h
      obtain ⟨h1, h2⟩ := h
      refine ⟨fun pins s σ H vs us Q I rr q => (pgs_cons (sG a f h1) (sGs es f h2) (asg_cons (mG_noStar h1))).run pins s σ H vs us Q I rr ?_⟩
      unfold rdGs at q
      split at q
      · exact ⟨_, _, rfl, q⟩
      · exact False.elim q
end
end
end Ev

set_option Elab.async false
set_option linter.all false
set_option maxRecDepth 100000
set_option maxHeartbeats 4000000
namespace Ev
open PySem PySem.Spec PyProof.Rows L2
/-! ### what the pair on the left stores, as the program's text tells it -/
def swOf (sc : Scope) (t v : Expr) : Option (Option (List Str)) :=
  match t, v with
  | .Tuple ts _ _, .Tuple vs _ _ =>
    if (!(ts.length == 2 || ts.length == 3) || vs.length != ts.length) = true then some none else
    if (vs.any fun | .Starred .. => true | _ => false) = true then some none else
    let line := (ts.head?.map (·.pos.line)).getD 0
    let names := ts.filterMap fun
      | .Name id pos => if (sc.names.lookup id == some .local && pos.line == line) = true then some id else none
      | _ => none
    if (names.length != ts.length || names.eraseDups.length != names.length) = true then some none else
    if (vs.all (foldedForSure 8)) = true then some none else
    if (vs.all (constantsAlone 8)) = true then none else some (some names)
  | .List _ _, .Tuple _ _ _ => none
  | _, _ => some none
theorem swOf_ok {t v : Expr} {env : Env} {r : Option (List Str)} (hk : env.scope.kind = .function) (h : swOf env.scope t v = some r) : swappedStores [t] v env = pure r := by
  have hb : env.blockKind = .function := by unfold Env.blockKind; rw [hk]; rfl
  unfold swOf at h
  split at h
  · unfold swappedStores
    simp only [hb]
    dsimp only at h
    split at h
    · rename_i h1
      cases h
      simp only [h1, Bool.true_or, if_true]
    · rename_i h1
      rw [Bool.not_eq_true] at h1
      simp only [h1, Bool.false_or, bne_self_eq_false, Bool.false_eq_true, if_false]
      split at h
      · rename_i h2
        cases h
        exact if_pos h2
      · rename_i h2
        refine (if_neg h2).trans ?_
        split at h
        · rename_i h3
          cases h
          exact if_pos h3
        · rename_i h3
          refine (if_neg h3).trans ?_
          split at h
          · rename_i h4
            cases h
            exact if_pos h4
          · rename_i h4
            refine (if_neg h4).trans ?_
            split at h
            · cases h
            · rename_i h5
              cases h
              exact if_neg h5
  · cases h
  · rename_i n1 n2
    cases h
    unfold swappedStores
    split
    · rename_i ts vs hh
      split at hh
      · rename_i e1 e2
        cases e1
        cases e2
        exact (n1 _ _ _ _ _ _ rfl rfl).elim
      · rename_i e1 e2
        cases e1
        cases e2
        exact (n2 _ _ _ _ _ rfl rfl).elim
      · cases hh
    · rfl
def isComp : Expr → Bool
  | .ListComp .. => true
  | .SetComp .. => true
  | .DictComp .. => true
  | _ => false
/-- no comprehension whose list goes at once to a local name -/
def swB (sc : Scope) (t v : Expr) : Bool :=
  !isComp v || (match t with
    | .Name x px => !(px.line == v.pos.line) || !(sc.names.lookup x == some .local)
    | _ => true)
theorem swB_no {v : Expr} {t : Option Expr} {l : Nat} {env : Env} (h : isComp v = false) : swapsWith v t l env = pure false := by
  cases v <;> first | rfl | cases h
theorem swB_ok {t v : Expr} {l : Nat} {env : Env} (h : swB env.scope t v = true) : swapsWithSole [t] v l env = pure false := by
  show swapsWith v (some t) l env = pure false
  unfold swB at h
  cases hc : isComp v with
  | false => exact swB_no hc
  | true =>
    rw [hc] at h
    simp only [Bool.not_true, Bool.false_or] at h
    have k : ∀ (s : Scope) (x : Str) (px : Pos), (!(px.line == v.pos.line) || !(env.scope.names.lookup x == some .local)) = true →
        (env.blockKind == .function && env.kindOf x == some .local && px.line == v.pos.line && !(s.names.any fun (n, k) => n == x && (k == .local || k == .cell))) = false := fun s x px h => by
      have e : env.kindOf x = env.scope.names.lookup x := rfl
      rw [e]
      cases h1 : (px.line == v.pos.line) with
      | false => simp
      | true =>
        rw [h1] at h
        simp only [Bool.not_true, Bool.false_or, Bool.not_eq_true'] at h
        rw [h]
        simp
    unfold swapsWith
    cases v with
    | ListComp e gs s p =>
      cases t with
      | Name x px => exact congrArg pure (k s x px h)
      | _ => rfl
    | SetComp e gs s p =>
      cases t with
      | Name x px => exact congrArg pure (k s x px h)
      | _ => rfl
    | DictComp e e2 gs s p =>
      cases t with
      | Name x px => exact congrArg pure (k s x px h)
      | _ => rfl
    | _ => cases hc
def locB (sc : Scope) (x : Str) : Bool := sc.names.lookup x == some .local
def funB (sc : Scope) : Bool := sc.kind == .function
def freshB (scope : Scope) (y : Str) : Bool := !(scope.names.any fun (n, k) => n == y && (k == .local || k == .cell))
mutual
def mS (T : Tab) : S → Sc → Stmt → Bool
  | .set t e, c, st => match st with | .Assign [tg] v _ => (swB c.sc tg v && (decide (swOf c.sc tg v = some none) && funB c.sc)) && (mE T e c v && mG T t c tg) | _ => false
  | .par2 i j a b, c, st => match st with
      | .Assign [.Tuple [.Name x px, .Name y py] kt pt] (.Tuple [u, v] k2 pt2) _ =>
        (decide (c.N[i]? = some x) && (decide (c.N[j]? = some y) && (decide (i ≠ j) && (locB c.sc x && (locB c.sc y && (funB c.sc && decide (swOf c.sc (.Tuple [.Name x px, .Name y py] kt pt) (.Tuple [u, v] k2 pt2) = some (some [x, y])))))))) && (mE T a c u && mE T b c v)
      | _ => false
  | .par3 i j k a b d, c, st => match st with
      | .Assign [.Tuple [.Name x px, .Name y py, .Name z pz] kt pt] (.Tuple [u, v, w] k2 pt2) _ =>
        (decide (c.N[i]? = some x) && (decide (c.N[j]? = some y) && (decide (c.N[k]? = some z) && ((decide (i ≠ j) && (decide (i ≠ k) && decide (j ≠ k))) && (locB c.sc x && (locB c.sc y && (locB c.sc z && (funB c.sc && decide (swOf c.sc (.Tuple [.Name x px, .Name y py, .Name z pz] kt pt) (.Tuple [u, v, w] k2 pt2) = some (some [x, y, z])))))))))) && (mE T a c u && (mE T b c v && mE T d c w))
      | _ => false
  | .setlc i own elt tg it ifs, c, st => match st with
      | .Assign [.Name y py] (.ListComp e [⟨t, ix, fs, 0⟩] scope p) _ =>
        (decide (c.N[i]? = some y) && (locB c.sc y && ((py.line == p.line) && (freshB scope y && funB c.sc)))) && (blkC c.N c.sc scope own && (mI T it c t ix && (mTs T ifs (blkSc c scope) fs && (mE T elt (blkSc c scope) e && mG T tg (blkSc c scope) t))))
      | _ => false
  | .augn i op e, c, st => match st with | .AugAssign (.Name x _) op' v _ => decide (op = op') && (stB c i x && mE T e c v) | _ => false
  | .augs _ _ _ _, _, _ => false
  | .exp e, c, st => match st with | .Expr v _ => !isComp v && mE T e c v | _ => false
  | .ret e, c, st => match st with | .Return (some v) _ => mE T e c v | _ => false
  | .ite d a b, c, st => match st with | .If x y z _ => mE T d c x && (mSs T a c y && mSs T b c z) | _ => false
  | .while d b, c, st => match st with | .While x y [] _ => mE T d c x && mSs T b c y | _ => false
  | .for tg it b, c, st => match st with | .For t ix y [] _ => mI T it c t ix && (mG T tg c t && mSs T b c y) | _ => false
  | .lock a, c, st => match st with | .For _ _ _ _ _ => mS T a c st | _ => false
  | .cont, _, st => match st with | .Continue _ => true | _ => false
  | .brk, _, st => match st with | .Break _ => true | _ => false
  | .pass, _, st => match st with | .Pass _ => true | _ => false
  | .never, _, _ => true
def mSs (T : Tab) : Ss → Sc → List Stmt → Bool
  | .nil, _, xs => xs.isEmpty
  | .cons s ss, c, xs => match xs with | x :: r => mS T s c x && mSs T ss c r | [] => false
end
theorem locB_ok {sc : Scope} {x : Str} (h : locB sc x = true) : sc.names.lookup x = some .local := eq_of_beq h
theorem ip_aug {X : Cx} (op : Operator) : PIp X op (rAug op) := by
  intro pins s σ H x y v u Q I r1 r2 h
  unfold rAug at h
  split at h
  · exact ip_add pins s σ H _ _ v u Q I r1 r2 ⟨_, _, rfl, rfl, h⟩
  · exact ip_sub pins s σ H _ _ v u Q I r1 r2 ⟨_, _, rfl, rfl, h⟩
  · exact h.elim

section
variable {T : Tab}
theorem sw_fresh {scope : Scope} {y : Str} (h : freshB scope y = true) : (scope.names.any fun (n, k) => n == y && (k == .local || k == .cell)) = false := by
  unfold freshB at h
  rwa [Bool.not_eq_true'] at h
mutual
theorem sS : ∀ (E : S) {c : Sc} {X : Cx} {e : Stmt}, Fits T c X → PassesOwn (model X.prog X.w) X.A X.env X.xe → mS T E c e = true → PS X e (rdS T X.K E)
  | .set t e, c, X, st, f, hp, h => by
    simp only [mS] at h
    split at h
    · simp only [Bool.and_eq_true] at h
      obtain ⟨⟨h1, ⟨h2, h3⟩⟩, ⟨h4, h5⟩⟩ := h
      refine ps_imp (ps_asg (sE e f h4).1 (sG t f h5) (swB_ok (by rw [f.hs]; exact h1)) (swOf_ok (by rw [f.hs]; exact eq_of_beq h3) (by rw [f.hs]; exact of_decide_eq_true h2)) (asg_cons (es := []) (mG_noStar h5))) fun D σ H q => ?_
      unfold rdS at q
      exact q
    · cases h
  | .par2 i j a b, c, X, st, f, hp, h => by
    simp only [mS] at h
    split at h
    · simp only [Bool.and_eq_true] at h
      obtain ⟨⟨h1, ⟨h2, ⟨h3, ⟨h4, ⟨h5, ⟨h6, h7⟩⟩⟩⟩⟩⟩, ⟨h8, h9⟩⟩ := h
      refine ps_imp (ps_par f.g.calm f.g.nd (by rw [f.hN]; exact of_decide_eq_true h1) (by rw [f.hN]; exact of_decide_eq_true h2) (of_decide_eq_true h3) (by rw [f.hs]; exact locB_ok h4) (by rw [f.hs]; exact locB_ok h5)
        (pa_cons (sE a f h8).1 (pa_cons (sE b f h9).1 pa_nil (star_cons (mE_noStar h9))) (star_cons (mE_noStar h8))) (swOf_ok (by rw [f.hs]; exact eq_of_beq h6) (by rw [f.hs]; exact of_decide_eq_true h7))) fun D σ H q => ?_
      unfold rdS at q
      have e0 : ∀ (x y : V) (A : V → V → Prop), (∃ v w, [x, y] = [v, w] ∧ A v w) = A x y := fun x y A => propext ⟨fun ⟨v, w, e, h⟩ => (by cases e; exact h), fun h => ⟨x, y, rfl, h⟩⟩
      unfold tPar
      show rdE T X.K a σ H fun x H1 => rdE T X.K b σ H1 fun y H2 => ∃ v w, [x, y] = [v, w] ∧ D.nx ((σ.set i (some v)).set j (some w)) H2
      simp only [e0]
      exact q
    · cases h
  | .par3 i j k a b d, c, X, st, f, hp, h => by
    simp only [mS] at h
    split at h
    · simp only [Bool.and_eq_true] at h
      obtain ⟨⟨h1, ⟨h2, ⟨h3, ⟨⟨n1, ⟨n2, n3⟩⟩, ⟨h4, ⟨h5, ⟨h6, ⟨h7, h8⟩⟩⟩⟩⟩⟩⟩⟩, ⟨m1, ⟨m2, m3⟩⟩⟩ := h
      refine ps_imp (ps_par3 f.g.calm f.g.nd (by rw [f.hN]; exact of_decide_eq_true h1) (by rw [f.hN]; exact of_decide_eq_true h2) (by rw [f.hN]; exact of_decide_eq_true h3) (of_decide_eq_true n1) (of_decide_eq_true n2) (of_decide_eq_true n3)
        (by rw [f.hs]; exact locB_ok h4) (by rw [f.hs]; exact locB_ok h5) (by rw [f.hs]; exact locB_ok h6)
        (pa_cons (sE a f m1).1 (pa_cons (sE b f m2).1 (pa_cons (sE d f m3).1 pa_nil (star_cons (mE_noStar m3))) (star_cons (mE_noStar m2))) (star_cons (mE_noStar m1))) (swOf_ok (by rw [f.hs]; exact eq_of_beq h7) (by rw [f.hs]; exact of_decide_eq_true h8))) fun D σ H q => ?_
      unfold rdS at q
      have e0 : ∀ (x y z : V) (A : V → V → V → Prop), (∃ u v w, [x, y, z] = [u, v, w] ∧ A u v w) = A x y z := fun x y z A => propext ⟨fun ⟨u, v, w, e, h⟩ => (by cases e; exact h), fun h => ⟨x, y, z, rfl, h⟩⟩
      unfold tPar3
      show rdE T X.K a σ H fun x H1 => rdE T X.K b σ H1 fun y H2 => rdE T X.K d σ H2 fun z H3 => ∃ u v w, [x, y, z] = [u, v, w] ∧ D.nx (((σ.set i (some u)).set j (some v)).set k (some w)) H3
      simp only [e0]
      exact q
    · cases h
  | .setlc i own elt tg it ifs, c, X, st, f, hp, h => by
    simp only [mS] at h
    split at h
    · simp only [Bool.and_eq_true] at h
      obtain ⟨⟨h1, ⟨h2, ⟨h3, ⟨h4, h5⟩⟩⟩⟩, ⟨h6, ⟨h7, ⟨h8, ⟨h9, h10⟩⟩⟩⟩⟩ := h
      refine ps_imp (ps_setLc (te := rdE T X.K elt) (tt := rdTs T X.K ifs) (g := rdG T X.K tg) (wi := rdI T X.K it) f.g.calm f.g.nd (by rw [f.hN]; exact of_decide_eq_true h1) (by rw [f.hs]; exact locB_ok h2) (sw_true (by rw [f.hs]; exact eq_of_beq h5) (by rw [f.hs]; exact locB_ok h2) h3 (sw_fresh h4)) (sI it f h7)
        (blkOk_by (own := own) (by rw [f.hN, f.hs]; exact h6)) (fun s H C cl fp => sG tg (f.blk s H _ C cl fp) h10) (fun s H C cl fp => sTs ifs (f.blk s H _ C cl fp) h8) (fun s H C cl fp => (sE elt (f.blk s H _ C cl fp) h9).1) (sIf it h7)) fun D σ H q => ?_
      unfold rdS at q
      exact q
    · cases h
  | .augn i op e, c, X, st, f, hp, h => by
    simp only [mS] at h
    split at h
    · simp only [Bool.and_eq_true] at h
      obtain ⟨h1, ⟨h2, h3⟩⟩ := h
      have e1 := of_decide_eq_true h1
      subst e1
      obtain ⟨k1, k2, k3⟩ := f.store h2
      refine ps_imp (ps_aug f.g.nd k1 k2 (sE e f h3).1 (ip_aug op) k3) fun D σ H q => ?_
      unfold rdS at q
      split at q
      · exact ⟨_, by assumption, q⟩
      · exact q.elim
    · cases h
  | .augs _ _ _ _, c, X, st, f, hp, h => by
    simp only [mS] at h
    cases h
  | .exp e, c, X, st, f, hp, h => by
    simp only [mS] at h
    split at h
    · simp only [Bool.and_eq_true] at h
      obtain ⟨h1, h2⟩ := h
      exact ps_imp (ps_expr (sE e f h2).1 (swB_no (by simpa using h1))) fun D σ H q => by unfold rdS at q; exact q
    · cases h
  | .ret e, c, X, st, f, hp, h => by
    simp only [mS] at h
    split at h
    · exact ps_imp (ps_ret (sE e f h).1) fun D σ H q => by unfold rdS at q; exact q
    · cases h
  | .ite d a b, c, X, st, f, hp, h => by
    simp only [mS] at h
    split at h
    · simp only [Bool.and_eq_true] at h
      obtain ⟨h1, ⟨h2, h3⟩⟩ := h
      refine ps_imp (ps_if (sE d f h1).2.1 (sSs a f hp h2) (sSs b f hp h3)) fun D σ H q => ?_
      unfold rdS at q
      exact q
    · cases h
  | .while d b, c, X, st, f, hp, h => by
    simp only [mS] at h
    split at h
    · simp only [Bool.and_eq_true] at h
      obtain ⟨h1, h2⟩ := h
      exact ps_imp (ps_while hp (sE d f h1).2.1 (sSs b f hp h2)) fun D σ H q => by unfold rdS at q; exact q
    · cases h
  | .for tg it b, c, X, st, f, hp, h => by
    simp only [mS] at h
    split at h
    · simp only [Bool.and_eq_true] at h
      obtain ⟨h1, ⟨h2, h3⟩⟩ := h
      exact ps_imp (ps_for hp f.g.calm (sI it f h1) (sG tg f h2) (sSs b f hp h3) (sIf it h1)) fun D σ H q => by unfold rdS at q; exact q
    · cases h
  | .lock a, c, X, st, f, hp, h => by
    simp only [mS] at h
    split at h
    · exact ps_imp (ps_lock (sS a f hp h)) fun D σ H q => by unfold rdS at q; exact q
    · cases h
  | .cont, c, X, st, f, hp, h => by
    simp only [mS] at h
    split at h
    · exact ps_imp ps_continue fun D σ H q => by unfold rdS at q; exact q
    · cases h
  | .brk, c, X, st, f, hp, h => by
    simp only [mS] at h
    split at h
    · exact ps_imp ps_break fun D σ H q => by unfold rdS at q; exact q
    · cases h
  | .pass, c, X, st, f, hp, h => by
    simp only [mS] at h
    split at h
    · exact ps_imp ps_pass fun D σ H q => by unfold rdS at q; exact q
    · cases h
  | .never, c, X, st, f, hp, h => ps_imp ps_never fun D σ H q => by unfold rdS at q; exact q
theorem sSs : ∀ (E : Ss) {c : Sc} {X : Cx} {e : List Stmt}, Fits T c X → PassesOwn (model X.prog X.w) X.A X.env X.xe → mSs T E c e = true → PSs X e (rdSs T X.K E)
  | .nil, c, X, st, f, hp, h => by
    cases st with
    | nil => exact ⟨fun pins s σ H D I q => pss_nil.run pins s σ H D I (by unfold rdSs at q; exact q)⟩
    | cons _ _ => simp [mSs] at h
  | .cons a as, c, X, st, f, hp, h => by
    cases st with
    | nil => simp [mSs] at h
    | cons x r =>
      simp only [mSs, Bool.and_eq_true] at h
      obtain ⟨h1, h2⟩ := h
      exact ⟨fun pins s σ H D I q => (pss_cons (sS a f hp h1) (sSs as f hp h2)).run pins s σ H D I (by unfold rdSs at q; exact q)⟩
end
end
/-! ### the def -/
/-- what a def's table promises, whatever the context -/
structure TabOk (T : Tab) (P : Program) (w : World) (K : PySem.W.Frag) (mg : Str → Option Value) (base : Heap) (k : Nat) : Prop where
  fns : ∀ (i : Nat) (d : FnI), T.fns[i]? = some d → ∃ (f : Addr) (fd : FuncData) (ps : List Str), mg d.name = some (.ref f) ∧ PySem.W.keepIn K (.ref f) = true ∧ FnG P w K mg base CX0 k f fd ps d.sp ∧
    (∀ j, j ≤ d.dfl.length → ∃ ds, Vals (d.dfl.drop j) ds ∧ Binds K fd ps ds) ∧ ∀ q ∈ d.kws, KwB K fd ps q.1 q.2
  cst : ∀ (c : Nat) (p : Str × V), T.cst[c]? = some p → ∃ u, mg p.1 = some u ∧ RelV p.2 u
  free : ∀ x ∈ T.free, mg x = none
theorem ev_def {T : Tab} {P : Program} {w : World} {K : PySem.W.Frag} {mg : Str → Option Value} {base : Heap} {k : Nat} {f : Addr} {fd : FuncData} {x qual : Str} {params : Arguments} {body : List Stmt} {scope : Scope} {dvs : List V} {kws : List (Str × V)}
    {N ps : List Str} {sp : Sp} {B : Ss} (F : FunD K x qual params body scope dvs kws f fd) (S : FnScope N ps scope) (len : ∀ vs H Q E, sp vs H Q E → vs.length = ps.length) (O : TabOk T P w K mg base k)
    (hm : mSs T B ⟨N, scope, fun _ => true⟩ body = true) (hb : ∀ vs H Q E, sp vs H Q E → rdSs T K B { nx := fun _ H' => Q .non H', rt := Q } (start N vs) H) : FnG P w K mg base CX0 (k + 1) f fd ps sp := by
  refine FnG.of F S len fun cdv A outer s H vs Q E hg hr h => ⟨rdSs T K B, PSs.nox ?_, hb vs H Q E h⟩
  refine sSs (T := T) (c := ⟨N, scope, fun _ => true⟩) B ⟨⟨hg, rfl, S.nd, hr.units, fun i d hd => ?_, O.cst, O.free⟩, rfl, rfl, rfl⟩ PassesOwn.never hm
  obtain ⟨f', fd', ps', h1, h2, h3, h4, h5⟩ := O.fns i d hd
  exact ⟨f', fd', k, ps', h1, h2, hr, h3, h4, h5⟩
end Ev

set_option Elab.async false
set_option linter.all false
set_option maxRecDepth 100000
set_option maxHeartbeats 4000000
/-! A law's defs as a table, proved one after another. -/
namespace Ev
open PySem PySem.Spec PyProof.Rows L2

/-- a def of the text, without what it does -/
structure Dfn where
  name : Str
  params : Arguments
  body : List Stmt
  scope : Scope
  dfl : List V
  N : List Str
  ps : List Str
  kws : List (List Str × List Nat)
/-- nothing is promised -/
def spBot : Sp := fun _ _ _ _ => False
def Dfn.inf (d : Dfn) (sp : Sp) : FnI := ⟨d.name, d.ps.length, d.dfl, sp, d.kws⟩
/-- the defs' list, the i-th with the i-th promise -/
def infsF : List Dfn → (Nat → Sp) → List FnI
  | [], _ => []
  | d :: ds, g => d.inf (g 0) :: infsF ds (fun i => g (i + 1))
def infs (ds : List Dfn) (sps : List Sp) : List FnI := infsF ds fun i => sps.getD i spBot
theorem infs_nil {d : Dfn} {ds : List Dfn} : infs (d :: ds) [] = d.inf spBot :: infs ds [] := rfl
theorem infs_cons {d : Dfn} {ds : List Dfn} {sp : Sp} {sps : List Sp} : infs (d :: ds) (sp :: sps) = d.inf sp :: infs ds sps := rfl
def mkT (ds : List Dfn) (cst : List (Str × V)) (free : List Str) (sps : List Sp) : Tab := ⟨infs ds sps, cst, free⟩
/-- how a def stands behind the top -/
structure DfnAt (K : PySem.W.Frag) (mg : Str → Option Value) (d : Dfn) (f : Addr) (fd : FuncData) : Prop where
  F : FunD K d.name d.name d.params d.body d.scope d.dfl [] f fd
  at_ : mg d.name = some (.ref f)
  bd : ∀ j, j ≤ d.dfl.length → ∃ ds, Vals (d.dfl.drop j) ds ∧ Binds K fd d.ps ds
  kw : ∀ q ∈ d.kws, KwB K fd d.ps q.1 q.2
/-- all defs, their addresses -/
def AllAt (K : PySem.W.Frag) (mg : Str → Option Value) : List Dfn → List (Addr × FuncData) → Prop
  | [], [] => True
  | d :: ds, a :: as => DfnAt K mg d a.1 a.2 ∧ AllAt K mg ds as
  | _, _ => False
/-- the first of them keep their promises -/
def AllOk (P : Program) (w : World) (K : PySem.W.Frag) (mg : Str → Option Value) (base : Heap) (k : Nat) : List Dfn → List (Addr × FuncData) → List Sp → Prop
  | _, _, [] => True
  | d :: ds, a :: as, sp :: sps => FnG P w K mg base CX0 k a.1 a.2 d.ps sp ∧ AllOk P w K mg base k ds as sps
  | _, _, _ => False
section
variable {P : Program} {w : World} {K : PySem.W.Frag} {mg : Str → Option Value} {base : Heap} {k : Nat}
theorem fnG_bot {f : Addr} {fd : FuncData} {ps : List Str} : FnG P w K mg base CX0 k f fd ps spBot := ⟨fun _ _ _ _ h => h.elim, fun _ _ _ _ _ _ _ _ _ _ _ _ _ _ h => h.elim⟩
theorem AllOk.mono {j : Nat} (h : j ≤ k) : ∀ {ds : List Dfn} {as : List (Addr × FuncData)} {sps : List Sp}, AllOk P w K mg base j ds as sps → AllOk P w K mg base k ds as sps
  | _, _, [], _ => by unfold AllOk; trivial
  | [], _, _ :: _, q => by unfold AllOk at q; exact q.elim
  | _ :: _, [], _ :: _, q => by unfold AllOk at q; exact q.elim
  | d :: ds, a :: as, sp :: sps, q => by
    unfold AllOk at q ⊢
    exact ⟨q.1.mono h, q.2.mono h⟩
theorem infs_ok : ∀ {ds : List Dfn} {as : List (Addr × FuncData)} {sps : List Sp}, AllAt K mg ds as → AllOk P w K mg base k ds as sps → ∀ (i : Nat) (d : FnI), (infs ds sps)[i]? = some d →
    ∃ (f : Addr) (fd : FuncData) (ps : List Str), mg d.name = some (.ref f) ∧ PySem.W.keepIn K (.ref f) = true ∧ FnG P w K mg base CX0 k f fd ps d.sp ∧
      (∀ j, j ≤ d.dfl.length → ∃ ds, Vals (d.dfl.drop j) ds ∧ Binds K fd ps ds) ∧ ∀ q ∈ d.kws, KwB K fd ps q.1 q.2
  | [], _, _, _, _, i, d, e => by cases e
  | _ :: _, [], _, h, _, i, d, e => by unfold AllAt at h; exact h.elim
  | c :: ds, a :: as, [], h, q, 0, d, e => by
    unfold AllAt at h
    cases e
    exact ⟨a.1, a.2, c.ps, h.1.at_, h.1.F.kp, fnG_bot, h.1.bd, h.1.kw⟩
  | c :: ds, a :: as, sp :: sps, h, q, 0, d, e => by
    unfold AllAt at h
    unfold AllOk at q
    cases e
    exact ⟨a.1, a.2, c.ps, h.1.at_, h.1.F.kp, q.1, h.1.bd, h.1.kw⟩
  | c :: ds, a :: as, [], h, q, i + 1, d, e => by
    unfold AllAt at h
    rw [infs_nil] at e
    exact infs_ok (sps := []) h.2 (by cases ds <;> (unfold AllOk; trivial)) i d e
  | c :: ds, a :: as, sp :: sps, h, q, i + 1, d, e => by
    unfold AllAt at h
    unfold AllOk at q
    rw [infs_cons] at e
    exact infs_ok h.2 q.2 i d e
theorem tab_ok {ds : List Dfn} {as : List (Addr × FuncData)} {sps : List Sp} {cst : List (Str × V)} {free : List Str} (h : AllAt K mg ds as) (q : AllOk P w K mg base k ds as sps)
    (hc : ∀ p ∈ cst, ∃ u, mg p.1 = some u ∧ RelV p.2 u) (hf : ∀ x ∈ free, mg x = none) : TabOk (mkT ds cst free sps) P w K mg base k :=
  ⟨fun i d e => infs_ok h q i d e, fun c p e => hc p (List.mem_of_getElem? e), hf⟩
theorem AllAt.get : ∀ {ds : List Dfn} {as : List (Addr × FuncData)}, AllAt K mg ds as → ∀ (i : Nat) (d : Dfn), ds[i]? = some d → ∃ a, as[i]? = some a ∧ DfnAt K mg d a.1 a.2
  | [], _, _, i, d, e => by cases e
  | _ :: _, [], h, i, d, e => by unfold AllAt at h; exact h.elim
  | c :: ds, a :: as, h, 0, d, e => by
    unfold AllAt at h
    cases e
    exact ⟨a, rfl, h.1⟩
  | c :: ds, a :: as, h, i + 1, d, e => by
    unfold AllAt at h
    exact AllAt.get h.2 i d e
theorem AllOk.snoc : ∀ {ds : List Dfn} {as : List (Addr × FuncData)} {sps : List Sp} {d : Dfn} {a : Addr × FuncData} {sp : Sp}, AllOk P w K mg base k ds as sps → ds[sps.length]? = some d → as[sps.length]? = some a → FnG P w K mg base CX0 k a.1 a.2 d.ps sp →
    AllOk P w K mg base k ds as (sps ++ [sp])
  | [], _, [], d, a, sp, q, e1, e2, F => by cases e1
  | _ :: _, [], [], d, a, sp, q, e1, e2, F => by cases e2
  | c :: ds, b :: as, [], d, a, sp, q, e1, e2, F => by
    cases e1
    cases e2
    show AllOk P w K mg base k (c :: ds) (b :: as) [sp]
    unfold AllOk
    exact ⟨F, by cases ds <;> (unfold AllOk; trivial)⟩
  | [], _, _ :: _, d, a, sp, q, e1, e2, F => by cases e1
  | _ :: _, [], _ :: _, d, a, sp, q, e1, e2, F => by cases e2
  | c :: ds, b :: as, s :: sps, d, a, sp, q, e1, e2, F => by
    unfold AllOk at q
    show AllOk P w K mg base k (c :: ds) (b :: as) (s :: (sps ++ [sp]))
    unfold AllOk
    exact ⟨q.1, AllOk.snoc q.2 e1 e2 F⟩
/-- THE STEP: the next def of the list, by its body's reading over the promises so far -/
theorem AllOk.step {ds : List Dfn} {as : List (Addr × FuncData)} {sps : List Sp} {cst : List (Str × V)} {free : List Str} {d : Dfn} {sp : Sp} {B : Ss} (h : AllAt K mg ds as) (hc : ∀ p ∈ cst, ∃ u, mg p.1 = some u ∧ RelV p.2 u) (hf : ∀ x ∈ free, mg x = none)
    (q : AllOk P w K mg base k ds as sps) (e : ds[sps.length]? = some d) (S : FnScope d.N d.ps d.scope) (hm : mSs (mkT ds cst free sps) B ⟨d.N, d.scope, fun _ => true⟩ d.body = true)
    (len : ∀ vs H Q E, sp vs H Q E → vs.length = d.ps.length) (hb : ∀ vs H Q E, sp vs H Q E → rdSs (mkT ds cst free sps) K B { nx := fun _ H' => Q .non H', rt := Q } (start d.N vs) H) :
    AllOk P w K mg base (k + 1) ds as (sps ++ [sp]) := by
  obtain ⟨a, ea, D⟩ := h.get _ d e
  exact AllOk.snoc (q.mono (Nat.le_succ k)) e ea (ev_def D.F S len (tab_ok h q hc hf) hm hb)
/-- the last one of the list -/
theorem AllOk.get : ∀ {ds : List Dfn} {as : List (Addr × FuncData)} {sps : List Sp}, AllOk P w K mg base k ds as sps → ∀ (i : Nat) (d : Dfn) (a : Addr × FuncData) (sp : Sp), ds[i]? = some d → as[i]? = some a → sps[i]? = some sp → FnG P w K mg base CX0 k a.1 a.2 d.ps sp
  | [], _, _, _, i, d, a, sp, e1, _, _ => by cases e1
  | _ :: _, [], _, _, i, d, a, sp, _, e2, _ => by cases e2
  | _ :: _, _ :: _, [], _, i, d, a, sp, _, _, e3 => by cases e3
  | c :: ds, b :: as, s :: sps, q, 0, d, a, sp, e1, e2, e3 => by
    unfold AllOk at q
    cases e1; cases e2; cases e3
    exact q.1
  | c :: ds, b :: as, s :: sps, q, i + 1, d, a, sp, e1, e2, e3 => by
    unfold AllOk at q
    exact AllOk.get q.2 i d a sp e1 e2 e3
end
/-- keywords alone, from the def as it stands -/
theorem FunD_kwB {K : PySem.W.Frag} {x qual : Str} {params : Arguments} {body : List Stmt} {scope : Scope} {kws : List (Str × V)} {f : Addr} {fd : FuncData} {ps ks : List Str} {pm : List Nat} (F : FunD K x qual params body scope [] kws f fd)
    (h : ∀ (kV doc pm' : Value) (an : Option Addr) (cdv ct : Value) (ws : List Value), ws.length = ks.length → bindArgs (PySem.W.fnOf x qual params body scope .none kV doc pm' an cdv ct) ⟨[], ks.zip ws⟩ = pure (ps.zip (pm.map fun i => ws.getD i .none))) :
    KwB K fd ps ks pm := by
  obtain ⟨oc, od, dV, kV, doc, pm', an, cdv, ct, osl, rfl, lk, hcd, hD, hK⟩ := F.ex
  rcases hD with ⟨_, rfl⟩ | ⟨e, _⟩
  · exact fun s ws _ hl => .of_eq (h kV doc pm' an cdv ct ws hl)
  · exact absurd rfl e
/-- a def without defaults -/
theorem DfnAt.of {K : PySem.W.Frag} {mg : Str → Option Value} {d : Dfn} {f : Addr} {fd : FuncData} (F : FunD K d.name d.name d.params d.body d.scope d.dfl [] f fd) (at_ : mg d.name = some (.ref f)) (h0 : d.dfl = [])
    (hb : ∀ (kV doc pm : Value) (an : Option Addr) (cdv ct : Value) (us : List Value), us.length = d.ps.length → bindArgs (PySem.W.fnOf d.name d.name d.params d.body d.scope .none kV doc pm an cdv ct) ⟨us, []⟩ = pure (d.ps.zip us))
    (hk : ∀ q ∈ d.kws, ∀ (kV doc pm' : Value) (an : Option Addr) (cdv ct : Value) (ws : List Value), ws.length = q.1.length →
      bindArgs (PySem.W.fnOf d.name d.name d.params d.body d.scope .none kV doc pm' an cdv ct) ⟨[], q.1.zip ws⟩ = pure (d.ps.zip (q.2.map fun i => ws.getD i .none))) : DfnAt K mg d f fd := by
  have F' := F
  rw [h0] at F'
  refine ⟨F, at_, fun j hj => ?_, fun q hq => FunD_kwB F' (hk q hq)⟩
  rw [h0]
  refine ⟨[], ?_, F'.bindsN hb⟩
  rw [List.drop_nil]
  exact .nil
end Ev

set_option Elab.async false
set_option linter.all false
set_option maxRecDepth 100000
set_option maxHeartbeats 4000000
/-! The data of the functional reading: values with flags (true: held by one hand alone, may be changed in place), and what it means that a value at a heap is such data. -/
namespace Ev
open PySem PySem.Spec PyProof.Rows L2

inductive W where
  | non | bl (b : Bool) | int (i : Int) | str (s : Str) | ty (n : String)
  | lst (o : Bool) (xs : List W)
  | tup (o : Bool) (xs : List W)
  | dK (o : Bool) (ks : List Key) (vs : List W)
  | dT (o : Bool) (ks : List (List Key)) (vs : List W)
  | dL (o : Bool) (ks : List (List Key)) (vs : List W)
  | scr (xs : List W)
  deriving Inhabited
mutual
/-- as one of several hands holds it -/
def frz : W → W
  | .lst o xs => match o with | true => .lst false (frzL xs) | false => .lst false xs
  | .tup o xs => match o with | true => .tup false (frzL xs) | false => .tup false xs
  | .dK o ks vs => match o with | true => .dK false ks (frzL vs) | false => .dK false ks vs
  | .dT o ks vs => match o with | true => .dT false ks (frzL vs) | false => .dT false ks vs
  | .dL o ks vs => match o with | true => .dL false ks (frzL vs) | false => .dL false ks vs
  | w => w
def frzL : List W → List W
  | [] => []
  | x :: xs => frz x :: frzL xs
end
/-- nothing of it is held alone -/
def isV : W → Bool
  | .lst o _ => !o
  | .tup o _ => !o
  | .dK o _ _ => !o
  | .dT o _ _ => !o
  | .dL o _ _ => !o
  | _ => true
theorem frz_isV {w : W} (h : isV w = true) : frz w = w := by
  cases w <;> first | rfl | (rename_i o _; cases o <;> first | rfl | cases h) | (rename_i o _ _; cases o <;> first | rfl | cases h)
theorem isV_frz (w : W) : isV (frz w) = true := by
  cases w <;> first | rfl | (rename_i o _; cases o <;> rfl) | (rename_i o _ _; cases o <;> rfl)
theorem frzL_map : ∀ xs : List W, frzL xs = xs.map frz
  | [] => rfl
  | x :: xs => by
    unfold frzL
    rw [frzL_map xs] <;> rfl
abbrev US := Addr → Prop
/-- a list that no def makes: an object of the module, or one known to the object -/
def KLst (K : PySem.W.Frag) (a : Addr) (xs : List V) : Prop :=
  ∃ (o : Obj) (its : Array Value) (n : Nat), K.lookup a = some o ∧ o.cls = .type "list" ∧ o.dict = none ∧ o.data = .seq its n ∧ its.size ≤ sizeLine ∧ Vals xs its.toList
mutual
/-- v is the data w at the heap H; U: all that is held alone by somebody; A: what w itself holds alone -/
inductive Dn (K : PySem.W.Frag) (H : Hp) (U : US) : V → W → List Addr → Prop
  | non : Dn K H U .non .non []
  | bl (b : Bool) : Dn K H U (.bl b) (.bl b) []
  | int (i : Int) : Dn K H U (.int i) (.int i) []
  | str (x : Str) : Dn K H U (.str x) (.str x) []
  | ty (n : String) : Dn K H U (.ty n) (.ty n) []
  | lstO {a : Addr} {vs : List V} {ws : List W} {A : List Addr} : H a = some (.lst vs) → DnAll K H U vs ws A → Dn K H U (.ref a) (.lst true ws) (a :: A)
  | lstV {a : Addr} {vs : List V} {ws : List W} : ¬ U a → H a = some (.lst vs) → DnAll K H U vs ws [] → Dn K H U (.ref a) (.lst false ws) []
  | scrV {a : Addr} {vs : List V} {ws : List W} : ¬ U a → (∃ o, H a = some (.frz o (.lst vs))) → DnAll K H U vs ws [] → Dn K H U (.ref a) (.scr ws) []
  | scrK {a : Addr} {vs : List V} {ws : List W} : KLst K a vs → DnAll K H U vs ws [] → Dn K H U (.ref a) (.scr ws) []
  | tupO {a : Addr} {vs : List V} {ws : List W} {A : List Addr} : ¬ U a → H a = some (.tup vs) → DnAll K H U vs ws A → Dn K H U (.ref a) (.tup true ws) A
  | tupV {a : Addr} {vs : List V} {ws : List W} : ¬ U a → H a = some (.tup vs) → DnAll K H U vs ws [] → Dn K H U (.ref a) (.tup false ws) []
  | dKO {a : Addr} {kvs : List (Key × V)} {ks : List Key} {ws : List W} {A : List Addr} : H a = some (.dK kvs) → (kvs.map (·.1) = ks ∧ ks.Nodup) → DnAll K H U (kvs.map (·.2)) ws A → Dn K H U (.ref a) (.dK true ks ws) (a :: A)
  | dKV {a : Addr} {kvs : List (Key × V)} {ks : List Key} {ws : List W} : ¬ U a → H a = some (.dK kvs) → (kvs.map (·.1) = ks ∧ ks.Nodup) → DnAll K H U (kvs.map (·.2)) ws [] → Dn K H U (.ref a) (.dK false ks ws) []
  | dTO {a : Addr} {kvs : List (List Key × V)} {ks : List (List Key)} {ws : List W} {A : List Addr} : H a = some (.dT kvs) → (kvs.map (·.1) = ks ∧ ks.Nodup) → DnAll K H U (kvs.map (·.2)) ws A → Dn K H U (.ref a) (.dT true ks ws) (a :: A)
  | dTV {a : Addr} {kvs : List (List Key × V)} {ks : List (List Key)} {ws : List W} : ¬ U a → H a = some (.dT kvs) → (kvs.map (·.1) = ks ∧ ks.Nodup) → DnAll K H U (kvs.map (·.2)) ws [] → Dn K H U (.ref a) (.dT false ks ws) []
  | dLO {a : Addr} {kvs : List (List Key × V)} {ks : List (List Key)} {ws : List W} {A : List Addr} : (∃ o, H a = some (.frz o (.dT kvs))) → (kvs.map (·.1) = ks ∧ ks.Nodup) → DnAll K H U (kvs.map (·.2)) ws A → Dn K H U (.ref a) (.dL true ks ws) (a :: A)
  | dLV {a : Addr} {kvs : List (List Key × V)} {ks : List (List Key)} {ws : List W} : ¬ U a → (∃ o, H a = some (.frz o (.dT kvs))) → (kvs.map (·.1) = ks ∧ ks.Nodup) → DnAll K H U (kvs.map (·.2)) ws [] → Dn K H U (.ref a) (.dL false ks ws) []
inductive DnAll (K : PySem.W.Frag) (H : Hp) (U : US) : List V → List W → List Addr → Prop
  | nil : DnAll K H U [] [] []
  | cons {v : V} {vs : List V} {w : W} {ws : List W} {A B C : List Addr} : Dn K H U v w A → DnAll K H U vs ws B → C = A ++ B → DnAll K H U (v :: vs) (w :: ws) C
end
section
variable {K : PySem.W.Frag} {H H' : Hp} {U U' : US}
theorem dnAll_nil {ws : List W} {A : List Addr} (h : DnAll K H U [] ws A) : ws = [] ∧ A = [] := by cases h; exact ⟨rfl, rfl⟩
theorem dnAll_len {vs : List V} {ws : List W} {A : List Addr} (h : DnAll K H U vs ws A) : vs.length = ws.length := by
  induction ws generalizing vs A with
  | nil => cases h; rfl
  | cons w ws ih =>
    cases h with
    | cons h1 h2 e => rw [List.length_cons, List.length_cons, ih h2]
/-- what is held is tracked -/
def Dom (H : Hp) (A : List Addr) : Prop := ∀ a ∈ A, H a ≠ none
mutual
theorem Dn.dom : ∀ {w : W} {v : V} {A : List Addr}, Dn K H U v w A → Dom H A
  | .non, _, _, h => by cases h; intro a ha; cases ha
  | .bl _, _, _, h => by cases h; intro a ha; cases ha
  | .int _, _, _, h => by cases h; intro a ha; cases ha
  | .str _, _, _, h => by cases h; intro a ha; cases ha
  | .ty _, _, _, h => by cases h; intro a ha; cases ha
  | .lst _ ws, _, _, h => by
    cases h with
    | lstO h1 h2 =>
      intro a ha
      rcases List.mem_cons.mp ha with rfl | ha
      · rw [h1]; simp
      · exact DnAll.dom h2 a ha
    | lstV _ _ _ => intro a ha; cases ha
  | .scr _, _, _, h => by cases h <;> (intro a ha; cases ha)
  | .tup _ ws, _, _, h => by
    cases h with
    | tupO _ h1 h2 => exact DnAll.dom h2
    | tupV _ _ _ => intro a ha; cases ha
  | .dK _ _ ws, _, _, h => by
    cases h with
    | dKO h1 _ h2 =>
      intro a ha
      rcases List.mem_cons.mp ha with rfl | ha
      · rw [h1]; simp
      · exact DnAll.dom h2 a ha
    | dKV _ _ _ _ => intro a ha; cases ha
  | .dT _ _ ws, _, _, h => by
    cases h with
    | dTO h1 _ h2 =>
      intro a ha
      rcases List.mem_cons.mp ha with rfl | ha
      · rw [h1]; simp
      · exact DnAll.dom h2 a ha
    | dTV _ _ _ _ => intro a ha; cases ha
  | .dL _ _ ws, _, _, h => by
    cases h with
    | dLO h1 _ h2 =>
      obtain ⟨o, h1⟩ := h1
      intro a ha
      rcases List.mem_cons.mp ha with rfl | ha
      · rw [h1]; simp
      · exact DnAll.dom h2 a ha
    | dLV _ _ _ _ => intro a ha; cases ha
theorem DnAll.dom : ∀ {ws : List W} {vs : List V} {A : List Addr}, DnAll K H U vs ws A → Dom H A
  | [], _, _, h => by cases h; intro a ha; cases ha
  | w :: ws, _, _, h => by
    cases h with
    | cons h1 h2 e =>
      subst e
      intro a ha
      rcases List.mem_append.mp ha with ha | ha
      · exact Dn.dom h1 a ha
      · exact DnAll.dom h2 a ha
end
/-- the step of a heap: M may have changed, all else that was tracked stays; U' holds nothing but what U held or what was free -/
structure Stp (H H' : Hp) (U U' M : US) : Prop where
  keep : ∀ b o, ¬ M b → H b = some o → H' b = some o
  mu : ∀ b, M b → U b
  un : ∀ b, U' b → U b ∨ H b = none
theorem rd_keep {M : US} {a : Addr} {u : HO} (s : Stp H H' U U' M) (h : ¬ U a) (r : Rd H a u) : ¬ U' a ∧ Rd H' a u := by
  have hm : ¬ M a := fun z => h (s.mu a z)
  refine ⟨fun z => ?_, ?_⟩
  · rcases s.un a z with z | z
    · exact h z
    · rcases r with r | ⟨o, r⟩ <;> (rw [z] at r; cases r)
  · rcases r with r | ⟨o, r⟩
    · exact .inl (s.keep _ _ hm r)
    · exact .inr ⟨o, s.keep _ _ hm r⟩
mutual
theorem Dn.step {M : US} (s : Stp H H' U U' M) : ∀ {w : W} {v : V} {A : List Addr}, Dn K H U v w A → (∀ a ∈ A, ¬ M a) → Dn K H' U' v w A
  | .non, _, _, h, _ => by cases h; exact .non
  | .bl _, _, _, h, _ => by cases h; exact .bl _
  | .int _, _, _, h, _ => by cases h; exact .int _
  | .str _, _, _, h, _ => by cases h; exact .str _
  | .ty _, _, _, h, _ => by cases h; exact .ty _
  | .lst _ ws, _, _, h, hm => by
    cases h with
    | lstO h1 h2 => exact .lstO (s.keep _ _ (hm _ (List.mem_cons_self ..)) h1) (DnAll.step s h2 fun a ha => hm a (List.mem_cons_of_mem _ ha))
    | lstV h0 h1 h2 => exact .lstV (rd_keep s h0 (.inl h1)).1 (s.keep _ _ (fun z => h0 (s.mu _ z)) h1) (DnAll.step s h2 fun a ha => by cases ha)
  | .scr ws, _, _, h, hm => by
    cases h with
    | scrV h0 h1 h2 => obtain ⟨o, h1⟩ := h1; exact .scrV (rd_keep s h0 (.inr ⟨o, h1⟩)).1 ⟨o, s.keep _ _ (fun z => h0 (s.mu _ z)) h1⟩ (DnAll.step s h2 fun a ha => by cases ha)
    | scrK h1 h2 => exact .scrK h1 (DnAll.step s h2 fun a ha => by cases ha)
  | .tup _ ws, _, _, h, hm => by
    cases h with
    | tupO h0 h1 h2 => exact .tupO (rd_keep s h0 (.inl h1)).1 (s.keep _ _ (fun z => h0 (s.mu _ z)) h1) (DnAll.step s h2 hm)
    | tupV h0 h1 h2 => exact .tupV (rd_keep s h0 (.inl h1)).1 (s.keep _ _ (fun z => h0 (s.mu _ z)) h1) (DnAll.step s h2 fun a ha => by cases ha)
  | .dK _ _ ws, _, _, h, hm => by
    cases h with
    | dKO h1 h3 h2 => exact .dKO (s.keep _ _ (hm _ (List.mem_cons_self ..)) h1) h3 (DnAll.step s h2 fun a ha => hm a (List.mem_cons_of_mem _ ha))
    | dKV h0 h1 h3 h2 => exact .dKV (rd_keep s h0 (.inl h1)).1 (s.keep _ _ (fun z => h0 (s.mu _ z)) h1) h3 (DnAll.step s h2 fun a ha => by cases ha)
  | .dT _ _ ws, _, _, h, hm => by
    cases h with
    | dTO h1 h3 h2 => exact .dTO (s.keep _ _ (hm _ (List.mem_cons_self ..)) h1) h3 (DnAll.step s h2 fun a ha => hm a (List.mem_cons_of_mem _ ha))
    | dTV h0 h1 h3 h2 => exact .dTV (rd_keep s h0 (.inl h1)).1 (s.keep _ _ (fun z => h0 (s.mu _ z)) h1) h3 (DnAll.step s h2 fun a ha => by cases ha)
  | .dL _ _ ws, _, _, h, hm => by
    cases h with
    | dLO h1 h3 h2 => obtain ⟨o, h1⟩ := h1; exact .dLO ⟨o, s.keep _ _ (hm _ (List.mem_cons_self ..)) h1⟩ h3 (DnAll.step s h2 fun a ha => hm a (List.mem_cons_of_mem _ ha))
    | dLV h0 h1 h3 h2 => obtain ⟨o, h1⟩ := h1; exact .dLV (rd_keep s h0 (.inr ⟨o, h1⟩)).1 ⟨o, s.keep _ _ (fun z => h0 (s.mu _ z)) h1⟩ h3 (DnAll.step s h2 fun a ha => by cases ha)
theorem DnAll.step {M : US} (s : Stp H H' U U' M) : ∀ {ws : List W} {vs : List V} {A : List Addr}, DnAll K H U vs ws A → (∀ a ∈ A, ¬ M a) → DnAll K H' U' vs ws A
  | [], _, _, h, _ => by cases h; exact .nil
  | w :: ws, _, _, h, hm => by
    cases h with
    | cons h1 h2 e =>
      subst e
      exact .cons (Dn.step s h1 fun a ha => hm a (List.mem_append_left _ ha)) (DnAll.step s h2 fun a ha => hm a (List.mem_append_right _ ha)) rfl
end
/-- at the same heap, fewer holders -/
theorem Dn.less {w : W} {v : V} {A : List Addr} (h : Dn K H U v w A) (hu : ∀ b, U' b → U b) : Dn K H U' v w A := h.step (M := fun _ => False) ⟨fun _ _ _ e => e, fun _ z => z.elim, fun b z => .inl (hu b z)⟩ fun _ _ z => z
theorem DnAll.less {ws : List W} {vs : List V} {A : List Addr} (h : DnAll K H U vs ws A) (hu : ∀ b, U' b → U b) : DnAll K H U' vs ws A := h.step (M := fun _ => False) ⟨fun _ _ _ e => e, fun _ z => z.elim, fun b z => .inl (hu b z)⟩ fun _ _ z => z
/-- what is held by itself lies in U: nothing is asked of it here -/
theorem val_nil {w : W} {v : V} {A : List Addr} (h : Dn K H U v w A) (hv : isV w = true) : A = [] := by
  cases h <;> first | rfl | cases hv
/-- what is held is no tuple -/
def NoTup (H : Hp) (A : List Addr) : Prop := ∀ a ∈ A, ∀ xs, H a ≠ some (.tup xs)
mutual
theorem Dn.notup : ∀ {w : W} {v : V} {A : List Addr}, Dn K H U v w A → NoTup H A
  | .non, _, _, h => by cases h; intro a ha; cases ha
  | .bl _, _, _, h => by cases h; intro a ha; cases ha
  | .int _, _, _, h => by cases h; intro a ha; cases ha
  | .str _, _, _, h => by cases h; intro a ha; cases ha
  | .ty _, _, _, h => by cases h; intro a ha; cases ha
  | .lst _ ws, _, _, h => by
    cases h with
    | lstO h1 h2 =>
      intro a ha xs
      rcases List.mem_cons.mp ha with rfl | ha
      · rw [h1]; simp
      · exact DnAll.notup h2 a ha xs
    | lstV _ _ _ => intro a ha; cases ha
  | .scr _, _, _, h => by cases h <;> (intro a ha; cases ha)
  | .tup _ ws, _, _, h => by
    cases h with
    | tupO _ h1 h2 => exact DnAll.notup h2
    | tupV _ _ _ => intro a ha; cases ha
  | .dK _ _ ws, _, _, h => by
    cases h with
    | dKO h1 _ h2 =>
      intro a ha xs
      rcases List.mem_cons.mp ha with rfl | ha
      · rw [h1]; simp
      · exact DnAll.notup h2 a ha xs
    | dKV _ _ _ _ => intro a ha; cases ha
  | .dT _ _ ws, _, _, h => by
    cases h with
    | dTO h1 _ h2 =>
      intro a ha xs
      rcases List.mem_cons.mp ha with rfl | ha
      · rw [h1]; simp
      · exact DnAll.notup h2 a ha xs
    | dTV _ _ _ _ => intro a ha; cases ha
  | .dL _ _ ws, _, _, h => by
    cases h with
    | dLO h1 _ h2 =>
      obtain ⟨o, h1⟩ := h1
      intro a ha xs
      rcases List.mem_cons.mp ha with rfl | ha
      · rw [h1]; simp
      · exact DnAll.notup h2 a ha xs
    | dLV _ _ _ _ => intro a ha; cases ha
theorem DnAll.notup : ∀ {ws : List W} {vs : List V} {A : List Addr}, DnAll K H U vs ws A → NoTup H A
  | [], _, _, h => by cases h; intro a ha; cases ha
  | w :: ws, _, _, h => by
    cases h with
    | cons h1 h2 e =>
      subst e
      intro a ha xs
      rcases List.mem_append.mp ha with ha | ha
      · exact Dn.notup h1 a ha xs
      · exact DnAll.notup h2 a ha xs
end
mutual
/-- all lists and dicts in it are held by it alone -/
def iso : W → Bool
  | .lst o xs => o && isoL xs
  | .tup _ xs => isoL xs
  | .dK o _ vs => o && isoL vs
  | .dT o _ vs => o && isoL vs
  | .dL o _ vs => o && isoL vs
  | .scr _ => false
  | _ => true
def isoL : List W → Bool
  | [] => true
  | x :: xs => iso x && isoL xs
end
mutual
/-- so it does not matter who holds the other things -/
theorem Dn.iso (hu : ∀ b, U' b → U b ∨ ∀ xs, H b ≠ some (.tup xs)) : ∀ {w : W} {v : V} {A : List Addr}, Dn K H U v w A → Ev.iso w = true → Dn K H U' v w A
  | .non, _, _, h, _ => by cases h; exact .non
  | .bl _, _, _, h, _ => by cases h; exact .bl _
  | .int _, _, _, h, _ => by cases h; exact .int _
  | .str _, _, _, h, _ => by cases h; exact .str _
  | .ty _, _, _, h, _ => by cases h; exact .ty _
  | .lst _ ws, _, _, h, hi => by
    cases h with
    | lstO h1 h2 => exact .lstO h1 (DnAll.iso hu h2 (by simpa [Ev.iso] using hi))
    | lstV _ _ _ => simp [Ev.iso] at hi
  | .scr _, _, _, h, hi => by simp [Ev.iso] at hi
  | .tup _ ws, _, _, h, hi => by
    cases h with
    | tupO h0 h1 h2 => exact .tupO (fun z => (hu _ z).elim h0 fun q => q _ h1) h1 (DnAll.iso hu h2 (by simpa [Ev.iso] using hi))
    | tupV h0 h1 h2 => exact .tupV (fun z => (hu _ z).elim h0 fun q => q _ h1) h1 (DnAll.iso hu h2 (by simpa [Ev.iso] using hi))
  | .dK _ _ ws, _, _, h, hi => by
    cases h with
    | dKO h1 h3 h2 => exact .dKO h1 h3 (DnAll.iso hu h2 (by simpa [Ev.iso] using hi))
    | dKV _ _ _ _ => simp [Ev.iso] at hi
  | .dT _ _ ws, _, _, h, hi => by
    cases h with
    | dTO h1 h3 h2 => exact .dTO h1 h3 (DnAll.iso hu h2 (by simpa [Ev.iso] using hi))
    | dTV _ _ _ _ => simp [Ev.iso] at hi
  | .dL _ _ ws, _, _, h, hi => by
    cases h with
    | dLO h1 h3 h2 => exact .dLO h1 h3 (DnAll.iso hu h2 (by simpa [Ev.iso] using hi))
    | dLV _ _ _ _ => simp [Ev.iso] at hi
theorem DnAll.iso (hu : ∀ b, U' b → U b ∨ ∀ xs, H b ≠ some (.tup xs)) : ∀ {ws : List W} {vs : List V} {A : List Addr}, DnAll K H U vs ws A → isoL ws = true → DnAll K H U' vs ws A
  | [], _, _, h, _ => by cases h; exact .nil
  | w :: ws, _, _, h, hi => by
    cases h with
    | cons h1 h2 e =>
      simp only [isoL, Bool.and_eq_true] at hi
      exact .cons (Dn.iso hu h1 hi.1) (DnAll.iso hu h2 hi.2) e
end
mutual
/-- given up: others may hold it too -/
theorem Dn.frz : ∀ {w : W} {v : V} {A : List Addr}, Dn K H U v w A → (∀ b, U' b → U b ∧ b ∉ A) → Dn K H U' v (Ev.frz w) []
  | .non, _, _, h, _ => by cases h; exact .non
  | .bl _, _, _, h, _ => by cases h; exact .bl _
  | .int _, _, _, h, _ => by cases h; exact .int _
  | .str _, _, _, h, _ => by cases h; exact .str _
  | .ty _, _, _, h, _ => by cases h; exact .ty _
  | .lst _ ws, _, _, h, hu => by
    cases h with
    | lstO h1 h2 => exact .lstV (fun z => (hu _ z).2 (List.mem_cons_self ..)) h1 (DnAll.frz h2 fun b z => ⟨(hu b z).1, fun q => (hu b z).2 (List.mem_cons_of_mem _ q)⟩)
    | lstV h0 h1 h2 => exact .lstV (fun z => h0 (hu _ z).1) h1 (h2.less fun b z => (hu b z).1)
  | .scr ws, _, _, h, hu => by
    cases h with
    | scrV h0 h1 h2 => exact .scrV (fun z => h0 (hu _ z).1) h1 (h2.less fun b z => (hu b z).1)
    | scrK h1 h2 => exact .scrK h1 (h2.less fun b z => (hu b z).1)
  | .tup _ ws, _, _, h, hu => by
    cases h with
    | tupO h0 h1 h2 => exact .tupV (fun z => h0 (hu _ z).1) h1 (DnAll.frz h2 hu)
    | tupV h0 h1 h2 => exact .tupV (fun z => h0 (hu _ z).1) h1 (h2.less fun b z => (hu b z).1)
  | .dK _ _ ws, _, _, h, hu => by
    cases h with
    | dKO h1 h3 h2 => exact .dKV (fun z => (hu _ z).2 (List.mem_cons_self ..)) h1 h3 (DnAll.frz h2 fun b z => ⟨(hu b z).1, fun q => (hu b z).2 (List.mem_cons_of_mem _ q)⟩)
    | dKV h0 h1 h3 h2 => exact .dKV (fun z => h0 (hu _ z).1) h1 h3 (h2.less fun b z => (hu b z).1)
  | .dT _ _ ws, _, _, h, hu => by
    cases h with
    | dTO h1 h3 h2 => exact .dTV (fun z => (hu _ z).2 (List.mem_cons_self ..)) h1 h3 (DnAll.frz h2 fun b z => ⟨(hu b z).1, fun q => (hu b z).2 (List.mem_cons_of_mem _ q)⟩)
    | dTV h0 h1 h3 h2 => exact .dTV (fun z => h0 (hu _ z).1) h1 h3 (h2.less fun b z => (hu b z).1)
  | .dL _ _ ws, _, _, h, hu => by
    cases h with
    | dLO h1 h3 h2 => exact .dLV (fun z => (hu _ z).2 (List.mem_cons_self ..)) h1 h3 (DnAll.frz h2 fun b z => ⟨(hu b z).1, fun q => (hu b z).2 (List.mem_cons_of_mem _ q)⟩)
    | dLV h0 h1 h3 h2 => exact .dLV (fun z => h0 (hu _ z).1) h1 h3 (h2.less fun b z => (hu b z).1)
theorem DnAll.frz : ∀ {ws : List W} {vs : List V} {A : List Addr}, DnAll K H U vs ws A → (∀ b, U' b → U b ∧ b ∉ A) → DnAll K H U' vs (Ev.frzL ws) []
  | [], _, _, h, _ => by cases h; exact .nil
  | w :: ws, _, _, h, hu => by
    cases h with
    | cons h1 h2 e =>
      subst e
      exact .cons (Dn.frz h1 fun b z => ⟨(hu b z).1, fun q => (hu b z).2 (List.mem_append_left _ q)⟩) (DnAll.frz h2 fun b z => ⟨(hu b z).1, fun q => (hu b z).2 (List.mem_append_right _ q)⟩) rfl
end
/-- one of many, the others around it -/
theorem DnAll.split : ∀ {ws : List W} {vs : List V} {A : List Addr} {i : Nat} {w : W}, DnAll K H U vs ws A → ws[i]? = some w → ∃ v A1 B A2, vs[i]? = some v ∧ A = A1 ++ (B ++ A2) ∧ Dn K H U v w B ∧ DnAll K H U (vs.take i) (ws.take i) A1 ∧ DnAll K H U (vs.drop (i + 1)) (ws.drop (i + 1)) A2
  | [], _, _, i, w, h, e => by cases e
  | x :: ws, _, _, 0, w, h, e => by
    cases h with
    | cons h1 h2 q =>
      cases e
      exact ⟨_, [], _, _, rfl, q, h1, .nil, by simpa using h2⟩
  | x :: ws, _, _, i + 1, w, h, e => by
    cases h with
    | cons h1 h2 q =>
      obtain ⟨v, A1, B, A2, e1, e2, h3, h4, h5⟩ := DnAll.split h2 (by simpa using e)
      refine ⟨v, _ ++ A1, B, A2, by simpa using e1, ?_, h3, .cons h1 h4 rfl, by simpa using h5⟩
      rw [q, e2, List.append_assoc]
theorem DnAll.app : ∀ {ws ws' : List W} {vs vs' : List V} {A A' : List Addr}, DnAll K H U vs ws A → DnAll K H U vs' ws' A' → DnAll K H U (vs ++ vs') (ws ++ ws') (A ++ A')
  | [], _, _, _, _, _, h, h' => by cases h; exact h'
  | w :: ws, _, _, _, _, _, h, h' => by
    cases h with
    | cons h1 h2 e =>
      subst e
      exact .cons h1 (DnAll.app h2 h') (List.append_assoc ..)
/-! ### the slots -/
abbrev Rho := List (Option W)
inductive Reps (K : PySem.W.Frag) (H : Hp) (U : US) : L2.St → Rho → List Addr → Prop
  | nil : Reps K H U [] [] []
  | dead {x : Option V} {σ : L2.St} {ρ : Rho} {A : List Addr} : Reps K H U σ ρ A → Reps K H U (x :: σ) (none :: ρ) A
  | one {v : V} {w : W} {σ : L2.St} {ρ : Rho} {A B C : List Addr} : Dn K H U v w B → Reps K H U σ ρ A → C = B ++ A → Reps K H U (some v :: σ) (some w :: ρ) C
theorem Reps.len {σ : L2.St} {ρ : Rho} {A : List Addr} (h : Reps K H U σ ρ A) : σ.length = ρ.length := by
  induction h with
  | nil => rfl
  | dead _ ih => rw [List.length_cons, List.length_cons, ih]
  | one _ _ _ ih => rw [List.length_cons, List.length_cons, ih]
theorem Reps.dom {σ : L2.St} {ρ : Rho} {A : List Addr} (h : Reps K H U σ ρ A) : Dom H A := by
  induction h with
  | nil => intro a ha; cases ha
  | dead _ ih => exact ih
  | one h1 _ e ih =>
    subst e
    intro a ha
    rcases List.mem_append.mp ha with ha | ha
    · exact h1.dom a ha
    · exact ih a ha
theorem Reps.notup {σ : L2.St} {ρ : Rho} {A : List Addr} (h : Reps K H U σ ρ A) : NoTup H A := by
  induction h with
  | nil => intro a ha; cases ha
  | dead _ ih => exact ih
  | one h1 _ e ih =>
    subst e
    intro a ha
    rcases List.mem_append.mp ha with ha | ha
    · exact h1.notup a ha
    · exact ih a ha
theorem Reps.step {M : US} (s : Stp H H' U U' M) {σ : L2.St} {ρ : Rho} {A : List Addr} (h : Reps K H U σ ρ A) (hm : ∀ a ∈ A, ¬ M a) : Reps K H' U' σ ρ A := by
  induction h with
  | nil => exact .nil
  | dead _ ih => exact .dead (ih hm)
  | one h1 _ e ih =>
    subst e
    exact .one (h1.step s fun a ha => hm a (List.mem_append_left _ ha)) (ih fun a ha => hm a (List.mem_append_right _ ha)) rfl
theorem Reps.app {σ σ' : L2.St} {ρ ρ' : Rho} {A A' : List Addr} (h : Reps K H U σ ρ A) (h' : Reps K H U σ' ρ' A') : Reps K H U (σ ++ σ') (ρ ++ ρ') (A ++ A') := by
  induction h with
  | nil => exact h'
  | dead _ ih => exact .dead ih
  | one h1 _ e ih =>
    subst e
    exact .one h1 ih (List.append_assoc ..)
/-- one slot that holds something, the others around it -/
theorem Reps.split {σ : L2.St} {ρ : Rho} {A : List Addr} (h : Reps K H U σ ρ A) : ∀ {i : Nat} {w : W}, ρ[i]? = some (some w) → ∃ v A1 B A2, σ[i]? = some (some v) ∧ A = A1 ++ (B ++ A2) ∧ Dn K H U v w B ∧ Reps K H U (σ.take i) (ρ.take i) A1 ∧ Reps K H U (σ.drop (i + 1)) (ρ.drop (i + 1)) A2 := by
  induction h with
  | nil => intro i w e; cases e
  | @dead x σ ρ A h0 ih =>
    intro i w e
    cases i with
    | zero => cases e
    | succ i =>
      obtain ⟨v, A1, B, A2, e1, e2, h3, h4, h5⟩ := ih (by simpa using e)
      exact ⟨v, A1, B, A2, by simpa using e1, e2, h3, .dead h4, by simpa using h5⟩
  | @one v w0 σ ρ A B C h1 h0 q ih =>
    intro i w e
    cases i with
    | zero =>
      cases e
      exact ⟨_, [], _, _, rfl, q, h1, .nil, by simpa using h0⟩
    | succ i =>
      obtain ⟨v, A1, B', A2, e1, e2, h3, h4, h5⟩ := ih (by simpa using e)
      refine ⟨v, _ ++ A1, B', A2, by simpa using e1, ?_, h3, .one h1 h4 rfl, by simpa using h5⟩
      rw [q, e2, List.append_assoc]
/-- any slot, the others around it; what it held is let go -/
theorem Reps.split0 {σ : L2.St} {ρ : Rho} {A : List Addr} (h : Reps K H U σ ρ A) : ∀ {i : Nat}, i < ρ.length → ∃ A1 B A2, A = A1 ++ (B ++ A2) ∧ Reps K H U (σ.take i) (ρ.take i) A1 ∧ Reps K H U (σ.drop (i + 1)) (ρ.drop (i + 1)) A2 := by
  induction h with
  | nil => intro i l; cases l
  | @dead x σ ρ A h0 ih =>
    intro i l
    cases i with
    | zero => exact ⟨[], [], A, rfl, .nil, by simpa using h0⟩
    | succ i =>
      obtain ⟨A1, B, A2, e2, h4, h5⟩ := ih (by simpa using l)
      exact ⟨A1, B, A2, e2, .dead h4, by simpa using h5⟩
  | @one v w0 σ ρ A B C h1 h0 q ih =>
    intro i l
    cases i with
    | zero => exact ⟨[], B, A, by simpa using q, .nil, by simpa using h0⟩
    | succ i =>
      obtain ⟨A1, B', A2, e2, h4, h5⟩ := ih (by simpa using l)
      refine ⟨_ ++ A1, B', A2, ?_, .one h1 h4 rfl, by simpa using h5⟩
      rw [q, e2, List.append_assoc]
theorem set_parts {α : Type} {l : List α} {i : Nat} (h : i < l.length) (x : α) : l.set i x = l.take i ++ x :: l.drop (i + 1) := by
  rw [List.set_eq_take_append_cons_drop, if_pos h]
/-- put together again, another thing in the slot -/
theorem Reps.join {σ : L2.St} {ρ : Rho} {A1 A2 B : List Addr} {i : Nat} {v : V} {w : W} (hl : σ.length = ρ.length) (hi : i < ρ.length) (h1 : Reps K H U (σ.take i) (ρ.take i) A1) (h : Dn K H U v w B) (h2 : Reps K H U (σ.drop (i + 1)) (ρ.drop (i + 1)) A2) :
    Reps K H U (σ.set i (some v)) (ρ.set i (some w)) (A1 ++ (B ++ A2)) := by
  rw [set_parts (by omega), set_parts hi]
  exact h1.app (.one h h2 rfl)
theorem Reps.joinD {σ : L2.St} {ρ : Rho} {A1 A2 : List Addr} {i : Nat} {x : Option V} (hl : σ.length = ρ.length) (hi : i < ρ.length) (h1 : Reps K H U (σ.take i) (ρ.take i) A1) (h2 : Reps K H U (σ.drop (i + 1)) (ρ.drop (i + 1)) A2) :
    Reps K H U (σ.set i x) (ρ.set i none) (A1 ++ A2) := by
  rw [set_parts (by omega), set_parts hi]
  exact h1.app (.dead h2)
end
end Ev

set_option Elab.async false
set_option linter.all false
set_option maxRecDepth 100000
set_option maxHeartbeats 4000000
/-! The functional reading: expressions and statements over the data. -/
namespace Ev
open PySem PySem.Spec PyProof.Rows L2

def lim : Nat := 1000000
def limS : Nat := 16000000
/-! ### values -/
def cW : V → Option W
  | .non => some .non
  | .bl b => some (.bl b)
  | .int i => some (.int i)
  | .str s => some (.str s)
  | _ => none
def CMulB (i j : Int) : Bool := (decide (-(2 ^ 64) < i) && decide (i < 2 ^ 64)) || (decide (-(2 ^ 64) < j) && decide (j < 2 ^ 64))
def CPowBB (i j : Int) : Bool := decide (0 ≤ j) && ((decide (j ≤ 1000000) && decide (i.natAbs < 2 ^ 64)) || decide ((Builtin.Int.intBits i : Int) * j ≤ 2 ^ 27))
def CPowA (i j : Int) : Bool := decide (0 ≤ j) && (decide (j ≤ 1000000) && decide (i.natAbs < 2 ^ 64))
def binW (op : Operator) (x y : W) : Option W :=
  match op, x, y with
  | .Add, .int i, .int j => some (.int (i + j))
  | .Add, .str a, .str b => if a.length + b.length ≤ lim then some (.str (a ++ b)) else none
  | .Add, .lst _ xs, .lst _ ys => if xs.length + ys.length ≤ lim then some (.lst true (frzL xs ++ frzL ys)) else none
  | .Add, .tup _ (x :: xs), .tup _ (y :: ys) => if xs.length + ys.length ≤ lim then some (.tup false (frzL (x :: xs) ++ frzL (y :: ys))) else none
  | .Sub, .int i, .int j => some (.int (i - j))
  | .Mult, .int i, .int j => if CMulB i j = true then some (.int (i * j)) else none
  | .Mult, .lst _ xs, .int k => if -(2 ^ 63) ≤ k ∧ k < 2 ^ 63 ∧ xs.length * k.toNat ≤ lim then some (.lst true (List.replicate k.toNat (frzL xs)).flatten) else none
  | .FloorDiv, .int i, .int j => if 0 < j ∧ j < 1073741824 then some (.int (i / j)) else none
  | .Mod, .int i, .int j => if 0 < j then some (.int (i % j)) else none
  | .Pow, .int i, .int j => if CPowBB i j = true then some (.int (i ^ j.toNat)) else none
  | .LShift, .int i, .int j => if CPowA i j = true then some (.int (i * 2 ^ j.toNat)) else none
  | .RShift, .int i, .int j => if 0 ≤ j then some (.int (i / 2 ^ j.toNat)) else none
  | .BitAnd, .int i, .int j => some (.int (Builtin.bitAnd i j))
  | .BitOr, .int i, .int j => some (.int (Builtin.bitOr i j))
  | .BitXor, .int i, .int j => some (.int (Builtin.bitXor i j))
  | _, _, _ => none
mutual
def eqW : W → W → Bool
  | .non, y => match y with | .non => true | _ => false
  | .bl a, y => match y with | .bl b => a == b | .int j => (if a then 1 else 0) == j | _ => false
  | .int i, y => match y with | .bl b => i == (if b then 1 else 0) | .int j => i == j | _ => false
  | .str a, y => match y with | .str b => a == b | _ => false
  | .lst _ xs, y => match y with | .lst _ ys => eqL xs ys | _ => false
  | .tup _ xs, y => match y with | .tup _ ys => eqL xs ys | _ => false
  | _, _ => false
def eqL : List W → List W → Bool
  | [], ys => match ys with | [] => true | _ :: _ => false
  | x :: xs, ys => match ys with | [] => false | y :: ys => eqW x y && eqL xs ys
end
mutual
/-- plain data, at most n deep -/
def shW : W → Nat → Bool
  | .non, _ => true
  | .bl _, _ => true
  | .int _, _ => true
  | .str s, _ => PyData.strOk s
  | .lst _ xs, n => match n with | 0 => false | n + 1 => shL xs n
  | .tup _ xs, n => match n with | 0 => false | n + 1 => shL xs n
  | _, _ => false
def shL : List W → Nat → Bool
  | [], _ => true
  | x :: xs, n => shW x n && shL xs n
end
mutual
def toPy : W → PyData
  | .bl b => .bool b
  | .int i => .int i
  | .str s => .str s
  | .lst _ xs => .list (toPyL xs)
  | .tup _ xs => .tuple (toPyL xs)
  | _ => .none
def toPyL : List W → List PyData
  | [] => []
  | x :: xs => toPy x :: toPyL xs
end
def flatW : W → Bool
  | .non => true
  | .bl _ => true
  | .int _ => true
  | .str _ => true
  | _ => false
def keyW : W → Option Key
  | .int i => some (.inl i)
  | .str s => some (.inr s)
  | _ => none
/-- a list that one hand holds alone, of flat things -/
def oF : W → Bool
  | .lst o xs => o && xs.all flatW
  | _ => false
def keysW : List W → Option (List Key)
  | [] => some []
  | x :: xs => match keyW x, keysW xs with | some k, some ks => some (k :: ks) | _, _ => none
def wKey : Key → W
  | .inl i => .int i
  | .inr s => .str s
def tkW : W → Option (List Key)
  | .tup _ xs => keysW xs
  | _ => none
/-- where a key stands -/
def posK {κ : Type} [DecidableEq κ] : List κ → κ → Option Nat
  | [], _ => none
  | k :: ks, x => if k = x then some 0 else match posK ks x with | some n => some (n + 1) | none => none
def kids : W → List W
  | .lst _ xs => xs
  | .tup _ xs => xs
  | .dK _ _ vs => vs
  | .dT _ _ vs => vs
  | .dL _ _ vs => vs
  | .scr xs => xs
  | _ => []
/-- which of the kids w[k] is -/
def posW (w k : W) : Option Nat :=
  match w with
  | .lst _ xs => match k with | .int i => ixN xs.length i | _ => none
  | .tup _ xs => match k with | .int i => ixN xs.length i | _ => none
  | .scr xs => match k with | .int i => ixN xs.length i | _ => none
  | .dK _ ks _ => match keyW k with | some x => posK ks x | none => none
  | .dT _ ks _ => match tkW k with | some x => posK ks x | none => none
  | .dL _ ks _ => match tkW k with | some x => posK ks x | none => none
  | _ => none
def setKid (w : W) (j : Nat) (c : W) : W :=
  match w with
  | .lst o xs => .lst o (xs.set j c)
  | .tup o xs => .tup o (xs.set j c)
  | .dK o ks vs => .dK o ks (vs.set j c)
  | .dT o ks vs => .dT o ks (vs.set j c)
  | .dL o ks vs => .dL o ks (vs.set j c)
  | w => w
def eqqW (x y : W) : Option Bool :=
  match x, y with
  | .int i, .int j => some (decide (i = j))
  | .str a, .str b => some (decide (a = b))
  | .bl a, .bl b => some (decide (a = b))
  | _, _ => if (shW x 60 && shW y 60) = true then some (eqW x y) else none
def isNonW : W → Bool
  | .non => true
  | _ => false
def memW (x y : W) : Option Bool :=
  match y with
  | .str z => match x with | .str s => (match s.cps.toList with | [c] => some (decide (c ∈ z.cps.toList)) | _ => none) | _ => none
  | .lst _ xs => if (flatW x && xs.all flatW) = true then some (xs.any fun z => eqW z x) else none
  | .tup _ xs => if (flatW x && xs.all flatW) = true then some (xs.any fun z => eqW z x) else none
  | .dK _ ks _ => match keyW x with | some k => some (posK ks k).isSome | none => none
  | .dT _ ks _ => match tkW x with | some k => some (posK ks k).isSome | none => none
  | .dL _ ks _ => match tkW x with | some k => some (posK ks k).isSome | none => none
  | _ => none
def cmpW (op : CmpOp) (x y : W) : Option Bool :=
  match op with
  | .Eq => eqqW x y
  | .NotEq => match eqqW x y with | some b => some (!b) | none => none
  | .Is => match y with | .non => some (isNonW x) | .bl b => (match x with | .bl a => some (decide (a = b)) | _ => none) | _ => none
  | .IsNot => match y with | .non => some (!isNonW x) | .bl b => (match x with | .bl a => some (!decide (a = b)) | _ => none) | _ => none
  | .In => memW x y
  | .NotIn => match memW x y with | some b => some (!b) | none => none
  | .Lt => match x, y with | .int i, .int j => some (decide (i < j)) | _, _ => none
  | .LtE => match x, y with | .int i, .int j => some (decide (i ≤ j)) | _, _ => none
  | .Gt => match x, y with | .int i, .int j => some (decide (j < i)) | _, _ => none
  | .GtE => match x, y with | .int i, .int j => some (decide (j ≤ i)) | _, _ => none
def cutW (xs : List W) (lo hi : Option Int) : List W := (xs.drop (HT.sIx xs.length 0 lo)).take (HT.sIx xs.length xs.length hi - HT.sIx xs.length 0 lo)
def slW (x : W) (lo hi : Option Int) : Option W :=
  match x with
  | .str z => if z.length ≤ lim then some (.str (cutS z lo hi)) else none
  | .lst _ xs => some (.lst true (frzL (cutW xs lo hi)))
  | .scr xs => some (.lst true (cutW xs lo hi))
  | _ => none
/-! ### built-ins -/
def intsW : List W → Option (List Int)
  | [] => some []
  | x :: xs => match x, intsW xs with | .int i, some is => some (i :: is) | _, _ => none
def blsW : List W → Option (List Bool)
  | [] => some []
  | x :: xs => match x, blsW xs with | .bl i, some is => some (i :: is) | _, _ => none
def strsW : List W → Option (List Str)
  | [] => some []
  | x :: xs => match x, strsW xs with | .str i, some is => some (i :: is) | _, _ => none
def pairW : W → Option (Int × Int)
  | .tup _ [.int i, .int j] => some (i, j)
  | _ => none
def pairsW : List W → Option (List (Int × Int))
  | [] => some []
  | x :: xs => match pairW x, pairsW xs with | some i, some is => some (i :: is) | _, _ => none
def ins1 {α : Type} (lt : α → α → Bool) (x : α) : List α → List α
  | [] => [x]
  | y :: ys => match lt y x with | true => y :: ins1 lt x ys | false => x :: y :: ys
def isort {α : Type} (lt : α → α → Bool) : List α → List α
  | [] => []
  | x :: xs => ins1 lt x (isort lt xs)
def ltI (i j : Int) : Bool := decide (i < j)
def minL : Int → List Int → Int
  | m, [] => m
  | m, x :: xs => minL (if x < m then x else m) xs
def maxL : Int → List Int → Int
  | m, [] => m
  | m, x :: xs => maxL (if m < x then x else m) xs
def sumL : List Int → Int
  | [] => 0
  | x :: xs => x + sumL xs
def typeW : W → Option String
  | .non => some "NoneType"
  | .bl _ => some "bool"
  | .int _ => some "int"
  | .str _ => some "str"
  | .lst _ _ => some "list"
  | .scr _ => some "list"
  | .tup _ _ => some "tuple"
  | .dK _ _ _ => some "dict"
  | .dT _ _ _ => some "dict"
  | .dL _ _ _ => none
  | .ty _ => none
def instB (a b : String) : Bool := a == b || (a == "bool" && b == "int")
def kPair : W → Option (Key × W)
  | .tup _ [k, v] => match keyW k with | some k => some (k, v) | none => none
  | _ => none
def putP {κ : Type} [DecidableEq κ] : List κ → List W → κ → W → List κ × List W
  | [], _, k, w => ([k], [w])
  | k' :: ks, [], k, w => (k' :: ks, [])
  | k' :: ks, v :: vs, k, w => if k' = k then (k' :: ks, w :: vs) else ((k' :: (putP ks vs k w).1), v :: (putP ks vs k w).2)
def mergeP {κ : Type} [DecidableEq κ] : List κ → List W → List κ → List W → List κ × List W
  | ks, vs, k :: ks', v :: vs' => mergeP (putP ks vs k v).1 (putP ks vs k v).2 ks' vs'
  | ks, vs, _, _ => (ks, vs)
def kPairs : List W → Option (List Key × List W)
  | [] => some ([], [])
  | x :: xs => match kPair x, kPairs xs with | some (k, v), some (ks, vs) => some (k :: ks, frz v :: vs) | _, _ => none
def kInts : List Key → Option (List Int)
  | [] => some []
  | k :: ks => match k, kInts ks with | .inl i, some is => some (i :: is) | _, _ => none
def kTups : List (List Key) → Option (List (Int × Int))
  | [] => some []
  | k :: ks => match k, kTups ks with | [.inl i, .inl j], some is => some ((i, j) :: is) | _, _ => none
def bltW (b : Blt) (ws : List W) : Option W :=
  match b, ws with
  | .len, [x] => (match x with | .str z => if z.length ≤ lim then some (.int z.length) else none | .lst _ xs => some (.int xs.length) | .tup _ xs => some (.int xs.length) | .scr xs => some (.int xs.length) | _ => none)
  | .min, [.int i, .int j] => some (.int (if j < i then j else i))
  | .max, [.int i, .int j] => some (.int (if j > i then j else i))
  | .min, [.lst _ xs] => (match intsW xs with | some (i :: is) => some (.int (minL i is)) | _ => none)
  | .max, [.lst _ xs] => (match intsW xs with | some (i :: is) => some (.int (maxL i is)) | _ => none)
  | .sum, [.lst _ xs] => (match intsW xs with | some is => some (.int (sumL is)) | none => none)
  | .list, [.lst _ xs] => some (.lst true (frzL xs))
  | .list, [.tup _ xs] => some (.lst true (frzL xs))
  | .list, [.dK _ ks _] => some (.lst true (ks.map wKey))
  | .tuple, [.lst _ xs] => some (.tup false (frzL xs))
  | .sorted, [.lst _ xs] => (match intsW xs with
      | some is => some (.lst true ((isort ltI is).map W.int))
      | none => (match pairsW xs with | some is => some (.lst true ((isort SrtO.lexB is).map fun p => .tup false [.int p.1, .int p.2])) | none => none))
  | .sorted, [.dK _ ks _] => (match kInts ks with | some is => some (.lst true ((isort ltI is).map W.int)) | none => none)
  | .sorted, [.dT _ ks _] => (match kTups ks with | some is => some (.lst true ((isort SrtO.lexB is).map fun p => .tup false [.int p.1, .int p.2])) | none => none)
  | .int, [.int i] => some (.int i)
  | .int, [.bl k] => some (.int (if k then 1 else 0))
  | .int, [.str a] => (match PySem.intText? a with | some n => if a.length ≤ 640 then some (.int n) else none | none => none)
  | .str, [.int i] => if i.natAbs.log2 < 1920 then some (.str (toString i)) else none
  | .isinst, [x, .ty n] => (match typeW x with | some t => if n ∈ tyNames then some (.bl (instB t n)) else none | none => none)
  | .dict, [.lst _ xs] => (match kPairs xs with | some (ks, vs) => some (.dK true (mergeP [] [] ks vs).1 (mergeP [] [] ks vs).2) | none => none)
  | .all, [.lst _ xs] => (match blsW xs with | some bs => some (.bl (bs.all id)) | none => none)
  | .repr, [x] => (match x with
      | .lst _ _ => if (shW x 59 && ((toPy x).showable && decide ((toPy x).shown.length ≤ limS))) = true then some (.str (toPy x).shown) else none
      | .tup _ _ => if (shW x 59 && ((toPy x).showable && decide ((toPy x).shown.length ≤ limS))) = true then some (.str (toPy x).shown) else none
      | _ => none)
  | _, _ => none
/-- methods that change nothing -/
def mthW (m : Mth) (x : W) (ws : List W) : Option W :=
  match m, x, ws with
  | .bitlen, .int i, [] => some (.int (Builtin.Int.intBits i : Nat))
  | .index, .lst _ xs, [y] => if (flatW y && xs.all flatW) = true then (match xs.findIdx? fun z => eqW z y with | some j => some (.int (j : Nat)) | none => none) else none
  | .split, .str a, [.str b] => if (b.length == 0) = false ∧ a.length + 2 ≤ lim then some (.lst true ((Txt.split a b).map W.str)) else none
  | .join, .str a, [.lst _ xs] => (match strsW xs with | some ys => if (ys.map (·.length)).sum + ys.length * a.length ≤ lim then some (.str (Txt.join a ys)) else none | none => none)
  | _, _, _ => none
/-- methods that change their own object: what comes, what it is then -/
def mutW (m : Mth) (x : W) (ws : List W) : Option (W × W) :=
  match m, x, ws with
  | .append, .lst true xs, [y] => if xs.length < lim then some (.non, .lst true (xs ++ [y])) else none
  | .pop0, .lst true xs, [] => (match xs[xs.length - 1]? with | some y => some (y, .lst true xs.dropLast) | none => none)
  | .pop1, .lst true xs, [.int i] => if -(2 ^ 63) ≤ i ∧ i < 2 ^ 63 then (match ixN xs.length i with | some j => (match xs[j]? with | some y => some (y, .lst true (xs.eraseIdx j)) | none => none) | none => none) else none
  | .insert, .lst true xs, [.int i, y] => if xs.length < lim ∧ 0 ≤ i ∧ i < 2 ^ 63 then some (.non, .lst true (xs.take i.toNat ++ [y] ++ xs.drop i.toNat)) else none
  | .reverse, .lst true xs, [] => some (.non, .lst true xs.reverse)
  | .update, .dK true ks vs, [.dK true ks' vs'] => if ks.length + ks'.length ≤ lim then some (.non, .dK true (mergeP ks vs ks' (frzL vs')).1 (mergeP ks vs ks' (frzL vs')).2) else none
  | _, _, _ => none
def isMut : Mth → Bool
  | .append => true | .pop0 => true | .pop1 => true | .insert => true | .reverse => true | .update => true | .extend => true
  | _ => false
/-- what a method's object is -/
def tyM (m : Mth) (x : W) : Bool :=
  match m with
  | .get2 => (match x with | .dK _ _ _ => true | .dT _ _ _ => true | _ => false)
  | .update => (match x with | .dK _ _ _ => true | .dT _ _ _ => true | _ => false)
  | _ => (match x with | .lst _ _ => true | _ => false)
/-- x[k] = v -/
def setW (x k v : W) : Option W :=
  match x with
  | .lst true xs => (match k with | .int i => (match ixN xs.length i with | some j => some (.lst true (xs.set j v)) | none => none) | _ => none)
  | .dK true ks vs => (match keyW k with | some y => if ks.length < lim then some (.dK true (putP ks vs y v).1 (putP ks vs y v).2) else none | none => none)
  | .dT true ks vs => (match tkW k with | some y => if ks.length < lim then some (.dT true (putP ks vs y v).1 (putP ks vs y v).2) else none | none => none)
  | _ => none
/-! ### what a def does, on data -/
/-- n arguments; io: the first one is changed in place (its new data come as the second part) -/
structure Fun where
  n : Nat
  io : Bool
  f : List W → Option (W × W)
/-- w[k]: the value itself, or what stands in the text -/
def subW (w k : W) : Option W :=
  match w with
  | .str z => (match k with | .int i => if z.length ≤ lim then (match atI z.cps.toList i with | some c => some (.str ⟨#[c]⟩) | none => none) else none | _ => none)
  | _ => (match posW w k with | some j => (kids w)[j]? | none => none)
/-- whether and where a key stands in a dict that is not locked -/
def getP (w k : W) : Option (Option Nat) :=
  match w with
  | .dK _ ks _ => (match keyW k with | some x => some (posK ks x) | none => none)
  | .dT _ ks _ => (match tkW k with | some x => some (posK ks x) | none => none)
  | _ => none
/-- a value that all its own things are held by leaves everybody else's as they were -/
def keep (p : Bool) (ρ : Rho) (r : Option (W × Rho)) : Option (W × Rho) :=
  match r with
  | some (w, ρ') => (match p && iso w with | true => some (w, ρ) | false => some (w, ρ'))
  | none => none
def wipeR (ρ : Rho) : List Nat → Rho
  | [] => ρ
  | v :: vs => (wipeR ρ vs).set v none
/-- targets that are slots of vs alone -/
def tgIn (vs : List Nat) : Tg → Bool
  | .nm i => decide (i ∈ vs)
  | .tp ts => tgIns vs ts
  | .sub _ _ => false
where tgIns (vs : List Nat) : Tgs → Bool
  | .nil => true
  | .cons t ts => tgIn vs t && tgIns vs ts
/-- [..]: one turn, then the rest; t: the target's stores, c: the condition, e: the item -/
def lcGo (vs : List Nat) (t : W → Rho → Option Rho) (c : Rho → Option (Bool × Rho)) (e : Rho → Option (W × Rho)) : List W → Rho → Option (List W × Rho)
  | [], ρ => some ([], ρ)
  | x :: xs, ρ => match t x (wipeR ρ vs) with
    | some ρ1 => (match c ρ1 with
      | some (b, ρ2) => (match b with
        | true => (match e ρ2 with
          | some (y, ρ3) => (match lcGo vs t c e xs ρ3 with | some (ys, ρ4) => some (y :: ys, ρ4) | none => none)
          | none => none)
        | false => lcGo vs t c e xs ρ2)
      | none => none)
    | none => none
def dcGo (vs : List Nat) (t : W → Rho → Option Rho) (c : Rho → Option (Bool × Rho)) (k e : Rho → Option (W × Rho)) : List W → Rho → List Key → List W → Option (List Key × List W × Rho)
  | [], ρ, ks, ws => some (ks, ws, ρ)
  | x :: xs, ρ, ks, ws => match t x (wipeR ρ vs) with
    | some ρ1 => (match c ρ1 with
      | some (b, ρ2) => (match b with
        | true => (match k ρ2 with
          | some (kw, ρ3) => (match keyW kw with
            | some key => (match e ρ3 with
              | some (y, ρ4) => if ks.length < lim then dcGo vs t c k e xs ρ4 (putP ks ws key y).1 (putP ks ws key y).2 else none
              | none => none)
            | none => none)
          | none => none)
        | false => dcGo vs t c k e xs ρ2 ks ws)
      | none => none)
    | none => none
def enumW : Nat → List W → List W
  | _, [] => []
  | i, x :: xs => .tup false [.int (i : Nat), x] :: enumW (i + 1) xs
def seqW : W → Option (List W)
  | .lst _ xs => some (frzL xs)
  | .tup _ xs => some (frzL xs)
  | .str z => some (z.cps.toList.map fun c => W.str ⟨#[c]⟩)
  | _ => none
def rngW (i j : Int) : List W := (List.range (j - i).toNat).map fun n => W.int (i + (n : Nat))
def rgOkB (i j : Int) : Bool := decide (-(2 ^ 62) ≤ i) && (decide (i < 2 ^ 62) && (decide (-(2 ^ 62) ≤ j) && decide (j < 2 ^ 62)))
def isNoneE : E → Bool
  | .cst .non => true
  | _ => false
section
variable (T : Tab) (Φ : Nat → Fun)
mutual
/-- nothing that stands at the heap is changed -/
def pureE : E → Bool
  | .bin _ a b => pureE a && pureE b
  | .neg a => pureE a
  | .not a => pureE a
  | .cmp _ a b => pureE a && pureE b
  | .chn _ _ a b c => pureE a && (pureE b && pureE c)
  | .and a b => pureE a && pureE b
  | .or a b => pureE a && pureE b
  | .ite c a b => pureE c && (pureE a && pureE b)
  | .tup es => pureEs es
  | .lst es => pureEs es
  | .call k es => !(Φ k).io && pureEs es
  | .kcall k _ _ es => !(Φ k).io && pureEs es
  | .blt _ es => pureEs es
  | .mth m o es => !isMut m && (pureE o && pureEs es)
  | .sub a b => pureE a && pureE b
  | .slc a lo hi => pureE a && (pureE lo && pureE hi)
  | .rev a => pureE a
  | .lrng1 a => pureE a
  | .lrng2 a b => pureE a && pureE b
  | .dict1 a b => pureE a && pureE b
  | .dc _ k v _ it ifs => pureI it && (pureEs ifs && (pureE k && pureE v))
  | .lc _ elt _ it ifs => pureI it && (pureEs ifs && pureE elt)
  | .lock _ _ _ _ _ => false
  | _ => true
def pureEs : Es → Bool
  | .nil => true
  | .cons e es => pureE e && pureEs es
def pureI : It' → Bool
  | .seq e => pureE e
  | .rng1 a => pureE a
  | .rng2 a b => pureE a && pureE b
  | .enum e => pureE e
  | .dct e => pureE e
end
def cWs : List V → Option (List W)
  | [] => some []
  | v :: vs => (match cW v, cWs vs with | some w, some ws => some (w :: ws) | _, _ => none)
end
section
variable (T : Tab) (Φ : Nat → Fun) (prot : Nat)
mutual
def evE : E → Rho → Option (W × Rho)
  | .var i, ρ => (match ρ[i]? with
      | some (some w) => (match isV w with | true => some (w, ρ) | false => some (frz w, ρ.set i (some (frz w))))
      | _ => none)
  | .cst v, ρ => (match cW v with | some w => some (w, ρ) | none => none)
  | .ty n, ρ => some (.ty n, ρ)
  | .glb c, ρ => (match T.cst[c]? with | some p => (match cW p.2 with | some w => some (w, ρ) | none => none) | none => none)
  | .bin op a b, ρ => keep (pureE Φ a && pureE Φ b) ρ (match evE a ρ with
      | some (x, ρ1) => (match evE b ρ1 with | some (y, ρ2) => (match binW op x y with | some z => some (z, ρ2) | none => none) | none => none)
      | none => none)
  | .neg a, ρ => (match evE a ρ with | some (.int i, ρ1) => some (.int (-i), ρ1) | _ => none)
  | .not a, ρ => (match evE a ρ with | some (.bl b, ρ1) => some (.bl (!b), ρ1) | _ => none)
  | .cmp op a b, ρ => keep (pureE Φ a && pureE Φ b) ρ (match evE a ρ with
      | some (x, ρ1) => (match evE b ρ1 with | some (y, ρ2) => (match cmpW op x y with | some z => some (.bl z, ρ2) | none => none) | none => none)
      | none => none)
  | .chn op op' a b c, ρ => keep (pureE Φ a && (pureE Φ b && pureE Φ c)) ρ (match evE a ρ with
      | some (x, ρ1) => (match evE b ρ1 with
        | some (y, ρ2) => (match cmpW op x y with
          | some k => (match k with
            | true => (match evE c ρ2 with | some (z, ρ3) => (match cmpW op' y z with | some k => some (.bl k, ρ3) | none => none) | none => none)
            | false => some (.bl false, ρ2))
          | none => none)
        | none => none)
      | none => none)
  | .and a b, ρ => (match evE a ρ with | some (.bl k, ρ1) => (match k with | true => evE b ρ1 | false => some (.bl false, ρ1)) | _ => none)
  | .or a b, ρ => (match evE a ρ with | some (.bl k, ρ1) => (match k with | true => some (.bl true, ρ1) | false => evE b ρ1) | _ => none)
  | .ite c a b, ρ => (match evE c ρ with | some (.bl k, ρ1) => (match k with | true => evE a ρ1 | false => evE b ρ1) | _ => none)
  | .tup es, ρ => (match evEs es ρ with | some (ws, ρ1) => if ws.length ≤ lim then some (.tup (!ws.all isV) ws, ρ1) else none | none => none)
  | .lst es, ρ => (match evEs es ρ with | some (ws, ρ1) => if ws.length ≤ lim then some (.lst true ws, ρ1) else none | none => none)
  | .call k es, ρ => (match T.fns[k]? with
      | some d => (match (Φ k).io with
        | false => keep (pureEs Φ es) ρ (match evEs es ρ with
          | some (ws, ρ1) => (match cWs (d.dv es.len) with
            | some ds => if (frzL ws ++ ds).length = (Φ k).n then (match (Φ k).f (frzL ws ++ ds) with | some (w, _) => some (w, ρ1) | none => none) else none
            | none => none)
          | none => none)
        | true => (match es with
          | .cons e es => (match e with
            | .var i => (match ρ[i]? with
             | some (some x0) => (match evEs es ρ with
              | some (ws, ρ1) => (match cWs (d.dv (es.len + 1)) with
                | some ds => (match ρ1[i]? with
                  | some (some w) => if (w :: (frzL ws ++ ds)).length = (Φ k).n then (match (Φ k).f (w :: (frzL ws ++ ds)) with | some (r, w') => some (r, (match pureEs Φ es && (iso r && (oF x0 && (oF w && oF w'))) with | true => ρ.set i (some w') | false => ρ1.set i (some w'))) | none => none) else none
                  | _ => none)
                | none => none)
              | none => none)
             | _ => none)
            | _ => (match evE e ρ with
              | some (w, ρ1) => (match evEs es ρ1 with
                | some (ws, ρ2) => (match cWs (d.dv (es.len + 1)) with
                  | some ds => if (w :: (frzL ws ++ ds)).length = (Φ k).n then (match (Φ k).f (w :: (frzL ws ++ ds)) with | some (r, _) => some (r, ρ2) | none => none) else none
                  | none => none)
                | none => none)
              | none => none))
          | .nil => none))
      | none => none)
  | .kcall k ks pm es, ρ => (match T.fns[k]? with
      | some _ => (match (Φ k).io with
        | false => keep (pureEs Φ es) ρ (match evEs es ρ with
          | some (ws, ρ1) => if ws.length = ks.length ∧ pm.all (fun i => decide (i < ks.length)) = true ∧ pm.length = (Φ k).n then (match (Φ k).f (pm.map fun i => (frzL ws).getD i .non) with | some (w, _) => some (w, ρ1) | none => none) else none
          | none => none)
        | true => none)
      | none => none)
  | .blt b es, ρ => keep (pureEs Φ es) ρ (match evEs es ρ with
      | some (ws, ρ1) => (match bltW b ws with | some w => some (w, ρ1) | none => none)
      | none => none)
  | .mth m o es, ρ => (match isMut m with
      | true => (match o with
        | .var i => (match ρ[i]? with
          | some (some x0) => (match tyM m x0 with
            | true => (match evEs es ρ with
              | some (ws, ρ1) => (match ρ1[i]? with
                | some (some x) => (match mutW m x ws with | some (r, x') => some (r, ρ1.set i (some x')) | none => none)
                | _ => none)
              | none => none)
            | false => none)
          | _ => none)
        | _ => none)
      | false => (match m with
        | .get2 => (match o with
          | .var i => (match ρ[i]? with
           | some (some x0) => (match tyM .get2 x0 with
            | true => (match evEs es ρ with
             | some (ws, ρ1) => (match ws with
              | [k, z] => (match ρ1[i]? with
                | some (some x) => (match getP x k with
                  | some (some j) => (match (kids x)[j]? with
                    | some c => (match isV c with | true => some (c, ρ1) | false => some (frz c, ρ1.set i (some (setKid x j (frz c)))))
                    | none => none)
                  | some none => some (z, ρ1)
                  | none => none)
                | _ => none)
              | _ => none)
             | none => none)
            | false => none)
           | _ => none)
          | _ => none)
        | _ => keep (pureE Φ o && pureEs Φ es) ρ (match evE o ρ with
          | some (x, ρ1) => (match evEs es ρ1 with
            | some (ws, ρ2) => (match mthW m x ws with | some w => some (w, ρ2) | none => none)
            | none => none)
          | none => none)))
  | .sub a b, ρ => (match a with
      | .var i => (match ρ[i]? with
       | some (some _) => (match evE b ρ with
        | some (k, ρ1) => (match ρ1[i]? with
          | some (some x) => (match subW x k with
            | some c => (match isV c with
              | true => some (c, ρ1)
              | false => (match posW x k with | some j => some (frz c, ρ1.set i (some (setKid x j (frz c)))) | none => none))
            | none => none)
          | _ => none)
        | none => none)
       | _ => none)
      | _ => keep (pureE Φ a && pureE Φ b) ρ (match evE a ρ with
        | some (x, ρ1) => (match evE b ρ1 with | some (y, ρ2) => (match subW x y with | some z => some (z, ρ2) | none => none) | none => none)
        | none => none))
  | .slc a lo hi, ρ => keep (pureE Φ a && (pureE Φ lo && pureE Φ hi)) ρ (match evE a ρ with
      | some (x, ρ1) => (match (match isNonE lo with | true => some (none, ρ1) | false => (match evE lo ρ1 with | some (.int i, ρ2) => some (some i, ρ2) | _ => none)) with
        | some (l, ρ2) => (match (match isNonE hi with | true => some (none, ρ2) | false => (match evE hi ρ2 with | some (.int i, ρ3) => some (some i, ρ3) | _ => none)) with
          | some (h, ρ3) => (match slW x l h with | some z => some (z, ρ3) | none => none)
          | none => none)
        | none => none)
      | none => none)
  | .rev a, ρ => keep (pureE Φ a) ρ (match evE a ρ with
      | some (.lst _ xs, ρ1) => some (.lst true (frzL xs).reverse, ρ1)
      | _ => none)
  | .lrng1 a, ρ => (match evE a ρ with | some (.int j, ρ1) => if -(2 ^ 60) ≤ j ∧ j ≤ (lim : Int) then some (.lst true (rngW 0 j), ρ1) else none | _ => none)
  | .lrng2 a b, ρ => (match evE a ρ with
      | some (.int i, ρ1) => (match evE b ρ1 with | some (.int j, ρ2) => if -(2 ^ 60) ≤ i ∧ i ≤ 2 ^ 60 ∧ -(2 ^ 60) ≤ j ∧ j ≤ 2 ^ 60 ∧ j - i ≤ (lim : Int) then some (.lst true (rngW i j), ρ2) else none | _ => none)
      | _ => none)
  | .dict0 t, ρ => some (match t with | true => .dT true [] [] | false => .dK true [] [], ρ)
  | .dict1 a b, ρ => (match evE a ρ with
      | some (k, ρ1) => (match evE b ρ1 with | some (v, ρ2) => (match tkW k with | some ks => some (.dT true [ks] [v], ρ2) | none => none) | none => none)
      | none => none)
  | .dc own k v tg it ifs, ρ => keep (pureI Φ it && (pureEs Φ ifs && (pureE Φ k && pureE Φ v))) ρ (match evI it ρ with
      | some (xs, ρ1) => if tgIn (own.map (·.2)) tg = true then
          (match dcGo (own.map (·.2)) (fun w ρ => evG tg w ρ) (fun ρ => evTs ifs ρ) (fun ρ => evE k ρ) (fun ρ => evE v ρ) xs ρ1 [] [] with
            | some (ks, ws, ρ2) => some (.dK true ks ws, wipeR ρ2 (own.map (·.2)))
            | none => none) else none
      | none => none)
  | .lock own elt tg d ifs, ρ => (match d with
      | .var i => (match ρ[i]? with
        | some (some (.dT true ks vs)) => if (tgIn (own.map (·.2)) tg && (decide (ks.length ≤ lim) && (pureEs Φ ifs && pureE Φ elt))) = true then
            (match lcGo (own.map (·.2)) (fun w ρ => evG tg w ρ) (fun ρ => evTs ifs ρ) (fun ρ => evE elt ρ) (ks.map fun k => .tup false (k.map wKey)) (ρ.set i (some (.dL false ks (frzL vs)))) with
              | some (ys, _) => (match isoL ys with | true => some (.lst true ys, ρ) | false => none)
              | none => none) else none
        | _ => none)
      | _ => none)
  | .lc own elt tg it ifs, ρ => keep (pureI Φ it && (pureEs Φ ifs && pureE Φ elt)) ρ (match evI it ρ with
      | some (xs, ρ1) => if (tgIn (own.map (·.2)) tg && decide (xs.length ≤ lim)) = true then
          (match lcGo (own.map (·.2)) (fun w ρ => evG tg w ρ) (fun ρ => evTs ifs ρ) (fun ρ => evE elt ρ) xs ρ1 with
            | some (ys, ρ2) => some (.lst true ys, wipeR ρ2 (own.map (·.2)))
            | none => none) else none
      | none => none)
def evEs : Es → Rho → Option (List W × Rho)
  | .nil, ρ => some ([], ρ)
  | .cons e es, ρ => (match evE e ρ with
      | some (w, ρ1) => (match evEs es ρ1 with | some (ws, ρ2) => some (w :: ws, ρ2) | none => none)
      | none => none)
def evTs : Es → Rho → Option (Bool × Rho)
  | .nil, ρ => some (true, ρ)
  | .cons c _, ρ => (match evE c ρ with | some (.bl b, ρ1) => some (b, ρ1) | _ => none)
def evI : It' → Rho → Option (List W × Rho)
  | .seq e, ρ => (match evE e ρ with | some (w, ρ1) => (match seqW w with | some xs => some (xs, ρ1) | none => none) | none => none)
  | .rng1 a, ρ => (match evE a ρ with | some (.int j, ρ1) => if rgOkB 0 j = true then some (rngW 0 j, ρ1) else none | _ => none)
  | .rng2 a b, ρ => (match evE a ρ with
      | some (.int i, ρ1) => (match evE b ρ1 with | some (.int j, ρ2) => if rgOkB i j = true then some (rngW i j, ρ2) else none | _ => none)
      | _ => none)
  | .enum e, ρ => (match evE e ρ with | some (.lst _ xs, ρ1) => some (enumW 0 (frzL xs), ρ1) | _ => none)
  | .dct _, _ => none
def evG : Tg → W → Rho → Option Rho
  | .nm i, w, ρ => if prot ≤ i ∧ i < ρ.length then some (ρ.set i (some w)) else none
  | .tp ts, w, ρ => (match w with | .tup _ xs => evGs ts xs ρ | .lst _ xs => evGs ts xs ρ | _ => none)
  | .sub o i, w, ρ => (match o with
      | .var s => (match ρ[s]? with
       | some (some _) => (match evE i ρ with
        | some (k, ρ1) => (match ρ1[s]? with
          | some (some x) => (match setW x k w with | some x' => some (ρ1.set s (some x')) | none => none)
          | _ => none)
        | none => none)
       | _ => none)
      | _ => none)
def evGs : Tgs → List W → Rho → Option Rho
  | .nil, ws, ρ => (match ws with | [] => some ρ | _ :: _ => none)
  | .cons t ts, ws, ρ => (match ws with | w :: ws => (match evG t w ρ with | some ρ1 => evGs ts ws ρ1 | none => none) | [] => none)
end
/-! ### statements -/
inductive Out where
  | nx (ρ : Rho)
  | ct (ρ : Rho)
  | bk (ρ : Rho)
  | rt (w : W) (ρ : Rho)
/-- the value of return: a name's own value goes with it -/
def evR (e : E) (ρ : Rho) : Option (W × Rho) :=
  match e with
  | .var i => if prot ≤ i then (match ρ[i]? with | some (some w) => some (w, ρ.set i none) | _ => none) else evE T Φ prot e ρ
  | .tup es => (match evRs es ρ with | some (ws, ρ1) => if ws.length ≤ lim then some (.tup (!ws.all isV) ws, ρ1) else none | none => none)
  | _ => evE T Φ prot e ρ
where evRs : Es → Rho → Option (List W × Rho)
  | .nil, ρ => some ([], ρ)
  | .cons e es, ρ => (match (match e with
        | .var i => if prot ≤ i then (match ρ[i]? with | some (some w) => some (w, ρ.set i none) | _ => none) else evE T Φ prot e ρ
        | _ => evE T Φ prot e ρ) with
      | some (w, ρ1) => (match evRs es ρ1 with | some (ws, ρ2) => some (w :: ws, ρ2) | none => none)
      | none => none)
def forGo (t : W → Rho → Option Rho) (b : Rho → Option Out) : List W → Rho → Option Out
  | [], ρ => some (.nx ρ)
  | x :: xs, ρ => (match t x ρ with
      | some ρ1 => (match b ρ1 with
        | some o => (match o with
          | .nx ρ2 => forGo t b xs ρ2
          | .ct ρ2 => forGo t b xs ρ2
          | .bk ρ2 => some (.nx ρ2)
          | .rt w ρ2 => some (.rt w ρ2))
        | none => none)
      | none => none)
def whileGo (c : Rho → Option (Bool × Rho)) (b : Rho → Option Out) : Nat → Rho → Option Out
  | 0, _ => none
  | n + 1, ρ => (match c ρ with
      | some (k, ρ1) => (match k with
        | false => some (.nx ρ1)
        | true => (match b ρ1 with
          | some o => (match o with
            | .nx ρ2 => whileGo c b n ρ2
            | .ct ρ2 => whileGo c b n ρ2
            | .bk ρ2 => some (.nx ρ2)
            | .rt w ρ2 => some (.rt w ρ2))
          | none => none))
      | none => none)
def evB (e : E) (ρ : Rho) : Option (Bool × Rho) := match evE T Φ prot e ρ with | some (.bl b, ρ1) => some (b, ρ1) | _ => none
mutual
def xS : S → Rho → Option Out
  | .set t e, ρ => (match evE T Φ prot e ρ with | some (w, ρ1) => (match evG T Φ prot t w ρ1 with | some ρ2 => some (.nx ρ2) | none => none) | none => none)
  | .par2 i j a b, ρ => (match evE T Φ prot a ρ with
      | some (x, ρ1) => (match evE T Φ prot b ρ1 with
        | some (y, ρ2) => if prot ≤ i ∧ prot ≤ j ∧ i < ρ2.length ∧ j < ρ2.length ∧ i ≠ j then some (.nx ((ρ2.set i (some x)).set j (some y))) else none
        | none => none)
      | none => none)
  | .par3 i j k a b c, ρ => (match evE T Φ prot a ρ with
      | some (x, ρ1) => (match evE T Φ prot b ρ1 with
        | some (y, ρ2) => (match evE T Φ prot c ρ2 with
          | some (z, ρ3) => if prot ≤ i ∧ prot ≤ j ∧ prot ≤ k ∧ i < ρ3.length ∧ j < ρ3.length ∧ k < ρ3.length ∧ i ≠ j ∧ i ≠ k ∧ j ≠ k then some (.nx (((ρ3.set i (some x)).set j (some y)).set k (some z))) else none
          | none => none)
        | none => none)
      | none => none)
  | .setlc i own elt tg it ifs, ρ => (match evE T Φ prot (.lc own elt tg it ifs) ρ with | some (w, ρ1) => if prot ≤ i ∧ i < ρ1.length then some (.nx (ρ1.set i (some w))) else none | none => none)
  | .augn i op e, ρ => (match ρ[i]? with
      | some (some (.int x)) => (match evE T Φ prot e ρ with
        | some (.int y, ρ1) => (match op with
          | .Add => if prot ≤ i ∧ i < ρ1.length then some (.nx (ρ1.set i (some (.int (x + y))))) else none
          | .Sub => if prot ≤ i ∧ i < ρ1.length then some (.nx (ρ1.set i (some (.int (x - y))))) else none
          | _ => none)
        | _ => none)
      | _ => none)
  | .augs _ _ _ _, _ => none
  | .exp e, ρ => (match evE T Φ prot e ρ with | some (_, ρ1) => some (.nx ρ1) | none => none)
  | .ret e, ρ => (match evR T Φ prot e ρ with | some (w, ρ1) => some (.rt w ρ1) | none => none)
  | .ite c a b, ρ => (match evB T Φ prot c ρ with | some (k, ρ1) => (match k with | true => xSs a ρ1 | false => xSs b ρ1) | none => none)
  | .while c b, ρ => whileGo (fun ρ => evB T Φ prot c ρ) (fun ρ => xSs b ρ) lim ρ
  | .for tg it b, ρ => (match evI T Φ prot it ρ with | some (xs, ρ1) => forGo (fun w ρ => evG T Φ prot tg w ρ) (fun ρ => xSs b ρ) xs ρ1 | none => none)
  | .lock _, _ => none
  | .cont, ρ => some (.ct ρ)
  | .brk, ρ => some (.bk ρ)
  | .pass, ρ => some (.nx ρ)
  | .never, _ => none
def xSs : Ss → Rho → Option Out
  | .nil, ρ => some (.nx ρ)
  | .cons s ss, ρ => (match xS s ρ with
      | some o => (match o with
        | .nx ρ1 => xSs ss ρ1
        | .ct ρ1 => some (.ct ρ1)
        | .bk ρ1 => some (.bk ρ1)
        | .rt w ρ1 => some (.rt w ρ1))
      | none => none)
end
end
/-- a def's body at its arguments; N slots; io: the first parameter is changed in place -/
def evFn (T : Tab) (Φ : Nat → Fun) (io : Bool) (N : Nat) (B : Ss) (ws : List W) : Option (W × W) :=
  match xSs T Φ (match io with | true => 1 | false => 0) B (ws.map some ++ List.replicate (N - ws.length) none) with
  | some (.rt w ρ) => (match io with | false => some (w, .non) | true => (match ρ[0]? with | some (some w0) => some (w, w0) | _ => none))
  | some (.nx ρ) => (match io with | false => some (.non, .non) | true => (match ρ[0]? with | some (some w0) => some (.non, w0) | _ => none))
  | _ => none
end Ev

set_option Elab.async false
set_option linter.all false
set_option maxRecDepth 100000
set_option maxHeartbeats 4000000
/-! States and results at the heap. -/
namespace Ev
open PySem PySem.Spec PyProof.Rows L2

/-- the slots' data at the heap; A: what they hold alone; F: what others hold -/
structure Stt (K : PySem.W.Frag) (H : Hp) (F : US) (σ : L2.St) (ρ : Rho) (A : List Addr) : Prop where
  reps : Reps K H (fun a => a ∈ A ∨ F a) σ ρ A
  nd : A.Nodup
  dj : ∀ a ∈ A, ¬ F a
  dm : ∀ a, F a → H a ≠ none
  nt : ∀ a, F a → ∀ xs, H a ≠ some (.tup xs)
/-- what comes of a state: B: what the result holds alone; p: nothing that stood was changed -/
structure Res (p : Bool) (K : PySem.W.Frag) (H : Hp) (F : US) (A : List Addr) (H' : Hp) (σ' : L2.St) (ρ' : Rho) (A' B : List Addr) (P : US → Prop) : Prop where
  ok : P fun a => (a ∈ B ∨ a ∈ A') ∨ F a
  reps : Reps K H' (fun a => (a ∈ B ∨ a ∈ A') ∨ F a) σ' ρ' A'
  nd : (B ++ A').Nodup
  pv : ∀ a, a ∈ B ∨ a ∈ A' → a ∈ A ∨ H a = none
  fr : p = true → ∀ a ∈ B, H a = none
  kp : ∀ b o, (p = true ∨ b ∉ A) → H b = some o → H' b = some o
  db : Dom H' B
  nb : NoTup H' B
section
variable {K : PySem.W.Frag} {H H' H1 H2 : Hp} {F : US} {σ σ' σ1 σ2 : L2.St} {ρ ρ0 ρ1 ρ2 : Rho} {A A1 A2 A' B B1 B2 : List Addr} {p q : Bool} {P P1 P2 : US → Prop}
theorem Reps.less {U U' : US} (h : Reps K H U σ ρ A) (hu : ∀ b, U' b → U b) : Reps K H U' σ ρ A := h.step (M := fun _ => False) ⟨fun _ _ _ e => e, fun _ z => z.elim, fun b z => .inl (hu b z)⟩ fun _ _ z => z
theorem some_of {x : Option HO} (h : x ≠ none) : ∃ o, x = some o := by
  cases x with
  | none => exact absurd rfl h
  | some o => exact ⟨o, rfl⟩
/-- a value that is already there -/
theorem Res.here (S : Stt K H F σ ρ A) (h : P fun a => (a ∈ ([] : List Addr) ∨ a ∈ A) ∨ F a) : Res true K H F A H σ ρ A [] P where
  ok := h
  reps := S.reps.less fun b z => z.elim (fun z => z.elim (fun z => absurd z (by simp)) .inl) .inr
  nd := S.nd
  pv := fun a z => z.elim (fun z => absurd z (by simp)) .inl
  fr := fun _ a z => absurd z (by simp)
  kp := fun b o _ e => e
  db := fun a z => absurd z (by simp)
  nb := fun a z => absurd z (by simp)
/-- a ground to start from: what is held here and by others, apart -/
structure Bas (K : PySem.W.Frag) (H : Hp) (F : US) (A : List Addr) : Prop where
  dj : ∀ a ∈ A, ¬ F a
  dm : ∀ a, F a → H a ≠ none
  nt : ∀ a, F a → ∀ xs, H a ≠ some (.tup xs)
theorem Stt.bas (S : Stt K H F σ ρ A) : Bas K H F A := ⟨S.dj, S.dm, S.nt⟩
/-- the state behind it, the result held aside -/
theorem Res.next (S : Bas K H F A) (r : Res p K H F A H' σ' ρ' A' B P) : Stt K H' (fun a => a ∈ B ∨ F a) σ' ρ' A' where
  reps := r.reps.less fun b z => by
    rcases z with z | z | z
    · exact .inl (.inr z)
    · exact .inl (.inl z)
    · exact .inr z
  nd := (List.nodup_append.mp r.nd).2.1
  dj := fun a ha z => by
    rcases z with z | z
    · exact (List.nodup_append.mp r.nd).2.2 a z a ha rfl
    · rcases r.pv a (.inr ha) with h | h
      · exact S.dj a h z
      · exact S.dm a z h
  dm := fun a z => by
    rcases z with z | z
    · exact r.db a z
    · obtain ⟨o, e⟩ := some_of (S.dm a z)
      rw [r.kp a o (.inr fun h => S.dj a h z) e]
      simp
  nt := fun a z => by
    rcases z with z | z
    · exact r.nb a z
    · obtain ⟨o, e⟩ := some_of (S.dm a z)
      intro xs
      rw [r.kp a o (.inr fun h => S.dj a h z) e, ← e]
      exact S.nt a z xs
/-- the heap's step of a second part, seen from what was held after the first -/
theorem Res.stp (S : Stt K H F σ ρ A) (r : Res p K H F A H' σ' ρ' A' B P) : Stp H H' (fun a => a ∈ A ∨ F a) (fun a => (a ∈ B ∨ a ∈ A') ∨ F a) (fun a => a ∈ A) where
  keep := fun b o n e => r.kp b o (.inr n) e
  mu := fun b m => .inl m
  un := fun b z => by
    rcases z with z | z
    · exact (r.pv b z).elim (fun h => .inl (.inl h)) .inr
    · exact .inl (.inr z)
/-- what was free stays unheld -/
theorem Res.was (r : Res p K H F A H' σ' ρ' A' B P) {a : Addr} (h : H' a = none) : a ∈ A ∨ H a = none := by
  by_cases hA : a ∈ A
  · exact .inl hA
  · refine .inr ?_
    cases e : H a with
    | none => rfl
    | some o => rw [r.kp a o (.inr hA) e] at h; cases h
/-- two parts, one behind the other -/
theorem Res.seq (S : Stt K H F σ ρ A) (r1 : Res p K H F A H1 σ1 ρ1 A1 B1 P1) (r2 : Res q K H1 (fun a => a ∈ B1 ∨ F a) A1 H2 σ2 ρ2 A2 B2 P2)
    (hP : Stp H1 H2 (fun a => (a ∈ B1 ∨ a ∈ A1) ∨ F a) (fun a => (a ∈ B1 ++ B2 ∨ a ∈ A2) ∨ F a) (fun a => a ∈ A1) → P2 (fun a => (a ∈ B1 ++ B2 ∨ a ∈ A2) ∨ F a) → P (fun a => (a ∈ B1 ++ B2 ∨ a ∈ A2) ∨ F a)) :
    Res (p && q) K H F A H2 σ2 ρ2 A2 (B1 ++ B2) P := by
  have eU : (fun a => (a ∈ B2 ∨ a ∈ A2) ∨ (a ∈ B1 ∨ F a)) = fun a => (a ∈ B1 ++ B2 ∨ a ∈ A2) ∨ F a := by
    funext a
    apply propext
    rw [List.mem_append]
    constructor
    · rintro ((h | h) | h | h)
      · exact .inl (.inl (.inr h))
      · exact .inl (.inr h)
      · exact .inl (.inl (.inl h))
      · exact .inr h
    · rintro (((h | h) | h) | h)
      · exact .inr (.inl h)
      · exact .inl (.inl h)
      · exact .inl (.inr h)
      · exact .inr (.inr h)
  have nB1 : ∀ a, a ∈ B1 → a ∈ A1 → False := fun a h h' => (List.nodup_append.mp r1.nd).2.2 a h a h' rfl
  have kp : ∀ b o, ((p && q) = true ∨ b ∉ A) → H b = some o → H2 b = some o := fun b o hb e => by
    rcases hb with hb | hb
    · rw [Bool.and_eq_true] at hb
      exact r2.kp b o (.inl hb.2) (r1.kp b o (.inl hb.1) e)
    · refine r2.kp b o (.inr fun h => ?_) (r1.kp b o (.inr hb) e)
      rcases r1.pv b (.inr h) with h | h
      · exact hb h
      · rw [h] at e; cases e
  have pv2 : ∀ a, a ∈ B2 ∨ a ∈ A2 → a ∈ A ∨ H a = none := fun a h => by
    rcases r2.pv a h with h | h
    · exact r1.pv a (.inr h)
    · exact r1.was h
  have keepB : ∀ a ∈ B1, H2 a = H1 a := fun a ha => by
    obtain ⟨o, e⟩ := some_of (r1.db a ha)
    rw [r2.kp a o (.inr fun h => nB1 a ha h) e, e]
  refine ⟨hP ?_ (eU ▸ r2.ok), eU ▸ r2.reps, ?_, ?_, ?_, kp, ?_, ?_⟩
  · refine ⟨fun b o n e => r2.kp b o (.inr n) e, fun b m => .inl (.inr m), fun b z => ?_⟩
    rw [List.mem_append] at z
    rcases z with ((z | z) | z) | z
    · exact .inl (.inl (.inl z))
    · exact (r2.pv b (.inl z)).elim (fun h => .inl (.inl (.inr h))) .inr
    · exact (r2.pv b (.inr z)).elim (fun h => .inl (.inl (.inr h))) .inr
    · exact .inl (.inr z)
  · rw [List.append_assoc]
    refine List.nodup_append.mpr ⟨(List.nodup_append.mp r1.nd).1, r2.nd, fun a ha b hb e => ?_⟩
    subst e
    rw [List.mem_append] at hb
    rcases r2.pv a hb with h | h
    · exact nB1 a ha h
    · exact r1.db a ha h
  · intro a h
    rw [List.mem_append] at h
    rcases h with (h | h) | h
    · exact r1.pv a (.inl h)
    · exact pv2 a (.inl h)
    · exact pv2 a (.inr h)
  · intro hp a h
    rw [Bool.and_eq_true] at hp
    rcases List.mem_append.mp h with h | h
    · exact r1.fr hp.1 a h
    · have e := r2.fr hp.2 a h
      cases e2 : H a with
      | none => rfl
      | some o => rw [r1.kp a o (.inl hp.1) e2] at e; cases e
  · intro a h
    rcases List.mem_append.mp h with h | h
    · rw [keepB a h]; exact r1.db a h
    · exact r2.db a h
  · intro a h
    rcases List.mem_append.mp h with h | h
    · rw [keepB a h]; exact r1.nb a h
    · exact r2.nb a h
/-- the heap grows; C: what the new result holds, fresh or taken from the old one -/
theorem Res.grow {C : List Addr} (r : Res p K H F A H1 σ' ρ' A' B P1) (hs : ∀ b o, H1 b = some o → H2 b = some o) (hC : ∀ c ∈ C, H1 c = none ∨ c ∈ B) (nC : C.Nodup) (dC : Dom H2 C) (tC : NoTup H2 C)
    (hP : P (fun a => (a ∈ C ∨ a ∈ A') ∨ F a)) : Res p K H F A H2 σ' ρ' A' C P := by
  refine ⟨hP, r.reps.step (M := fun _ => False) ⟨fun b o _ e => hs b o e, fun _ z => z.elim, fun b z => ?_⟩ fun _ _ z => z, ?_, ?_, ?_, fun b o h e => hs b o (r.kp b o h e), dC, tC⟩
  · rcases z with (z | z) | z
    · rcases hC b z with z | z
      · exact .inr z
      · exact .inl (.inl (.inl z))
    · exact .inl (.inl (.inr z))
    · exact .inl (.inr z)
  · refine List.nodup_append.mpr ⟨nC, (List.nodup_append.mp r.nd).2.1, fun a ha b hb e => ?_⟩
    subst e
    rcases hC a ha with z | z
    · exact r.reps.dom a hb z
    · exact (List.nodup_append.mp r.nd).2.2 a z a hb rfl
  · intro a h
    rcases h with h | h
    · rcases hC a h with z | z
      · exact r.was z
      · exact r.pv a (.inl z)
    · exact r.pv a (.inr h)
  · intro hp a h
    rcases hC a h with z | z
    · cases e : H a with
      | none => rfl
      | some o => rw [r.kp a o (.inl hp) e] at z; cases z
    · exact r.fr hp a z
/-- the result alone matters: a state that nothing changed is as it was -/
theorem Res.back (S : Stt K H F σ ρ A) {v : V} {w : W} (r : Res true K H F A H' σ ρ' A' B (fun U => Dn K H' U v w B)) (hi : iso w = true) : Res true K H F A H' σ ρ A B (fun U => Dn K H' U v w B) := by
  have same : ∀ a, H a ≠ none → H' a = H a := fun a h => by
    obtain ⟨o, e⟩ := some_of h
    rw [r.kp a o (.inl rfl) e, e]
  refine ⟨r.ok.iso (fun b z => ?_) hi, S.reps.step (M := fun _ => False) ⟨fun b o _ e => r.kp b o (.inl rfl) e, fun _ z => z.elim, fun b z => ?_⟩ fun _ _ z => z, ?_, fun a h => ?_, fun _ => r.fr rfl, r.kp, r.db, r.nb⟩
  · rcases z with (z | z) | z
    · exact .inl (.inl (.inl z))
    · refine .inr fun xs => ?_
      rw [same b (S.reps.dom b z)]
      exact S.reps.notup b z xs
    · exact .inl (.inr z)
  · rcases z with (z | z) | z
    · exact .inr (r.fr rfl b z)
    · exact .inl (.inl z)
    · exact .inl (.inr z)
  · refine List.nodup_append.mpr ⟨(List.nodup_append.mp r.nd).1, S.nd, fun a ha b hb e => ?_⟩
    subst e
    exact S.reps.dom a hb (r.fr rfl a ha)
  · exact h.elim (fun h => .inr (r.fr rfl a h)) .inl
/-- less is known of what stayed -/
theorem Res.weak (r : Res p K H F A H' σ' ρ' A' B P) (h : q = true → p = true) : Res q K H F A H' σ' ρ' A' B P := ⟨r.ok, r.reps, r.nd, r.pv, fun z => r.fr (h z), fun b o z => r.kp b o (z.imp_left h), r.db, r.nb⟩
theorem Res.imp (r : Res p K H F A H' σ' ρ' A' B P1) (h : P1 (fun a => (a ∈ B ∨ a ∈ A') ∨ F a) → P (fun a => (a ∈ B ∨ a ∈ A') ∨ F a)) : Res p K H F A H' σ' ρ' A' B P := ⟨h r.ok, r.reps, r.nd, r.pv, r.fr, r.kp, r.db, r.nb⟩
end
/-- a reading yields w, in the state ρ' -/
def SndE (p : Bool) (K : PySem.W.Frag) (H : Hp) (F : US) (σ : L2.St) (A : List Addr) (w : W) (ρ' : Rho) (rd : VK → Prop) : Prop :=
  ∀ Q : VK, (∀ (v : V) (H' : Hp) (A' B : List Addr), Res p K H F A H' σ ρ' A' B (fun U => Dn K H' U v w B) → Q v H') → rd Q
def SndL (p : Bool) (K : PySem.W.Frag) (H : Hp) (F : US) (σ : L2.St) (A : List Addr) (ws : List W) (ρ' : Rho) (rd : (List V → Hp → Prop) → Prop) : Prop :=
  ∀ Q : List V → Hp → Prop, (∀ (vs : List V) (H' : Hp) (A' B : List Addr), Res p K H F A H' σ ρ' A' B (fun U => DnAll K H' U vs ws B) → Q vs H') → rd Q
def SndB (p : Bool) (K : PySem.W.Frag) (H : Hp) (F : US) (σ : L2.St) (A : List Addr) (b : Bool) (ρ' : Rho) (rd : (Bool → Hp → Prop) → Prop) : Prop :=
  ∀ Q : Bool → Hp → Prop, (∀ (H' : Hp) (A' : List Addr), Res p K H F A H' σ ρ' A' [] (fun _ => True) → Q b H') → rd Q
/-- a value's operation: it leaves what stood, and makes w; C: what w holds alone; Bs: what the operands held (let go) -/
def ValOk (K : PySem.W.Frag) (H : Hp) (U : US) (Bs : List Addr) (w : W) (k : VK → Prop) : Prop :=
  ∀ Q : VK, (∀ (v : V) (H' : Hp) (C : List Addr), (∀ b o, H b = some o → H' b = some o) → (∀ c ∈ C, H c = none ∨ c ∈ Bs) → C.Nodup → Dom H' C → NoTup H' C →
    (∀ U' : US, (∀ a, U' a → (U a ∧ a ∉ Bs ∧ H a ≠ none) ∨ a ∈ C) → Dn K H' U' v w C) → Q v H') → k Q
section
variable {K : PySem.W.Frag} {H H1 : Hp} {F U : US} {σ : L2.St} {ρ ρ' : Rho} {A A' Bs : List Addr} {p : Bool} {w : W} {k : VK → Prop}
/-- the operands, then the operation -/
theorem Res.val {P : US → Prop} (S : Stt K H F σ ρ A) (r : Res p K H F A H1 σ ρ' A' Bs P) (h : ValOk K H1 (fun a => (a ∈ Bs ∨ a ∈ A') ∨ F a) Bs w k) : SndE p K H F σ A w ρ' k := by
  intro Q hq
  refine h Q fun v H' C hs hC nC dC tC hd => hq v H' A' C (r.grow hs hC nC dC tC (hd _ fun a z => ?_))
  have S1 := Res.next S.bas r
  rcases z with (z | z) | z
  · exact .inr z
  · exact .inl ⟨.inl (.inr z), fun q => (List.nodup_append.mp r.nd).2.2 a q a z rfl, S1.reps.dom a z⟩
  · refine .inl ⟨.inr z, fun q => ?_, S1.dm a (.inr z)⟩
    rcases r.pv a (.inl q) with q | q
    · exact S.dj a q z
    · exact S.dm a z q
theorem ValOk.flat {v : V} (hd : ∀ (H : Hp) (U : US), Dn K H U v w []) (hk : ∀ Q : VK, Q v H → k Q) : ValOk K H U Bs w k := fun Q h =>
  hk Q (h v H [] (fun _ _ e => e) (fun c z => absurd z (by simp)) List.nodup_nil (fun c z => absurd z (by simp)) (fun c z => absurd z (by simp)) fun U' _ => hd H U')
theorem same_upd {H : Hp} {p : Addr} {o : HO} (hp : H p = none) : ∀ b u, H b = some u → upd H p o b = some u := fun b u e => by
  rw [upd_ne fun z => by subst z; rw [hp] at e; cases e]
  exact e
theorem ValOk.lst {vs : List V} {ws : List W} (hd : DnAll K H (fun a => U a ∧ a ∉ Bs) vs ws []) (hk : ∀ Q : VK, (∀ p, H p = none → Q (.ref p) (upd H p (.lst vs))) → k Q) : ValOk K H U Bs (.lst true ws) k := fun Q h =>
  hk Q fun p hp => h (.ref p) _ [p] (same_upd hp) (fun c z => .inl (by rw [List.mem_singleton.mp z]; exact hp)) (List.pairwise_singleton _ p) (fun c z => by rw [List.mem_singleton.mp z, upd_same]; simp)
    (fun c z xs => by rw [List.mem_singleton.mp z, upd_same]; simp) fun U' hU => .lstO upd_same (hd.step (M := fun _ => False) ⟨fun b o _ e => same_upd hp b o e, fun _ z => z.elim, fun b z => (hU b z).elim (fun z => .inl ⟨z.1, z.2.1⟩) fun z => .inr (by rw [List.mem_singleton.mp z]; exact hp)⟩ fun _ _ z => z)
theorem ValOk.tup {vs : List V} {ws : List W} (hd : DnAll K H (fun a => U a ∧ a ∉ Bs) vs ws []) (hk : ∀ Q : VK, (∀ p, H p = none → Q (.ref p) (upd H p (.tup vs))) → k Q) : ValOk K H U Bs (.tup false ws) k := fun Q h =>
  hk Q fun p hp => h (.ref p) _ [] (same_upd hp) (fun c z => absurd z (by simp)) List.nodup_nil (fun c z => absurd z (by simp)) (fun c z => absurd z (by simp)) fun U' hU =>
    .tupV (fun z => (hU p z).elim (fun q => q.2.2 hp) fun q => absurd q (by simp)) upd_same (hd.step (M := fun _ => False) ⟨fun b o _ e => same_upd hp b o e, fun _ z => z.elim, fun b z => (hU b z).elim (fun z => .inl ⟨z.1, z.2.1⟩) fun z => absurd z (by simp)⟩ fun _ _ z => z)
end
/-! ### what a value's data say -/
section
variable {K : PySem.W.Frag} {H : Hp} {U : US} {v : V} {B : List Addr}
theorem Dn.int_inv {i : Int} (h : Dn K H U v (.int i) B) : v = .int i ∧ B = [] := by cases h; exact ⟨rfl, rfl⟩
theorem Dn.str_inv {i : Str} (h : Dn K H U v (.str i) B) : v = .str i ∧ B = [] := by cases h; exact ⟨rfl, rfl⟩
theorem Dn.bl_inv {i : Bool} (h : Dn K H U v (.bl i) B) : v = .bl i ∧ B = [] := by cases h; exact ⟨rfl, rfl⟩
theorem Dn.lst_inv {o : Bool} {xs : List W} (h : Dn K H U v (.lst o xs) B) : ∃ a vs B', v = .ref a ∧ H a = some (.lst vs) ∧ DnAll K H U vs xs B' ∧ B'.Sublist B := by
  cases h with
  | lstO h1 h2 => exact ⟨_, _, _, rfl, h1, h2, List.sublist_cons_self ..⟩
  | lstV _ h1 h2 => exact ⟨_, _, _, rfl, h1, h2, List.Sublist.refl _⟩
theorem Dn.tup_inv {o : Bool} {xs : List W} (h : Dn K H U v (.tup o xs) B) : ∃ a vs, v = .ref a ∧ ¬ U a ∧ H a = some (.tup vs) ∧ DnAll K H U vs xs B := by
  cases h with
  | tupO h0 h1 h2 => exact ⟨_, _, rfl, h0, h1, h2⟩
  | tupV h0 h1 h2 => exact ⟨_, _, rfl, h0, h1, h2⟩
theorem Dn.scr_inv {xs : List W} (h : Dn K H U v (.scr xs) B) : ∃ a vs, v = .ref a ∧ SqL K H a vs ∧ DnAll K H U vs xs [] ∧ B = [] := by
  cases h with
  | scrV h0 h1 h2 => obtain ⟨o, h1⟩ := h1; exact ⟨_, _, rfl, .inl (.inr ⟨o, h1⟩), h2, rfl⟩
  | scrK h1 h2 => exact ⟨_, _, rfl, .inr h1, h2, rfl⟩
theorem Dn.dK_inv {o : Bool} {ks : List Key} {ws : List W} (h : Dn K H U v (.dK o ks ws) B) : ∃ a kvs B', v = .ref a ∧ H a = some (.dK kvs) ∧ kvs.map (·.1) = ks ∧ DnAll K H U (kvs.map (·.2)) ws B' ∧ B'.Sublist B := by
  cases h with
  | dKO h1 h3 h2 => exact ⟨_, _, _, rfl, h1, h3.1, h2, List.sublist_cons_self ..⟩
  | dKV _ h1 h3 h2 => exact ⟨_, _, _, rfl, h1, h3.1, h2, List.Sublist.refl _⟩
theorem Dn.dT_inv {o : Bool} {ks : List (List Key)} {ws : List W} (h : Dn K H U v (.dT o ks ws) B) : ∃ a kvs B', v = .ref a ∧ H a = some (.dT kvs) ∧ kvs.map (·.1) = ks ∧ DnAll K H U (kvs.map (·.2)) ws B' ∧ B'.Sublist B := by
  cases h with
  | dTO h1 h3 h2 => exact ⟨_, _, _, rfl, h1, h3.1, h2, List.sublist_cons_self ..⟩
  | dTV _ h1 h3 h2 => exact ⟨_, _, _, rfl, h1, h3.1, h2, List.Sublist.refl _⟩
theorem Dn.dL_inv {o : Bool} {ks : List (List Key)} {ws : List W} (h : Dn K H U v (.dL o ks ws) B) : ∃ a kvs B', v = .ref a ∧ Rd H a (.dT kvs) ∧ kvs.map (·.1) = ks ∧ DnAll K H U (kvs.map (·.2)) ws B' ∧ B'.Sublist B := by
  cases h with
  | dLO h1 h3 h2 => exact ⟨_, _, _, rfl, .inr h1, h3.1, h2, List.sublist_cons_self ..⟩
  | dLV _ h1 h3 h2 => exact ⟨_, _, _, rfl, .inr h1, h3.1, h2, List.Sublist.refl _⟩
/-- shared from now on: the items of an operand -/
theorem DnAll.share {vs : List V} {ws : List W} {Bs : List Addr} (h : DnAll K H U vs ws B) (hb : ∀ b ∈ B, b ∈ Bs) : DnAll K H (fun a => U a ∧ a ∉ Bs) vs (frzL ws) [] := h.frz fun b z => ⟨z.1, fun q => z.2 (hb b q)⟩
theorem frzL_len (ws : List W) : (frzL ws).length = ws.length := by rw [frzL_map, List.length_map]
end
end Ev

set_option Elab.async false
set_option linter.all false
set_option maxRecDepth 100000
set_option maxHeartbeats 4000000
/-! The operations on values: what the data say is what the reading does. -/
namespace Ev
open PySem PySem.Spec PyProof.Rows L2
theorem lim_line : lim ≤ sizeLine := by decide
theorem lim_val : lim = 1000000 := rfl
section
variable {K : PySem.W.Frag} {H : Hp} {U : US} {Bs Bx By : List Addr} {vx vy : V} {x y z : W}
theorem frz_int (i : Int) : frz (.int i) = .int i := rfl
/-- an int, a text, a truth value -/
theorem ValOk.int {i : Int} {k : VK → Prop} (hk : ∀ Q : VK, Q (.int i) H → k Q) : ValOk K H U Bs (.int i) k := .flat (fun _ _ => .int i) hk
theorem ValOk.str {i : Str} {k : VK → Prop} (hk : ∀ Q : VK, Q (.str i) H → k Q) : ValOk K H U Bs (.str i) k := .flat (fun _ _ => .str i) hk
theorem ValOk.bl {i : Bool} {k : VK → Prop} (hk : ∀ Q : VK, Q (.bl i) H → k Q) : ValOk K H U Bs (.bl i) k := .flat (fun _ _ => .bl i) hk
theorem CMulB_ok {i j : Int} (h : CMulB i j = true) : CMul i j := by
  unfold CMulB at h
  simp only [Bool.or_eq_true, Bool.and_eq_true, decide_eq_true_eq] at h
  exact h
theorem CPowBB_ok {i j : Int} (h : CPowBB i j = true) : CPow i j ∨ CPowB i j := by
  unfold CPowBB at h
  simp only [Bool.or_eq_true, Bool.and_eq_true, decide_eq_true_eq] at h
  rcases h with ⟨h1, ⟨h2, h3⟩ | h2⟩
  · exact .inl ⟨h1, h2, h3⟩
  · exact .inr ⟨h1, h2⟩
theorem CPowA_ok {i j : Int} (h : CPowA i j = true) : CPow i j := by
  unfold CPowA at h
  simp only [Bool.and_eq_true, decide_eq_true_eq] at h
  exact ⟨h.1, h.2.1, h.2.2⟩
theorem DnAll.rep {vs : List V} {ws : List W} (h : DnAll K H U vs ws []) : ∀ n : Nat, DnAll K H U (List.replicate n vs).flatten (List.replicate n ws).flatten []
  | 0 => .nil
  | n + 1 => by
    rw [List.replicate_succ, List.replicate_succ, List.flatten_cons, List.flatten_cons]
    exact h.app (DnAll.rep h n)
theorem bin_ok {op : Operator} (hx : Dn K H U vx x Bx) (hy : Dn K H U vy y By) (hb : ∀ a, a ∈ Bx ∨ a ∈ By → a ∈ Bs) (h : binW op x y = some z) : ValOk K H U Bs z (rBin K op vx vy H) := by
  unfold binW at h
  split at h
  · obtain ⟨rfl, rfl⟩ := hx.int_inv; obtain ⟨rfl, rfl⟩ := hy.int_inv; cases h
    exact .int fun Q q => q
  · obtain ⟨rfl, rfl⟩ := hx.str_inv; obtain ⟨rfl, rfl⟩ := hy.str_inv
    split at h
    · rename_i hl; cases h
      exact .str fun Q q => ⟨Nat.le_trans hl lim_line, q⟩
    · cases h
  · obtain ⟨a, vs, B1, rfl, e1, d1, s1⟩ := hx.lst_inv
    obtain ⟨b, us, B2, rfl, e2, d2, s2⟩ := hy.lst_inv
    split at h
    · rename_i hl; cases h
      refine .lst ((d1.share fun b z => hb b (.inl (s1.subset z))).app (d2.share fun b z => hb b (.inr (s2.subset z)))) fun Q q => .inl ⟨vs, us, e1, e2, ?_, q⟩
      rw [dnAll_len d1, dnAll_len d2]
      exact Nat.le_trans hl lim_line
    · cases h
  · obtain ⟨a, vs, rfl, n1, e1, d1⟩ := hx.tup_inv
    obtain ⟨b, us, rfl, n2, e2, d2⟩ := hy.tup_inv
    split at h
    · rename_i hl; cases h
      have l1 := dnAll_len d1
      have l2 := dnAll_len d2
      simp only [List.length_cons] at l1 l2
      refine .tup ((d1.share fun b z => hb b (.inl z)).app (d2.share fun b z => hb b (.inr z))) fun Q q => .inr ⟨vs, us, .of e1, .of e2, ?_, ?_, ?_, q⟩
      · intro z; rw [z] at l1; cases l1
      · intro z; rw [z] at l2; cases l2
      · have := lim_val
        rw [l1, l2, sizeLine_eq]
        omega
    · cases h
  · obtain ⟨rfl, rfl⟩ := hx.int_inv; obtain ⟨rfl, rfl⟩ := hy.int_inv; cases h
    exact .int fun Q q => q
  · obtain ⟨rfl, rfl⟩ := hx.int_inv; obtain ⟨rfl, rfl⟩ := hy.int_inv
    split at h
    · rename_i hc; cases h
      exact .int fun Q q => ⟨CMulB_ok hc, q⟩
    · cases h
  · obtain ⟨a, vs, B1, rfl, e1, d1, s1⟩ := hx.lst_inv
    obtain ⟨rfl, rfl⟩ := hy.int_inv
    split at h
    · rename_i hl; cases h
      refine .lst ((d1.share fun b z => hb b (.inl (s1.subset z))).rep _) fun Q q => ⟨vs, e1, hl.1, hl.2.1, ?_, q⟩
      rw [dnAll_len d1]
      exact Nat.le_trans hl.2.2 lim_line
    · cases h
  · obtain ⟨rfl, rfl⟩ := hx.int_inv; obtain ⟨rfl, rfl⟩ := hy.int_inv
    split at h
    · rename_i hc; cases h
      exact .int fun Q q => ⟨hc, q⟩
    · cases h
  · obtain ⟨rfl, rfl⟩ := hx.int_inv; obtain ⟨rfl, rfl⟩ := hy.int_inv
    split at h
    · rename_i hc; cases h
      exact .int fun Q q => ⟨hc, q⟩
    · cases h
  · obtain ⟨rfl, rfl⟩ := hx.int_inv; obtain ⟨rfl, rfl⟩ := hy.int_inv
    split at h
    · rename_i hc; cases h
      exact .int fun Q q => ⟨CPowBB_ok hc, q⟩
    · cases h
  · obtain ⟨rfl, rfl⟩ := hx.int_inv; obtain ⟨rfl, rfl⟩ := hy.int_inv
    split at h
    · rename_i hc; cases h
      exact .int fun Q q => ⟨CPowA_ok hc, q⟩
    · cases h
  · obtain ⟨rfl, rfl⟩ := hx.int_inv; obtain ⟨rfl, rfl⟩ := hy.int_inv
    split at h
    · rename_i hc; cases h
      exact .int fun Q q => ⟨hc, q⟩
    · cases h
  · obtain ⟨rfl, rfl⟩ := hx.int_inv; obtain ⟨rfl, rfl⟩ := hy.int_inv; cases h
    exact .int fun Q q => q
  · obtain ⟨rfl, rfl⟩ := hx.int_inv; obtain ⟨rfl, rfl⟩ := hy.int_inv; cases h
    exact .int fun Q q => q
  · obtain ⟨rfl, rfl⟩ := hx.int_inv; obtain ⟨rfl, rfl⟩ := hy.int_inv; cases h
    exact .int fun Q q => q
  · cases h
/-! ### comparing -/
mutual
theorem dn_dp : ∀ {w : W} {v : V} {A : List Addr} {n : Nat}, Dn K H U v w A → shW w n = true → Dp K H v (toPy w)
  | .non, _, _, _, h, _ => by cases h; exact .non
  | .bl _, _, _, _, h, _ => by cases h; exact .bl _
  | .int _, _, _, _, h, _ => by cases h; exact .int _
  | .str _, _, _, _, h, _ => by cases h; exact .str _
  | .ty _, _, _, _, _, hs => by simp [shW] at hs
  | .lst _ xs, _, _, n, h, hs => by
    obtain ⟨a, vs, B', rfl, e, d, _⟩ := h.lst_inv
    cases n with
    | zero => simp [shW] at hs
    | succ n => exact .lst (.of e) (dnAll_dp d (by simpa [shW] using hs))
  | .tup _ xs, _, _, n, h, hs => by
    obtain ⟨a, vs, rfl, _, e, d⟩ := h.tup_inv
    cases n with
    | zero => simp [shW] at hs
    | succ n => exact .tup (.of e) (dnAll_dp d (by simpa [shW] using hs))
  | .dK _ _ _, _, _, _, _, hs => by simp [shW] at hs
  | .dT _ _ _, _, _, _, _, hs => by simp [shW] at hs
  | .dL _ _ _, _, _, _, _, hs => by simp [shW] at hs
  | .scr _, _, _, _, _, hs => by simp [shW] at hs
theorem dnAll_dp : ∀ {ws : List W} {vs : List V} {A : List Addr} {n : Nat}, DnAll K H U vs ws A → shL ws n = true → DpAll K H vs (toPyL ws)
  | [], _, _, _, h, _ => by cases h; exact .nil
  | w :: ws, _, _, _, h, hs => by
    cases h with
    | cons h1 h2 e =>
      simp only [shL, Bool.and_eq_true] at hs
      exact .cons (dn_dp h1 hs.1) (dnAll_dp h2 hs.2)
end
mutual
theorem sh_lay : ∀ {w : W} {n : Nat}, shW w n = true → (toPy w).canLay0 = true ∧ (toPy w).depth ≤ n
  | .non, _, _ => ⟨rfl, Nat.zero_le _⟩
  | .bl _, _, _ => ⟨rfl, Nat.zero_le _⟩
  | .int _, _, _ => ⟨rfl, Nat.zero_le _⟩
  | .str s, _, h => ⟨by simpa [shW, toPy, PyData.canLay0] using h, Nat.zero_le _⟩
  | .ty _, _, h => by simp [shW] at h
  | .lst _ xs, n, h => by
    cases n with
    | zero => simp [shW] at h
    | succ n =>
      obtain ⟨h1, h2⟩ := shL_lay (ws := xs) (n := n) (by simpa [shW] using h)
      refine ⟨by simpa [toPy, PyData.canLay0] using h1, ?_⟩
      simp only [toPy, PyData.depth]
      omega
  | .tup _ xs, n, h => by
    cases n with
    | zero => simp [shW] at h
    | succ n =>
      obtain ⟨h1, h2⟩ := shL_lay (ws := xs) (n := n) (by simpa [shW] using h)
      refine ⟨by simpa [toPy, PyData.canLay0] using h1, ?_⟩
      simp only [toPy, PyData.depth]
      omega
  | .dK _ _ _, _, h => by simp [shW] at h
  | .dT _ _ _, _, h => by simp [shW] at h
  | .dL _ _ _, _, h => by simp [shW] at h
  | .scr _, _, h => by simp [shW] at h
theorem shL_lay : ∀ {ws : List W} {n : Nat}, shL ws n = true → PyData.canLayAll0 (toPyL ws) = true ∧ PyData.depthAll (toPyL ws) ≤ n
  | [], _, _ => ⟨rfl, Nat.zero_le _⟩
  | w :: ws, n, h => by
    simp only [shL, Bool.and_eq_true] at h
    obtain ⟨h1, h2⟩ := sh_lay h.1
    obtain ⟨h3, h4⟩ := shL_lay h.2
    refine ⟨by simp [toPyL, PyData.canLayAll0, h1, h3], ?_⟩
    simp only [toPyL, PyData.depthAll]
    omega
end
theorem sh_shaped {w : W} {n : Nat} (h : shW w n = true) (hn : n ≤ 64) : SeqAt.shaped (toPy w) = true := by
  obtain ⟨h1, h2⟩ := sh_lay h
  unfold SeqAt.shaped
  rw [h1]
  simp only [Bool.true_and, decide_eq_true_eq]
  omega
mutual
theorem eqW_eqv : ∀ {x y : W} {n m : Nat}, shW x n = true → shW y m = true → PyData.eqv (toPy x) (toPy y) = eqW x y
  | .non, y, _, _, _, hy => by cases y <;> simp [toPy, eqW, PyData.eqv, shW] at hy ⊢
  | .bl _, y, _, _, _, hy => by cases y <;> simp [toPy, eqW, PyData.eqv, shW] at hy ⊢
  | .int _, y, _, _, _, hy => by cases y <;> simp [toPy, eqW, PyData.eqv, shW] at hy ⊢
  | .str _, y, _, _, _, hy => by cases y <;> simp [toPy, eqW, PyData.eqv, shW] at hy ⊢
  | .ty _, _, _, _, h, _ => by simp [shW] at h
  | .lst _ xs, y, n, m, hx, hy => by
    cases n with
    | zero => simp [shW] at hx
    | succ n =>
      cases y with
      | lst _ ys =>
        cases m with
        | zero => simp [shW] at hy
        | succ m =>
          simp only [toPy, eqW, PyData.eqv]
          exact eqL_eqv (n := n) (m := m) (by simpa [shW] using hx) (by simpa [shW] using hy)
      | _ => simp [toPy, eqW, PyData.eqv, shW] at hy ⊢
  | .tup _ xs, y, n, m, hx, hy => by
    cases n with
    | zero => simp [shW] at hx
    | succ n =>
      cases y with
      | tup _ ys =>
        cases m with
        | zero => simp [shW] at hy
        | succ m =>
          simp only [toPy, eqW, PyData.eqv]
          exact eqL_eqv (n := n) (m := m) (by simpa [shW] using hx) (by simpa [shW] using hy)
      | _ => simp [toPy, eqW, PyData.eqv, shW] at hy ⊢
  | .dK _ _ _, _, _, _, h, _ => by simp [shW] at h
  | .dT _ _ _, _, _, _, h, _ => by simp [shW] at h
  | .dL _ _ _, _, _, _, h, _ => by simp [shW] at h
  | .scr _, _, _, _, h, _ => by simp [shW] at h
theorem eqL_eqv : ∀ {xs ys : List W} {n m : Nat}, shL xs n = true → shL ys m = true → PyData.eqvAll (toPyL xs) (toPyL ys) = eqL xs ys
  | [], ys, _, _, _, _ => by cases ys <;> simp [toPyL, eqL, PyData.eqvAll]
  | x :: xs, ys, n, m, hx, hy => by
    cases ys with
    | nil => simp [toPyL, eqL, PyData.eqvAll]
    | cons y ys =>
      simp only [shL, Bool.and_eq_true] at hx hy
      simp only [toPyL, eqL, PyData.eqvAll]
      rw [eqW_eqv hx.1 hy.1, eqL_eqv hx.2 hy.2]
end
theorem eqq_ok {b neg : Bool} (hx : Dn K H U vx x Bx) (hy : Dn K H U vy y By) (h : eqqW x y = some b) (Q : VK) (q : Q (.bl (neg ^^ b)) H) : rEqq K neg vx vy H Q := by
  unfold eqqW at h
  split at h
  · obtain ⟨rfl, rfl⟩ := hx.int_inv; obtain ⟨rfl, rfl⟩ := hy.int_inv; cases h
    exact q
  · obtain ⟨rfl, rfl⟩ := hx.str_inv; obtain ⟨rfl, rfl⟩ := hy.str_inv; cases h
    exact q
  · obtain ⟨rfl, rfl⟩ := hx.bl_inv; obtain ⟨rfl, rfl⟩ := hy.bl_inv; cases h
    exact q
  · rename_i n1 n2 n3
    split at h
    · rename_i hs
      simp only [Bool.and_eq_true] at hs
      cases h
      have e := eqW_eqv hs.1 hs.2
      have gen : ∃ d e, Dp K H vx d ∧ Dp K H vy e ∧ SeqAt.shaped d = true ∧ SeqAt.shaped e = true ∧ Q (.bl (neg ^^ PyData.eqv d e)) H :=
        ⟨_, _, dn_dp hx hs.1, dn_dp hy hs.2, sh_shaped hs.1 (by decide), sh_shaped hs.2 (by decide), by rw [e]; exact q⟩
      unfold rEqq
      split
      · cases hx; cases hy; exact (n1 _ _ rfl rfl).elim
      · cases hx; cases hy; exact (n2 _ _ rfl rfl).elim
      · cases hx; cases hy; exact (n3 _ _ rfl rfl).elim
      · exact gen
    · cases h
theorem isNon_ok (hx : Dn K H U vx x Bx) : isNon vx = isNonW x := by cases hx <;> rfl
theorem flat_ok {v : V} {w : W} {A : List Addr} (h : Dn K H U v w A) (hf : flatW w = true) : flatV v = true := by
  cases h <;> first | rfl | cases hf
theorem eqFlat_ok {v u : V} {w z : W} {A B : List Addr} (h : Dn K H U v w A) (h' : Dn K H U u z B) (hf : flatW w = true) (hg : flatW z = true) : eqV v u = eqW w z := by
  cases h <;> simp [flatW] at hf <;> cases h' <;> simp [flatW] at hg <;> simp [eqV, eqW]
theorem flats_ok : ∀ {ws : List W} {vs : List V} {A : List Addr}, DnAll K H U vs ws A → ws.all flatW = true → vs.all flatV = true
  | [], _, _, h, _ => by cases h; rfl
  | w :: ws, _, _, h, hf => by
    cases h with
    | cons h1 h2 e =>
      simp only [List.all_cons, Bool.and_eq_true] at hf ⊢
      exact ⟨flat_ok h1 hf.1, flats_ok h2 hf.2⟩
theorem anyEq_ok {vx : V} {x : W} (hx : Dn K H U vx x Bx) (fx : flatW x = true) : ∀ {ws : List W} {vs : List V} {A : List Addr}, DnAll K H U vs ws A → ws.all flatW = true → inV vx vs = ws.any fun z => eqW z x
  | [], _, _, h, _ => by cases h; rfl
  | w :: ws, _, _, h, hf => by
    cases h with
    | cons h1 h2 e =>
      simp only [List.all_cons, Bool.and_eq_true] at hf
      show (eqV _ vx || inV vx _) = (eqW w x || ws.any fun z => eqW z x)
      rw [eqFlat_ok h1 hx hf.1 fx, anyEq_ok hx fx h2 hf.2]
theorem key_ok {k : Key} (h : keyW x = some k) (hx : Dn K H U vx x Bx) : vx = kV k := by
  unfold keyW at h
  split at h
  · cases h; exact hx.int_inv.1
  · cases h; exact hx.str_inv.1
  · cases h
theorem keys_ok : ∀ {ws : List W} {vs : List V} {A : List Addr} {ks : List Key}, DnAll K H U vs ws A → keysW ws = some ks → vs = ks.map kV
  | [], _, _, _, h, e => by cases h; cases e; rfl
  | w :: ws, _, _, ks, h, e => by
    cases h with
    | cons h1 h2 _ =>
      unfold keysW at e
      split at e
      · rename_i k1 ks1 e1 e2
        cases e
        rw [List.map_cons, ← key_ok e1 h1, ← keys_ok h2 e2]
      · cases e
theorem tk_ok {k : List Key} (h : tkW x = some k) (hx : Dn K H U vx x Bx) : ∃ b, vx = .ref b ∧ H b = some (.tup (k.map kV)) ∧ ¬ U b := by
  unfold tkW at h
  split at h
  · obtain ⟨a, vs, rfl, n, e, d⟩ := hx.tup_inv
    refine ⟨a, rfl, ?_, n⟩
    rw [e, keys_ok d h]
  · cases h
theorem posK_val {κ : Type} [DecidableEq κ] : ∀ {kvs : List (κ × V)} {k : κ}, (valV kvs k = (posK (kvs.map (·.1)) k).bind fun j => (kvs.map (·.2))[j]?)
  | [], k => rfl
  | p :: r, k => by
    by_cases e : p.1 = k
    · rw [valV_pos e]
      simp [posK, e]
    · rw [valV_neg e, posK_val (kvs := r)]
      simp only [List.map_cons, posK, e, if_false]
      cases posK (r.map (·.1)) k <;> simp
theorem posK_lt {κ : Type} [DecidableEq κ] : ∀ {ks : List κ} {k : κ} {j : Nat}, posK ks k = some j → ks[j]? = some k
  | [], k, j, e => by cases e
  | x :: ks, k, j, e => by
    unfold posK at e
    split at e
    · rename_i h; cases e; simp [h]
    · split at e
      · rename_i n h; cases e; simpa using posK_lt h
      · cases e
theorem posK_some {κ : Type} [DecidableEq κ] {kvs : List (κ × V)} {k : κ} : (valV kvs k).isSome = (posK (kvs.map (·.1)) k).isSome := by
  rw [posK_val]
  cases e : posK (kvs.map (·.1)) k with
  | none => rfl
  | some j =>
    have h := posK_lt e
    have h2 : j < (kvs.map (·.1)).length := (List.getElem?_eq_some_iff.mp h).1
    rw [List.length_map] at h2
    simp [List.getElem?_map, List.getElem?_eq_getElem h2]
theorem mem_ok {b neg : Bool} (hx : Dn K H U vx x Bx) (hy : Dn K H U vy y By) (h : memW x y = some b) (Q : VK) (q : Q (.bl (neg ^^ b)) H) : rMem K neg vx vy H Q := by
  unfold memW at h
  split at h
  · obtain ⟨rfl, rfl⟩ := hy.str_inv
    split at h
    · obtain ⟨rfl, rfl⟩ := hx.str_inv
      rename_i z s
      split at h
      · rename_i c hc
        cases h
        refine ⟨c, ?_, q⟩
        have e : s.cps = #[c] := by
          have := congrArg List.toArray hc
          simpa using this
        obtain ⟨cps⟩ := s
        simp only at e
        rw [e]
      · cases h
    · cases h
  · obtain ⟨a, vs, B', rfl, e, d, _⟩ := hy.lst_inv
    split at h
    · rename_i hf
      simp only [Bool.and_eq_true] at hf
      cases h
      exact .inl ⟨vs, .inl (.of e), flat_ok hx hf.1, flats_ok d hf.2, by rw [anyEq_ok hx hf.1 d hf.2]; exact q⟩
    · cases h
  · obtain ⟨a, vs, rfl, _, e, d⟩ := hy.tup_inv
    split at h
    · rename_i hf
      simp only [Bool.and_eq_true] at hf
      cases h
      exact .inl ⟨vs, .inr (.of e), flat_ok hx hf.1, flats_ok d hf.2, by rw [anyEq_ok hx hf.1 d hf.2]; exact q⟩
    · cases h
  · obtain ⟨a, kvs, B', rfl, e, rfl, d, _⟩ := hy.dK_inv
    split at h
    · rename_i k hk
      cases h
      exact .inr ⟨_, .inl ⟨kvs, k, .inl e, key_ok hk hx, rfl⟩, by rw [posK_some]; exact q⟩
    · cases h
  · obtain ⟨a, kvs, B', rfl, e, rfl, d, _⟩ := hy.dT_inv
    split at h
    · rename_i k hk
      cases h
      obtain ⟨c, rfl, hc, _⟩ := tk_ok hk hx
      exact .inr ⟨_, .inr ⟨kvs, k, c, .inl e, rfl, hc, rfl⟩, by rw [posK_some]; exact q⟩
    · cases h
  · obtain ⟨a, kvs, B', rfl, e, rfl, d, _⟩ := hy.dL_inv
    split at h
    · rename_i k hk
      cases h
      obtain ⟨c, rfl, hc, _⟩ := tk_ok hk hx
      exact .inr ⟨_, .inr ⟨kvs, k, c, e, rfl, hc, rfl⟩, by rw [posK_some]; exact q⟩
    · cases h
  · cases h
theorem cmp_ok {op : CmpOp} {b : Bool} (hx : Dn K H U vx x Bx) (hy : Dn K H U vy y By) (h : cmpW op x y = some b) (Q : VK) (q : Q (.bl b) H) : rCmp K op vx vy H Q := by
  unfold cmpW at h
  cases op with
  | Eq => exact eqq_ok (neg := false) hx hy h Q (by simpa using q)
  | NotEq =>
    simp only at h
    split at h
    · rename_i c hc
      cases h
      exact eqq_ok (neg := true) hx hy hc Q (by simpa using q)
    · cases h
  | Is =>
    simp only at h
    split at h
    · cases hy
      cases h
      show rIs false vx .non H Q
      unfold rIs
      split
      · rename_i e1; rw [isNon_ok hx]; simpa using q
      · rename_i e1; cases e1
      · rename_i e1 _ ; exact (e1 rfl).elim
    · obtain ⟨rfl, rfl⟩ := hy.bl_inv
      split at h
      · obtain ⟨rfl, rfl⟩ := hx.bl_inv
        cases h
        show rIs false (.bl _) (.bl _) H Q
        unfold rIs
        simpa using q
      · cases h
    · cases h
  | IsNot =>
    simp only at h
    split at h
    · cases hy
      cases h
      show rIs true vx .non H Q
      unfold rIs
      split
      · rename_i e1; rw [isNon_ok hx]; simpa using q
      · rename_i e1; cases e1
      · rename_i e1 _ ; exact (e1 rfl).elim
    · obtain ⟨rfl, rfl⟩ := hy.bl_inv
      split at h
      · obtain ⟨rfl, rfl⟩ := hx.bl_inv
        cases h
        show rIs true (.bl _) (.bl _) H Q
        unfold rIs
        simpa using q
      · cases h
    · cases h
  | In => exact mem_ok (neg := false) hx hy h Q (by simpa using q)
  | NotIn =>
    simp only at h
    split at h
    · rename_i c hc
      cases h
      exact mem_ok (neg := true) hx hy hc Q (by simpa using q)
    · cases h
  | Lt =>
    simp only at h
    split at h
    · obtain ⟨rfl, rfl⟩ := hx.int_inv; obtain ⟨rfl, rfl⟩ := hy.int_inv; cases h; exact q
    · cases h
  | LtE =>
    simp only at h
    split at h
    · obtain ⟨rfl, rfl⟩ := hx.int_inv; obtain ⟨rfl, rfl⟩ := hy.int_inv; cases h; exact q
    · cases h
  | Gt =>
    simp only at h
    split at h
    · obtain ⟨rfl, rfl⟩ := hx.int_inv; obtain ⟨rfl, rfl⟩ := hy.int_inv; cases h; exact q
    · cases h
  | GtE =>
    simp only at h
    split at h
    · obtain ⟨rfl, rfl⟩ := hx.int_inv; obtain ⟨rfl, rfl⟩ := hy.int_inv; cases h; exact q
    · cases h
end
end Ev

set_option Elab.async false
set_option linter.all false
set_option maxRecDepth 100000
set_option maxHeartbeats 4000000
/-! Parts of values, and values changed in place. -/
namespace Ev
open PySem PySem.Spec PyProof.Rows L2
section
variable {K : PySem.W.Frag} {H : Hp} {U : US} {Bs Bx By : List Addr} {vx vy vk : V} {x y z k : W}
/-- the things within a container, and w[k] -/
theorem kid_ok {j : Nat} (hx : Dn K H U vx x Bx) (hk : Dn K H U vk k By) (h : posW x k = some j) : ∃ a vs B', vx = .ref a ∧ DnAll K H U vs (kids x) B' ∧ B'.Sublist Bx ∧ ∀ v, vs[j]? = some v → ∀ Q : VK, Q v H → rIxx K vx vk H Q := by
  unfold posW at h
  split at h
  · obtain ⟨a, vs, B', rfl, e, d, s⟩ := hx.lst_inv
    split at h
    · obtain ⟨rfl, rfl⟩ := hk.int_inv
      refine ⟨a, vs, B', rfl, d, s, fun v hv Q q => .inl ⟨vs, _, v, rfl, .inl (.of e), ?_, q⟩⟩
      unfold atI
      rw [dnAll_len d, h]
      exact hv
    · cases h
  · obtain ⟨a, vs, rfl, _, e, d⟩ := hx.tup_inv
    split at h
    · obtain ⟨rfl, rfl⟩ := hk.int_inv
      refine ⟨a, vs, _, rfl, d, List.Sublist.refl _, fun v hv Q q => .inl ⟨vs, _, v, rfl, .inr (.of e), ?_, q⟩⟩
      unfold atI
      rw [dnAll_len d, h]
      exact hv
    · cases h
  · obtain ⟨a, vs, rfl, e, d, rfl⟩ := hx.scr_inv
    split at h
    · obtain ⟨rfl, rfl⟩ := hk.int_inv
      refine ⟨a, vs, _, rfl, d, List.Sublist.refl _, fun v hv Q q => .inl ⟨vs, _, v, rfl, .inl e, ?_, q⟩⟩
      unfold atI
      rw [dnAll_len d, h]
      exact hv
    · cases h
  · obtain ⟨a, kvs, B', rfl, e, rfl, d, s⟩ := hx.dK_inv
    split at h
    · rename_i c hc
      refine ⟨a, _, B', rfl, d, s, fun v hv Q q => .inr ⟨v, .inl ⟨kvs, c, .inl e, key_ok hc hk, ?_⟩, q⟩⟩
      rw [posK_val, h]
      exact hv.symm
    · cases h
  · obtain ⟨a, kvs, B', rfl, e, rfl, d, s⟩ := hx.dT_inv
    split at h
    · rename_i c hc
      obtain ⟨b, rfl, hb, _⟩ := tk_ok hc hk
      refine ⟨a, _, B', rfl, d, s, fun v hv Q q => .inr ⟨v, .inr ⟨kvs, c, b, .inl e, rfl, hb, ?_⟩, q⟩⟩
      rw [posK_val, h]
      exact hv.symm
    · cases h
  · obtain ⟨a, kvs, B', rfl, e, rfl, d, s⟩ := hx.dL_inv
    split at h
    · rename_i c hc
      obtain ⟨b, rfl, hb, _⟩ := tk_ok hc hk
      refine ⟨a, _, B', rfl, d, s, fun v hv Q q => .inr ⟨v, .inr ⟨kvs, c, b, e, rfl, hb, ?_⟩, q⟩⟩
      rw [posK_val, h]
      exact hv.symm
    · cases h
  · cases h
theorem str_kid {s : Str} {c : W} (h : subW (.str s) k = some c) (hk : Dn K H U vk k By) : ∃ d, c = .str ⟨#[d]⟩ ∧ ∀ Q : VK, Q (.str ⟨#[d]⟩) H → rIxx K (.str s) vk H Q := by
  unfold subW at h
  simp only at h
  split at h
  · obtain ⟨rfl, rfl⟩ := hk.int_inv
    split at h
    · rename_i hl
      split at h
      · rename_i d hd
        cases h
        exact ⟨d, rfl, fun Q q => ⟨_, d, rfl, Nat.le_trans hl lim_line, hd, q⟩⟩
      · cases h
    · cases h
  · cases h
theorem subW_pos {c : W} (hs : ∀ s, x ≠ .str s) (h : subW x k = some c) : ∃ j, posW x k = some j ∧ (kids x)[j]? = some c := by
  unfold subW at h
  split at h
  · exact (hs _ rfl).elim
  · split at h
    · rename_i j hj
      exact ⟨j, hj, h⟩
    · cases h
theorem sub_ok (hx : Dn K H U vx x Bx) (hy : Dn K H U vy y By) (hU : ∀ b ∈ Bx, U b) (hb : ∀ b ∈ Bx, b ∈ Bs) (nd : Bx.Nodup) (h : subW x y = some z) : ValOk K H U Bs z (rIxx K vx vy H) := by
  by_cases hs : ∃ s, x = .str s
  · obtain ⟨s, rfl⟩ := hs
    obtain ⟨rfl, rfl⟩ := hx.str_inv
    obtain ⟨d, rfl, hk⟩ := str_kid h hy
    exact .str hk
  · obtain ⟨j, hj, hc⟩ := subW_pos (fun s e => hs ⟨s, e⟩) h
    obtain ⟨a, vs, B', rfl, d, sl, hk⟩ := kid_ok hx hy hj
    obtain ⟨v, A1, B, A2, e1, e2, dv, _, _⟩ := d.split hc
    have sB : B.Sublist Bx := by
      refine List.Sublist.trans ?_ sl
      rw [e2]
      exact (List.sublist_append_left B A2).trans (List.sublist_append_right A1 _)
    intro Q q
    refine hk v e1 Q (q v H B (fun _ _ e => e) (fun c z => .inr (hb c (sB.subset z))) (nd.sublist sB) dv.dom dv.notup fun U' hU' => dv.less fun b z => ?_)
    rcases hU' b z with z | z
    · exact z.1
    · exact hU b (sB.subset z)
theorem cut_ok {vs : List V} {ws : List W} {A : List Addr} (h : DnAll K H U vs ws A) (i : Nat) : ∃ A1 A2, A = A1 ++ A2 ∧ DnAll K H U (vs.take i) (ws.take i) A1 ∧ DnAll K H U (vs.drop i) (ws.drop i) A2 := by
  induction ws generalizing vs A i with
  | nil => cases h; exact ⟨[], [], rfl, by simp [DnAll.nil], by simp [DnAll.nil]⟩
  | cons w ws ih =>
    cases h with
    | cons h1 h2 e =>
      subst e
      cases i with
      | zero => exact ⟨[], _, rfl, .nil, .cons h1 h2 rfl⟩
      | succ i =>
        obtain ⟨A1, A2, e, d1, d2⟩ := ih h2 i
        subst e
        exact ⟨_, A2, (List.append_assoc ..).symm, .cons h1 d1 rfl, d2⟩
theorem sl_ok {lo hi : Option Int} (hx : Dn K H U vx x Bx) (hb : ∀ b ∈ Bx, b ∈ Bs) (h : slW x lo hi = some z) : ValOk K H U Bs z (rSl K vx lo hi H) := by
  unfold slW at h
  split at h
  · obtain ⟨rfl, rfl⟩ := hx.str_inv
    split at h
    · rename_i hl
      cases h
      exact .str fun Q q => ⟨Nat.le_trans hl lim_line, q⟩
    · cases h
  · obtain ⟨a, vs, B', rfl, e, d, s⟩ := hx.lst_inv
    cases h
    obtain ⟨A1, A2, e1, _, d2⟩ := cut_ok d (HT.sIx vs.length 0 lo)
    obtain ⟨A3, A4, e3, d3, _⟩ := cut_ok d2 (HT.sIx vs.length vs.length hi - HT.sIx vs.length 0 lo)
    have hd := d3.share (Bs := Bs) fun b z => hb b (s.subset (by rw [e1, e3]; simp [z]))
    refine .lst (vs := cutV vs lo hi) ?_ fun Q q => ⟨vs, .of e, q⟩
    unfold cutW
    rw [← dnAll_len d]
    exact hd
  · obtain ⟨a, vs, rfl, e, d, rfl⟩ := hx.scr_inv
    cases h
    obtain ⟨A1, A2, e1, _, d2⟩ := cut_ok d (HT.sIx vs.length 0 lo)
    obtain ⟨A3, A4, e3, d3, _⟩ := cut_ok d2 (HT.sIx vs.length vs.length hi - HT.sIx vs.length 0 lo)
    have z2 : A2 = [] := (List.append_eq_nil_iff.mp e1.symm).2
    subst z2
    have z3 : A3 = [] := (List.append_eq_nil_iff.mp e3.symm).1
    subst z3
    refine .lst (vs := cutV vs lo hi) ?_ fun Q q => ⟨vs, e, q⟩
    unfold cutW
    rw [← dnAll_len d]
    exact d3.less fun b z => z.1
  · cases h
/-! ### in place -/
/-- what stands at a, new -/
theorem stp_at {a : Addr} {o : HO} {U' : US} (ha : U a) (hu : ∀ b, U' b → U b) : Stp H (upd H a o) U U' (fun b => b = a) :=
  ⟨fun b u n e => by rw [upd_ne n]; exact e, fun b z => by rw [z]; exact ha, fun b z => .inl (hu b z)⟩
theorem DnAll.rev : ∀ {ws : List W} {vs : List V} {A : List Addr}, DnAll K H U vs ws A → ∃ A', A'.Perm A ∧ DnAll K H U vs.reverse ws.reverse A'
  | [], _, _, h => by cases h; exact ⟨[], .refl _, .nil⟩
  | w :: ws, _, _, h => by
    cases h with
    | @cons v vs _ _ A B C h1 h2 e =>
      obtain ⟨A', p, d⟩ := DnAll.rev h2
      refine ⟨A' ++ A, ?_, ?_⟩
      · rw [e]
        exact List.perm_append_comm.trans (List.Perm.append_left A p)
      · rw [List.reverse_cons, List.reverse_cons]
        exact d.app (.cons h1 .nil (by simp))
theorem putK_same {κ : Type} [DecidableEq κ] {p : κ × V} {r : List (κ × V)} {key : κ} {v : V} (e : p.1 = key) (hn : ((p :: r).map (·.1)).Nodup) : putK (p :: r) key v = (p.1, v) :: r := by
  unfold putK
  have hr : r.map (fun kv => if kv.1 = key then (kv.1, v) else kv) = r := by
    have : ∀ kv ∈ r, (if kv.1 = key then (kv.1, v) else kv) = kv := fun kv hkv => by
      rw [if_neg]
      intro z
      refine (List.nodup_cons.mp hn).1 ?_
      show p.1 ∈ _
      rw [e, ← z]
      exact List.mem_map.mpr ⟨kv, hkv, rfl⟩
    exact (List.map_congr_left this).trans (List.map_id' r)
  rw [if_pos (by simp [e]), List.map_cons, hr, if_pos e]
theorem putK_other {κ : Type} [DecidableEq κ] {p : κ × V} {r : List (κ × V)} {key : κ} {v : V} (e : ¬ p.1 = key) : putK (p :: r) key v = p :: putK r key v := by
  unfold putK
  simp only [List.any_cons, decide_eq_false e, Bool.false_or, List.map_cons, if_neg e]
  split <;> rfl
theorem putK_keys {κ : Type} [DecidableEq κ] {v : V} {key : κ} : ∀ {kvs : List (κ × V)} {ws : List W} {w : W}, kvs.length = ws.length → (kvs.map (·.1)).Nodup → (putK kvs key v).map (·.1) = (putP (kvs.map (·.1)) ws key w).1 ∧ ((putK kvs key v).map (·.1)).Nodup ∧ ∀ x ∈ (putK kvs key v).map (·.1), x ∈ kvs.map (·.1) ∨ x = key
  | [], ws, w, _, _ => ⟨rfl, by simp [putK], fun x hx => .inr (by simpa [putK] using hx)⟩
  | p :: r, [], w, h, _ => by cases h
  | p :: r, y :: ws, w, h, hn => by
    by_cases e : p.1 = key
    · rw [putK_same e hn]
      refine ⟨?_, by simpa using hn, fun x hx => .inl (by simpa using hx)⟩
      simp [putP, e]
    · rw [putK_other e]
      obtain ⟨h1, h2, h3⟩ := putK_keys (v := v) (key := key) (kvs := r) (ws := ws) (w := w) (by simpa using h) (List.nodup_cons.mp (by simpa using hn)).2
      refine ⟨?_, ?_, fun x hx => ?_⟩
      · simp [putP, e, h1]
      · rw [List.map_cons, List.nodup_cons]
        refine ⟨fun z => ?_, h2⟩
        rcases h3 _ z with z | z
        · exact (List.nodup_cons.mp (by simpa using hn)).1 z
        · exact e z
      · rw [List.map_cons, List.mem_cons] at hx
        rcases hx with rfl | hx
        · exact .inl (by simp)
        · rcases h3 x hx with z | z
          · exact .inl (List.mem_cons_of_mem _ z)
          · exact .inr z
theorem put_ok {κ : Type} [DecidableEq κ] {w : W} {v : V} {B : List Addr} {key : κ} (hw : Dn K H U v w B) : ∀ {kvs : List (κ × V)} {ws : List W} {A : List Addr}, DnAll K H U (kvs.map (·.2)) ws A → (kvs.map (·.1)).Nodup → (A ++ B).Nodup →
    ∃ A', DnAll K H U ((putK kvs key v).map (·.2)) (putP (kvs.map (·.1)) ws key w).2 A' ∧ A'.Nodup ∧ ∀ a ∈ A', a ∈ A ∨ a ∈ B
  | [], ws, A, h, hn, nd => by
    obtain ⟨rfl, rfl⟩ := dnAll_nil h
    exact ⟨B, .cons hw .nil (by simp), by simpa using nd, fun a z => .inr z⟩
  | p :: r, ws, A, h, hn, nd => by
    cases ws with
    | nil => cases h
    | cons x ws =>
      cases h with
      | @cons _ _ _ _ A1 A2 _ h1 h2 e =>
        subst e
        by_cases ek : p.1 = key
        · rw [putK_same ek hn]
          refine ⟨B ++ A2, ?_, ?_, fun a z => ?_⟩
          · simp only [List.map_cons, putP, ek, if_true]
            exact .cons hw h2 rfl
          · have n1 : (A2 ++ B).Nodup := by
              rw [List.append_assoc] at nd
              exact (List.nodup_append.mp nd).2.1
            exact (List.perm_append_comm.nodup_iff).mp n1
          · rcases List.mem_append.mp z with z | z
            · exact .inr z
            · exact .inl (List.mem_append_right _ z)
        · have nd2 : (A2 ++ B).Nodup := by
            rw [List.append_assoc] at nd
            exact (List.nodup_append.mp nd).2.1
          obtain ⟨A', d, n, s⟩ := put_ok hw (key := key) h2 (List.nodup_cons.mp (by simpa using hn)).2 nd2
          rw [putK_other ek]
          refine ⟨A1 ++ A', ?_, ?_, fun a z => ?_⟩
          · simp only [List.map_cons, putP, ek, if_false]
            exact .cons h1 d rfl
          · rw [List.append_assoc] at nd
            refine List.nodup_append.mpr ⟨(List.nodup_append.mp nd).1, n, fun a ha b hb e => ?_⟩
            subst e
            exact (List.nodup_append.mp nd).2.2 a ha a (List.mem_append.mpr (s a hb)) rfl
          · rcases List.mem_append.mp z with z | z
            · exact .inl (List.mem_append_left _ z)
            · exact (s a z).imp_left (List.mem_append_right _)
theorem merge_ok {κ : Type} [DecidableEq κ] : ∀ {more kvs : List (κ × V)} {ws wm : List W} {A B : List Addr}, DnAll K H U (kvs.map (·.2)) ws A → (kvs.map (·.1)).Nodup → DnAll K H U (more.map (·.2)) wm B → (A ++ B).Nodup →
    ∃ A', DnAll K H U ((more.foldl (fun acc kv => putK acc kv.1 kv.2) kvs).map (·.2)) (mergeP (kvs.map (·.1)) ws (more.map (·.1)) wm).2 A' ∧ A'.Nodup ∧ (∀ a ∈ A', a ∈ A ∨ a ∈ B) ∧
      (more.foldl (fun acc kv => putK acc kv.1 kv.2) kvs).map (·.1) = (mergeP (kvs.map (·.1)) ws (more.map (·.1)) wm).1 ∧ ((more.foldl (fun acc kv => putK acc kv.1 kv.2) kvs).map (·.1)).Nodup
  | [], kvs, ws, wm, A, B, h, hn, hm, nd => by
    obtain ⟨rfl, rfl⟩ := dnAll_nil hm
    exact ⟨A, by simpa [mergeP] using h, by simpa using nd, fun a z => .inl z, by simp [mergeP], hn⟩
  | p :: r, kvs, ws, wm, A, B, h, hn, hm, nd => by
    cases wm with
    | nil => cases hm
    | cons x wm =>
      cases hm with
      | @cons _ _ _ _ B1 B2 _ h1 h2 e =>
        subst e
        have nd1 : (A ++ B1).Nodup := by
          rw [← List.append_assoc] at nd
          exact (List.nodup_append.mp nd).1
        obtain ⟨A', d, n, s⟩ := put_ok h1 (key := p.1) h hn nd1
        have hl : kvs.length = ws.length := by
          have := dnAll_len h
          rwa [List.length_map] at this
        obtain ⟨k1, k2, _⟩ := putK_keys (v := p.2) (key := p.1) (w := x) hl hn
        have nd2 : (A' ++ B2).Nodup := by
          rw [← List.append_assoc] at nd
          refine List.nodup_append.mpr ⟨n, (List.nodup_append.mp nd).2.1, fun a ha b hb e => ?_⟩
          subst e
          exact (List.nodup_append.mp nd).2.2 a (List.mem_append.mpr (s a ha)) a hb rfl
        rw [k1] at k2
        obtain ⟨A2, g1, g2, g3, g4, g5⟩ := merge_ok (more := r) (kvs := putK kvs p.1 p.2) (ws := (putP (kvs.map (·.1)) ws p.1 x).2) (wm := wm) d (by rw [k1]; exact k2) h2 nd2
        rw [k1] at g1 g4
        refine ⟨A2, g1, g2, fun a z => ?_, g4, g5⟩
        rcases g3 a z with z | z
        · exact (s a z).imp_right (List.mem_append_left _)
        · exact .inr (List.mem_append_right _ z)
theorem dnAll_nilW {vs : List V} {A : List Addr} (h : DnAll K H U vs [] A) : vs = [] ∧ A = [] := by cases h; exact ⟨rfl, rfl⟩
/-- what an object is after a method of its own; C: what its result holds -/
def MutOk (K : PySem.W.Frag) (H : Hp) (U : US) (vx : V) (Bx By : List Addr) (r x' : W) (k : VK → Prop) : Prop :=
  ∀ Q : VK, (∀ (v : V) (H' : Hp) (Bx' C : List Addr), (∀ b o, b ∉ Bx → H b = some o → H' b = some o) → (Bx' ++ C).Nodup → (∀ c, c ∈ Bx' ∨ c ∈ C → c ∈ Bx ∨ c ∈ By) → Dom H' C → NoTup H' C →
    (∀ U' : US, (∀ a, U' a → U a ∧ (a ∈ By → a ∈ Bx' ∨ a ∈ C)) → Dn K H' U' vx x' Bx' ∧ Dn K H' U' v r C) → Q v H') → k Q
theorem mut_at {a : Addr} {o0 o' : HO} {vs' : List V} {ws' : List W} {A' C B' : List Addr} {v : V} {r x' : W} {k : VK → Prop} (e : H a = some o0) (ha : U a) (nd : a ∉ B' ∧ a ∉ By)
    (mk : ∀ (H' : Hp) (U' : US), H' a = some o' → DnAll K H' U' vs' ws' A' → Dn K H' U' (.ref a) x' (a :: A'))
    (hd : ∀ U' : US, (∀ c, U' c → U c ∧ (c ∈ By → c ∈ a :: A' ∨ c ∈ C)) → DnAll K H U' vs' ws' A') (hr : Dn K H U v r C) (n2 : (A' ++ C).Nodup) (s : ∀ c, c ∈ A' ∨ c ∈ C → c ∈ B' ∨ c ∈ By)
    (hk : ∀ Q : VK, Q v (upd H a o') → k Q) : MutOk K H U (.ref a) (a :: B') By r x' k := by
  intro Q q
  have na : ∀ c, c ∈ A' ∨ c ∈ C → c ≠ a := fun c hc z => by
    subst z
    exact (s c hc).elim nd.1 nd.2
  have keep : ∀ b, b ≠ a → ∀ o, H b = some o → upd H a o' b = some o := fun b n o e => by rw [upd_ne n]; exact e
  refine hk Q (q v _ (a :: A') C (fun b o n e => keep b (fun z => n (by simp [z])) o e) ?_ (fun c hc => ?_) (fun c hc => ?_) (fun c hc xs => ?_) fun U' hU => ⟨mk _ _ upd_same ?_, ?_⟩)
  · rw [List.cons_append, List.nodup_cons]
    exact ⟨fun z => (List.mem_append.mp z).elim (fun z => na a (.inl z) rfl) fun z => na a (.inr z) rfl, n2⟩
  · rcases hc with hc | hc
    · rcases List.mem_cons.mp hc with rfl | hc
      · exact .inl (List.mem_cons_self ..)
      · exact (s c (.inl hc)).imp_left (List.mem_cons_of_mem _)
    · exact (s c (.inr hc)).imp_left (List.mem_cons_of_mem _)
  · rw [upd_ne (na c (.inr hc))]; exact hr.dom c hc
  · rw [upd_ne (na c (.inr hc))]; exact hr.notup c hc xs
  · have hd' := hd (fun c => U' c ∨ c = a) fun c hc => by
      rcases hc with hc | hc
      · exact hU c hc
      · subst hc; exact ⟨ha, fun _ => .inl (List.mem_cons_self ..)⟩
    exact hd'.step (stp_at (.inr rfl) fun b z => .inl z) fun c hc => na c (.inl hc)
  · exact hr.step (stp_at ha fun b z => (hU b z).1) fun c hc => na c (.inr hc)
theorem mut_lst {a : Addr} {vs vs' : List V} {ws' : List W} {A' C B' : List Addr} {v : V} {r : W} {k : VK → Prop} (e : H a = some (.lst vs)) (ha : U a) (nd : a ∉ B' ∧ a ∉ By) (hd : DnAll K H U vs' ws' A') (hr : Dn K H U v r C) (n2 : (A' ++ C).Nodup) (s : ∀ c, c ∈ A' ∨ c ∈ C → c ∈ B' ∨ c ∈ By)
    (hk : ∀ Q : VK, Q v (upd H a (.lst vs')) → k Q) : MutOk K H U (.ref a) (a :: B') By r (.lst true ws') k :=
  mut_at e ha nd (fun H' U' e d => .lstO e d) (fun U' hU => hd.less fun b z => (hU b z).1) hr n2 s hk
theorem mut_dK {a : Addr} {kvs kvs' : List (Key × V)} {ks' : List Key} {ws' : List W} {A' C B' : List Addr} {v : V} {r : W} {k : VK → Prop} (e : H a = some (.dK kvs)) (ha : U a) (nd : a ∉ B' ∧ a ∉ By) (hk' : kvs'.map (·.1) = ks' ∧ ks'.Nodup)
    (hd : ∀ U' : US, (∀ c, U' c → U c ∧ (c ∈ By → c ∈ a :: A' ∨ c ∈ C)) → DnAll K H U' (kvs'.map (·.2)) ws' A') (hr : Dn K H U v r C) (n2 : (A' ++ C).Nodup) (s : ∀ c, c ∈ A' ∨ c ∈ C → c ∈ B' ∨ c ∈ By)
    (hk : ∀ Q : VK, Q v (upd H a (.dK kvs')) → k Q) : MutOk K H U (.ref a) (a :: B') By r (.dK true ks' ws') k :=
  mut_at e ha nd (fun H' U' e d => .dKO e hk' d) hd hr n2 s hk
theorem mut_dT {a : Addr} {kvs kvs' : List (List Key × V)} {ks' : List (List Key)} {ws' : List W} {A' C B' : List Addr} {v : V} {r : W} {k : VK → Prop} (e : H a = some (.dT kvs)) (ha : U a) (nd : a ∉ B' ∧ a ∉ By) (hk' : kvs'.map (·.1) = ks' ∧ ks'.Nodup)
    (hd : ∀ U' : US, (∀ c, U' c → U c ∧ (c ∈ By → c ∈ a :: A' ∨ c ∈ C)) → DnAll K H U' (kvs'.map (·.2)) ws' A') (hr : Dn K H U v r C) (n2 : (A' ++ C).Nodup) (s : ∀ c, c ∈ A' ∨ c ∈ C → c ∈ B' ∨ c ∈ By)
    (hk : ∀ Q : VK, Q v (upd H a (.dT kvs')) → k Q) : MutOk K H U (.ref a) (a :: B') By r (.dT true ks' ws') k :=
  mut_at e ha nd (fun H' U' e d => .dTO e hk' d) hd hr n2 s hk
theorem mut_ok {m : Mth} {vs : List V} {ws : List W} {r x' : W} (hx : Dn K H U vx x Bx) (hws : DnAll K H U vs ws By) (nd : (Bx ++ By).Nodup) (hU : ∀ b ∈ Bx, U b) (h : mutW m x ws = some (r, x')) : MutOk K H U vx Bx By r x' (rMth K m vx vs H) := by
  unfold mutW at h
  split at h
  · rename_i xs y
    split at h
    · rename_i hl
      cases h
      cases hx with
      | @lstO a vl _ A e d =>
        cases hws with
        | @cons v vs' _ _ B1 B2 _ d1 d2 eq =>
          obtain ⟨rfl, rfl⟩ : vs' = [] ∧ B2 = [] := by cases d2; exact ⟨rfl, rfl⟩
          rw [List.append_nil] at eq
          subst eq
          rw [List.cons_append, List.nodup_cons] at nd
          refine mut_lst (C := []) e (hU a (List.mem_cons_self ..)) ⟨fun z => nd.1 (List.mem_append_left _ z), fun z => nd.1 (List.mem_append_right _ z)⟩ (d.app (.cons d1 .nil (List.append_nil _).symm)) .non (by simpa using nd.2) (fun c hc => ?_) fun Q q => ⟨vl, e, ?_, q⟩
          · rcases hc with hc | hc
            · exact List.mem_append.mp hc
            · cases hc
          · rw [dnAll_len d, sizeLine_eq]
            have := lim_val
            omega
    · cases h
  · rename_i xs
    split at h
    · rename_i y hy
      cases h
      cases hx with
      | @lstO a vl _ A e d =>
        obtain ⟨rfl, rfl⟩ : vs = [] ∧ By = [] := by cases hws; exact ⟨rfl, rfl⟩
        rw [List.append_nil, List.nodup_cons] at nd
        obtain ⟨v, A1, B, A2, e1, e2, dv, d1, d2⟩ := d.split hy
        have hl := dnAll_len d
        have n2 : A2 = [] := by
          have z : xs.drop (xs.length - 1 + 1) = [] := List.drop_eq_nil_of_le (by omega)
          rw [z] at d2
          exact (dnAll_nilW d2).2
        subst n2
        rw [List.append_nil] at e2
        subst e2
        refine mut_lst (C := B) e (hU a (List.mem_cons_self ..)) ⟨nd.1, by simp⟩ (A' := A1) (vs' := vl.dropLast) ?_ dv nd.2 (fun c hc => .inl (List.mem_append.mpr hc)) fun Q q => ⟨vl, v, e, by rw [hl]; exact e1, q⟩
        rw [List.dropLast_eq_take, List.dropLast_eq_take, hl]
        exact d1
    · cases h
  · rename_i xs i
    split at h
    · rename_i hi
      split at h
      · rename_i j hj
        split at h
        · rename_i y hy
          cases h
          cases hx with
          | @lstO a vl _ A e d =>
            obtain ⟨rfl, rfl⟩ : vs = [.int i] ∧ By = [] := by
              cases hws with
              | cons d1 d2 eq =>
                obtain ⟨rfl, rfl⟩ := d1.int_inv
                cases d2
                exact ⟨rfl, by simpa using eq⟩
            rw [List.append_nil, List.nodup_cons] at nd
            obtain ⟨v, A1, B, A2, e1, e2, dv, d1, d2⟩ := d.split hy
            have hl := dnAll_len d
            subst e2
            have pB : (A1 ++ A2 ++ B).Perm (A1 ++ (B ++ A2)) := by
              rw [List.append_assoc]
              exact List.Perm.append_left A1 List.perm_append_comm
            refine mut_lst (C := B) e (hU a (List.mem_cons_self ..)) ⟨nd.1, by simp⟩ (A' := A1 ++ A2) (vs' := vl.eraseIdx j) ?_ dv (pB.nodup_iff.mpr nd.2) (fun c hc => .inl (pB.mem_iff.mp (List.mem_append.mpr hc))) fun Q q => ⟨vl, j, v, e, hi.1, hi.2, ?_, e1, q⟩
            · rw [List.eraseIdx_eq_take_drop_succ, List.eraseIdx_eq_take_drop_succ]
              exact d1.app d2
            · rw [hl]; exact (ixN_seq hj).1
        · cases h
      · cases h
    · cases h
  · rename_i xs i y
    split at h
    · rename_i hi
      cases h
      cases hx with
      | @lstO a vl _ A e d =>
        cases hws with
        | @cons vi vs' _ _ B1 B2 _ d1 d2 eq =>
          obtain ⟨rfl, rfl⟩ := d1.int_inv
          cases d2 with
          | @cons vy vs'' _ _ B3 B4 _ d3 d4 eq2 =>
            obtain ⟨rfl, rfl⟩ : vs'' = [] ∧ B4 = [] := by cases d4; exact ⟨rfl, rfl⟩
            have eB : B3 = By := by rw [eq, eq2]; simp
            subst eB
            rw [List.cons_append, List.nodup_cons] at nd
            obtain ⟨A1, A2, e2, c1, c2⟩ := cut_ok d i.toNat
            subst e2
            have pB : (A1 ++ B3 ++ A2).Perm (A1 ++ A2 ++ B3) := by
              rw [List.append_assoc, List.append_assoc]
              exact List.Perm.append_left A1 List.perm_append_comm
            refine mut_lst (C := []) e (hU a (List.mem_cons_self ..)) ⟨fun z => nd.1 (List.mem_append_left _ z), fun z => nd.1 (List.mem_append_right _ z)⟩ ((c1.app (.cons d3 .nil (List.append_nil _).symm)).app c2) .non (by rw [List.append_nil]; exact pB.nodup_iff.mpr nd.2) (fun c hc => ?_) fun Q q => ⟨vl, e, ?_, hi.2.1, hi.2.2, q⟩
            · rcases hc with hc | hc
              · exact List.mem_append.mp (pB.mem_iff.mp hc)
              · cases hc
            · rw [dnAll_len d, sizeLine_eq]
              have := lim_val
              omega
    · cases h
  · rename_i xs
    cases h
    cases hx with
    | @lstO a vl _ A e d =>
      obtain ⟨rfl, rfl⟩ : vs = [] ∧ By = [] := by cases hws; exact ⟨rfl, rfl⟩
      rw [List.append_nil, List.nodup_cons] at nd
      obtain ⟨A', p, dr⟩ := d.rev
      exact mut_lst (C := []) e (hU a (List.mem_cons_self ..)) ⟨nd.1, by simp⟩ dr .non (by rw [List.append_nil]; exact p.nodup_iff.mpr nd.2) (fun c hc => hc.elim (fun hc => .inl (p.mem_iff.mp hc)) fun hc => by cases hc) fun Q q => ⟨vl, e, q⟩
  · rename_i ks ws1 ks' ws2
    split at h
    · rename_i hl
      cases h
      cases hx with
      | @dKO a kvs _ _ A e hk d =>
        obtain ⟨rfl, hn⟩ := hk
        cases hws with
        | @cons vy vs' _ _ B1 B2 _ d1 d2 eq =>
          obtain ⟨rfl, rfl⟩ : vs' = [] ∧ B2 = [] := by cases d2; exact ⟨rfl, rfl⟩
          have eB : B1 = By := by rw [eq]; simp
          subst eB
          cases d1 with
          | @dKO b more _ _ A2 e2 hk2 dm =>
            obtain ⟨rfl, hn2⟩ := hk2
            rw [List.cons_append, List.nodup_cons] at nd
            have hab : a ≠ b := fun z => nd.1 (List.mem_append_right _ (by rw [z]; exact List.mem_cons_self ..))
            have ndA : (A ++ ([] : List Addr)).Nodup := by rw [List.append_nil]; exact (List.nodup_append.mp nd.2).1
            have dis : ∀ c, c ∈ A → c ∈ A2 → False := fun c h1 h2 => (List.nodup_append.mp nd.2).2.2 c h1 c (List.mem_cons_of_mem _ h2) rfl
            obtain ⟨A', d', n', s', k1, k2⟩ := merge_ok (more := more) (B := []) (d.less (U' := fun c => U c ∧ c ∉ A2) fun c z => z.1) hn (dm.frz (U' := fun c => U c ∧ c ∉ A2) fun c z => z) ndA
            have sA : ∀ c ∈ A', c ∈ A := fun c hc => (s' c hc).elim id fun z => by cases z
            have hlk : kvs.length + more.length ≤ sizeLine := by
              rw [List.length_map, List.length_map] at hl
              exact Nat.le_trans hl lim_line
            refine mut_dK (C := []) (kvs' := mergeK kvs more) e (hU a (List.mem_cons_self ..)) ⟨fun z => nd.1 (List.mem_append_left _ z), fun z => nd.1 (List.mem_append_right _ z)⟩ ⟨k1, by rw [← k1]; exact k2⟩ (fun U' hU' => d'.less fun c z => ⟨(hU' c z).1, fun h2 => ?_⟩) .non (by rw [List.append_nil]; exact n')
              (fun c hc => hc.elim (fun hc => .inl (sA c hc)) fun hc => by cases hc) fun Q q => ⟨kvs, more, e, e2, hab, hlk, q⟩
            rcases (hU' c z).2 (List.mem_cons_of_mem _ h2) with h | h
            · rcases List.mem_cons.mp h with rfl | h
              · exact nd.1 (List.mem_append_right _ (List.mem_cons_of_mem _ h2))
              · exact dis c (sA c h) h2
            · cases h
    · cases h
  · cases h
/-- x[k] = v -/
theorem set_ok' {v : V} {w x' : W} (hx : Dn K H U vx x Bx) (hk : Dn K H U vk k Bs) (hw : Dn K H U v w By) (nd : (Bx ++ By).Nodup) (hU : ∀ b ∈ Bx, U b) (h : setW x k w = some x') : MutOk K H U vx Bx By .non x' (fun Q => rSet K vx vk v H fun H' => Q .non H') := by
  unfold setW at h
  split at h
  · rename_i xs
    split at h
    · obtain ⟨rfl, rfl⟩ := hk.int_inv
      split at h
      · rename_i j hj
        cases h
        cases hx with
        | @lstO a vl _ A e d =>
          rw [List.cons_append, List.nodup_cons] at nd
          have hl := dnAll_len d
          have lj : j < xs.length := (ixN_seq hj).2.1
          obtain ⟨v0, A1, B, A2, e1, e2, dv, d1, d2⟩ := d.split (List.getElem?_eq_getElem lj)
          subst e2
          refine mut_lst (C := []) e (hU a (List.mem_cons_self ..)) ⟨fun z => nd.1 (List.mem_append_left _ z), fun z => nd.1 (List.mem_append_right _ z)⟩ (A' := A1 ++ (By ++ A2)) (vs' := vl.set j v) ?_ .non ?_ (fun c hc => ?_) fun Q q => .inl ⟨a, vl, _, j, rfl, rfl, e, by rw [hl]; exact hj, q⟩
          · rw [set_parts (by omega), set_parts lj]
            exact d1.app (.cons hw d2 rfl)
          · rw [List.append_nil]
            have n := nd.2
            have s1 : (A1 ++ A2 ++ By).Sublist (A1 ++ (B ++ A2) ++ By) := ((List.sublist_append_right B A2).append_left A1).append_right By
            have n1 := n.sublist s1
            have pB : (A1 ++ (By ++ A2)).Perm (A1 ++ A2 ++ By) := by
              rw [List.append_assoc]
              exact List.Perm.append_left A1 List.perm_append_comm
            exact pB.nodup_iff.mpr n1
          · rcases hc with hc | hc
            · simp only [List.mem_append] at hc ⊢
              rcases hc with hc | hc | hc
              · exact .inl (.inl hc)
              · exact .inr hc
              · exact .inl (.inr (.inr hc))
            · cases hc
      · cases h
    · cases h
  · rename_i ks ws1
    split at h
    · rename_i y hy
      split at h
      · rename_i hl
        cases h
        cases hx with
        | @dKO a kvs _ _ A e hkk d =>
          obtain ⟨rfl, hn⟩ := hkk
          rw [List.cons_append, List.nodup_cons] at nd
          have hlen : kvs.length = ws1.length := by
            have := dnAll_len d
            rwa [List.length_map] at this
          obtain ⟨k1, k2, _⟩ := putK_keys (v := v) (key := y) (w := w) hlen hn
          obtain ⟨A', d', n', s'⟩ := put_ok hw (key := y) d hn nd.2
          have hlk : kvs.length < sizeLine := by
            rw [List.length_map] at hl
            exact Nat.lt_of_lt_of_le hl lim_line
          exact mut_dK (C := []) (kvs' := putK kvs y v) e (hU a (List.mem_cons_self ..)) ⟨fun z => nd.1 (List.mem_append_left _ z), fun z => nd.1 (List.mem_append_right _ z)⟩ ⟨k1, by rw [← k1]; exact k2⟩ (fun U' hU' => d'.less fun c z => (hU' c z).1) .non (by rw [List.append_nil]; exact n')
            (fun c hc => hc.elim (s' c) fun hc => by cases hc) fun Q q => .inr ⟨a, _, rfl, .inl ⟨kvs, y, e, key_ok hy hk, hlk, rfl⟩, q⟩
      · cases h
    · cases h
  · rename_i ks ws1
    split at h
    · rename_i y hy
      split at h
      · rename_i hl
        cases h
        cases hx with
        | @dTO a kvs _ _ A e hkk d =>
          obtain ⟨rfl, hn⟩ := hkk
          rw [List.cons_append, List.nodup_cons] at nd
          obtain ⟨b, rfl, eb, _⟩ := tk_ok hy hk
          have hlen : kvs.length = ws1.length := by
            have := dnAll_len d
            rwa [List.length_map] at this
          obtain ⟨k1, k2, _⟩ := putK_keys (v := v) (key := y) (w := w) hlen hn
          obtain ⟨A', d', n', s'⟩ := put_ok hw (key := y) d hn nd.2
          have hlk : kvs.length < sizeLine := by
            rw [List.length_map] at hl
            exact Nat.lt_of_lt_of_le hl lim_line
          exact mut_dT (C := []) (kvs' := putK kvs y v) e (hU a (List.mem_cons_self ..)) ⟨fun z => nd.1 (List.mem_append_left _ z), fun z => nd.1 (List.mem_append_right _ z)⟩ ⟨k1, by rw [← k1]; exact k2⟩ (fun U' hU' => d'.less fun c z => (hU' c z).1) .non (by rw [List.append_nil]; exact n')
            (fun c hc => hc.elim (s' c) fun hc => by cases hc) fun Q q => .inr ⟨a, _, rfl, .inr ⟨kvs, y, b, e, rfl, eb, hlk, rfl⟩, q⟩
      · cases h
    · cases h
  · cases h
end
end Ev

set_option Elab.async false
set_option linter.all false
set_option maxRecDepth 100000
set_option maxHeartbeats 4000000
/-! Built-in functions on data. -/
namespace Ev
open PySem PySem.Spec PyProof.Rows L2
/-! ### sorting -/
theorem ins1_perm {α : Type} (lt : α → α → Bool) (x : α) : ∀ l : List α, (ins1 lt x l).Perm (x :: l)
  | [] => .refl _
  | y :: ys => by
    unfold ins1
    split
    · exact (List.Perm.cons y (ins1_perm lt x ys)).trans (List.Perm.swap x y ys)
    · exact .refl _
theorem isort_perm {α : Type} (lt : α → α → Bool) : ∀ l : List α, (isort lt l).Perm l
  | [] => .refl _
  | x :: xs => (ins1_perm lt x _).trans (List.Perm.cons x (isort_perm lt xs))
/-- a strict order: of two others one stands before the other -/
structure Tot {α : Type} (lt : α → α → Bool) : Prop where
  asym : ∀ x y, lt x y = true → lt y x = false
  tr : ∀ x y z, lt y x = false → lt z y = false → lt z x = false
  anti : ∀ x y, lt x y = false → lt y x = false → x = y
theorem ins1_srt {α : Type} {lt : α → α → Bool} (O : Tot lt) (x : α) : ∀ l : List α, l.Pairwise (fun a b => lt b a = false) → (ins1 lt x l).Pairwise (fun a b => lt b a = false)
  | [], _ => List.pairwise_singleton _ _
  | y :: ys, h => by
    obtain ⟨h1, h2⟩ := List.pairwise_cons.mp h
    unfold ins1
    split
    · rename_i e
      refine List.pairwise_cons.mpr ⟨fun z hz => ?_, ins1_srt O x ys h2⟩
      rcases List.mem_cons.mp ((ins1_perm lt x ys).mem_iff.mp hz) with rfl | hz
      · exact O.asym _ _ e
      · exact h1 z hz
    · rename_i e
      refine List.pairwise_cons.mpr ⟨fun z hz => ?_, h⟩
      rcases List.mem_cons.mp hz with rfl | hz
      · exact e
      · exact O.tr _ _ _ e (h1 z hz)
theorem isort_srt {α : Type} {lt : α → α → Bool} (O : Tot lt) : ∀ l : List α, (isort lt l).Pairwise (fun a b => lt b a = false)
  | [] => .nil
  | x :: xs => ins1_srt O x _ (isort_srt O xs)
theorem isort_uniq {α : Type} {lt : α → α → Bool} (O : Tot lt) {l m : List α} (p : m.Perm l) (s : m.Pairwise (fun a b => lt b a = false)) : m = isort lt l :=
  List.Perm.eq_of_pairwise (fun a b _ _ h1 h2 => O.anti _ _ h2 h1) s (isort_srt O l) (p.trans (isort_perm lt l).symm)
theorem tot_int : Tot ltI := by
  refine ⟨fun x y h => ?_, fun x y z h1 h2 => ?_, fun x y h1 h2 => ?_⟩ <;> simp only [ltI, decide_eq_true_eq, decide_eq_false_iff_not] at * <;> omega
theorem tot_lex : Tot SrtO.lexB := by
  refine ⟨fun x y h => ?_, fun x y z h1 h2 => ?_, fun x y h1 h2 => ?_⟩
  · have a := SrtO.lexB_iff.mp h
    refine SrtO.lexB_no.mpr ?_
    omega
  · have a := SrtO.lexB_no.mp h1
    have b := SrtO.lexB_no.mp h2
    refine SrtO.lexB_no.mpr ?_
    omega
  · have a := SrtO.lexB_no.mp h1
    have b := SrtO.lexB_no.mp h2
    refine Prod.ext ?_ ?_ <;> omega
section
variable {K : PySem.W.Frag} {H : Hp} {U : US} {Bs B : List Addr} {vx : V} {x z : W}
theorem ints_ok : ∀ {ws : List W} {vs : List V} {A : List Addr} {is : List Int}, DnAll K H U vs ws A → intsW ws = some is → vs = is.map V.int
  | [], _, _, _, h, e => by cases h; cases e; rfl
  | w :: ws, _, _, is, h, e => by
    cases h with
    | cons h1 h2 _ =>
      unfold intsW at e
      split at e
      · rename_i i is1 e1
        cases e
        rw [List.map_cons, ← ints_ok h2 e1, h1.int_inv.1]
      · cases e
theorem bls_ok : ∀ {ws : List W} {vs : List V} {A : List Addr} {is : List Bool}, DnAll K H U vs ws A → blsW ws = some is → vs = is.map V.bl
  | [], _, _, _, h, e => by cases h; cases e; rfl
  | w :: ws, _, _, is, h, e => by
    cases h with
    | cons h1 h2 _ =>
      unfold blsW at e
      split at e
      · rename_i i is1 e1
        cases e
        rw [List.map_cons, ← bls_ok h2 e1, h1.bl_inv.1]
      · cases e
theorem strs_ok : ∀ {ws : List W} {vs : List V} {A : List Addr} {is : List Str}, DnAll K H U vs ws A → strsW ws = some is → vs = is.map V.str
  | [], _, _, _, h, e => by cases h; cases e; rfl
  | w :: ws, _, _, is, h, e => by
    cases h with
    | cons h1 h2 _ =>
      unfold strsW at e
      split at e
      · rename_i i is1 e1
        cases e
        rw [List.map_cons, ← strs_ok h2 e1, h1.str_inv.1]
      · cases e
theorem dn_ints (K : PySem.W.Frag) (H : Hp) (U : US) : ∀ is : List Int, DnAll K H U (is.map V.int) (is.map W.int) []
  | [] => .nil
  | i :: is => .cons (.int i) (dn_ints K H U is) rfl
theorem dn_strs (K : PySem.W.Frag) (H : Hp) (U : US) : ∀ is : List Str, DnAll K H U (is.map V.str) (is.map W.str) []
  | [] => .nil
  | i :: is => .cons (.str i) (dn_strs K H U is) rfl
theorem dn_keys (K : PySem.W.Frag) (H : Hp) (U : US) : ∀ is : List Key, DnAll K H U (is.map kV) (is.map wKey) []
  | [] => .nil
  | i :: is => .cons (by cases i; exact .int _; exact .str _) (dn_keys K H U is) rfl
theorem minL_uniq : ∀ {is : List Int} {i m : Int}, m ∈ i :: is → (∀ y, y ∈ i :: is → m ≤ y) → m = minL i is
  | [], i, m, h, _ => by simpa [minL] using h
  | j :: is, i, m, h, hm => by
    unfold minL
    have h1 := hm i (List.mem_cons_self ..)
    have h2 := hm j (List.mem_cons_of_mem _ (List.mem_cons_self ..))
    refine minL_uniq ?_ fun y hy => ?_
    · split
      · rcases List.mem_cons.mp h with rfl | h
        · omega
        · exact h
      · rcases List.mem_cons.mp h with rfl | h
        · exact List.mem_cons_self ..
        · rcases List.mem_cons.mp h with rfl | h
          · have : m = i := by omega
            rw [this]; exact List.mem_cons_self ..
          · exact List.mem_cons_of_mem _ h
    · rcases List.mem_cons.mp hy with rfl | hy
      · split <;> assumption
      · exact hm y (List.mem_cons_of_mem _ (List.mem_cons_of_mem _ hy))
theorem maxL_uniq : ∀ {is : List Int} {i m : Int}, m ∈ i :: is → (∀ y, y ∈ i :: is → y ≤ m) → m = maxL i is
  | [], i, m, h, _ => by simpa [maxL] using h
  | j :: is, i, m, h, hm => by
    unfold maxL
    have h1 := hm i (List.mem_cons_self ..)
    have h2 := hm j (List.mem_cons_of_mem _ (List.mem_cons_self ..))
    refine maxL_uniq ?_ fun y hy => ?_
    · split
      · rcases List.mem_cons.mp h with rfl | h
        · omega
        · exact h
      · rcases List.mem_cons.mp h with rfl | h
        · exact List.mem_cons_self ..
        · rcases List.mem_cons.mp h with rfl | h
          · have : m = i := by omega
            rw [this]; exact List.mem_cons_self ..
          · exact List.mem_cons_of_mem _ h
    · rcases List.mem_cons.mp hy with rfl | hy
      · split <;> assumption
      · exact hm y (List.mem_cons_of_mem _ (List.mem_cons_of_mem _ hy))
theorem sumL_eq : ∀ is : List Int, sumL is = is.sum
  | [] => rfl
  | i :: is => by
    unfold sumL
    rw [sumL_eq is, List.sum_cons]
/-- pairs of ints -/
theorem pair_ok {i : Int × Int} (h : pairW x = some i) (hx : Dn K H U vx x B) : ∃ t, vx = .ref t ∧ H t = some (.tup [.int i.1, .int i.2]) ∧ ¬ U t := by
  unfold pairW at h
  split at h
  · rename_i o a b
    cases h
    obtain ⟨t, vs, rfl, n, e, d⟩ := hx.tup_inv
    refine ⟨t, rfl, ?_, n⟩
    cases d with
    | cons d1 d2 _ =>
      cases d2 with
      | cons d3 d4 _ =>
        cases d4
        rw [d1.int_inv.1, d3.int_inv.1] at e
        exact e
  · cases h
/-- a pair that stands at an address -/
def kAt (H : Hp) (v : V) : Int × Int := match v with
  | .ref q => match H q with | some (.tup [.int i, .int j]) => (i, j) | _ => (0, 0)
  | _ => (0, 0)
theorem kAt_of {t : Addr} {i : Int × Int} (h : H t = some (.tup [.int i.1, .int i.2])) : kAt H (.ref t) = i := by
  unfold kAt
  simp only [h]
theorem pairs_ok : ∀ {ws : List W} {vs : List V} {A : List Addr} {is : List (Int × Int)}, DnAll K H U vs ws A → pairsW ws = some is → vs.map (kAt H) = is ∧ ∀ v ∈ vs, ∃ t, v = .ref t ∧ H t = some (.tup [.int (kAt H v).1, .int (kAt H v).2]) ∧ ¬ U t
  | [], _, _, _, h, e => by cases h; cases e; exact ⟨rfl, fun v hv => by cases hv⟩
  | w :: ws, _, _, is, h, e => by
    cases h with
    | cons h1 h2 _ =>
      unfold pairsW at e
      split at e
      · rename_i i is1 e1 e2
        cases e
        obtain ⟨t, rfl, ht, n⟩ := pair_ok e1 h1
        obtain ⟨k1, k2⟩ := pairs_ok h2 e2
        refine ⟨by rw [List.map_cons, k1, kAt_of ht], fun v hv => ?_⟩
        rcases List.mem_cons.mp hv with rfl | hv
        · exact ⟨t, rfl, by rw [kAt_of ht]; exact ht, n⟩
        · exact k2 v hv
      · cases e
theorem dn_pairs {U' : US} : ∀ {vs : List V}, (∀ v ∈ vs, ∃ t, v = .ref t ∧ H t = some (.tup [.int (kAt H v).1, .int (kAt H v).2]) ∧ ¬ U' t) → DnAll K H U' vs ((vs.map (kAt H)).map fun p => .tup false [.int p.1, .int p.2]) []
  | [], _ => .nil
  | v :: vs, h => by
    obtain ⟨t, rfl, ht, n⟩ := h v (List.mem_cons_self ..)
    exact .cons (.tupV n ht (.cons (.int _) (.cons (.int _) .nil rfl) rfl)) (dn_pairs fun v hv => h v (List.mem_cons_of_mem _ hv)) rfl
theorem srt_map {ys : List V} (h : SrtO.Srtd (ltP (kAt H)) ys) : (ys.map (kAt H)).Pairwise (fun a b => SrtO.lexB b a = false) := by
  rw [List.pairwise_map]
  exact h
theorem tyx_ok {t : String} (h : typeW x = some t) (hx : Dn K H U vx x B) : TyX K H vx (.type t) := by
  cases hx with
  | non => cases h; exact .base .non
  | bl b => cases h; exact .base (.bl b)
  | int b => cases h; exact .base (.int b)
  | str b => cases h; exact .base (.str b)
  | ty n => cases h
  | lstO e _ => cases h; exact .base (.lst e)
  | lstV _ e _ => cases h; exact .base (.lst e)
  | scrV _ e _ => obtain ⟨o, e⟩ := e; cases h; exact .base (.frz e)
  | scrK e _ => obtain ⟨o, its, n, e1, e2, _⟩ := e; cases h; exact .kList e1 e2
  | tupO _ e _ => cases h; exact .base (.tup e)
  | tupV _ e _ => cases h; exact .base (.tup e)
  | dKO e _ _ => cases h; exact .base (.dK e)
  | dKV _ e _ _ => cases h; exact .base (.dK e)
  | dTO e _ _ => cases h; exact .base (.dT e)
  | dTV _ e _ _ => cases h; exact .base (.dT e)
  | dLO _ _ _ => cases h
  | dLV _ _ _ _ => cases h
def tyAll : List String := ["NoneType", "bool", "int", "str", "list", "tuple", "dict"]
theorem typeW_mem {t : String} (h : typeW x = some t) : t ∈ tyAll := by
  cases x <;> simp [typeW] at h <;> subst h <;> simp [tyAll]
theorem inst_ok {t n : String} (ht : t ∈ tyAll) (hn : n ∈ tyNames) : PySem.W.kitOne K (.type t) (.type n) = some (instB t n) := by
  have k : ∀ t ∈ tyAll, ∀ n ∈ tyNames, kitB t n = some (instB t n) := by decide +kernel
  exact kit_ty (k t ht n hn)
theorem kPair_ok {kw : Key × W} (h : kPair x = some kw) (hx : Dn K H U vx x B) : ∃ p v, vx = .ref p ∧ SqT K H p [kV kw.1, v] ∧ Dn K H U v kw.2 B := by
  unfold kPair at h
  split at h
  · split at h
    · rename_i o k v key hk
      cases h
      obtain ⟨t, vs, rfl, n, e, d⟩ := hx.tup_inv
      cases d with
      | cons d1 d2 e1 =>
        cases d2 with
        | cons d3 d4 e2 =>
          cases d4
          rw [key_ok hk d1] at e
          have z1 : _ = [] := val_nil d1 (by unfold keyW at hk; split at hk <;> first | rfl | cases hk)
          subst z1
          rw [List.append_nil] at e2
          subst e2
          rw [List.nil_append] at e1
          subst e1
          exact ⟨t, _, rfl, .of e, d3⟩
    · cases h
  · cases h
theorem kPairs_ok : ∀ {ws : List W} {vs : List V} {A : List Addr} {kw : List Key × List W}, DnAll K H U vs ws A → kPairs ws = some kw → ∃ (ps : List Addr) (kvs : List (Key × V)), vs = ps.map V.ref ∧ Paired (fun p kv => SqT K H p [kV kv.1, kv.2]) ps kvs ∧ kvs.map (·.1) = kw.1 ∧
    ∀ U' : US, (∀ b, U' b → U b ∧ b ∉ A) → DnAll K H U' (kvs.map (·.2)) kw.2 []
  | [], _, _, _, h, e => by cases h; cases e; exact ⟨[], [], rfl, .nil, rfl, fun _ _ => .nil⟩
  | w :: ws, _, _, kw, h, e => by
    cases h with
    | cons h1 h2 eA =>
      subst eA
      unfold kPairs at e
      split at e
      · rename_i k v ks1 vs1 e1 e2
        cases e
        obtain ⟨p, u, rfl, hp, hu⟩ := kPair_ok e1 h1
        obtain ⟨ps, kvs, rfl, pr, e3, d⟩ := kPairs_ok h2 e2
        exact ⟨p :: ps, (k, u) :: kvs, rfl, .cons hp pr, by rw [List.map_cons, e3], fun U' hU => .cons (hu.frz fun b z => ⟨(hU b z).1, fun q => (hU b z).2 (List.mem_append_left _ q)⟩) (d U' fun b z => ⟨(hU b z).1, fun q => (hU b z).2 (List.mem_append_right _ q)⟩) rfl⟩
      · cases e
/-- a new dict -/
theorem ValOk.dK {kvs : List (Key × V)} {ks : List Key} {ws : List W} {k : VK → Prop} (hk' : kvs.map (·.1) = ks ∧ ks.Nodup) (hd : DnAll K H (fun a => U a ∧ a ∉ Bs) (kvs.map (·.2)) ws []) (hk : ∀ Q : VK, (∀ p, H p = none → Q (.ref p) (upd H p (.dK kvs))) → k Q) : ValOk K H U Bs (.dK true ks ws) k := fun Q h =>
  hk Q fun p hp => h (.ref p) _ [p] (same_upd hp) (fun c z => .inl (by rw [List.mem_singleton.mp z]; exact hp)) (List.pairwise_singleton _ p) (fun c z => by rw [List.mem_singleton.mp z, upd_same]; simp)
    (fun c z xs => by rw [List.mem_singleton.mp z, upd_same]; simp) fun U' hU => .dKO upd_same hk' (hd.step (M := fun _ => False) ⟨fun b o _ e => same_upd hp b o e, fun _ z => z.elim, fun b z => (hU b z).elim (fun z => .inl ⟨z.1, z.2.1⟩) fun z => .inr (by rw [List.mem_singleton.mp z]; exact hp)⟩ fun _ _ z => z)
theorem kInts_ok : ∀ {ks : List Key} {is : List Int}, kInts ks = some is → ks = is.map Sum.inl
  | [], _, e => by cases e; rfl
  | k :: ks, is, e => by
    unfold kInts at e
    split at e
    · rename_i i is1 e1
      cases e
      rw [List.map_cons, ← kInts_ok e1]
    · cases e
theorem kTups_ok : ∀ {ks : List (List Key)} {is : List (Int × Int)}, kTups ks = some is → ks = is.map (fun k => [Sum.inl k.1, Sum.inl k.2])
  | [], _, e => by cases e; rfl
  | k :: ks, is, e => by
    unfold kTups at e
    split at e
    · rename_i i j is1 e1
      cases e
      rw [List.map_cons, ← kTups_ok e1]
    · cases e
theorem one_inv {vs : List V} {A : List Addr} (h : DnAll K H U vs [x] A) : ∃ v, vs = [v] ∧ Dn K H U v x A := by
  cases h with
  | cons h1 h2 e =>
    cases h2
    rw [List.append_nil] at e
    subst e
    exact ⟨_, rfl, h1⟩
theorem two_inv {y : W} {vs : List V} {A : List Addr} (h : DnAll K H U vs [x, y] A) : ∃ v u A1 A2, vs = [v, u] ∧ A = A1 ++ A2 ∧ Dn K H U v x A1 ∧ Dn K H U u y A2 := by
  cases h with
  | cons h1 h2 e =>
    obtain ⟨u, rfl, h3⟩ := one_inv h2
    exact ⟨_, u, _, _, rfl, e, h1, h3⟩
theorem ints_le {ns' ns : List Int} (p : ns'.Perm ns) (s : ns'.Pairwise (· ≤ ·)) : ns' = isort ltI ns :=
  isort_uniq tot_int p (s.imp fun h => by simp only [ltI, decide_eq_false_iff_not]; omega)
mutual
theorem sh_nodict : ∀ {w : W} {n : Nat}, shW w n = true → (toPy w).hasDict = false
  | .non, _, _ => rfl
  | .bl _, _, _ => rfl
  | .int _, _, _ => rfl
  | .str s, _, _ => rfl
  | .ty _, _, h => by simp [shW] at h
  | .lst _ xs, n, h => by
    cases n with
    | zero => simp [shW] at h
    | succ n =>
      simp only [toPy, PyData.hasDict]
      exact shL_nodict (n := n) (by simpa [shW] using h)
  | .tup _ xs, n, h => by
    cases n with
    | zero => simp [shW] at h
    | succ n =>
      simp only [toPy, PyData.hasDict]
      exact shL_nodict (n := n) (by simpa [shW] using h)
  | .dK _ _ _, _, h => by simp [shW] at h
  | .dT _ _ _, _, h => by simp [shW] at h
  | .dL _ _ _, _, h => by simp [shW] at h
  | .scr _, _, h => by simp [shW] at h
theorem shL_nodict : ∀ {ws : List W} {n : Nat}, shL ws n = true → PyData.hasDictAll (toPyL ws) = false
  | [], _, _ => rfl
  | w :: ws, n, h => by
    simp only [shL, Bool.and_eq_true] at h
    simp [toPyL, PyData.hasDictAll, sh_nodict h.1, shL_nodict h.2]
end
/-- the whole data of an operand, shown -/
theorem repr_ok {n : Nat} (hs : (shW x n && ((toPy x).showable && decide ((toPy x).shown.length ≤ limS))) = true) (hn : n ≤ 59) (hx : Dn K H U vx x B) (hr : ∃ a, vx = .ref a) : ValOk K H U Bs (.str (toPy x).shown) (rRepr K vx H) := by
  simp only [Bool.and_eq_true, decide_eq_true_eq] at hs
  obtain ⟨a, rfl⟩ := hr
  have hd : (toPy x).hasDict = false := sh_nodict hs.1
  refine .str fun Q q => ⟨a, toPy x, rfl, dn_dp hx hs.1, hs.2.1, hd, ?_, Nat.le_trans hs.2.2 (by decide), q⟩
  have := (sh_lay hs.1).2
  omega
theorem blt_ok' {b : Blt} {vs : List V} {ws : List W} (hT : ∀ a, U a → ∀ xs, H a ≠ some (.tup xs)) (hws : DnAll K H U vs ws B) (hb : ∀ a ∈ B, a ∈ Bs) (h : bltW b ws = some z) : ValOk K H U Bs z (rBlt K b vs H) := by
  unfold bltW at h
  split at h
  · obtain ⟨v, rfl, d⟩ := one_inv hws
    split at h
    · split at h
      · rename_i hl
        obtain ⟨rfl, rfl⟩ := d.str_inv
        cases h
        exact .int fun Q q => ⟨_, ⟨Nat.le_trans hl lim_line, rfl⟩, q⟩
      · cases h
    · obtain ⟨a, us, B', rfl, e, d', _⟩ := d.lst_inv
      cases h
      exact .int fun Q q => ⟨_, .inl ⟨us, .of e, (dnAll_len d').symm⟩, q⟩
    · obtain ⟨a, us, rfl, _, e, d'⟩ := d.tup_inv
      cases h
      exact .int fun Q q => ⟨_, .inr ⟨us, .of e, (dnAll_len d').symm⟩, q⟩
    · obtain ⟨a, us, rfl, e, d', _⟩ := d.scr_inv
      cases h
      exact .int fun Q q => ⟨_, .inl ⟨us, e, (dnAll_len d').symm⟩, q⟩
    · cases h
  · obtain ⟨v, u, _, _, rfl, _, d1, d2⟩ := two_inv hws
    obtain ⟨rfl, rfl⟩ := d1.int_inv; obtain ⟨rfl, rfl⟩ := d2.int_inv; cases h
    exact .int fun Q q => q
  · obtain ⟨v, u, _, _, rfl, _, d1, d2⟩ := two_inv hws
    obtain ⟨rfl, rfl⟩ := d1.int_inv; obtain ⟨rfl, rfl⟩ := d2.int_inv; cases h
    exact .int fun Q q => q
  · obtain ⟨v, rfl, d⟩ := one_inv hws
    obtain ⟨a, us, B', rfl, e, d', _⟩ := d.lst_inv
    split at h
    · rename_i i is hi
      cases h
      have e2 := ints_ok d' hi
      subst e2
      exact .int fun Q q => ⟨i :: is, .of e, by simp, fun m h1 h2 => by rw [minL_uniq h1 h2]; exact q⟩
    · cases h
  · obtain ⟨v, rfl, d⟩ := one_inv hws
    obtain ⟨a, us, B', rfl, e, d', _⟩ := d.lst_inv
    split at h
    · rename_i i is hi
      cases h
      have e2 := ints_ok d' hi
      subst e2
      exact .int fun Q q => ⟨i :: is, .of e, by simp, fun m h1 h2 => by rw [maxL_uniq h1 h2]; exact q⟩
    · cases h
  · obtain ⟨v, rfl, d⟩ := one_inv hws
    obtain ⟨a, us, B', rfl, e, d', _⟩ := d.lst_inv
    split at h
    · rename_i is hi
      cases h
      have e2 := ints_ok d' hi
      subst e2
      exact .int fun Q q => ⟨is, .of e, by rw [← sumL_eq]; exact q⟩
    · cases h
  · obtain ⟨v, rfl, d⟩ := one_inv hws
    obtain ⟨a, us, B', rfl, e, d', s⟩ := d.lst_inv
    cases h
    exact .lst (d'.share fun b z => hb b (s.subset z)) fun Q q => .inl ⟨us, .inl (.of e), q⟩
  · obtain ⟨v, rfl, d⟩ := one_inv hws
    obtain ⟨a, us, rfl, _, e, d'⟩ := d.tup_inv
    cases h
    exact .lst (d'.share hb) fun Q q => .inl ⟨us, .inr (.of e), q⟩
  · obtain ⟨v, rfl, d⟩ := one_inv hws
    obtain ⟨a, kvs, B', rfl, e, rfl, d', s⟩ := d.dK_inv
    cases h
    refine .lst (vs := kvs.map fun kv => kV kv.1) ?_ fun Q q => .inr ⟨kvs, .inl e, q⟩
    have := dn_keys K H (fun a => U a ∧ a ∉ Bs) (kvs.map (·.1))
    rw [List.map_map] at this
    exact this
  · obtain ⟨v, rfl, d⟩ := one_inv hws
    obtain ⟨a, us, B', rfl, e, d', s⟩ := d.lst_inv
    cases h
    exact .tup (d'.share fun b z => hb b (s.subset z)) fun Q q => ⟨us, .inl ⟨.of e, q⟩⟩
  · obtain ⟨v, rfl, d⟩ := one_inv hws
    obtain ⟨a, us, B', rfl, e, d', s⟩ := d.lst_inv
    split at h
    · rename_i is hi
      cases h
      have e2 := ints_ok d' hi
      subst e2
      exact .lst (dn_ints _ _ _ _) fun Q q => .inl ⟨a, is, rfl, .of e, fun ns' p h1 h2 hp => by rw [ints_le h1 h2]; exact q p hp⟩
    · split at h
      · rename_i is hi
        cases h
        obtain ⟨e2, hall⟩ := pairs_ok d' hi
        intro Q q
        refine .inr (.inl ⟨a, us, kAt H, rfl, .of e, fun x hx => ?_, fun ys p h1 h2 hp => ?_⟩)
        · obtain ⟨t, rfl, ht, _⟩ := hall x hx
          exact ⟨t, rfl, ht⟩
        · have e3 : ys.map (kAt H) = isort SrtO.lexB is := by
            refine isort_uniq tot_lex ?_ (srt_map h1)
            rw [← e2]
            exact h2.perm.map _
          rw [← e3] at q
          have hL := ValOk.lst (k := fun Q : VK => Q (.ref p) (upd H p (.lst ys))) (U := U) (Bs := Bs) (K := K) (H := H) (vs := ys) (ws := (ys.map (kAt H)).map fun p => .tup false [.int p.1, .int p.2])
            (dn_pairs fun v hv => by
              obtain ⟨t, rfl, ht, n⟩ := hall v (h2.perm.mem_iff.mp hv)
              exact ⟨t, rfl, ht, fun z => n z.1⟩) fun Q q => q p hp
          exact hL Q q
      · cases h
  · obtain ⟨v, rfl, d⟩ := one_inv hws
    obtain ⟨a, kvs, B', rfl, e, rfl, d', s⟩ := d.dK_inv
    split at h
    · rename_i is hi
      cases h
      exact .lst (dn_ints _ _ _ _) fun Q q => .inr (.inr (.inl ⟨a, kvs, is, rfl, .inl e, kInts_ok hi, fun ns' p h1 h2 hp => by rw [ints_le h1 h2]; exact q p hp⟩))
    · cases h
  · obtain ⟨v, rfl, d⟩ := one_inv hws
    obtain ⟨a, kvs, B', rfl, e, rfl, d', s⟩ := d.dT_inv
    split at h
    · rename_i is hi
      cases h
      intro Q q
      refine .inr (.inr (.inr ⟨a, kvs, is, rfl, .inl e, kTups_ok hi, fun qs ys p pr h1 h2 hp => ?_⟩))
      rw [← isort_uniq tot_lex h1 h2] at q
      have key : ∀ {qs : List Addr} {ys : List (Int × Int)}, Paired (fun q (y : Int × Int) => H q = some (.tup [.int y.1, .int y.2])) qs ys → (qs.map V.ref).map (kAt H) = ys ∧ ∀ v ∈ qs.map V.ref, ∃ t, v = .ref t ∧ H t = some (.tup [.int (kAt H v).1, .int (kAt H v).2]) ∧ ¬ (U t ∧ t ∉ Bs) := by
        intro qs ys pr
        induction pr with
        | nil => exact ⟨rfl, fun v hv => by cases hv⟩
        | @cons q y qs ys h t ih =>
          refine ⟨by rw [List.map_cons, List.map_cons, ih.1, kAt_of h], fun v hv => ?_⟩
          rcases List.mem_cons.mp hv with rfl | hv
          · exact ⟨q, rfl, by rw [kAt_of h]; exact h, fun z => hT q z.1 _ h⟩
          · exact ih.2 v hv
      obtain ⟨k1, k2⟩ := key pr
      rw [← k1] at q
      have hL := ValOk.lst (k := fun Q : VK => Q (.ref p) (upd H p (.lst (qs.map V.ref)))) (U := U) (Bs := Bs) (K := K) (H := H) (vs := qs.map V.ref) (ws := ((qs.map V.ref).map (kAt H)).map fun p => .tup false [.int p.1, .int p.2]) (dn_pairs k2) fun Q q => q p hp
      exact hL Q q
    · cases h
  · obtain ⟨v, rfl, d⟩ := one_inv hws
    obtain ⟨rfl, rfl⟩ := d.int_inv; cases h
    exact .int fun Q q => q
  · obtain ⟨v, rfl, d⟩ := one_inv hws
    obtain ⟨rfl, rfl⟩ := d.bl_inv; cases h
    exact .int fun Q q => q
  · obtain ⟨v, rfl, d⟩ := one_inv hws
    obtain ⟨rfl, rfl⟩ := d.str_inv
    split at h
    · rename_i n hn
      split at h
      · rename_i hl
        cases h
        exact .int fun Q q => ⟨n, hn, hl, q⟩
      · cases h
    · cases h
  · obtain ⟨v, rfl, d⟩ := one_inv hws
    obtain ⟨rfl, rfl⟩ := d.int_inv
    split at h
    · rename_i hl
      cases h
      exact .str fun Q q => ⟨hl, q⟩
    · cases h
  · obtain ⟨v, u, _, _, rfl, _, d1, d2⟩ := two_inv hws
    cases d2
    split at h
    · rename_i t ht
      split at h
      · rename_i hn
        cases h
        exact .bl fun Q q => ⟨v, _, _, _, _, rfl, .ty _, tyx_ok ht d1, inst_ok (typeW_mem ht) hn, q⟩
      · cases h
    · cases h
  · obtain ⟨v, rfl, d⟩ := one_inv hws
    obtain ⟨a, us, B', rfl, e, d', s⟩ := d.lst_inv
    split at h
    · rename_i ks vs1 hk
      cases h
      obtain ⟨ps, kvs, rfl, pr, e3, dd⟩ := kPairs_ok d' hk
      obtain ⟨A', g1, _, g3, g4, g5⟩ := merge_ok (more := kvs) (kvs := []) (ws := []) (A := []) (B := []) (.nil) (by simp) (dd (fun a => U a ∧ a ∉ Bs) fun b z => ⟨z.1, fun q => z.2 (hb b (s.subset q))⟩) (by simp)
      rw [e3] at g1 g4
      have z : A' = [] := List.eq_nil_iff_forall_not_mem.mpr fun c hc => by rcases g3 c hc with h | h <;> cases h
      subst z
      exact .dK (kvs := mergeK [] kvs) ⟨g4, by have := g5; rw [g4] at this; exact this⟩ g1 fun Q q => ⟨ps, kvs, .of e, pr, q⟩
    · cases h
  · obtain ⟨v, rfl, d⟩ := one_inv hws
    obtain ⟨a, us, B', rfl, e, d', s⟩ := d.lst_inv
    split at h
    · rename_i bs hk
      cases h
      have e2 := bls_ok d' hk
      subst e2
      exact .bl fun Q q => ⟨bs, .of e, q⟩
    · cases h
  · obtain ⟨v, rfl, d⟩ := one_inv hws
    split at h
    · split at h
      · rename_i hs
        cases h
        exact repr_ok hs (Nat.le_refl _) d (by obtain ⟨a, us, B', rfl, _⟩ := d.lst_inv; exact ⟨a, rfl⟩)
      · cases h
    · split at h
      · rename_i hs
        cases h
        exact repr_ok hs (Nat.le_refl _) d (by obtain ⟨a, us, rfl, _⟩ := d.tup_inv; exact ⟨a, rfl⟩)
      · cases h
    · cases h
  · cases h
end
end Ev

set_option Elab.async false
set_option linter.all false
set_option maxRecDepth 100000
set_option maxHeartbeats 4000000
/-! Methods, walks, calls on data; the steps of which the readings are made. -/
namespace Ev
open PySem PySem.Spec PyProof.Rows L2
section
variable {K : PySem.W.Frag} {H : Hp} {U : US} {Bs B : List Addr} {vx : V} {x z : W}
theorem mth_ty {m : Mth} {ws : List W} (h : mthW m x ws = some z) (hx : Dn K H U vx x B) : tyV K m.ty vx H := by
  unfold mthW at h
  split at h
  · obtain ⟨rfl, rfl⟩ := hx.int_inv; rfl
  · obtain ⟨a, us, B', rfl, e, _⟩ := hx.lst_inv
    exact .inl ⟨rfl, us, .of e⟩
  · obtain ⟨rfl, rfl⟩ := hx.str_inv; rfl
  · obtain ⟨rfl, rfl⟩ := hx.str_inv; rfl
  · cases h
theorem find_ok {y : W} {vy : V} {By : List Addr} (hy : Dn K H U vy y By) (fy : flatW y = true) : ∀ {ws : List W} {vs : List V} {A : List Addr} {j : Nat}, DnAll K H U vs ws A → ws.all flatW = true → ws.findIdx? (fun z => eqW z y) = some j →
    ∃ v, vs[j]? = some v ∧ eqV v vy = true ∧ ∀ (m : Nat) (z' : V), m < j → vs[m]? = some z' → eqV z' vy = false
  | [], _, _, j, _, _, e => by simp at e
  | w :: ws, _, _, j, h, hf, e => by
    cases h with
    | cons h1 h2 eA =>
      simp only [List.all_cons, Bool.and_eq_true] at hf
      have k := eqFlat_ok h1 hy hf.1 fy
      rw [List.findIdx?_cons] at e
      cases hc : eqW w y with
      | true =>
        rw [hc] at e
        simp only [if_true, Option.some.injEq] at e
        subst e
        exact ⟨_, rfl, by rw [k]; exact hc, fun m z' hm => absurd hm (by omega)⟩
      | false =>
        rw [hc] at e
        simp only [Bool.false_eq_true, if_false, Option.map_eq_some_iff] at e
        obtain ⟨j', e1, rfl⟩ := e
        obtain ⟨v, g1, g2, g3⟩ := find_ok hy fy h2 hf.2 e1
        refine ⟨v, by simpa using g1, g2, fun m z' hm hz => ?_⟩
        cases m with
        | zero =>
          simp only [List.getElem?_cons_zero, Option.some.injEq] at hz
          subst hz
          rw [k]; exact hc
        | succ m => exact g3 m z' (by omega) (by simpa using hz)
theorem mth_ok' {m : Mth} {vs : List V} {ws : List W} {By : List Addr} (hx : Dn K H U vx x B) (hws : DnAll K H U vs ws By) (h : mthW m x ws = some z) : ValOk K H U Bs z (rMth K m vx vs H) := by
  unfold mthW at h
  split at h
  · obtain ⟨rfl, rfl⟩ := hx.int_inv
    cases hws
    cases h
    exact .int fun Q q => q
  · obtain ⟨a, us, B', rfl, e, d, _⟩ := hx.lst_inv
    obtain ⟨v, rfl, dy⟩ := one_inv hws
    split at h
    · rename_i hf
      simp only [Bool.and_eq_true] at hf
      split at h
      · rename_i j hj
        cases h
        obtain ⟨v', g1, g2, g3⟩ := find_ok dy hf.1 d hf.2 hj
        exact .int fun Q q => ⟨us, j, v', .of e, flat_ok dy hf.1, flats_ok d hf.2, g1, g2, g3, q⟩
      · cases h
    · cases h
  · obtain ⟨rfl, rfl⟩ := hx.str_inv
    obtain ⟨v, rfl, dy⟩ := one_inv hws
    obtain ⟨rfl, rfl⟩ := dy.str_inv
    split at h
    · rename_i hl
      cases h
      exact .lst (dn_strs _ _ _ _) fun Q q => ⟨hl.1, Nat.le_trans hl.2 lim_line, q⟩
    · cases h
  · obtain ⟨rfl, rfl⟩ := hx.str_inv
    obtain ⟨v, rfl, dy⟩ := one_inv hws
    obtain ⟨a, us, B', rfl, e, d, _⟩ := dy.lst_inv
    split at h
    · rename_i ys hy
      split at h
      · rename_i hl
        cases h
        have e2 := strs_ok d hy
        subst e2
        exact .str fun Q q => ⟨ys, .inl (.of e), Nat.le_trans hl (by decide), q⟩
      · cases h
    · cases h
  · cases h
/-! ### walks -/
structure ItD (K : PySem.W.Frag) (J : It) (ws : List W) (G : Hp → US → Prop) : Prop where
  go : ∀ i H U, i < ws.length → G H U → J.go i H
  stop : ∀ H U, G H U → J.stop ws.length H
  yld : ∀ i H U x H' w, ws[i]? = some w → G H U → J.yld i H x H' → (∀ b o, H b = some o → H' b = some o) ∧ ∀ U' : US, (∀ a, U' a → U a ∧ H a ≠ none ∧ ∀ xs, H a ≠ some (.tup xs)) → Dn K H' U' x w []
  stp : ∀ H H' U U' M, Stp H H' U U' M → G H U → G H' U'
theorem DnAll.get {vs : List V} {ws : List W} {w : W} {i : Nat} (h : DnAll K H U vs ws []) (e : ws[i]? = some w) : ∃ v, vs[i]? = some v ∧ Dn K H U v w [] := by
  obtain ⟨v, A1, C, A2, e1, e2, d, _, _⟩ := h.split e
  have z : C = [] := by
    have := (List.append_eq_nil_iff.mp e2.symm).2
    exact (List.append_eq_nil_iff.mp this).1
  subst z
  exact ⟨v, e1, d⟩
def GL (K : PySem.W.Frag) (a : Addr) (ws : List W) (H : Hp) (U : US) : Prop := ∃ vs, ¬ U a ∧ H a = some (.lst vs) ∧ DnAll K H U vs ws []
def GT (K : PySem.W.Frag) (a : Addr) (ws : List W) (H : Hp) (U : US) : Prop := ∃ vs, ¬ U a ∧ H a = some (.tup vs) ∧ DnAll K H U vs ws []
theorem GL.stp {a : Addr} {ws : List W} {H' : Hp} {U' M : US} (s : Stp H H' U U' M) (h : GL K a ws H U) : GL K a ws H' U' := by
  obtain ⟨vs, n, e, d⟩ := h
  exact ⟨vs, (rd_keep s n (.inl e)).1, s.keep _ _ (fun z => n (s.mu _ z)) e, d.step s fun c hc => by cases hc⟩
theorem GT.stp {a : Addr} {ws : List W} {H' : Hp} {U' M : US} (s : Stp H H' U U' M) (h : GT K a ws H U) : GT K a ws H' U' := by
  obtain ⟨vs, n, e, d⟩ := h
  exact ⟨vs, (rd_keep s n (.inl e)).1, s.keep _ _ (fun z => n (s.mu _ z)) e, d.step s fun c hc => by cases hc⟩
theorem itd_list {a : Addr} {ws : List W} : ItD K (Itl K a) ws (GL K a ws) where
  go := fun i H U hi ⟨vs, n, e, d⟩ => ⟨vs, vs[i]'(by rw [dnAll_len d]; exact hi), .of e, by simp⟩
  stop := fun H U ⟨vs, n, e, d⟩ => ⟨vs, .of e, by rw [dnAll_len d]; exact Nat.le_refl _⟩
  yld := fun i H U x H' w hw ⟨vs, n, e, d⟩ hy => by
    obtain ⟨rfl, hy⟩ := hy
    obtain ⟨v, e1, dv⟩ := d.get hw
    have e2 := hy vs (.of e)
    rw [e1] at e2
    cases e2
    exact ⟨fun _ _ e => e, fun U' hU => dv.less fun b z => (hU b z).1⟩
  stp := fun H H' U U' M s h => h.stp s
theorem itd_tup {a : Addr} {ws : List W} : ItD K (Itt K a) ws (GT K a ws) where
  go := fun i H U hi ⟨vs, n, e, d⟩ => ⟨vs, vs[i]'(by rw [dnAll_len d]; exact hi), .of e, by simp⟩
  stop := fun H U ⟨vs, n, e, d⟩ => ⟨vs, .of e, by rw [dnAll_len d]; exact Nat.le_refl _⟩
  yld := fun i H U x H' w hw ⟨vs, n, e, d⟩ hy => by
    obtain ⟨rfl, hy⟩ := hy
    obtain ⟨v, e1, dv⟩ := d.get hw
    have e2 := hy vs (.of e)
    rw [e1] at e2
    cases e2
    exact ⟨fun _ _ e => e, fun U' hU => dv.less fun b z => (hU b z).1⟩
  stp := fun H H' U U' M s h => h.stp s
theorem enumW_get : ∀ {ws : List W} {n i : Nat} {w : W}, (enumW n ws)[i]? = some w → ∃ u, ws[i]? = some u ∧ w = .tup false [.int ((n + i : Nat) : Int), u]
  | [], n, i, w, e => by cases e
  | x :: ws, n, 0, w, e => by cases e; exact ⟨x, rfl, rfl⟩
  | x :: ws, n, i + 1, w, e => by
    obtain ⟨u, h1, h2⟩ := enumW_get (ws := ws) (n := n + 1) (i := i) (by simpa [enumW] using e)
    refine ⟨u, by simpa using h1, ?_⟩
    rw [h2]
    have : n + 1 + i = n + (i + 1) := by omega
    rw [this]
theorem enumW_len : ∀ {ws : List W} {n : Nat}, (enumW n ws).length = ws.length
  | [], _ => rfl
  | x :: ws, n => by simp [enumW, enumW_len]
theorem itd_enum {a : Addr} {ws : List W} : ItD K (Ite K a) (enumW 0 ws) (GL K a ws) where
  go := fun i H U hi ⟨vs, n, e, d⟩ => ⟨vs, vs[i]'(by rw [dnAll_len d]; rwa [enumW_len] at hi), .of e, by simp⟩
  stop := fun H U ⟨vs, n, e, d⟩ => ⟨vs, .of e, by rw [dnAll_len d, enumW_len]; exact Nat.le_refl _⟩
  yld := fun i H U x H' w hw ⟨vs, n, e, d⟩ hy => by
    obtain ⟨T, y, rfl, hT, rfl, hy⟩ := hy
    obtain ⟨u, e0, rfl⟩ := enumW_get hw
    obtain ⟨v, e1, dv⟩ := d.get e0
    have e2 := hy vs (.of e)
    rw [e1] at e2
    cases e2
    refine ⟨same_upd hT, fun U' hU => .tupV (fun z => (hU T z).2.1 hT) upd_same (.cons (A := []) ?_ (.cons (dv.step (M := fun _ => False) ⟨fun b o _ e => same_upd hT b o e, fun _ z => z.elim, fun b z => .inl (hU b z).1⟩ fun _ _ z => z) .nil rfl) rfl)⟩
    have : ((0 + i : Nat) : Int) = ((i : Nat) : Int) := by simp
    rw [this]
    exact .int _
  stp := fun H H' U U' M s h => h.stp s
theorem itd_rng {lo hi : Int} : ItD K (Itr lo (hi - lo).toNat) (rngW lo hi) (fun _ _ => True) where
  go := fun i H U h _ => by
    simp only [rngW, List.length_map, List.length_range] at h
    exact h
  stop := fun H U _ => by
    show (hi - lo).toNat ≤ (rngW lo hi).length
    simp [rngW]
  yld := fun i H U x H' w hw _ hy => by
    obtain ⟨rfl, rfl⟩ := hy
    simp only [rngW, List.getElem?_map, Option.map_eq_some_iff] at hw
    obtain ⟨n, hn, rfl⟩ := hw
    have : n = i := by
      have h := List.getElem?_eq_some_iff.mp hn
      obtain ⟨h1, h2⟩ := h
      simpa using h2.symm
    subst this
    exact ⟨fun _ _ e => e, fun U' _ => .int _⟩
  stp := fun _ _ _ _ _ _ _ => trivial
theorem itd_str {s : Str} : ItD K (Its s) (s.cps.toList.map fun c => W.str ⟨#[c]⟩) (fun _ _ => True) where
  go := fun i H U h _ => by
    simp only [List.length_map, Array.length_toList] at h
    exact h
  stop := fun H U _ => by
    show s.cps.size ≤ _
    simp
  yld := fun i H U x H' w hw _ hy => by
    obtain ⟨rfl, c, hc, rfl⟩ := hy
    simp only [List.getElem?_map, Array.getElem?_toList, hc, Option.map_some, Option.some.injEq] at hw
    subst hw
    exact ⟨fun _ _ e => e, fun U' _ => .str _⟩
  stp := fun _ _ _ _ _ _ _ => trivial
theorem itd_keysT {a : Addr} {od : Obj} {kvs : List (List Key × V)} : ItD K (Itkt a od kvs) ((kvs.map (·.1)).map fun k => W.tup false (k.map wKey)) (fun H U => H a = some (.frz od (.dT kvs)) ∧ ¬ U a) where
  go := fun i H U hi h => ⟨h.1, by simpa using hi⟩
  stop := fun H U h => ⟨h.1, by simp⟩
  yld := fun i H U x H' w hw h hy => by
    obtain ⟨rfl, k, v, q, hk, rfl, hq⟩ := hy
    simp only [List.getElem?_map, hk, Option.map_some, Option.some.injEq] at hw
    subst hw
    exact ⟨fun _ _ e => e, fun U' hU => .tupV (fun z => (hU q z).2.2 _ hq) hq (dn_keys _ _ _ k)⟩
  stp := fun H H' U U' M s h => by
    obtain ⟨h1, h2⟩ := h
    refine ⟨s.keep _ _ (fun z => h2 (s.mu _ z)) h1, fun z => ?_⟩
    rcases s.un _ z with z | z
    · exact h2 z
    · rw [h1] at z; cases z
end
/-! ### steps -/
section
variable {K : PySem.W.Frag} {H H1 H2 : Hp} {F : US} {σ : L2.St} {ρ ρ' ρ1 ρ2 : Rho} {A A1 A2 A' B B' C : List Addr} {p q : Bool} {w x y z : W} {rd ra : VK → Prop} {v : V}
theorem U_nil (F : US) (A : List Addr) : (fun a => (a ∈ ([] : List Addr) ∨ a ∈ A) ∨ F a) = fun a => a ∈ A ∨ F a := by
  funext a
  simp
theorem F_nil (F : US) : (fun a => a ∈ ([] : List Addr) ∨ F a) = F := by
  funext a
  simp
/-- no tuple is held -/
theorem Res.nt {P : US → Prop} (S : Stt K H F σ ρ A) (r : Res p K H F A H1 σ ρ' A' B P) : ∀ a, ((a ∈ B ∨ a ∈ A') ∨ F a) → ∀ xs, H1 a ≠ some (.tup xs) := fun a z xs => by
  have S1 := Res.next S.bas r
  rcases z with (z | z) | z
  · exact r.nb a z xs
  · exact S1.reps.notup a z xs
  · exact S1.nt a (.inr z) xs
theorem keep_snd (S : Stt K H F σ ρ A) {r : Option (W × Rho)} (h : ∀ w ρ', r = some (w, ρ') → SndE p K H F σ A w ρ' rd) (e : keep p ρ r = some (w, ρ')) : SndE p K H F σ A w ρ' rd := by
  unfold keep at e
  split at e
  · rename_i w1 ρ1
    split at e
    · rename_i hp
      rw [Bool.and_eq_true] at hp
      cases e
      obtain ⟨rfl, hi⟩ := hp
      intro Q hq
      exact h _ _ rfl Q fun v H' A' B r => hq v H' A B (Res.back S r hi)
    · cases e
      exact h _ _ rfl
  · cases e
theorem SndE.weak (h : SndE p K H F σ A w ρ' rd) (hp : q = true → p = true) : SndE q K H F σ A w ρ' rd := fun Q hq => h Q fun v H' A' B r => hq v H' A' B (r.weak hp)
/-- the first operand's value is known: nothing of it is held -/
theorem fst_snd {k : V → Hp → VK → Prop} {rb : Hp → VK → Prop} {vx : V} (S : Stt K H F σ ρ A) (ha : SndE p K H F σ A x ρ1 ra) (hx : ∀ (v : V) (H : Hp) (U : US) (B : List Addr), Dn K H U v x B → v = vx ∧ B = [])
    (hb : ∀ H1 A1, Stt K H1 F σ ρ1 A1 → SndE q K H1 F σ A1 z ρ2 (rb H1)) (hk : ∀ H1 Q, rb H1 Q → k vx H1 Q) : SndE (p && q) K H F σ A z ρ2 (fun Q => ra fun v H1 => k v H1 Q) := by
  intro Q hq
  refine ha _ fun v H1 A1 B1 r1 => ?_
  obtain ⟨rfl, rfl⟩ := hx _ _ _ _ r1.ok
  refine hk H1 Q (hb H1 A1 ?_ Q fun v2 H2 A2 B2 r2 => ?_)
  · have := Res.next S.bas r1
    rw [F_nil] at this
    exact this
  · have r2' : Res q K H1 (fun a => a ∈ ([] : List Addr) ∨ F a) A1 H2 σ ρ2 A2 B2 (fun U => Dn K H2 U v2 z B2) := by rw [F_nil]; exact r2
    exact hq v2 H2 A2 ([] ++ B2) (Res.seq S r1 r2' fun _ d => d)
/-- two operands, one behind the other -/
theorem two_res {P1 P2 : US → Prop} (S : Stt K H F σ ρ A) {vx : V} {B1 B2 : List Addr} (r1 : Res p K H F A H1 σ ρ1 A1 B1 (fun U => Dn K H1 U vx x B1)) (r2 : Res q K H1 (fun a => a ∈ B1 ∨ F a) A1 H2 σ ρ2 A2 B2 P2) :
    Res (p && q) K H F A H2 σ ρ2 A2 (B1 ++ B2) (fun U => Dn K H2 U vx x B1 ∧ P2 U) :=
  Res.seq S r1 r2 fun s d => ⟨r1.ok.step s fun a h h' => (List.nodup_append.mp r1.nd).2.2 a h a h' rfl, d⟩
theorem two_snd {k : V → V → Hp → VK → Prop} {rb : Hp → VK → Prop} (S : Stt K H F σ ρ A) (ha : SndE p K H F σ A x ρ1 ra) (hb : ∀ H1 A1 (F1 : US), Stt K H1 F1 σ ρ1 A1 → SndE q K H1 F1 σ A1 y ρ2 (rb H1))
    (hv : ∀ (H2 : Hp) (U : US) (vx vy : V) (Bx By : List Addr), Dn K H2 U vx x Bx → Dn K H2 U vy y By → (∀ b ∈ Bx ++ By, U b) → (Bx ++ By).Nodup → ValOk K H2 U (Bx ++ By) z (k vx vy H2)) :
    SndE (p && q) K H F σ A z ρ2 (fun Q => ra fun vx H1 => rb H1 fun vy H2 => k vx vy H2 Q) := by
  intro Q hq
  refine ha _ fun vx H1 A1 B1 r1 => ?_
  refine hb H1 A1 _ (Res.next S.bas r1) _ fun vy H2 A2 B2 r2 => ?_
  have r := two_res (P1 := fun _ => True) S r1 r2
  exact Res.val S r (hv H2 _ vx vy B1 B2 r.ok.1 r.ok.2 (fun b hb => .inl (.inl hb)) (List.nodup_append.mp r.nd).1) Q hq
/-- one slot alone, the rest aside -/
theorem Stt.slot (S : Stt K H F σ ρ A) {i : Nat} (e : ρ[i]? = some (some w)) : ∃ v L B0 R, σ[i]? = some (some v) ∧ A = L ++ (B0 ++ R) ∧ Dn K H (fun a => a ∈ A ∨ F a) v w B0 ∧ Stt K H (fun a => (a ∈ L ∨ a ∈ R) ∨ F a) [some v] [some w] B0 ∧
    ∀ (q : Bool) (H' : Hp) (w' : W) (B' C : List Addr) (P : US → Prop), Res q K H (fun a => (a ∈ L ∨ a ∈ R) ∨ F a) B0 H' [some v] [some w'] B' C P → Res q K H F A H' σ (ρ.set i (some w')) (L ++ (B' ++ R)) C P := by
  obtain ⟨v, L, B0, R, e1, e2, d, d1, d2⟩ := S.reps.split e
  have nd := S.nd
  rw [e2] at nd
  have nLB : ∀ a, a ∈ B0 → a ∈ L ∨ a ∈ R → False := fun a h1 h2 => by
    rcases h2 with h2 | h2
    · exact (List.nodup_append.mp nd).2.2 a h2 a (List.mem_append_left _ h1) rfl
    · exact (List.nodup_append.mp (List.nodup_append.mp nd).2.1).2.2 a h1 a h2 rfl
  have inA : ∀ a, a ∈ A ↔ a ∈ L ∨ a ∈ B0 ∨ a ∈ R := fun a => by rw [e2]; simp [List.mem_append]
  have eU : (fun a => a ∈ A ∨ F a) = fun a => a ∈ B0 ∨ ((a ∈ L ∨ a ∈ R) ∨ F a) := by
    funext a
    apply propext
    rw [inA]
    constructor
    · rintro ((h | h | h) | h)
      · exact .inr (.inl (.inl h))
      · exact .inl h
      · exact .inr (.inl (.inr h))
      · exact .inr (.inr h)
    · rintro (h | (h | h) | h)
      · exact .inl (.inr (.inl h))
      · exact .inl (.inl h)
      · exact .inl (.inr (.inr h))
      · exact .inr h
  have S0 : Stt K H (fun a => (a ∈ L ∨ a ∈ R) ∨ F a) [some v] [some w] B0 := by
    refine ⟨?_, (List.nodup_append.mp (List.nodup_append.mp nd).2.1).1, fun a ha z => ?_, fun a z => ?_, fun a z xs => ?_⟩
    · rw [← eU]
      exact .one d .nil (by simp)
    · rcases z with z | z
      · exact nLB a ha z
      · exact S.dj a ((inA a).mpr (.inr (.inl ha))) z
    · rcases z with (z | z) | z
      · exact S.reps.dom a ((inA a).mpr (.inl z))
      · exact S.reps.dom a ((inA a).mpr (.inr (.inr z)))
      · exact S.dm a z
    · rcases z with (z | z) | z
      · exact S.reps.notup a ((inA a).mpr (.inl z)) xs
      · exact S.reps.notup a ((inA a).mpr (.inr (.inr z))) xs
      · exact S.nt a z xs
  refine ⟨v, L, B0, R, e1, e2, d, S0, fun q H' w' B' C P r => ?_⟩
  have hlen := S.reps.len
  have hi : i < ρ.length := (List.getElem?_eq_some_iff.mp e).1
  have eU' : (fun a => (a ∈ C ∨ a ∈ B') ∨ ((a ∈ L ∨ a ∈ R) ∨ F a)) = fun a => (a ∈ C ∨ a ∈ L ++ (B' ++ R)) ∨ F a := by
    funext a
    apply propext
    simp only [List.mem_append]
    constructor
    · rintro ((h | h) | (h | h) | h)
      · exact .inl (.inl h)
      · exact .inl (.inr (.inr (.inl h)))
      · exact .inl (.inr (.inl h))
      · exact .inl (.inr (.inr (.inr h)))
      · exact .inr h
    · rintro ((h | h | h | h) | h)
      · exact .inl (.inl h)
      · exact .inr (.inl (.inl h))
      · exact .inl (.inr h)
      · exact .inr (.inl (.inr h))
      · exact .inr (.inr h)
  have st : Stp H H' (fun a => a ∈ A ∨ F a) (fun a => (a ∈ C ∨ a ∈ L ++ (B' ++ R)) ∨ F a) (fun a => a ∈ B0) := by
    refine ⟨fun b o n e => r.kp b o (.inr n) e, fun b m => .inl ((inA b).mpr (.inr (.inl m))), fun b z => ?_⟩
    rcases z with (z | z) | z
    · exact (r.pv b (.inl z)).imp_left fun h => .inl ((inA b).mpr (.inr (.inl h)))
    · simp only [List.mem_append] at z
      rcases z with z | z | z
      · exact .inl (.inl ((inA b).mpr (.inl z)))
      · exact (r.pv b (.inr z)).imp_left fun h => .inl ((inA b).mpr (.inr (.inl h)))
      · exact .inl (.inl ((inA b).mpr (.inr (.inr z))))
    · exact .inl (.inr z)
  have dw : Dn K H' (fun a => (a ∈ C ∨ a ∈ L ++ (B' ++ R)) ∨ F a) v w' B' := by
    have := r.reps
    rw [eU'] at this
    cases this with
    | one h1 h2 h3 =>
      cases h2
      rw [List.append_nil] at h3
      subst h3
      exact h1
  have pv1 : ∀ a, a ∈ C ∨ a ∈ B' → a ∈ A ∨ H a = none := fun a h => (r.pv a h).imp_left fun h => (inA a).mpr (.inr (.inl h))
  have noLR : ∀ a, a ∈ C ∨ a ∈ B' → a ∈ L ∨ a ∈ R → False := fun a h h' => by
    rcases r.pv a h with h2 | h2
    · exact nLB a h2 h'
    · refine S.reps.dom a ((inA a).mpr ?_) h2
      exact h'.elim .inl fun z => .inr (.inr z)
  have nCB := List.nodup_append.mp r.nd
  refine ⟨?_, ?_, ?_, fun a h => ?_, r.fr, fun b o h e => r.kp b o (h.imp_right fun n m => n ((inA b).mpr (.inr (.inl m)))) e, r.db, r.nb⟩
  · have := r.ok
    rw [eU'] at this
    exact this
  · have j := Reps.join hlen hi (d1.step st fun a ha m => nLB a m (.inl ha)) dw (d2.step st fun a ha m => nLB a m (.inr ha))
    have es : σ.set i (some v) = σ := by
      have hσ : i < σ.length := by omega
      have e3 : σ[i] = some v := by
        have := List.getElem?_eq_getElem hσ
        rw [e1] at this
        exact (Option.some.inj this).symm
      rw [← e3]
      exact List.set_getElem_self hσ
    rw [es] at j
    exact j
  · refine List.nodup_append.mpr ⟨nCB.1, ?_, fun a ha b hb e => ?_⟩
    · refine List.nodup_append.mpr ⟨(List.nodup_append.mp nd).1, List.nodup_append.mpr ⟨nCB.2.1, (List.nodup_append.mp (List.nodup_append.mp nd).2.1).2.1, fun a ha b hb e => ?_⟩, fun a ha b hb e => ?_⟩
      · subst e
        exact noLR a (.inr ha) (.inr hb)
      · subst e
        rcases List.mem_append.mp hb with hb | hb
        · exact noLR a (.inr hb) (.inl ha)
        · exact (List.nodup_append.mp nd).2.2 a ha a (List.mem_append_right _ hb) rfl
    · subst e
      simp only [List.mem_append] at hb
      rcases hb with hb | hb | hb
      · exact noLR a (.inl ha) (.inl hb)
      · exact nCB.2.2 a ha a hb rfl
      · exact noLR a (.inl ha) (.inr hb)
  · rcases h with h | h
    · exact pv1 a (.inl h)
    · simp only [List.mem_append] at h
      rcases h with h | h | h
      · exact .inl ((inA a).mpr (.inl h))
      · exact pv1 a (.inr h)
      · exact .inl ((inA a).mpr (.inr (.inr h)))
end
end Ev

set_option Elab.async false
set_option linter.all false
set_option maxRecDepth 100000
set_option maxHeartbeats 4000000
/-! The targets, the comprehension's slots, calls. -/
namespace Ev
open PySem PySem.Spec PyProof.Rows L2
section
variable {K : PySem.W.Frag} {H H1 H2 : Hp} {F U : US} {σ σ' σ1 σ2 : L2.St} {ρ ρ' ρ1 ρ2 : Rho} {A A1 A2 A' B B1 B2 C : List Addr} {p q : Bool} {w x y z : W} {v : V}
/-! ### slots let go -/
theorem wipe_in {vs : List Nat} {i : Nat} : i ∈ vs → i < σ.length → (wipe σ vs)[i]? = some none := by
  induction vs with
  | nil => intro h; cases h
  | cons v vs ih =>
    intro h hl
    unfold wipe
    by_cases e : v = i
    · subst e
      rw [List.getElem?_set_self (by rw [wipe_length]; exact hl)]
    · rw [List.getElem?_set_ne e]
      exact ih ((List.mem_cons.mp h).resolve_left fun z => e z.symm) hl
theorem wipe_set {vs : List Nat} {i : Nat} {x : Option V} (h : i ∈ vs) : wipe (σ.set i x) vs = wipe σ vs := by
  apply List.ext_getElem?
  intro j
  by_cases hj : j ∈ vs
  · by_cases hl : j < σ.length
    · rw [wipe_in hj (by rw [List.length_set]; exact hl), wipe_in hj hl]
    · rw [List.getElem?_eq_none (by rw [wipe_length, List.length_set]; omega), List.getElem?_eq_none (by rw [wipe_length]; omega)]
  · rw [wipe_out hj, wipe_out hj, List.getElem?_set_ne fun e => hj (by rw [← e]; exact h)]
theorem wipeR_some {vs : List Nat} {i : Nat} {x : W} : (wipeR ρ vs)[i]? = some (some x) → i ∉ vs := by
  induction vs with
  | nil => intro _ h; cases h
  | cons v vs ih =>
    intro h
    unfold wipeR at h
    by_cases e : v = i
    · subst e
      rw [List.getElem?_set] at h
      simp only [if_true] at h
      split at h <;> cases h
    · rw [List.getElem?_set_ne e] at h
      intro z
      rcases List.mem_cons.mp z with z | z
      · exact e z.symm
      · exact ih h z
theorem Reps.wipe (h : Reps K H U σ ρ A) : ∀ vs : List Nat, ∃ A', A'.Sublist A ∧ Reps K H U (L2.wipe σ vs) (wipeR ρ vs) A'
  | [] => ⟨A, List.Sublist.refl _, h⟩
  | v :: vs => by
    obtain ⟨A1, s1, h1⟩ := Reps.wipe h vs
    unfold L2.wipe wipeR
    have hl := h1.len
    by_cases hv : v < (wipeR ρ vs).length
    · obtain ⟨L, B, R, e, d1, d2⟩ := h1.split0 hv
      refine ⟨L ++ R, List.Sublist.trans ?_ s1, Reps.joinD hl hv d1 d2⟩
      rw [e]
      exact (List.sublist_append_right B R).append_left L
    · rw [List.set_eq_of_length_le (by omega), List.set_eq_of_length_le (by omega)]
      exact ⟨A1, s1, h1⟩
/-- what dead slots hold does not matter -/
theorem Reps.any (h : Reps K H U σ ρ A) : ∀ {σ' : L2.St}, σ'.length = σ.length → (∀ (i : Nat) (w : W), ρ[i]? = some (some w) → σ'[i]? = σ[i]?) → Reps K H U σ' ρ A := by
  induction h with
  | nil =>
    intro σ' hl _
    cases σ' with
    | nil => exact .nil
    | cons _ _ => cases hl
  | @dead x σ ρ A h ih =>
    intro σ' hl hs
    cases σ' with
    | nil => cases hl
    | cons y σ' => exact .dead (ih (by simpa using hl) fun i w e => by simpa using hs (i + 1) w (by simpa using e))
  | @one v w σ ρ A B C h1 h2 e ih =>
    intro σ' hl hs
    cases σ' with
    | nil => cases hl
    | cons y σ' =>
      have := hs 0 w rfl
      simp only [List.getElem?_cons_zero, Option.some.injEq] at this
      subst this
      exact .one h1 (ih (by simpa using hl) fun i w e => by simpa using hs (i + 1) w (by simpa using e)) e
theorem Reps.unwipe {vs : List Nat} (h : Reps K H U (L2.wipe σ vs) (wipeR ρ vs) A) : Reps K H U σ (wipeR ρ vs) A :=
  h.any (by rw [wipe_length]) fun i w e => (wipe_out (wipeR_some e)).symm
/-! ### a value held, to be stored -/
structure Held (K : PySem.W.Frag) (H : Hp) (F : US) (σ : L2.St) (ρ : Rho) (A : List Addr) (B : List Addr) (P : US → Prop) : Prop where
  S : Stt K H (fun a => a ∈ B ∨ F a) σ ρ A
  dn : P fun a => (a ∈ B ∨ a ∈ A) ∨ F a
  nB : B.Nodup
  dB : ∀ a ∈ B, ¬ F a
theorem Res.held {P : US → Prop} (S : Stt K H F σ ρ A) (r : Res p K H F A H1 σ1 ρ1 A1 B P) : Held K H1 F σ1 ρ1 A1 B P := by
  refine ⟨Res.next S.bas r, r.ok, (List.nodup_append.mp r.nd).1, fun a ha z => ?_⟩
  rcases r.pv a (.inl ha) with h | h
  · exact S.dj a h z
  · exact S.dm a z h
/-- stored: the state goes on -/
theorem Res.put {P P2 P3 : US → Prop} (r : Res p K H F A H1 σ1 ρ1 A1 B P) (r2 : Res q K H1 F (B ++ A1) H2 σ2 ρ2 A2 C P2) (hP : P2 (fun a => (a ∈ C ∨ a ∈ A2) ∨ F a) → P3 (fun a => (a ∈ C ∨ a ∈ A2) ∨ F a)) : Res (p && q) K H F A H2 σ2 ρ2 A2 C P3 := by
  have pv : ∀ a, a ∈ C ∨ a ∈ A2 → a ∈ A ∨ H a = none := fun a h => by
    rcases r2.pv a h with h | h
    · rcases List.mem_append.mp h with h | h
      · exact r.pv a (.inl h)
      · exact r.pv a (.inr h)
    · exact r.was h
  refine ⟨hP r2.ok, r2.reps, r2.nd, pv, fun hp a h => ?_, fun b o h e => ?_, r2.db, r2.nb⟩
  · rw [Bool.and_eq_true] at hp
    have e := r2.fr hp.2 a h
    cases e2 : H a with
    | none => rfl
    | some o => rw [r.kp a o (.inl hp.1) e2] at e; cases e
  · rcases h with h | h
    · rw [Bool.and_eq_true] at h
      exact r2.kp b o (.inl h.2) (r.kp b o (.inl h.1) e)
    · refine r2.kp b o (.inr fun z => ?_) (r.kp b o (.inr h) e)
      rcases List.mem_append.mp z with z | z
      · exact (r.pv b (.inl z)).elim h fun z => by rw [z] at e; cases e
      · exact (r.pv b (.inr z)).elim h fun z => by rw [z] at e; cases e
/-- the state behind a store -/
theorem Held.next {P P2 : US → Prop} (h : Held K H F σ ρ A B P) (r : Res q K H F (B ++ A) H1 σ1 ρ1 A1 [] P2) : Stt K H1 F σ1 ρ1 A1 := by
  have noF : ∀ a, F a → a ∉ B ++ A := fun a z m => by
    rcases List.mem_append.mp m with m | m
    · exact h.dB a m z
    · exact h.S.dj a m (.inr z)
  have same : ∀ a, F a → H1 a = H a := fun a z => by
    obtain ⟨o, e⟩ := some_of (h.S.dm a (.inr z))
    rw [r.kp a o (.inr (noF a z)) e, e]
  refine ⟨r.reps.less fun b z => z.elim (fun z => .inl (.inr z)) .inr, (List.nodup_append.mp r.nd).2.1, fun a ha z => ?_, fun a z => ?_, fun a z xs => ?_⟩
  · rcases r.pv a (.inr ha) with h2 | h2
    · exact noF a z h2
    · exact h.S.dm a (.inr z) h2
  · rw [same a z]; exact h.S.dm a (.inr z)
  · rw [same a z]; exact h.S.nt a (.inr z) xs
mutual
/-- targets that are names -/
def pureG : Tg → Bool
  | .nm _ => true
  | .tp ts => pureGs ts
  | .sub _ _ => false
def pureGs : Tgs → Bool
  | .nil => true
  | .cons t ts => pureG t && pureGs ts
end
mutual
theorem tgIn_pure (vs : List Nat) : ∀ t : Tg, tgIn vs t = true → pureG t = true
  | .nm i, _ => rfl
  | .tp l, h => by
    simp only [pureG]
    exact tgIns_pure vs l (by simpa [tgIn] using h)
  | .sub o i, h => by simp [tgIn] at h
theorem tgIns_pure (vs : List Nat) : ∀ ts : Tgs, tgIn.tgIns vs ts = true → pureGs ts = true
  | .nil, _ => rfl
  | .cons t ts, h => by
    simp only [tgIn.tgIns, Bool.and_eq_true] at h
    simp only [pureGs, Bool.and_eq_true]
    exact ⟨tgIn_pure vs t h.1, tgIns_pure vs ts h.2⟩
end
/-- a name is stored -/
theorem nm_res {i : Nat} (h : Held K H F σ ρ A B (fun U => Dn K H U v w B)) (hi : i < ρ.length) : ∃ A', Res true K H F (B ++ A) H (σ.set i (some v)) (ρ.set i (some w)) A' [] (fun _ => True) := by
  obtain ⟨L, D, R, e, d1, d2⟩ := h.S.reps.split0 hi
  have hA : ∀ a, a ∈ L ∨ a ∈ R → a ∈ A := fun a z => by rw [e]; simp only [List.mem_append]; exact z.elim .inl fun z => .inr (.inr z)
  have nd := h.S.nd
  rw [e] at nd
  have nLR : (L ++ R).Nodup := nd.sublist ((List.sublist_append_right D R).append_left L)
  have nBA : ∀ a ∈ B, a ∈ L ∨ a ∈ R → False := fun a hb z => h.S.dj a (hA a z) (.inl hb)
  refine ⟨L ++ (B ++ R), trivial, ?_, ?_, fun a z => ?_, fun _ a z => absurd z (by simp), fun b o _ e => e, fun a z => absurd z (by simp), fun a z => absurd z (by simp)⟩
  · refine Reps.join h.S.reps.len hi (d1.less fun b z => ?_) (h.dn.less fun b z => ?_) (d2.less fun b z => ?_)
    all_goals
      rcases z with (z | z) | z
      · cases z
      · simp only [List.mem_append] at z
        rcases z with z | z | z
        · first | exact .inl (.inr (hA b (.inl z))) | exact .inl (hA b (.inl z))
        · first | exact .inl (.inl z) | exact .inr (.inl z)
        · first | exact .inl (.inr (hA b (.inr z))) | exact .inl (hA b (.inr z))
      · first | exact .inr z | exact .inr (.inr z)
  · rw [List.nil_append]
    refine List.nodup_append.mpr ⟨(List.nodup_append.mp nLR).1, List.nodup_append.mpr ⟨h.nB, (List.nodup_append.mp nLR).2.1, fun a ha b hb e => ?_⟩, fun a ha b hb e => ?_⟩
    · subst e
      exact nBA a ha (.inr hb)
    · subst e
      rcases List.mem_append.mp hb with hb | hb
      · exact nBA a hb (.inl ha)
      · exact (List.nodup_append.mp nLR).2.2 a ha a hb rfl
  · rcases z with z | z
    · cases z
    · simp only [List.mem_append] at z
      rcases z with z | z | z
      · exact .inl (List.mem_append_right _ (hA a (.inl z)))
      · exact .inl (List.mem_append_left _ z)
      · exact .inl (List.mem_append_right _ (hA a (.inr z)))
/-! ### defs -/
def hdS (io : Bool) (vs : List V) : L2.St := match io with | true => [vs.head?] | false => []
def hdR (io : Bool) (ws : List W) : Rho := match io with | true => [ws.head?] | false => []
def tlV (io : Bool) (vs : List V) : List V := match io with | true => vs.tail | false => vs
def tlW (io : Bool) (ws : List W) : List W := match io with | true => ws.tail | false => ws
def newR (io : Bool) (w : W) : Rho := match io with | true => [some w] | false => []
/-- a def's promise, on data -/
def spF (K : PySem.W.Frag) (φ : Fun) : Sp := fun vs H Q _ => ∃ (ws : List W) (r : W × W) (F : US) (A : List Addr), φ.f ws = some r ∧ ws.length = φ.n ∧ vs.length = ws.length ∧ Stt K H F (hdS φ.io vs) (hdR φ.io ws) A ∧ DnAll K H (fun a => a ∈ A ∨ F a) (tlV φ.io vs) (tlW φ.io ws) [] ∧
  ∀ (v : V) (H' : Hp) (A' B : List Addr), Res (!φ.io) K H F A H' (hdS φ.io vs) (newR φ.io r.2) A' B (fun U => Dn K H' U v r.1 B) → Q v H'
/-- the table's promises are those of the data -/
def Good (K : PySem.W.Frag) (T : Tab) (Φ : Nat → Fun) : Prop := ∀ (k : Nat) (d : FnI), T.fns[k]? = some d → ∀ vs H Q, spF K (Φ k) vs H Q E0 → d.sp vs H Q E0
theorem cW_ok {v : V} {w : W} (h : cW v = some w) : Dn K H U v w [] := by
  cases v <;> simp [cW] at h <;> subst h
  · exact .non
  · exact .bl _
  · exact .int _
  · exact .str _
theorem cWs_ok : ∀ {vs : List V} {ws : List W}, cWs vs = some ws → DnAll K H U vs ws []
  | [], _, e => by cases e; exact .nil
  | v :: vs, ws, e => by
    unfold cWs at e
    split at e
    · rename_i w ws1 e1 e2
      cases e
      exact .cons (cW_ok e1) (cWs_ok e2) rfl
    · cases e
end
end Ev

set_option Elab.async false
set_option linter.all false
set_option maxRecDepth 100000
set_option maxHeartbeats 4000000
/-! Steps at one slot, argument lists, calls, comprehensions. -/
namespace Ev
open PySem PySem.Spec PyProof.Rows L2
section
variable {K : PySem.W.Frag} {H H1 H2 : Hp} {F U : US} {σ σ' σ1 σ2 : L2.St} {ρ ρ' ρ1 ρ2 : Rho} {A A1 A2 A' B B1 B2 C : List Addr} {p q : Bool} {w x y z : W} {ws : List W} {v : V}
theorem cons_snd {ra : VK → Prop} {rb : Hp → (List V → Hp → Prop) → Prop} (S : Stt K H F σ ρ A) (ha : SndE p K H F σ A w ρ1 ra) (hb : ∀ H1 A1 (F1 : US), Stt K H1 F1 σ ρ1 A1 → SndL q K H1 F1 σ A1 ws ρ2 (rb H1)) :
    SndL (p && q) K H F σ A (w :: ws) ρ2 (fun Q => ra fun x H1 => rb H1 fun xs H2 => Q (x :: xs) H2) := by
  intro Q hq
  refine ha _ fun vx H1 A1 B1 r1 => ?_
  refine hb H1 A1 _ (Res.next S.bas r1) _ fun vs H2 A2 B2 r2 => ?_
  exact hq _ H2 A2 _ ((two_res (P1 := fun _ => True) S r1 r2).imp fun d => .cons d.1 d.2 rfl)
theorem nil_snd (S : Stt K H F σ ρ A) : SndL true K H F σ A [] ρ (fun Q => Q [] H) := fun Q hq => hq [] H A [] (Res.here S .nil)
theorem list_val {rl : (List V → Hp → Prop) → Prop} {k : List V → Hp → VK → Prop} (S : Stt K H F σ ρ A) (h : SndL p K H F σ A ws ρ' rl)
    (hv : ∀ (H2 : Hp) (U : US) (vs : List V) (Bs : List Addr), DnAll K H2 U vs ws Bs → (∀ a, U a → ∀ xs, H2 a ≠ some (.tup xs)) → ValOk K H2 U Bs z (k vs H2)) : SndE p K H F σ A z ρ' (fun Q => rl fun vs H2 => k vs H2 Q) := by
  intro Q hq
  refine h _ fun vs H1 A1 Bs r => ?_
  exact Res.val S r (hv H1 _ vs Bs r.ok (Res.nt S r)) Q hq
/-- a slot whose thing is changed, temporaries taken in or let go -/
theorem Res.slot {P1 : US → Prop} {By : List Addr} {i : Nat} (S : Bas K H F A) (r : Res p K H F A H1 σ ρ1 A1 By P1) (e : ρ1[i]? = some (some x)) :
    ∃ vx L B0 R, σ[i]? = some (some vx) ∧ A1 = L ++ (B0 ++ R) ∧ Dn K H1 (fun a => (a ∈ By ∨ a ∈ A1) ∨ F a) vx x B0 ∧ (B0 ++ By).Nodup ∧ (∀ a, a ∈ By → a ∈ A1 ∨ F a → False) ∧ (∀ a, F a → a ∈ A1 → False) ∧
      ∀ (q : Bool) (H2 : Hp) (x' : W) (Bx' C : List Addr) (P2 : US → Prop), (q = true → p = true ∧ (∀ b o, H1 b = some o → H2 b = some o) ∧ ∀ c ∈ C, H1 c = none ∨ c ∈ By) → (∀ b o, b ∉ B0 → H1 b = some o → H2 b = some o) → (Bx' ++ C).Nodup → (∀ c, c ∈ Bx' ∨ c ∈ C → (c ∈ B0 ∨ c ∈ By) ∨ H1 c = none) → Dom H2 C → NoTup H2 C →
        Dn K H2 (fun a => (a ∈ C ∨ a ∈ L ++ (Bx' ++ R)) ∨ F a) vx x' Bx' → P2 (fun a => (a ∈ C ∨ a ∈ L ++ (Bx' ++ R)) ∨ F a) → Res q K H F A H2 σ (ρ1.set i (some x')) (L ++ (Bx' ++ R)) C P2 := by
  have S1 := Res.next S r
  obtain ⟨vx, L, B0, R, e1, e2, d, d1, d2⟩ := r.reps.split e
  have ndA := (List.nodup_append.mp r.nd).2.1
  rw [e2] at ndA
  have inA : ∀ a, a ∈ A1 ↔ a ∈ L ∨ a ∈ B0 ∨ a ∈ R := fun a => by rw [e2]; simp [List.mem_append]
  have nLB : ∀ a, a ∈ B0 → a ∈ L ∨ a ∈ R → False := fun a h1 h2 => by
    rcases h2 with h2 | h2
    · exact (List.nodup_append.mp ndA).2.2 a h2 a (List.mem_append_left _ h1) rfl
    · exact (List.nodup_append.mp (List.nodup_append.mp ndA).2.1).2.2 a h1 a h2 rfl
  have nBy : ∀ a, a ∈ By → a ∈ A1 → False := fun a h1 h2 => (List.nodup_append.mp r.nd).2.2 a h1 a h2 rfl
  have nFA : ∀ a, F a → a ∈ A1 → False := fun a h1 h2 => S1.dj a h2 (.inr h1)
  have nFB : ∀ a, F a → a ∈ By → False := fun a h1 h2 => by
    rcases r.pv a (.inl h2) with h | h
    · exact S.dj a h h1
    · exact S.dm a h1 h
  refine ⟨vx, L, B0, R, e1, e2, d, ?_, fun a h1 h2 => h2.elim (nBy a h1) fun z => nFB a z h1, nFA, ?_⟩
  · refine List.nodup_append.mpr ⟨(List.nodup_append.mp (List.nodup_append.mp ndA).2.1).1, (List.nodup_append.mp r.nd).1, fun a ha b hb e => ?_⟩
    subst e
    exact nBy a hb ((inA a).mpr (.inr (.inl ha)))
  · intro q H2 x' Bx' C P2 hq kp nd2 src dC tC dx hP
    have noLR : ∀ c, c ∈ Bx' ∨ c ∈ C → c ∈ L ∨ c ∈ R → False := fun c h h2 => by
      have hA : c ∈ A1 := (inA c).mpr (h2.elim .inl fun z => .inr (.inr z))
      rcases src c h with (h3 | h3) | h3
      · exact nLB c h3 h2
      · exact nBy c h3 hA
      · exact r.reps.dom c hA h3
    have st : Stp H1 H2 (fun a => (a ∈ By ∨ a ∈ A1) ∨ F a) (fun a => (a ∈ C ∨ a ∈ L ++ (Bx' ++ R)) ∨ F a) (fun a => a ∈ B0) := by
      refine ⟨kp, fun b m => .inl (.inr ((inA b).mpr (.inr (.inl m)))), fun b z => ?_⟩
      have go : ∀ c, c ∈ Bx' ∨ c ∈ C → ((c ∈ By ∨ c ∈ A1) ∨ F c) ∨ H1 c = none := fun c h => by
        rcases src c h with (h | h) | h
        · exact .inl (.inl (.inr ((inA c).mpr (.inr (.inl h)))))
        · exact .inl (.inl (.inl h))
        · exact .inr h
      rcases z with (z | z) | z
      · exact go b (.inr z)
      · simp only [List.mem_append] at z
        rcases z with z | z | z
        · exact .inl (.inl (.inr ((inA b).mpr (.inl z))))
        · exact go b (.inl z)
        · exact .inl (.inl (.inr ((inA b).mpr (.inr (.inr z)))))
      · exact .inl (.inr z)
    have hlen := r.reps.len
    have hi : i < ρ1.length := (List.getElem?_eq_some_iff.mp e).1
    have es : σ.set i (some vx) = σ := by
      have hσ : i < σ.length := by omega
      have e3 : σ[i] = some vx := by
        have := List.getElem?_eq_getElem hσ
        rw [e1] at this
        exact (Option.some.inj this).symm
      rw [← e3]
      exact List.set_getElem_self hσ
    have pv : ∀ a, a ∈ C ∨ a ∈ L ++ (Bx' ++ R) → a ∈ A ∨ H a = none := fun a h => by
      have go : ∀ c, c ∈ Bx' ∨ c ∈ C → c ∈ A ∨ H c = none := fun c h => by
        rcases src c h with (h | h) | h
        · exact r.pv c (.inr ((inA c).mpr (.inr (.inl h))))
        · exact r.pv c (.inl h)
        · exact r.was h
      rcases h with h | h
      · exact go a (.inr h)
      · simp only [List.mem_append] at h
        rcases h with h | h | h
        · exact r.pv a (.inr ((inA a).mpr (.inl h)))
        · exact go a (.inl h)
        · exact r.pv a (.inr ((inA a).mpr (.inr (.inr h))))
    refine ⟨hP, ?_, ?_, pv, fun hp a h => ?_, fun b o h e => ?_, dC, tC⟩
    · have j := Reps.join hlen hi (d1.step st fun a ha m => nLB a m (.inl ha)) dx (d2.step st fun a ha m => nLB a m (.inr ha))
      rw [es] at j
      exact j
    · have n2 := List.nodup_append.mp nd2
      have nL := (List.nodup_append.mp ndA).1
      have nR := (List.nodup_append.mp (List.nodup_append.mp ndA).2.1).2.1
      refine List.nodup_append.mpr ⟨n2.2.1, List.nodup_append.mpr ⟨nL, List.nodup_append.mpr ⟨n2.1, nR, fun a ha b hb e => ?_⟩, fun a ha b hb e => ?_⟩, fun a ha b hb e => ?_⟩
      · subst e; exact noLR a (.inl ha) (.inr hb)
      · subst e
        rcases List.mem_append.mp hb with hb | hb
        · exact noLR a (.inl hb) (.inl ha)
        · exact (List.nodup_append.mp ndA).2.2 a ha a (List.mem_append_right _ hb) rfl
      · subst e
        simp only [List.mem_append] at hb
        rcases hb with hb | hb | hb
        · exact noLR a (.inr ha) (.inl hb)
        · exact n2.2.2 a hb a ha rfl
        · exact noLR a (.inr ha) (.inr hb)
    · obtain ⟨h1, _, h3⟩ := hq hp
      rcases h3 a h with h | h
      · cases e2 : H a with
        | none => rfl
        | some o => rw [r.kp a o (.inl h1) e2] at h; cases h
      · exact r.fr h1 a h
    · rcases h with h | h
      · obtain ⟨h1, h2, _⟩ := hq h
        exact h2 b o (r.kp b o (.inl h1) e)
      · refine kp b o (fun z => ?_) (r.kp b o (.inr h) e)
        exact (r.pv b (.inr ((inA b).mpr (.inr (.inl z))))).elim h fun z => by rw [z] at e; cases e
/-- a method that changes its own object -/
theorem mut_snd {m : Mth} {vs : List V} {i : Nat} {r0 x' : W} {By : List Addr} {vx : V} (S : Stt K H F σ ρ A) (r : Res p K H F A H1 σ ρ1 A1 By (fun U => DnAll K H1 U vs ws By)) (e : ρ1[i]? = some (some x)) (hv : σ[i]? = some (some vx)) (hm : mutW m x ws = some (r0, x')) :
    ∀ Q : VK, (∀ (v : V) (H' : Hp) (A' B : List Addr), Res false K H F A H' σ (ρ1.set i (some x')) A' B (fun U => Dn K H' U v r0 B) → Q v H') → rMth K m vx vs H1 Q := by
  obtain ⟨vx', L, B0, R, e1, e2, d, nd, nBy, nF, go⟩ := Res.slot S.bas r e
  rw [hv] at e1
  cases e1
  intro Q hq
  have inA : ∀ a, a ∈ A1 ↔ a ∈ L ∨ a ∈ B0 ∨ a ∈ R := fun a => by rw [e2]; simp [List.mem_append]
  refine mut_ok d r.ok nd (fun b hb => .inl (.inr ((inA b).mpr (.inr (.inl hb))))) hm Q fun v H2 Bx' C kp nd2 src dC tC hd => ?_
  have hU := hd (fun a => (a ∈ C ∨ a ∈ L ++ (Bx' ++ R)) ∨ F a) fun a z => by
    have fromS : ∀ c, c ∈ Bx' ∨ c ∈ C → (c ∈ By ∨ c ∈ A1) ∨ F c := fun c h => by
      rcases src c h with h | h
      · exact .inl (.inr ((inA c).mpr (.inr (.inl h))))
      · exact .inl (.inl h)
    rcases z with (z | z) | z
    · exact ⟨fromS a (.inr z), fun _ => .inr z⟩
    · simp only [List.mem_append] at z
      rcases z with z | z | z
      · exact ⟨.inl (.inr ((inA a).mpr (.inl z))), fun h => (nBy a h (.inl ((inA a).mpr (.inl z)))).elim⟩
      · exact ⟨fromS a (.inl z), fun _ => .inl z⟩
      · exact ⟨.inl (.inr ((inA a).mpr (.inr (.inr z)))), fun h => (nBy a h (.inl ((inA a).mpr (.inr (.inr z))))).elim⟩
    · exact ⟨.inr z, fun h => (nBy a h (.inr z)).elim⟩
  exact hq v H2 _ C (go false H2 x' Bx' C _ (fun z => by cases z) kp nd2 (fun c h => .inl (src c h)) dC tC hU.1 hU.2)
/-- a value stored within a slot's thing -/
theorem put_snd {i : Nat} {k x' : W} {By Bk : List Addr} {vx vk : V} (S : Bas K H F A) (r : Res p K H F A H1 σ ρ1 A1 By (fun U => Dn K H1 U v w By ∧ Dn K H1 U vk k Bk)) (e : ρ1[i]? = some (some x)) (hv : σ[i]? = some (some vx)) (hm : setW x k w = some x') :
    ∀ Q : Hp → Prop, (∀ (H' : Hp) (A' : List Addr), Res false K H F A H' σ (ρ1.set i (some x')) A' [] (fun _ => True) → Q H') → rSet K vx vk v H1 Q := by
  obtain ⟨vx', L, B0, R, e1, e2, d, nd, nBy, nF, go⟩ := Res.slot S r e
  rw [hv] at e1
  cases e1
  intro Q hq
  have inA : ∀ a, a ∈ A1 ↔ a ∈ L ∨ a ∈ B0 ∨ a ∈ R := fun a => by rw [e2]; simp [List.mem_append]
  refine set_ok' d r.ok.2 r.ok.1 nd (fun b hb => .inl (.inr ((inA b).mpr (.inr (.inl hb))))) hm (fun _ H' => Q H') fun v H2 Bx' C kp nd2 src dC tC hd => ?_
  have hU := hd (fun a => (a ∈ C ∨ a ∈ L ++ (Bx' ++ R)) ∨ F a) fun a z => by
    have fromS : ∀ c, c ∈ Bx' ∨ c ∈ C → (c ∈ By ∨ c ∈ A1) ∨ F c := fun c h => by
      rcases src c h with h | h
      · exact .inl (.inr ((inA c).mpr (.inr (.inl h))))
      · exact .inl (.inl h)
    rcases z with (z | z) | z
    · exact ⟨fromS a (.inr z), fun _ => .inr z⟩
    · simp only [List.mem_append] at z
      rcases z with z | z | z
      · exact ⟨.inl (.inr ((inA a).mpr (.inl z))), fun h => (nBy a h (.inl ((inA a).mpr (.inl z)))).elim⟩
      · exact ⟨fromS a (.inl z), fun _ => .inl z⟩
      · exact ⟨.inl (.inr ((inA a).mpr (.inr (.inr z)))), fun h => (nBy a h (.inl ((inA a).mpr (.inr (.inr z))))).elim⟩
    · exact ⟨.inr z, fun h => (nBy a h (.inr z)).elim⟩
  have zC : C = [] := by
    have := hU.2
    cases this
    rfl
  subst zC
  exact hq H2 _ (go false H2 x' Bx' [] (fun _ => True) (fun z => by cases z) kp nd2 (fun c h => .inl (src c h)) dC tC hU.1 trivial)
end
end Ev

set_option Elab.async false
set_option linter.all false
set_option maxRecDepth 100000
set_option maxHeartbeats 4000000
/-! A thing within a slot's thing is taken out; calls. -/
namespace Ev
open PySem PySem.Spec PyProof.Rows L2
section
variable {K : PySem.W.Frag} {H H1 H2 : Hp} {F U : US} {σ σ' σ1 σ2 : L2.St} {ρ ρ' ρ1 ρ2 : Rho} {A A1 A2 A' B B0 B1 B2 C : List Addr} {p q : Bool} {w x y z c : W} {ws : List W} {v : V}
theorem kids_set {vs : List V} {j : Nat} (h : DnAll K H U vs ws A) (e : ws[j]? = some c) (nd : A.Nodup) : ∃ vc Bc A', vs[j]? = some vc ∧ Dn K H U vc c Bc ∧ A'.Sublist A ∧ Bc.Sublist A ∧ (∀ a ∈ A', a ∉ Bc) ∧
    ∀ U' : US, (∀ a, U' a → U a ∧ a ∉ Bc) → DnAll K H U' vs (ws.set j (frz c)) A' := by
  obtain ⟨vc, L, Bc, R, e1, e2, d, d1, d2⟩ := h.split e
  subst e2
  refine ⟨vc, Bc, L ++ R, e1, d, (List.sublist_append_right Bc R).append_left L, (List.sublist_append_left Bc R).trans (List.sublist_append_right L _), fun a ha hb => ?_, fun U' hU => ?_⟩
  · rcases List.mem_append.mp ha with ha | ha
    · exact (List.nodup_append.mp nd).2.2 a ha a (List.mem_append_left _ hb) rfl
    · exact (List.nodup_append.mp (List.nodup_append.mp nd).2.1).2.2 a hb a ha rfl
  · have lj : j < ws.length := (List.getElem?_eq_some_iff.mp e).1
    have lv : j < vs.length := by rw [dnAll_len h]; exact lj
    have ev : vs = vs.take j ++ vc :: vs.drop (j + 1) := by
      have := List.getElem?_eq_getElem lv
      rw [e1] at this
      have h2 := Option.some.inj this
      rw [h2, List.getElem_cons_drop, List.take_append_drop]
    rw [set_parts lj]
    have := (d1.less fun b z => (hU b z).1).app (.cons (d.frz hU) (d2.less fun b z => (hU b z).1) rfl)
    rw [← ev, List.nil_append] at this
    exact this
def ixW (n : Nat) (k : W) : Option Nat := match k with | .int i => ixN n i | _ => none
theorem rd_seq {a : Addr} {vs : List V} {vk vc : V} {k : W} {Bk : List Addr} {j : Nat} {Q : VK} (e : SqL K H a vs ∨ SqT K H a vs) (hl : vs.length = ws.length) (e1 : vs[j]? = some vc) (hk : Dn K H U vk k Bk) (hp : ixW ws.length k = some j) (q : Q vc H) : rIxx K (.ref a) vk H Q := by
  unfold ixW at hp
  split at hp
  · obtain ⟨rfl, rfl⟩ := hk.int_inv
    refine .inl ⟨vs, _, vc, rfl, e, ?_, q⟩
    unfold atI
    rw [hl, hp]
    exact e1
  · cases hp
theorem get_dK {a : Addr} {kvs : List (Key × V)} {ks : List Key} {vk vc : V} {k : W} {Bk : List Addr} {j : Nat} (e : Rd H a (.dK kvs)) (hk' : kvs.map (·.1) = ks ∧ ks.Nodup) (e1 : (kvs.map (·.2))[j]? = some vc) (hk : Dn K H U vk k Bk) (hp : (match keyW k with | some x => posK ks x | none => none) = some j) : DGet H a vk (some vc) := by
  split at hp
  · rename_i c hc
    refine .inl ⟨kvs, c, e, key_ok hc hk, ?_⟩
    rw [posK_val, hk'.1, hp]
    exact e1.symm
  · cases hp
theorem get_dT {a : Addr} {kvs : List (List Key × V)} {ks : List (List Key)} {vk vc : V} {k : W} {Bk : List Addr} {j : Nat} (e : Rd H a (.dT kvs)) (hk' : kvs.map (·.1) = ks ∧ ks.Nodup) (e1 : (kvs.map (·.2))[j]? = some vc) (hk : Dn K H U vk k Bk) (hp : (match tkW k with | some x => posK ks x | none => none) = some j) : DGet H a vk (some vc) := by
  split at hp
  · rename_i c hc
    obtain ⟨b, rfl, hb, _⟩ := tk_ok hc hk
    refine .inr ⟨kvs, c, b, e, rfl, hb, ?_⟩
    rw [posK_val, hk'.1, hp]
    exact e1.symm
  · cases hp
theorem getP_pos {k : W} {j : Nat} (h : getP x k = some (some j)) : posW x k = some j := by
  unfold getP at h
  split at h
  · split at h
    · rename_i c hc
      unfold posW
      simp only [hc]
      exact Option.some.inj h
    · cases h
  · split at h
    · rename_i c hc
      unfold posW
      simp only [hc]
      exact Option.some.inj h
    · cases h
  · cases h
/-- the j-th thing within x: how it is read, what is left when it is taken out -/
theorem view_ok {j : Nat} (hx : Dn K H U v x B0) (hc : (kids x)[j]? = some c) (nd : B0.Nodup) : ∃ a vc Bc B1, v = .ref a ∧ Dn K H U vc c Bc ∧ B1.Sublist B0 ∧ Bc.Sublist B0 ∧ (∀ b ∈ B1, b ∉ Bc) ∧ (∀ U' : US, (∀ b, U' b → U b ∧ b ∉ Bc) → Dn K H U' v (setKid x j (frz c)) B1) ∧
    (∀ (k : W) (vk : V) (By : List Addr), Dn K H U vk k By → posW x k = some j → ∀ Q : VK, Q vc H → rIxx K v vk H Q) ∧ (∀ (k : W) (vk : V) (By : List Addr), Dn K H U vk k By → getP x k = some (some j) → DGet H a vk (some vc)) := by
  cases hx with
  | non => cases hc
  | bl b => cases hc
  | int b => cases hc
  | str b => cases hc
  | ty n => cases hc
  | @lstO a vs ws A e d =>
    rw [List.nodup_cons] at nd
    obtain ⟨vc, Bc, A', e1, dc, s1, s2, dj, go⟩ := kids_set d hc nd.2
    refine ⟨a, vc, Bc, a :: A', rfl, dc, s1.cons₂ a, s2.trans (List.sublist_cons_self ..), fun b hb z => ?_, fun U' hU => .lstO e (go U' hU), fun k vk By hk hp Q q => rd_seq (.inl (.of e)) (dnAll_len d) e1 hk hp q, fun k vk By hk hp => by cases hp⟩
    rcases List.mem_cons.mp hb with rfl | hb
    · exact nd.1 (s2.subset z)
    · exact dj b hb z
  | @lstV a vs ws n e d =>
    obtain ⟨vc, Bc, A', e1, dc, s1, s2, dj, go⟩ := kids_set d hc List.nodup_nil
    have z1 := List.sublist_nil.mp s1
    subst z1
    exact ⟨a, vc, Bc, [], rfl, dc, s1, s2, dj, fun U' hU => .lstV (fun z => n (hU a z).1) e (go U' hU), fun k vk By hk hp Q q => rd_seq (.inl (.of e)) (dnAll_len d) e1 hk hp q, fun k vk By hk hp => by cases hp⟩
  | @scrV a vs ws n e d =>
    obtain ⟨vc, Bc, A', e1, dc, s1, s2, dj, go⟩ := kids_set d hc List.nodup_nil
    exact ⟨a, vc, Bc, [], rfl, dc, List.Sublist.refl _, s2, fun b h => (by cases h), fun U' hU => .scrV (fun z => n (hU a z).1) e (d.less fun b z => (hU b z).1), fun k vk By hk hp Q q => rd_seq (.inl (.inl (.inr e))) (dnAll_len d) e1 hk hp q, fun k vk By hk hp => by cases hp⟩
  | @scrK a vs ws e d =>
    obtain ⟨vc, Bc, A', e1, dc, s1, s2, dj, go⟩ := kids_set d hc List.nodup_nil
    exact ⟨a, vc, Bc, [], rfl, dc, List.Sublist.refl _, s2, fun b h => (by cases h), fun U' hU => .scrK e (d.less fun b z => (hU b z).1), fun k vk By hk hp Q q => rd_seq (.inl (.inr e)) (dnAll_len d) e1 hk hp q, fun k vk By hk hp => by cases hp⟩
  | @tupO a vs ws _ n e d =>
    obtain ⟨vc, Bc, A', e1, dc, s1, s2, dj, go⟩ := kids_set d hc nd
    exact ⟨a, vc, Bc, A', rfl, dc, s1, s2, dj, fun U' hU => .tupO (fun z => n (hU a z).1) e (go U' hU), fun k vk By hk hp Q q => rd_seq (.inr (.of e)) (dnAll_len d) e1 hk hp q, fun k vk By hk hp => by cases hp⟩
  | @tupV a vs ws n e d =>
    obtain ⟨vc, Bc, A', e1, dc, s1, s2, dj, go⟩ := kids_set d hc List.nodup_nil
    have z1 := List.sublist_nil.mp s1
    subst z1
    exact ⟨a, vc, Bc, [], rfl, dc, s1, s2, dj, fun U' hU => .tupV (fun z => n (hU a z).1) e (go U' hU), fun k vk By hk hp Q q => rd_seq (.inr (.of e)) (dnAll_len d) e1 hk hp q, fun k vk By hk hp => by cases hp⟩
  | @dKO a kvs ks ws A e hk d =>
    rw [List.nodup_cons] at nd
    obtain ⟨vc, Bc, A', e1, dc, s1, s2, dj, go⟩ := kids_set d hc nd.2
    refine ⟨a, vc, Bc, a :: A', rfl, dc, s1.cons₂ a, s2.trans (List.sublist_cons_self ..), fun b hb z => ?_, fun U' hU => .dKO e hk (go U' hU), fun k vk By hkk hp Q q => .inr ⟨vc, get_dK (.inl e) hk e1 hkk hp, q⟩, fun k vk By hkk hp => get_dK (.inl e) hk e1 hkk (getP_pos hp)⟩
    rcases List.mem_cons.mp hb with rfl | hb
    · exact nd.1 (s2.subset z)
    · exact dj b hb z
  | @dKV a kvs ks ws n e hk d =>
    obtain ⟨vc, Bc, A', e1, dc, s1, s2, dj, go⟩ := kids_set d hc List.nodup_nil
    have z1 := List.sublist_nil.mp s1
    subst z1
    exact ⟨a, vc, Bc, [], rfl, dc, s1, s2, dj, fun U' hU => .dKV (fun z => n (hU a z).1) e hk (go U' hU), fun k vk By hkk hp Q q => .inr ⟨vc, get_dK (.inl e) hk e1 hkk hp, q⟩, fun k vk By hkk hp => get_dK (.inl e) hk e1 hkk (getP_pos hp)⟩
  | @dTO a kvs ks ws A e hk d =>
    rw [List.nodup_cons] at nd
    obtain ⟨vc, Bc, A', e1, dc, s1, s2, dj, go⟩ := kids_set d hc nd.2
    refine ⟨a, vc, Bc, a :: A', rfl, dc, s1.cons₂ a, s2.trans (List.sublist_cons_self ..), fun b hb z => ?_, fun U' hU => .dTO e hk (go U' hU), fun k vk By hkk hp Q q => .inr ⟨vc, get_dT (.inl e) hk e1 hkk hp, q⟩, fun k vk By hkk hp => get_dT (.inl e) hk e1 hkk (getP_pos hp)⟩
    rcases List.mem_cons.mp hb with rfl | hb
    · exact nd.1 (s2.subset z)
    · exact dj b hb z
  | @dTV a kvs ks ws n e hk d =>
    obtain ⟨vc, Bc, A', e1, dc, s1, s2, dj, go⟩ := kids_set d hc List.nodup_nil
    have z1 := List.sublist_nil.mp s1
    subst z1
    exact ⟨a, vc, Bc, [], rfl, dc, s1, s2, dj, fun U' hU => .dTV (fun z => n (hU a z).1) e hk (go U' hU), fun k vk By hkk hp Q q => .inr ⟨vc, get_dT (.inl e) hk e1 hkk hp, q⟩, fun k vk By hkk hp => get_dT (.inl e) hk e1 hkk (getP_pos hp)⟩
  | @dLO a kvs ks ws A e hk d =>
    rw [List.nodup_cons] at nd
    obtain ⟨vc, Bc, A', e1, dc, s1, s2, dj, go⟩ := kids_set d hc nd.2
    refine ⟨a, vc, Bc, a :: A', rfl, dc, s1.cons₂ a, s2.trans (List.sublist_cons_self ..), fun b hb z => ?_, fun U' hU => .dLO e hk (go U' hU), fun k vk By hkk hp Q q => .inr ⟨vc, get_dT (.inr e) hk e1 hkk hp, q⟩, fun k vk By hk hp => by cases hp⟩
    rcases List.mem_cons.mp hb with rfl | hb
    · exact nd.1 (s2.subset z)
    · exact dj b hb z
  | @dLV a kvs ks ws n e hk d =>
    obtain ⟨vc, Bc, A', e1, dc, s1, s2, dj, go⟩ := kids_set d hc List.nodup_nil
    have z1 := List.sublist_nil.mp s1
    subst z1
    exact ⟨a, vc, Bc, [], rfl, dc, s1, s2, dj, fun U' hU => .dLV (fun z => n (hU a z).1) e hk (go U' hU), fun k vk By hkk hp Q q => .inr ⟨vc, get_dT (.inr e) hk e1 hkk hp, q⟩, fun k vk By hk hp => by cases hp⟩
/-- a thing taken out of a slot's thing: it is shared from now on; vc: the value that is there -/
theorem kid_res {P1 : US → Prop} {By Bk : List Addr} {i j : Nat} {vx vk : V} {k : W} (S : Stt K H F σ ρ A) (r : Res p K H F A H1 σ ρ1 A1 By P1) (e : ρ1[i]? = some (some x)) (hv : σ[i]? = some (some vx)) (hc : (kids x)[j]? = some c)
    (hk : Dn K H1 (fun a => (a ∈ By ∨ a ∈ A1) ∨ F a) vk k Bk) :
    ∃ a vc, vx = .ref a ∧ (posW x k = some j → ∀ Q : VK, Q vc H1 → rIxx K vx vk H1 Q) ∧ (getP x k = some (some j) → DGet H1 a vk (some vc)) ∧
    (isV c = true → Res p K H F A H1 σ ρ1 A1 [] (fun U => Dn K H1 U vc c [])) ∧ ∃ A2, Res p K H F A H1 σ (ρ1.set i (some (setKid x j (frz c)))) A2 [] (fun U => Dn K H1 U vc (frz c) []) := by
  obtain ⟨vx', L, B0, R, e1, e2, d, nd, nBy, nF, go⟩ := Res.slot S.bas r e
  rw [hv] at e1
  cases e1
  have inA : ∀ a, a ∈ A1 ↔ a ∈ L ∨ a ∈ B0 ∨ a ∈ R := fun a => by rw [e2]; simp [List.mem_append]
  have nd0 := (List.nodup_append.mp nd).1
  obtain ⟨a, vc, Bc, B1, rfl, h1, h2, h3, h4, h5, h6, h7⟩ := view_ok d hc nd0
  refine ⟨a, vc, rfl, h6 k vk Bk hk, h7 k vk Bk hk, fun hV => ?_, ?_⟩
  · have z := val_nil h1 hV
    subst z
    refine r.grow (C := []) (fun _ _ e => e) (fun c h => by cases h) List.nodup_nil (fun c h => by cases h) (fun c h => by cases h) (h1.less fun b z => ?_)
    rcases z with (z | z) | z
    · cases z
    · exact .inl (.inr z)
    · exact .inr z
  · have hLR : ∀ b, b ∈ L ∨ b ∈ R → b ∉ B0 := fun b h hb => by
      have ndA := (List.nodup_append.mp r.nd).2.1
      rw [e2] at ndA
      rcases h with h | h
      · exact (List.nodup_append.mp ndA).2.2 b h b (List.mem_append_left _ hb) rfl
      · exact (List.nodup_append.mp (List.nodup_append.mp ndA).2.1).2.2 b hb b h rfl
    have hU : ∀ b, ((b ∈ ([] : List Addr) ∨ b ∈ L ++ (B1 ++ R)) ∨ F b) → ((b ∈ By ∨ b ∈ A1) ∨ F b) ∧ b ∉ Bc := fun b z => by
      rcases z with (z | z) | z
      · cases z
      · simp only [List.mem_append] at z
        rcases z with z | z | z
        · exact ⟨.inl (.inr ((inA b).mpr (.inl z))), fun h => hLR b (.inl z) (h3.subset h)⟩
        · exact ⟨.inl (.inr ((inA b).mpr (.inr (.inl (h2.subset z))))), h4 b z⟩
        · exact ⟨.inl (.inr ((inA b).mpr (.inr (.inr z)))), fun h => hLR b (.inr z) (h3.subset h)⟩
      · exact ⟨.inr z, fun h => nF b z ((inA b).mpr (.inr (.inl (h3.subset h))))⟩
    refine ⟨_, go p H1 (setKid x j (frz c)) B1 [] _ (fun h => ⟨(by assumption), fun _ _ e => e, fun c h => by cases h⟩) (fun _ _ _ e => e) (by rw [List.append_nil]; exact nd0.sublist h2) (fun a h => ?_) (fun a h => by cases h) (fun a h => by cases h)
      (h5 _ hU) (h1.frz hU)⟩
    rcases h with h | h
    · exact .inl (.inl (h2.subset h))
    · cases h
end
end Ev

set_option Elab.async false
set_option linter.all false
set_option maxRecDepth 100000
set_option maxHeartbeats 4000000
/-! Calls on data. -/
namespace Ev
open PySem PySem.Spec PyProof.Rows L2
section
variable {K : PySem.W.Frag} {H H1 H2 : Hp} {F U : US} {σ σ' σ1 σ2 : L2.St} {ρ ρ' ρ1 ρ2 : Rho} {A A1 A2 A' B B0 B1 B2 C : List Addr} {p q : Bool} {w x y z c : W} {ws ds : List W} {v : V} {φ : Fun} {sp : Sp} {dv : List V}
/-- a call that changes none of its arguments; they are shared with it -/
theorem callF {vs' : List V} {ws' : List W} {r2 : W × W} {Bs : List Addr} {P : US → Prop} (hsp : ∀ vs H Q, spF K φ vs H Q E0 → sp vs H Q E0) (hio : φ.io = false) (S : Stt K H F σ ρ A) (r : Res p K H F A H1 σ ρ1 A1 Bs P)
    (hd : ∀ U' : US, (∀ a, U' a → ((a ∈ Bs ∨ a ∈ A1) ∨ F a) ∧ a ∉ Bs) → DnAll K H1 U' vs' ws' []) (hf : φ.f ws' = some r2) (hl : ws'.length = φ.n) :
    ∀ Q : VK, (∀ (v : V) (H' : Hp) (A' B : List Addr), Res p K H F A H' σ ρ1 A' B (fun U => Dn K H' U v r2.1 B) → Q v H') → sp vs' H1 Q E0 := by
  intro Q hq
  have S1 := Res.next S.bas r
  refine hsp _ _ _ ⟨ws', r2, fun a => a ∈ A1 ∨ F a, [], hf, hl, ?_, ?_, ?_, fun v H' A' B r' => ?_⟩
  · exact dnAll_len (hd (fun _ => False) fun a z => z.elim)
  · rw [hio]
    refine ⟨.nil, List.nodup_nil, fun a z => absurd z (by simp), fun a z => ?_, fun a z xs => ?_⟩
    · rcases z with z | z
      · exact r.reps.dom a z
      · exact S1.dm a (.inr z)
    · rcases z with z | z
      · exact r.reps.notup a z xs
      · exact S1.nt a (.inr z) xs
  · rw [hio]
    refine hd _ fun a z => ?_
    rcases z with z | z | z
    · cases z
    · exact ⟨.inl (.inr z), fun h => (List.nodup_append.mp r.nd).2.2 a h a z rfl⟩
    · refine ⟨.inr z, fun h => ?_⟩
      rcases r.pv a (.inl h) with h | h
      · exact S.dj a h z
      · exact S.dm a z h
  · rw [hio] at r'
    have zA : A' = [] := by
      have := r'.reps
      cases this
      rfl
    subst zA
    have eU : (fun a => (a ∈ B ∨ a ∈ ([] : List Addr)) ∨ (a ∈ A1 ∨ F a)) = fun a => (a ∈ B ∨ a ∈ A1) ∨ F a := by
      funext a
      apply propext
      constructor
      · rintro ((h | h) | h | h)
        · exact .inl (.inl h)
        · cases h
        · exact .inl (.inr h)
        · exact .inr h
      · rintro ((h | h) | h)
        · exact .inl (.inl h)
        · exact .inr (.inl h)
        · exact .inr (.inr h)
    refine hq v H' A1 B (r.grow (fun b o e => r'.kp b o (.inl rfl) e) (fun c h => .inl (r'.fr rfl c h)) (List.nodup_append.mp r'.nd).1 r'.db r'.nb ?_)
    have := r'.ok
    rw [eU] at this
    exact this
theorem call_snd {d : List V} {r2 : W × W} {rl : (List V → Hp → Prop) → Prop} (hsp : ∀ vs H Q, spF K φ vs H Q E0 → sp vs H Q E0) (hio : φ.io = false) (S : Stt K H F σ ρ A) (h : SndL p K H F σ A ws ρ1 rl) (hds : cWs d = some ds) (hf : φ.f (frzL ws ++ ds) = some r2)
    (hl : (frzL ws ++ ds).length = φ.n) : SndE p K H F σ A r2.1 ρ1 (fun Q => rl fun vs H1 => sp (vs ++ d) H1 Q E0) := by
  intro Q hq
  refine h _ fun vs H1 A1 Bs r => ?_
  exact callF hsp hio S r (fun U' hU => (r.ok.frz hU).app (cWs_ok hds)) hf hl Q hq
theorem getD_ok {vs : List V} (h : DnAll K H U vs ws []) : ∀ {pm : List Nat}, (∀ i ∈ pm, i < ws.length) → DnAll K H U (pm.map fun i => vs.getD i .non) (pm.map fun i => ws.getD i .non) []
  | [], _ => .nil
  | i :: pm, hi => by
    have li := hi i (List.mem_cons_self ..)
    obtain ⟨v, e1, d⟩ := h.get (List.getElem?_eq_getElem li)
    refine .cons (A := []) ?_ (getD_ok h fun j hj => hi j (List.mem_cons_of_mem _ hj)) rfl
    show Dn K H U (vs.getD i V.non) (ws.getD i W.non) []
    rw [List.getD_eq_getElem?_getD, List.getD_eq_getElem?_getD, e1, List.getElem?_eq_getElem li]
    exact d
theorem kcall_snd {ks : List Str} {pm : List Nat} {r2 : W × W} {rl : (List V → Hp → Prop) → Prop} (hsp : ∀ vs H Q, spF K φ vs H Q E0 → sp vs H Q E0) (hio : φ.io = false) (S : Stt K H F σ ρ A) (h : SndL p K H F σ A ws ρ1 rl) (hk : ws.length = ks.length) (hpm : pm.all (fun i => decide (i < ks.length)) = true)
    (hn : pm.length = φ.n) (hf : φ.f (pm.map fun i => (frzL ws).getD i .non) = some r2) : SndE p K H F σ A r2.1 ρ1 (fun Q => rl fun vs H1 => vs.length = ks.length ∧ sp (pm.map fun i => vs.getD i .non) H1 Q E0) := by
  intro Q hq
  refine h _ fun vs H1 A1 Bs r => ⟨by rw [dnAll_len r.ok]; exact hk, ?_⟩
  refine callF hsp hio S r (fun U' hU => getD_ok (r.ok.frz hU) fun i hi => ?_) hf (by rw [List.length_map]; exact hn) Q hq
  rw [frzL_len, hk]
  exact of_decide_eq_true (List.all_eq_true.mp hpm i hi)
/-- a call that changes the thing of a slot -/
theorem io_slot {d : List V} {r2 : W × W} {vs : List V} {Bs : List Addr} {i : Nat} {vx : V} (hsp : ∀ vs H Q, spF K φ vs H Q E0 → sp vs H Q E0) (hio : φ.io = true) (S : Stt K H F σ ρ A) (r : Res p K H F A H1 σ ρ1 A1 Bs (fun U => DnAll K H1 U vs ws Bs)) (e : ρ1[i]? = some (some x)) (hv : σ[i]? = some (some vx))
    (hds : cWs d = some ds) (hf : φ.f (x :: (frzL ws ++ ds)) = some r2) (hl : (x :: (frzL ws ++ ds)).length = φ.n) :
    ∀ Q : VK, (∀ (v : V) (H' : Hp) (A' B : List Addr), Res false K H F A H' σ (ρ1.set i (some r2.2)) A' B (fun U => Dn K H' U v r2.1 B) → Q v H') → sp (vx :: (vs ++ d)) H1 Q E0 := by
  obtain ⟨vx', L, B0, R, e1, e2, dx, nd, nBy, nF, go⟩ := Res.slot S.bas r e
  rw [hv] at e1
  cases e1
  intro Q hq
  have S1 := Res.next S.bas r
  have inA : ∀ a, a ∈ A1 ↔ a ∈ L ∨ a ∈ B0 ∨ a ∈ R := fun a => by rw [e2]; simp [List.mem_append]
  have ndA := (List.nodup_append.mp r.nd).2.1
  rw [e2] at ndA
  have nLB : ∀ a, a ∈ B0 → a ∈ L ∨ a ∈ R → False := fun a h1 h2 => by
    rcases h2 with h2 | h2
    · exact (List.nodup_append.mp ndA).2.2 a h2 a (List.mem_append_left _ h1) rfl
    · exact (List.nodup_append.mp (List.nodup_append.mp ndA).2.1).2.2 a h1 a h2 rfl
  have sub : ∀ a, (a ∈ B0 ∨ ((a ∈ L ∨ a ∈ R) ∨ F a)) → ((a ∈ Bs ∨ a ∈ A1) ∨ F a) ∧ a ∉ Bs := fun a z => by
    rcases z with z | (z | z) | z
    · exact ⟨.inl (.inr ((inA a).mpr (.inr (.inl z)))), fun h => nBy a h (.inl ((inA a).mpr (.inr (.inl z))))⟩
    · exact ⟨.inl (.inr ((inA a).mpr (.inl z))), fun h => nBy a h (.inl ((inA a).mpr (.inl z)))⟩
    · exact ⟨.inl (.inr ((inA a).mpr (.inr (.inr z)))), fun h => nBy a h (.inl ((inA a).mpr (.inr (.inr z))))⟩
    · exact ⟨.inr z, fun h => nBy a h (.inr z)⟩
  refine hsp _ _ _ ⟨x :: (frzL ws ++ ds), r2, fun a => (a ∈ L ∨ a ∈ R) ∨ F a, B0, hf, hl, ?_, ?_, ?_, fun v H' A' B r' => ?_⟩
  · have h1 := dnAll_len r.ok
    have h2 := dnAll_len (cWs_ok (K := K) (H := H1) (U := fun _ => False) hds)
    rw [List.length_cons, List.length_cons, List.length_append, List.length_append, frzL_len, h1, h2]
  · rw [hio]
    refine ⟨.one (dx.less fun a z => (sub a z).1) .nil (by simp), (List.nodup_append.mp nd).1, fun a ha z => ?_, fun a z => ?_, fun a z xs => ?_⟩
    · rcases z with z | z
      · exact nLB a ha z
      · exact nF a z ((inA a).mpr (.inr (.inl ha)))
    · rcases z with (z | z) | z
      · exact r.reps.dom a ((inA a).mpr (.inl z))
      · exact r.reps.dom a ((inA a).mpr (.inr (.inr z)))
      · exact S1.dm a (.inr z)
    · rcases z with (z | z) | z
      · exact r.reps.notup a ((inA a).mpr (.inl z)) xs
      · exact r.reps.notup a ((inA a).mpr (.inr (.inr z))) xs
      · exact S1.nt a (.inr z) xs
  · rw [hio]
    exact (r.ok.frz sub).app (cWs_ok hds)
  · rw [hio] at r'
    have eU : (fun a => (a ∈ B ∨ a ∈ A') ∨ ((a ∈ L ∨ a ∈ R) ∨ F a)) = fun a => (a ∈ B ∨ a ∈ L ++ (A' ++ R)) ∨ F a := by
      funext a
      apply propext
      simp only [List.mem_append]
      constructor
      · rintro ((h | h) | (h | h) | h)
        · exact .inl (.inl h)
        · exact .inl (.inr (.inr (.inl h)))
        · exact .inl (.inr (.inl h))
        · exact .inl (.inr (.inr (.inr h)))
        · exact .inr h
      · rintro ((h | h | h | h) | h)
        · exact .inl (.inl h)
        · exact .inr (.inl (.inl h))
        · exact .inl (.inr h)
        · exact .inr (.inl (.inr h))
        · exact .inr (.inr h)
    have dn' := r'.ok
    have rp' := r'.reps
    rw [eU] at dn' rp'
    have dw : Dn K H' (fun a => (a ∈ B ∨ a ∈ L ++ (A' ++ R)) ∨ F a) vx r2.2 A' := by
      cases rp' with
      | one h1 h2 h3 =>
        cases h2
        rw [List.append_nil] at h3
        subst h3
        exact h1
    refine hq v H' _ B (go false H' r2.2 A' B _ (fun z => by cases z) (fun b o n e => r'.kp b o (.inr n) e) ?_ (fun c h => ?_) r'.db r'.nb dw dn')
    · exact (List.perm_append_comm.nodup_iff).mp r'.nd
    · exact (r'.pv c h.symm).imp_left .inl
theorem flat_own : ∀ {ws : List W} {vs : List V} {A : List Addr}, DnAll K H U vs ws A → ws.all flatW = true → A = [] ∧ isoL ws = true
  | [], _, _, h, _ => by cases h; exact ⟨rfl, rfl⟩
  | w :: ws, _, _, h, hf => by
    rw [List.all_cons, Bool.and_eq_true] at hf
    cases h with
    | cons h1 h2 e =>
      obtain ⟨q1, q2⟩ := flat_own h2 hf.2
      subst q1
      have k : ∀ {v : V} {A : List Addr}, Dn K H U v w A → A = [] ∧ iso w = true := fun d => by
        have hw := hf.1
        cases d <;> first | exact ⟨rfl, rfl⟩ | cases hw
      obtain ⟨q3, q4⟩ := k h1
      subst q3
      subst e
      refine ⟨rfl, ?_⟩
      show (iso w && isoL ws) = true
      rw [q4, q2]
      rfl
theorem oF_own (h : Dn K H U v w A) (ho : oF w = true) : (∃ a, v = .ref a ∧ A = [a]) ∧ iso w = true := by
  cases h with
  | lstO h1 h2 =>
    have ho : (true && List.all _ flatW) = true := ho
    rw [Bool.true_and] at ho
    obtain ⟨rfl, q⟩ := flat_own h2 ho
    exact ⟨⟨_, rfl, rfl⟩, by show (true && isoL _) = true; rw [q]; rfl⟩
  | _ => first | (cases ho; done) | (exact absurd (show (false && _) = true from ho) (by simp))
/-- as io_slot, and all the rest is as it was before the arguments were read -/
theorem io_slotK {x0 : W} {d : List V} {r2 : W × W} {vs : List V} {Bs : List Addr} {i : Nat} (hsp : ∀ vs H Q, spF K φ vs H Q E0 → sp vs H Q E0) (hio : φ.io = true) (S : Stt K H F σ ρ A) (r : Res true K H F A H1 σ ρ1 A1 Bs (fun U => DnAll K H1 U vs ws Bs)) (e0 : ρ[i]? = some (some x0)) (e : ρ1[i]? = some (some x))
    (hds : cWs d = some ds) (hf : φ.f (x :: (frzL ws ++ ds)) = some r2) (hl : (x :: (frzL ws ++ ds)).length = φ.n) (hi : iso r2.1 = true) (h0 : oF x0 = true) (h1 : oF x = true) (h2 : oF r2.2 = true) :
    ∃ vx, σ[i]? = some (some vx) ∧ ∀ Q : VK, (∀ (v : V) (H' : Hp) (A' B : List Addr), Res false K H F A H' σ (ρ.set i (some r2.2)) A' B (fun U => Dn K H' U v r2.1 B) → Q v H') → sp (vx :: (vs ++ d)) H1 Q E0 := by
  obtain ⟨vx, L0, B00, R0, f1, f2, dx0, S0, go⟩ := S.slot e0
  obtain ⟨vx', L, B0, R, e1, e2, dx, nd, nBy, nF, _⟩ := Res.slot S.bas r e
  rw [f1] at e1
  cases e1
  refine ⟨vx, f1, fun Q hq => ?_⟩
  obtain ⟨⟨a, q1, q2⟩, _⟩ := oF_own dx0 h0
  obtain ⟨⟨a', q3, q4⟩, _⟩ := oF_own dx h1
  subst q1 q2 q4
  cases q3
  have S1 := Res.next S.bas r
  have up : ∀ b o, H b = some o → H1 b = some o := fun b o z => r.kp b o (.inl rfl) z
  have inA : ∀ c, c ∈ A1 ↔ c ∈ L ∨ c ∈ [a] ∨ c ∈ R := fun c => by rw [e2]; simp [List.mem_append]
  have ndA := (List.nodup_append.mp r.nd).2.1
  rw [e2] at ndA
  have nLB : ∀ c, c ∈ [a] → c ∈ L ∨ c ∈ R → False := fun c h1 h2 => by
    rcases h2 with h2 | h2
    · exact (List.nodup_append.mp ndA).2.2 c h2 c (List.mem_append_left _ h1) rfl
    · exact (List.nodup_append.mp (List.nodup_append.mp ndA).2.1).2.2 c h1 c h2 rfl
  have sub : ∀ c, (c ∈ [a] ∨ ((c ∈ L ∨ c ∈ R) ∨ F c)) → ((c ∈ Bs ∨ c ∈ A1) ∨ F c) ∧ c ∉ Bs := fun c z => by
    rcases z with z | (z | z) | z
    · exact ⟨.inl (.inr ((inA c).mpr (.inr (.inl z)))), fun h => nBy c h (.inl ((inA c).mpr (.inr (.inl z))))⟩
    · exact ⟨.inl (.inr ((inA c).mpr (.inl z))), fun h => nBy c h (.inl ((inA c).mpr (.inl z)))⟩
    · exact ⟨.inl (.inr ((inA c).mpr (.inr (.inr z)))), fun h => nBy c h (.inl ((inA c).mpr (.inr (.inr z))))⟩
    · exact ⟨.inr z, fun h => nBy c h (.inr z)⟩
  refine hsp _ _ _ ⟨x :: (frzL ws ++ ds), r2, fun c => (c ∈ L ∨ c ∈ R) ∨ F c, [a], hf, hl, ?_, ?_, ?_, fun v H' A' B r' => ?_⟩
  · have h1 := dnAll_len r.ok
    have h2 := dnAll_len (cWs_ok (K := K) (H := H1) (U := fun _ => False) hds)
    rw [List.length_cons, List.length_cons, List.length_append, List.length_append, frzL_len, h1, h2]
  · rw [hio]
    refine ⟨.one (dx.less fun c z => (sub c z).1) .nil (by simp), by simp, fun c hc z => ?_, fun c z => ?_, fun c z xs => ?_⟩
    · rcases z with z | z
      · exact nLB c hc z
      · exact nF c z ((inA c).mpr (.inr (.inl hc)))
    · rcases z with (z | z) | z
      · exact r.reps.dom c ((inA c).mpr (.inl z))
      · exact r.reps.dom c ((inA c).mpr (.inr (.inr z)))
      · exact S1.dm c (.inr z)
    · rcases z with (z | z) | z
      · exact r.reps.notup c ((inA c).mpr (.inl z)) xs
      · exact r.reps.notup c ((inA c).mpr (.inr (.inr z))) xs
      · exact S1.nt c (.inr z) xs
  · rw [hio]
    exact (r.ok.frz sub).app (cWs_ok hds)
  · rw [hio] at r'
    have dw : Dn K H' (fun c => (c ∈ B ∨ c ∈ A') ∨ ((c ∈ L ∨ c ∈ R) ∨ F c)) (.ref a) r2.2 A' := by
      have rp' := r'.reps
      cases rp' with
      | one h1 h2 h3 =>
        cases h2
        rw [List.append_nil] at h3
        subst h3
        exact h1
    have hiw := (oF_own dw h2).2
    have kp : ∀ b o, b ∉ [a] → H b = some o → H' b = some o := fun b o n z => r'.kp b o (.inr n) (up b o z)
    have nd0 := S.nd
    rw [f2] at nd0
    have n0 : ∀ c, c ∈ L0 ∨ c ∈ R0 → c ∉ [a] := fun c z h => by
      rcases z with z | z
      · exact (List.nodup_append.mp nd0).2.2 c z c (List.mem_append_left _ h) rfl
      · exact (List.nodup_append.mp (List.nodup_append.mp nd0).2.1).2.2 c h c z rfl
    have hu : ∀ b, ((b ∈ B ∨ b ∈ A') ∨ ((b ∈ L0 ∨ b ∈ R0) ∨ F b)) → ((b ∈ B ∨ b ∈ A') ∨ ((b ∈ L ∨ b ∈ R) ∨ F b)) ∨ ∀ xs, H' b ≠ some (.tup xs) := fun b z => by
      rcases z with z | z | z
      · exact .inl (.inl z)
      · refine .inr fun xs => ?_
        have hA : b ∈ A := by rw [f2]; simp only [List.mem_append]; exact z.elim .inl fun z => .inr (.inr z)
        obtain ⟨o, eo⟩ := some_of (S.reps.dom b hA)
        rw [kp b o (n0 b z) eo, ← eo]
        exact S.reps.notup b hA xs
      · exact .inl (.inr (.inr z))
    refine hq v H' _ B (go false H' r2.2 A' B _ ⟨r'.ok.iso hu hi, ?_, r'.nd, fun c z => ?_, fun z => (by cases z), fun b o n z => ?_, r'.db, r'.nb⟩)
    · exact .one (dw.iso hu hiw) .nil (by simp)
    · refine (r'.pv c z).imp_right fun h => ?_
      cases eo : H c with
      | none => rfl
      | some o => rw [up c o eo] at h; cases h
    · exact kp b o (n.elim (fun z => by cases z) id) z
/-- a call that changes a temporary -/
theorem io_tmp {d : List V} {r2 : W × W} {vs : List V} {Bx Bs : List Addr} {vx : V} (hsp : ∀ vs H Q, spF K φ vs H Q E0 → sp vs H Q E0) (hio : φ.io = true) (S : Stt K H F σ ρ A) (r : Res p K H F A H1 σ ρ1 A1 (Bx ++ Bs) (fun U => Dn K H1 U vx x Bx ∧ DnAll K H1 U vs ws Bs))
    (hds : cWs d = some ds) (hf : φ.f (x :: (frzL ws ++ ds)) = some r2) (hl : (x :: (frzL ws ++ ds)).length = φ.n) :
    ∀ Q : VK, (∀ (v : V) (H' : Hp) (A' B : List Addr), Res false K H F A H' σ ρ1 A' B (fun U => Dn K H' U v r2.1 B) → Q v H') → sp (vx :: (vs ++ d)) H1 Q E0 := by
  intro Q hq
  have S1 := Res.next S.bas r
  have nB := List.nodup_append.mp (List.nodup_append.mp r.nd).1
  have nBA : ∀ a, a ∈ Bx ++ Bs → a ∈ A1 → False := fun a h1 h2 => (List.nodup_append.mp r.nd).2.2 a h1 a h2 rfl
  have nBF : ∀ a, a ∈ Bx ++ Bs → F a → False := fun a h1 h2 => by
    rcases r.pv a (.inl h1) with h | h
    · exact S.dj a h h2
    · exact S.dm a h2 h
  have sub : ∀ a, (a ∈ Bx ∨ (a ∈ A1 ∨ F a)) → ((a ∈ Bx ++ Bs ∨ a ∈ A1) ∨ F a) ∧ a ∉ Bs := fun a z => by
    rcases z with z | z | z
    · exact ⟨.inl (.inl (List.mem_append_left _ z)), fun h => nB.2.2 a z a h rfl⟩
    · exact ⟨.inl (.inr z), fun h => nBA a (List.mem_append_right _ h) z⟩
    · exact ⟨.inr z, fun h => nBF a (List.mem_append_right _ h) z⟩
  refine hsp _ _ _ ⟨x :: (frzL ws ++ ds), r2, fun a => a ∈ A1 ∨ F a, Bx, hf, hl, ?_, ?_, ?_, fun v H' A' B r' => ?_⟩
  · have h1 := dnAll_len r.ok.2
    have h2 := dnAll_len (cWs_ok (K := K) (H := H1) (U := fun _ => False) hds)
    rw [List.length_cons, List.length_cons, List.length_append, List.length_append, frzL_len, h1, h2]
  · rw [hio]
    refine ⟨.one (r.ok.1.less fun a z => (sub a z).1) .nil (by simp), nB.1, fun a ha z => ?_, fun a z => ?_, fun a z xs => ?_⟩
    · rcases z with z | z
      · exact nBA a (List.mem_append_left _ ha) z
      · exact nBF a (List.mem_append_left _ ha) z
    · rcases z with z | z
      · exact r.reps.dom a z
      · exact S1.dm a (.inr z)
    · rcases z with z | z
      · exact r.reps.notup a z xs
      · exact S1.nt a (.inr z) xs
  · rw [hio]
    exact (r.ok.2.frz sub).app (cWs_ok hds)
  · rw [hio] at r'
    have st : Stp H1 H' (fun a => (a ∈ Bx ++ Bs ∨ a ∈ A1) ∨ F a) (fun a => (a ∈ B ∨ a ∈ A1) ∨ F a) (fun a => a ∈ Bx) := by
      refine ⟨fun b o n e => r'.kp b o (.inr n) e, fun b m => .inl (.inl (List.mem_append_left _ m)), fun b z => ?_⟩
      rcases z with (z | z) | z
      · exact (r'.pv b (.inl z)).imp_left fun h => .inl (.inl (List.mem_append_left _ h))
      · exact .inl (.inl (.inr z))
      · exact .inl (.inr z)
    refine hq v H' A1 B ⟨?_, r.reps.step st fun a ha m => nBA a (List.mem_append_left _ m) ha, ?_, fun a h => ?_, fun h => (by cases h), fun b o h e => ?_, r'.db, r'.nb⟩
    · refine r'.ok.less fun b z => ?_
      rcases z with (z | z) | z
      · exact .inl (.inl z)
      · exact .inr (.inl z)
      · exact .inr (.inr z)
    · refine List.nodup_append.mpr ⟨(List.nodup_append.mp r'.nd).1, (List.nodup_append.mp r.nd).2.1, fun a ha b hb e => ?_⟩
      subst e
      rcases r'.pv a (.inl ha) with h | h
      · exact nBA a (List.mem_append_left _ h) hb
      · exact r.reps.dom a hb h
    · rcases h with h | h
      · rcases r'.pv a (.inl h) with h | h
        · exact r.pv a (.inl (List.mem_append_left _ h))
        · exact r.was h
      · exact r.pv a (.inr h)
    · have hA := h.resolve_left (by simp)
      refine r'.kp b o (.inr fun z => ?_) (r.kp b o (.inr hA) e)
      exact (r.pv b (.inl (List.mem_append_left _ z))).elim hA fun z => by rw [z] at e; cases e
end
end Ev

set_option Elab.async false
set_option linter.all false
set_option maxRecDepth 100000
set_option maxHeartbeats 4000000
/-! Comprehensions on data. -/
namespace Ev
open PySem PySem.Spec PyProof.Rows L2
section
variable {K : PySem.W.Frag} {H H1 H2 : Hp} {F U : US} {σ σ' σ1 σ2 : L2.St} {ρ ρ' ρ1 ρ2 : Rho} {A A1 A2 A' B B0 B1 B2 C : List Addr} {p q : Bool} {w x y z c : W} {ws ds ys : List W} {v : V}
/-- what the parts of a comprehension do; vs: its own slots -/
structure LcP (pt pc pe : Bool) (K : PySem.W.Frag) (vs : List Nat) (t : W → Rho → Option Rho) (c : Rho → Option (Bool × Rho)) (e : Rho → Option (W × Rho)) (g : TG) (tt : TT) (te : TE) : Prop where
  tg : ∀ {w : W} {ρ ρ' : Rho}, t w ρ = some ρ' → ∀ {H F σ A v B}, Held K H F σ ρ A B (fun U => Dn K H U v w B) → ∀ Q : L2.St → Hp → Prop, (∀ σ' H' A', Res pt K H F (B ++ A) H' σ' ρ' A' [] (fun _ => True) → L2.wipe σ' vs = L2.wipe σ vs → Q σ' H') → g v σ H Q
  cd : ∀ {ρ ρ' : Rho} {b : Bool}, c ρ = some (b, ρ') → ∀ {H F σ A}, Stt K H F σ ρ A → SndB pc K H F σ A b ρ' (tt σ H)
  el : ∀ {ρ ρ' : Rho} {w : W}, e ρ = some (w, ρ') → ∀ {H F σ A}, Stt K H F σ ρ A → SndE pe K H F σ A w ρ' (te σ H)
theorem wipe_idem (σ : L2.St) (vs : List Nat) : L2.wipe (L2.wipe σ vs) vs = L2.wipe σ vs := by
  apply List.ext_getElem?
  intro j
  by_cases hj : j ∈ vs
  · by_cases hl : j < σ.length
    · rw [wipe_in hj (by rw [wipe_length]; exact hl), wipe_in hj hl]
    · rw [List.getElem?_eq_none (by rw [wipe_length, wipe_length]; omega), List.getElem?_eq_none (by rw [wipe_length]; omega)]
  · rw [wipe_out hj]
/-- the state within the loop: D the list so far -/
theorem Res.wipe {P : US → Prop} {vs : List Nat} (r : Res p K H F A H1 σ1 ρ1 A1 B P) (hP : ∀ U' : US, (∀ a, U' a → (a ∈ B ∨ a ∈ A1) ∨ F a) → P (fun a => (a ∈ B ∨ a ∈ A1) ∨ F a) → P U') : ∃ A2, Res p K H F A H1 (L2.wipe σ1 vs) (wipeR ρ1 vs) A2 B P := by
  obtain ⟨A2, s, h⟩ := r.reps.wipe vs
  have hs : ∀ a, ((a ∈ B ∨ a ∈ A2) ∨ F a) → ((a ∈ B ∨ a ∈ A1) ∨ F a) := fun a z => z.imp_left fun z => z.imp_right fun z => s.subset z
  exact ⟨A2, hP _ hs r.ok, h.less hs, r.nd.sublist (s.append_left B), fun a z => r.pv a (z.imp_right fun z => s.subset z), r.fr, r.kp, r.db, r.nb⟩
theorem Held.of_val (S : Stt K H F σ ρ A) (h : Dn K H (fun a => a ∈ A ∨ F a) v w []) : Held K H F σ ρ A [] (fun U => Dn K H U v w []) := by
  refine ⟨?_, ?_, List.nodup_nil, fun a z => absurd z (by simp)⟩
  · rw [F_nil]; exact S
  · rw [U_nil]; exact h
/-- the loop of [..] -/
theorem lc_loop {pt pc pe pi : Bool} {vs : List Nat} {t : W → Rho → Option Rho} {c : Rho → Option (Bool × Rho)} {e : Rho → Option (W × Rho)} {g : TG} {tt : TT} {te : TE} (L : LcP pt pc pe K vs t c e g tt te) {J : It} {G : Hp → US → Prop} (hJ : ItD K J ws G)
    (S : Stt K H F σ ρ A) (r1 : Res pi K H F A H1 σ ρ1 A1 [] (fun U => G H1 U)) (hgo : lcGo vs t c e ws ρ1 = some (ys, ρ2)) (hlim : ws.length ≤ lim) (Q : VK)
    (hq : ∀ (v : V) (H' : Hp) (A' B : List Addr), Res (pi && (pt && (pc && pe))) K H F A H' σ (wipeR ρ2 vs) A' B (fun U => Dn K H' U v (.lst true ys) B) → Q v H') :
    ∀ D, H1 D = none → ∃ W : Nat → Nat → Hp → Prop, (∃ m, W 0 m (upd H1 D (.lst []))) ∧ ∀ i m H, W i m H →
      (J.stop i H ∧ Q (.ref D) H) ∨ (J.go i H ∧ ∃ Nx : Hp → Prop, (∀ H', Nx H' → ∃ m', m' < m ∧ W (i + 1) m' H') ∧ ∀ x H', J.yld i H x H' → g x (L2.wipe σ vs) H' fun σ2 H2 => L2.wipe σ2 vs = L2.wipe σ vs ∧ tt σ2 H2 fun b H3 =>
        if b = true then te σ2 H3 fun y H4 => ∃ acc, H4 D = some (.lst acc) ∧ acc.length < sizeLine ∧ Nx (upd H4 D (.lst (acc ++ [y]))) else Nx H3) := by
  intro D hD
  let pp := pi && (pt && (pc && pe))
  -- the invariant
  let Iv : Nat → Hp → Prop := fun i H' => ∃ (ρi : Rho) (A' Ba : List Addr) (acc : List V) (aw rest : List W), Res pp K H F A H' (L2.wipe σ vs) (wipeR ρi vs) A' (D :: Ba) (fun U => H' D = some (.lst acc) ∧ DnAll K H' U acc aw Ba ∧ G H' U) ∧ i ≤ ws.length ∧ aw.length ≤ i ∧
    lcGo vs t c e (ws.drop i) ρi = some (rest, ρ2) ∧ ys = aw ++ rest
  refine ⟨fun i m H' => m = ws.length - i ∧ Iv i H', ⟨ws.length, by simp, ρ1, ?_⟩, ?_⟩
  · -- the start
    obtain ⟨A2, rw1⟩ := Res.wipe (vs := vs) r1 fun U' hU h => hJ.stp _ _ _ _ (fun _ => False) ⟨fun _ _ _ e => e, fun _ z => z.elim, fun b z => .inl (hU b z)⟩ h
    refine ⟨A2, [], [], [], ys, ?_, Nat.zero_le _, Nat.le_refl _, by simpa using hgo, by simp⟩
    have g2 := (rw1.grow (P := fun U => upd H1 D (.lst []) D = some (.lst []) ∧ DnAll K (upd H1 D (.lst [])) U [] [] [] ∧ G (upd H1 D (.lst [])) U) (H2 := upd H1 D (.lst [])) (C := [D]) (same_upd hD) (fun c h => .inl (by rw [List.mem_singleton.mp h]; exact hD)) (List.pairwise_singleton _ D)
      (fun c h => by rw [List.mem_singleton.mp h, upd_same]; simp) (fun c h xs => by rw [List.mem_singleton.mp h, upd_same]; simp) ⟨upd_same, .nil, hJ.stp _ _ _ _ (fun _ => False) ⟨fun b o _ e => same_upd hD b o e, fun _ z => z.elim, fun b z => ?_⟩ rw1.ok⟩)
    · exact g2.weak fun h => by
        simp only [pp, Bool.and_eq_true] at h
        exact h.1
    · rcases z with (z | z) | z
      · exact .inr (by rw [List.mem_singleton.mp z]; exact hD)
      · exact .inl (.inl (.inr z))
      · exact .inl (.inr z)
  · rintro i m H' ⟨rfl, ρi, A', Ba, acc, aw, rest, r, hi, hai, hg, hys⟩
    obtain ⟨hDa, hacc, hG⟩ := r.ok
    by_cases hlt : i < ws.length
    · right
      refine ⟨hJ.go i H' _ hlt hG, Iv (i + 1), fun H2 h => ⟨_, by omega, rfl, h⟩, fun x H2 hy => ?_⟩
      have hw : ws[i]? = some ws[i] := List.getElem?_eq_getElem hlt
      have hdrop : ws.drop i = ws[i] :: ws.drop (i + 1) := List.drop_eq_getElem_cons hlt
      rw [hdrop] at hg
      unfold lcGo at hg
      split at hg
      · rename_i ρa ha
        obtain ⟨hs2, hx⟩ := hJ.yld i H' _ x H2 _ hw hG hy
        have Sn := Res.next S.bas r
        -- the item, held by nobody
        have r2 := r.grow (P := fun U => H2 D = some (.lst acc) ∧ DnAll K H2 U acc aw Ba ∧ G H2 U) hs2 (C := D :: Ba) (fun c h => .inr h) (List.nodup_append.mp r.nd).1 (fun c h => by
            obtain ⟨o, e⟩ := some_of (r.db c h)
            rw [hs2 c o e]; simp) (fun c h xs => by
            obtain ⟨o, e⟩ := some_of (r.db c h)
            rw [hs2 c o e, ← e]; exact r.nb c h xs)
          ⟨hs2 _ _ hDa, hacc.step (M := fun _ => False) ⟨fun b o _ e => hs2 b o e, fun _ z => z.elim, fun b z => .inl z⟩ fun _ _ z => z, hJ.stp _ _ _ _ (fun _ => False) ⟨fun b o _ e => hs2 b o e, fun _ z => z.elim, fun b z => .inl z⟩ hG⟩
        have S2 := Res.next S.bas r2
        have hxv : Dn K H2 (fun a => a ∈ A' ∨ (a ∈ D :: Ba ∨ F a)) x ws[i] [] := hx _ fun a z => by
          rcases z with z | z | z
          · exact ⟨.inl (.inr z), Sn.reps.dom a z, Sn.reps.notup a z⟩
          · exact ⟨.inl (.inl z), r.db a z, r.nb a z⟩
          · exact ⟨.inr z, Sn.dm a (.inr z), Sn.nt a (.inr z)⟩
        refine L.tg ha (Held.of_val S2 hxv) _ fun σ3 H3 A3 r3 hwp => ?_
        rw [wipe_idem] at hwp
        refine ⟨hwp, ?_⟩
        have r3' : Res pt K H2 (fun a => a ∈ D :: Ba ∨ F a) A' H3 σ3 ρa A3 [] (fun _ => True) := r3
        have S3 : Stt K H3 (fun a => a ∈ D :: Ba ∨ F a) σ3 ρa A3 := by
          have := Res.next S2.bas r3'
          rw [F_nil] at this
          exact this
        split at hg
        · rename_i b ρb hb
          refine L.cd hb S3 _ fun H4 A4 r4 => ?_
          have S4 : Stt K H4 (fun a => a ∈ D :: Ba ∨ F a) σ3 ρb A4 := by
            have := Res.next S3.bas r4
            rw [F_nil] at this
            exact this
          have r34 : Res (pt && pc) K H2 (fun a => a ∈ D :: Ba ∨ F a) A' H4 σ3 ρb A4 [] (fun _ => True) := by
            have r4' : Res pc K H3 (fun a => a ∈ ([] : List Addr) ∨ (a ∈ D :: Ba ∨ F a)) A3 H4 σ3 ρb A4 [] (fun _ => True) := by
              rw [F_nil]; exact r4
            exact Res.seq S2 r3' r4' fun _ _ => trivial
          split at hg
          · rw [if_pos rfl]
            split at hg
            · rename_i y ρc hc
              split at hg
              · rename_i ys' ρd hd
                cases hg
                refine L.el hc S4 _ fun vy H5 A5 By r5 => ?_
                have r345 : Res ((pt && pc) && pe) K H2 (fun a => a ∈ D :: Ba ∨ F a) A' H5 σ3 ρc A5 By (fun U => Dn K H5 U vy y By) := by
                  have r5' : Res pe K H4 (fun a => a ∈ ([] : List Addr) ∨ (a ∈ D :: Ba ∨ F a)) A4 H5 σ3 ρc A5 By (fun U => Dn K H5 U vy y By) := by
                    rw [F_nil]; exact r5
                  exact Res.seq S2 r34 r5' fun _ d => d
                have rall := Res.seq (P := fun U => H5 D = some (.lst acc) ∧ DnAll K H5 U acc aw Ba ∧ G H5 U ∧ Dn K H5 U vy y By) S r2 r345 fun s d => ⟨?_, ?_, hJ.stp _ _ _ _ _ s r2.ok.2.2, d⟩
                rotate_left
                · exact s.keep _ _ (fun h => S2.dj D h (.inl (List.mem_cons_self ..))) r2.ok.1
                · exact r2.ok.2.1.step s fun a ha h => S2.dj a h (.inl (List.mem_cons_of_mem _ ha))
                obtain ⟨q1, q2, q3, q4⟩ := rall.ok
                refine ⟨acc, q1, ?_, ?_⟩
                · rw [dnAll_len q2, sizeLine_eq]
                  have := lim_val
                  omega
                · obtain ⟨A6, rw6⟩ := Res.wipe (vs := vs) rall fun U' hU h => ⟨h.1, h.2.1.less hU, hJ.stp _ _ _ _ (fun _ => False) ⟨fun _ _ _ e => e, fun _ z => z.elim, fun b z => .inl (hU b z)⟩ h.2.2.1, h.2.2.2.less hU⟩
                  rw [hwp] at rw6
                  obtain ⟨_, w2, w3, w4⟩ := rw6.ok
                  have nD : D ∉ Ba ++ By := (List.nodup_cons.mp (by have := (List.nodup_append.mp rw6.nd).1; rwa [List.cons_append] at this)).1
                  have nDA : D ∉ A6 := fun h => (List.nodup_append.mp rw6.nd).2.2 D (by simp) D h rfl
                  have st : ∀ {U : US}, U D → Stp H5 (upd H5 D (.lst (acc ++ [vy]))) U U (fun b => b = D) := fun hU => stp_at hU fun b z => z
                  refine ⟨ρc, A6, Ba ++ By, acc ++ [vy], aw ++ [y], ys', ?_, by omega, by rw [List.length_append]; simp; omega, hd, by rw [hys, List.append_assoc]; rfl⟩
                  have uD : (fun a => (a ∈ (D :: Ba) ++ By ∨ a ∈ A6) ∨ F a) D := .inl (.inl (by simp))
                  refine ⟨⟨upd_same, (w2.app (.cons w4 .nil (List.append_nil _).symm)).step (st uD) fun a ha h => nD (by rw [← h]; exact ha), hJ.stp _ _ _ _ _ (st uD) w3⟩, rw6.reps.step (st uD) fun a ha h => nDA (by rw [← h]; exact ha), rw6.nd, rw6.pv, fun h a ha => ?_, fun b o h e => ?_, fun a ha => ?_, fun a ha xs => ?_⟩
                  · refine rw6.fr ?_ a ha
                    simp only [pp, Bool.and_eq_true] at h ⊢
                    exact ⟨h, ⟨h.2.1, h.2.2.1⟩, h.2.2.2⟩
                  · have hb : b ≠ D := fun z => by
                      subst z
                      rcases r.pv b (.inl (List.mem_cons_self ..)) with h2 | h2
                      · rcases h with h | h
                        · have := r.fr h b (List.mem_cons_self ..)
                          rw [this] at e; cases e
                        · exact h h2
                      · rw [h2] at e; cases e
                    rw [upd_ne hb]
                    refine rw6.kp b o (h.imp_left fun h => ?_) e
                    simp only [pp, Bool.and_eq_true] at h ⊢
                    exact ⟨h, ⟨h.2.1, h.2.2.1⟩, h.2.2.2⟩
                  · by_cases hb : a = D
                    · rw [hb, upd_same]; simp
                    · rw [upd_ne hb]; exact rw6.db a ha
                  · by_cases hb : a = D
                    · rw [hb, upd_same]; simp
                    · rw [upd_ne hb]; exact rw6.nb a ha xs
              · cases hg
            · cases hg
          · rw [if_neg (by decide)]
            have rall := Res.seq (P := fun U => H4 D = some (.lst acc) ∧ DnAll K H4 U acc aw Ba ∧ G H4 U) S r2 r34 fun s d => ⟨?_, ?_, hJ.stp _ _ _ _ _ s r2.ok.2.2⟩
            rotate_left
            · exact s.keep _ _ (fun h => S2.dj D h (.inl (List.mem_cons_self ..))) r2.ok.1
            · exact r2.ok.2.1.step s fun a ha h => S2.dj a h (.inl (List.mem_cons_of_mem _ ha))
            rw [List.append_nil] at rall
            obtain ⟨A6, rw6⟩ := Res.wipe (vs := vs) rall fun U' hU h => ⟨h.1, h.2.1.less hU, hJ.stp _ _ _ _ (fun _ => False) ⟨fun _ _ _ e => e, fun _ z => z.elim, fun b z => .inl (hU b z)⟩ h.2.2⟩
            rw [hwp] at rw6
            refine ⟨ρb, A6, Ba, acc, aw, rest, rw6.weak fun h => ?_, by omega, by omega, hg, hys⟩
            simp only [pp, Bool.and_eq_true] at h ⊢
            exact ⟨h, h.2.1, h.2.2.1⟩
        · cases hg
      · cases hg
    · left
      have hi' : i = ws.length := by omega
      subst hi'
      refine ⟨hJ.stop H' _ hG, ?_⟩
      rw [List.drop_length] at hg
      unfold lcGo at hg
      cases hg
      rw [List.append_nil] at hys
      subst hys
      refine hq _ H' A' (D :: Ba) ⟨.lstO hDa hacc, r.reps.unwipe, r.nd, r.pv, r.fr, r.kp, r.db, r.nb⟩
end
end Ev

set_option Elab.async false
set_option linter.all false
set_option maxRecDepth 100000
set_option maxHeartbeats 4000000
/-! Dict comprehensions on data. -/
namespace Ev
open PySem PySem.Spec PyProof.Rows L2
section
variable {K : PySem.W.Frag} {H H1 H2 : Hp} {F U : US} {σ σ' σ1 σ2 : L2.St} {ρ ρ' ρ1 ρ2 : Rho} {A A1 A2 A' B B0 B1 B2 C : List Addr} {p q : Bool} {w x y z c : W} {ws ds ys : List W} {v : V}
theorem keyW_nil {k : W} {key : Key} {vk : V} {Bk : List Addr} (h : keyW k = some key) (hk : Dn K H U vk k Bk) : Bk = [] := val_nil hk (by unfold keyW at h; split at h <;> first | rfl | cases h)
theorem dc_loop {pt pc pk pe pi : Bool} {vs : List Nat} {t : W → Rho → Option Rho} {c : Rho → Option (Bool × Rho)} {k e : Rho → Option (W × Rho)} {g : TG} {tt : TT} {tk te : TE} {yk : List Key} (L : LcP pt pc pe K vs t c e g tt te) (Lk : LcP pt pc pk K vs t c k g tt tk) {J : It} {G : Hp → US → Prop} (hJ : ItD K J ws G)
    (S : Stt K H F σ ρ A) (r1 : Res pi K H F A H1 σ ρ1 A1 [] (fun U => G H1 U)) (hgo : dcGo vs t c k e ws ρ1 [] [] = some (yk, ys, ρ2)) (Q : VK)
    (hq : ∀ (v : V) (H' : Hp) (A' B : List Addr), Res (pi && (pt && (pc && (pk && pe)))) K H F A H' σ (wipeR ρ2 vs) A' B (fun U => Dn K H' U v (.dK true yk ys) B) → Q v H') :
    ∀ D, H1 D = none → ∃ W : Nat → Nat → Hp → Prop, (∃ m, W 0 m (upd H1 D (.dK []))) ∧ ∀ i m H, W i m H →
      (J.stop i H ∧ Q (.ref D) H) ∨ (J.go i H ∧ ∃ Nx : Hp → Prop, (∀ H', Nx H' → ∃ m', m' < m ∧ W (i + 1) m' H') ∧ ∀ x H', J.yld i H x H' → g x (L2.wipe σ vs) H' fun σ2 H2 => L2.wipe σ2 vs = L2.wipe σ vs ∧ tt σ2 H2 fun b H3 =>
        if b = true then tk σ2 H3 fun y H4 => te σ2 H4 fun z H5 => ∃ kvs k, y = kV k ∧ H5 D = some (.dK kvs) ∧ kvs.length < sizeLine ∧ Nx (upd H5 D (.dK (putK kvs k z))) else Nx H3) := by
  intro D hD
  let pp := pi && (pt && (pc && (pk && pe)))
  let Iv : Nat → Hp → Prop := fun i H' => ∃ (ρi : Rho) (A' Ba : List Addr) (acc : List (Key × V)) (ak : List Key) (aw : List W), Res pp K H F A H' (L2.wipe σ vs) (wipeR ρi vs) A' (D :: Ba) (fun U => H' D = some (.dK acc) ∧ (acc.map (·.1) = ak ∧ ak.Nodup) ∧ DnAll K H' U (acc.map (·.2)) aw Ba ∧ G H' U) ∧ i ≤ ws.length ∧
    dcGo vs t c k e (ws.drop i) ρi ak aw = some (yk, ys, ρ2)
  refine ⟨fun i m H' => m = ws.length - i ∧ Iv i H', ⟨ws.length, by simp, ρ1, ?_⟩, ?_⟩
  · obtain ⟨A2, rw1⟩ := Res.wipe (vs := vs) r1 fun U' hU h => hJ.stp _ _ _ _ (fun _ => False) ⟨fun _ _ _ e => e, fun _ z => z.elim, fun b z => .inl (hU b z)⟩ h
    refine ⟨A2, [], [], [], [], ?_, Nat.zero_le _, by simpa using hgo⟩
    have g2 := (rw1.grow (P := fun U => upd H1 D (.dK []) D = some (.dK []) ∧ (([] : List (Key × V)).map (·.1) = [] ∧ ([] : List Key).Nodup) ∧ DnAll K (upd H1 D (.dK [])) U (([] : List (Key × V)).map (·.2)) [] [] ∧ G (upd H1 D (.dK [])) U) (H2 := upd H1 D (.dK [])) (C := [D]) (same_upd hD) (fun c h => .inl (by rw [List.mem_singleton.mp h]; exact hD)) (List.pairwise_singleton _ D)
      (fun c h => by rw [List.mem_singleton.mp h, upd_same]; simp) (fun c h xs => by rw [List.mem_singleton.mp h, upd_same]; simp) ⟨upd_same, ⟨rfl, List.nodup_nil⟩, .nil, hJ.stp _ _ _ _ (fun _ => False) ⟨fun b o _ e => same_upd hD b o e, fun _ z => z.elim, fun b z => ?_⟩ rw1.ok⟩)
    · exact g2.weak fun h => by
        simp only [pp, Bool.and_eq_true] at h
        exact h.1
    · rcases z with (z | z) | z
      · exact .inr (by rw [List.mem_singleton.mp z]; exact hD)
      · exact .inl (.inl (.inr z))
      · exact .inl (.inr z)
  · rintro i m H' ⟨rfl, ρi, A', Ba, acc, ak, aw, r, hi, hg⟩
    obtain ⟨hDa, hkk, hacc, hG⟩ := r.ok
    by_cases hlt : i < ws.length
    · right
      refine ⟨hJ.go i H' _ hlt hG, Iv (i + 1), fun H2 h => ⟨_, by omega, rfl, h⟩, fun x H2 hy => ?_⟩
      have hw : ws[i]? = some ws[i] := List.getElem?_eq_getElem hlt
      have hdrop : ws.drop i = ws[i] :: ws.drop (i + 1) := List.drop_eq_getElem_cons hlt
      rw [hdrop] at hg
      unfold dcGo at hg
      split at hg
      · rename_i ρa ha
        obtain ⟨hs2, hx⟩ := hJ.yld i H' _ x H2 _ hw hG hy
        have Sn := Res.next S.bas r
        have r2 := r.grow (P := fun U => H2 D = some (.dK acc) ∧ DnAll K H2 U (acc.map (·.2)) aw Ba ∧ G H2 U) hs2 (C := D :: Ba) (fun c h => .inr h) (List.nodup_append.mp r.nd).1 (fun c h => by
            obtain ⟨o, e⟩ := some_of (r.db c h)
            rw [hs2 c o e]; simp) (fun c h xs => by
            obtain ⟨o, e⟩ := some_of (r.db c h)
            rw [hs2 c o e, ← e]; exact r.nb c h xs)
          ⟨hs2 _ _ hDa, hacc.step (M := fun _ => False) ⟨fun b o _ e => hs2 b o e, fun _ z => z.elim, fun b z => .inl z⟩ fun _ _ z => z, hJ.stp _ _ _ _ (fun _ => False) ⟨fun b o _ e => hs2 b o e, fun _ z => z.elim, fun b z => .inl z⟩ hG⟩
        have S2 := Res.next S.bas r2
        have hxv : Dn K H2 (fun a => a ∈ A' ∨ (a ∈ D :: Ba ∨ F a)) x ws[i] [] := hx _ fun a z => by
          rcases z with z | z | z
          · exact ⟨.inl (.inr z), Sn.reps.dom a z, Sn.reps.notup a z⟩
          · exact ⟨.inl (.inl z), r.db a z, r.nb a z⟩
          · exact ⟨.inr z, Sn.dm a (.inr z), Sn.nt a (.inr z)⟩
        refine L.tg ha (Held.of_val S2 hxv) _ fun σ3 H3 A3 r3 hwp => ?_
        rw [wipe_idem] at hwp
        refine ⟨hwp, ?_⟩
        have r3' : Res pt K H2 (fun a => a ∈ D :: Ba ∨ F a) A' H3 σ3 ρa A3 [] (fun _ => True) := r3
        have S3 : Stt K H3 (fun a => a ∈ D :: Ba ∨ F a) σ3 ρa A3 := by
          have := Res.next S2.bas r3'
          rw [F_nil] at this
          exact this
        split at hg
        · rename_i b ρb hb
          refine L.cd hb S3 _ fun H4 A4 r4 => ?_
          have S4 : Stt K H4 (fun a => a ∈ D :: Ba ∨ F a) σ3 ρb A4 := by
            have := Res.next S3.bas r4
            rw [F_nil] at this
            exact this
          have r34 : Res (pt && pc) K H2 (fun a => a ∈ D :: Ba ∨ F a) A' H4 σ3 ρb A4 [] (fun _ => True) := by
            have r4' : Res pc K H3 (fun a => a ∈ ([] : List Addr) ∨ (a ∈ D :: Ba ∨ F a)) A3 H4 σ3 ρb A4 [] (fun _ => True) := by
              rw [F_nil]; exact r4
            exact Res.seq S2 r3' r4' fun _ _ => trivial
          split at hg
          · rw [if_pos rfl]
            split at hg
            · rename_i kw ρk hk
              split at hg
              · rename_i key hkey
                split at hg
                · rename_i y ρc hc
                  split at hg
                  · rename_i hl
                    refine Lk.el hk S4 _ fun vk Hk Ak Bk rk => ?_
                    have zBk := keyW_nil hkey rk.ok
                    subst zBk
                    have ek := key_ok hkey rk.ok
                    have Sk : Stt K Hk (fun a => a ∈ D :: Ba ∨ F a) σ3 ρk Ak := by
                      have := Res.next S4.bas rk
                      rw [F_nil] at this
                      exact this
                    have r4k : Res ((pt && pc) && pk) K H2 (fun a => a ∈ D :: Ba ∨ F a) A' Hk σ3 ρk Ak [] (fun _ => True) := by
                      have rk' : Res pk K H4 (fun a => a ∈ ([] : List Addr) ∨ (a ∈ D :: Ba ∨ F a)) A4 Hk σ3 ρk Ak [] (fun _ => True) := by
                        rw [F_nil]; exact rk.imp fun _ => trivial
                      exact Res.seq S2 r34 rk' fun _ _ => trivial
                    refine L.el hc Sk _ fun vy H5 A5 By r5 => ?_
                    have r345 : Res (((pt && pc) && pk) && pe) K H2 (fun a => a ∈ D :: Ba ∨ F a) A' H5 σ3 ρc A5 By (fun U => Dn K H5 U vy y By) := by
                      have r5' : Res pe K Hk (fun a => a ∈ ([] : List Addr) ∨ (a ∈ D :: Ba ∨ F a)) Ak H5 σ3 ρc A5 By (fun U => Dn K H5 U vy y By) := by
                        rw [F_nil]; exact r5
                      exact Res.seq S2 r4k r5' fun _ d => d
                    have rall := Res.seq (P := fun U => H5 D = some (.dK acc) ∧ DnAll K H5 U (acc.map (·.2)) aw Ba ∧ G H5 U ∧ Dn K H5 U vy y By) S r2 r345 fun s d => ⟨?_, ?_, hJ.stp _ _ _ _ _ s r2.ok.2.2, d⟩
                    rotate_left
                    · exact s.keep _ _ (fun h => S2.dj D h (.inl (List.mem_cons_self ..))) r2.ok.1
                    · exact r2.ok.2.1.step s fun a ha h => S2.dj a h (.inl (List.mem_cons_of_mem _ ha))
                    obtain ⟨q1, q2, q3, q4⟩ := rall.ok
                    have hlk : acc.length < sizeLine := by
                      have := congrArg List.length hkk.1
                      rw [List.length_map] at this
                      rw [this]
                      exact Nat.lt_of_lt_of_le hl lim_line
                    refine ⟨acc, key, ek, q1, hlk, ?_⟩
                    obtain ⟨A6, rw6⟩ := Res.wipe (vs := vs) rall fun U' hU h => ⟨h.1, h.2.1.less hU, hJ.stp _ _ _ _ (fun _ => False) ⟨fun _ _ _ e => e, fun _ z => z.elim, fun b z => .inl (hU b z)⟩ h.2.2.1, h.2.2.2.less hU⟩
                    rw [hwp] at rw6
                    obtain ⟨_, w2, w3, w4⟩ := rw6.ok
                    have nd6 := (List.nodup_append.mp rw6.nd).1
                    rw [List.cons_append, List.nodup_cons] at nd6
                    obtain ⟨rfl, hn⟩ := hkk
                    have hlen : acc.length = aw.length := by
                      have := dnAll_len w2
                      rwa [List.length_map] at this
                    obtain ⟨k1, k2, _⟩ := putK_keys (v := vy) (key := key) (w := y) hlen hn
                    obtain ⟨Bn, d', n', s'⟩ := put_ok w4 (key := key) w2 hn nd6.2
                    have sBn : ∀ a ∈ Bn, a ∈ Ba ++ By := fun a h => List.mem_append.mpr (s' a h)
                    have nD : D ∉ Bn := fun h => nd6.1 (sBn D h)
                    have nDA : D ∉ A6 := fun h => (List.nodup_append.mp rw6.nd).2.2 D (by simp) D h rfl
                    have sub : ∀ a, a ∈ D :: Bn → a ∈ (D :: Ba) ++ By := fun a h => by
                      rcases List.mem_cons.mp h with rfl | h
                      · simp
                      · rw [List.cons_append]; exact List.mem_cons_of_mem _ (sBn a h)
                    have st : Stp H5 (upd H5 D (.dK (putK acc key vy))) (fun a => (a ∈ (D :: Ba) ++ By ∨ a ∈ A6) ∨ F a) (fun a => (a ∈ D :: Bn ∨ a ∈ A6) ∨ F a) (fun b => b = D) :=
                      stp_at (.inl (.inl (by simp))) fun b z => z.imp_left fun z => z.imp_left (sub b)
                    refine ⟨ρc, A6, Bn, putK acc key vy, _, _, ?_, by omega, hg⟩
                    refine ⟨⟨upd_same, ⟨k1, by rw [← k1]; exact k2⟩, d'.step st fun a ha h => nD (by rw [← h]; exact ha), hJ.stp _ _ _ _ _ st w3⟩, rw6.reps.step st fun a ha h => nDA (by rw [← h]; exact ha), ?_, fun a z => rw6.pv a (z.imp_left (sub a)), fun h a ha => ?_, fun b o h e => ?_, fun a ha => ?_, fun a ha xs => ?_⟩
                    · rw [List.cons_append, List.nodup_cons]
                      refine ⟨fun h => (List.mem_append.mp h).elim nD nDA, List.nodup_append.mpr ⟨n', (List.nodup_append.mp rw6.nd).2.1, fun a ha b hb e => ?_⟩⟩
                      subst e
                      exact (List.nodup_append.mp rw6.nd).2.2 a (sub a (List.mem_cons_of_mem _ ha)) a hb rfl
                    · refine rw6.fr ?_ a (sub a ha)
                      simp only [pp, Bool.and_eq_true] at h ⊢
                      exact ⟨h, ⟨⟨h.2.1, h.2.2.1⟩, h.2.2.2.1⟩, h.2.2.2.2⟩
                    · have hb : b ≠ D := fun z => by
                        subst z
                        rcases r.pv b (.inl (List.mem_cons_self ..)) with h2 | h2
                        · rcases h with h | h
                          · have := r.fr h b (List.mem_cons_self ..)
                            rw [this] at e; cases e
                          · exact h h2
                        · rw [h2] at e; cases e
                      rw [upd_ne hb]
                      refine rw6.kp b o (h.imp_left fun h => ?_) e
                      simp only [pp, Bool.and_eq_true] at h ⊢
                      exact ⟨h, ⟨⟨h.2.1, h.2.2.1⟩, h.2.2.2.1⟩, h.2.2.2.2⟩
                    · by_cases hb : a = D
                      · rw [hb, upd_same]; simp
                      · rw [upd_ne hb]; exact rw6.db a (sub a ha)
                    · by_cases hb : a = D
                      · rw [hb, upd_same]; simp
                      · rw [upd_ne hb]; exact rw6.nb a (sub a ha) xs
                  · cases hg
                · cases hg
              · cases hg
            · cases hg
          · rw [if_neg (by decide)]
            have rall := Res.seq (P := fun U => H4 D = some (.dK acc) ∧ (acc.map (·.1) = ak ∧ ak.Nodup) ∧ DnAll K H4 U (acc.map (·.2)) aw Ba ∧ G H4 U) S r2 r34 fun s d => ⟨?_, hkk, ?_, hJ.stp _ _ _ _ _ s r2.ok.2.2⟩
            rotate_left
            · exact s.keep _ _ (fun h => S2.dj D h (.inl (List.mem_cons_self ..))) r2.ok.1
            · exact r2.ok.2.1.step s fun a ha h => S2.dj a h (.inl (List.mem_cons_of_mem _ ha))
            rw [List.append_nil] at rall
            obtain ⟨A6, rw6⟩ := Res.wipe (vs := vs) rall fun U' hU h => ⟨h.1, h.2.1, h.2.2.1.less hU, hJ.stp _ _ _ _ (fun _ => False) ⟨fun _ _ _ e => e, fun _ z => z.elim, fun b z => .inl (hU b z)⟩ h.2.2.2⟩
            rw [hwp] at rw6
            refine ⟨ρb, A6, Ba, acc, ak, aw, rw6.weak fun h => ?_, by omega, hg⟩
            simp only [pp, Bool.and_eq_true] at h ⊢
            exact ⟨h, h.2.1, h.2.2.1⟩
        · cases hg
      · cases hg
    · left
      have hi' : i = ws.length := by omega
      subst hi'
      refine ⟨hJ.stop H' _ hG, ?_⟩
      rw [List.drop_length] at hg
      unfold dcGo at hg
      cases hg
      refine hq _ H' A' (D :: Ba) ⟨.dKO hDa hkk hacc, r.reps.unwipe, r.nd, r.pv, r.fr, r.kp, r.db, r.nb⟩
end
end Ev

set_option Elab.async false
set_option linter.all false
set_option maxRecDepth 100000
set_option maxHeartbeats 8000000
/-! THE THEOREM: what the evaluator finds is what the reading does. -/
namespace Ev
open PySem PySem.Spec PyProof.Rows L2
/-- the table without promises -/
def FnI.bare (d : FnI) : FnI := { d with sp := spBot }
def Tab.bare (T : Tab) : Tab := { T with fns := T.fns.map FnI.bare }
theorem bare_inv {T : Tab} {k : Nat} {d : FnI} (h : T.bare.fns[k]? = some d) : ∃ d0, T.fns[k]? = some d0 ∧ d = d0.bare := by
  have h' : (T.fns.map FnI.bare)[k]? = some d := h
  rw [List.getElem?_map] at h'
  cases e : T.fns[k]? with
  | none => rw [e] at h'; cases h'
  | some d0 => rw [e] at h'; exact ⟨d0, rfl, (Option.some.inj h').symm⟩
theorem infsF_bare : ∀ (ds : List Dfn) (g : Nat → Sp), (infsF ds g).map FnI.bare = infsF ds fun _ => spBot
  | [], _ => rfl
  | d :: ds, g => by
    show FnI.bare (d.inf (g 0)) :: (infsF ds fun i => g (i + 1)).map FnI.bare = _
    rw [infsF_bare ds]
    rfl
theorem mkT_bare (ds : List Dfn) (cst : List (Str × V)) (free : List Str) (sps : List Sp) : (mkT ds cst free sps).bare = mkT ds cst free [] := by
  show (⟨(infs ds sps).map FnI.bare, cst, free⟩ : Tab) = ⟨infs ds [], cst, free⟩
  unfold infs
  rw [infsF_bare]
  rfl
section
variable {K : PySem.W.Frag} {H H1 H2 : Hp} {F U : US} {σ σ' σ1 σ2 : L2.St} {ρ ρ' ρ1 ρ2 : Rho} {A A1 A2 A' B B0 B1 B2 C : List Addr} {p q : Bool} {w x y z c : W} {ws ds ys : List W} {v : V}
theorem after0 {P : US → Prop} (S : Stt K H F σ ρ A) (r : Res p K H F A H1 σ1 ρ1 A1 [] P) : Stt K H1 F σ1 ρ1 A1 := by
  have := Res.next S.bas r
  rw [F_nil] at this
  exact this
theorem seq0 {P1 P2 : US → Prop} (S : Stt K H F σ ρ A) (r : Res p K H F A H1 σ1 ρ1 A1 [] P1) (r2 : Res q K H1 F A1 H2 σ2 ρ2 A2 B2 P2) : Res (p && q) K H F A H2 σ2 ρ2 A2 B2 P2 := by
  have r2' : Res q K H1 (fun a => a ∈ ([] : List Addr) ∨ F a) A1 H2 σ2 ρ2 A2 B2 P2 := by rw [F_nil]; exact r2
  exact Res.seq S r r2' fun _ d => d
theorem Res.drop0 {P P' : US → Prop} (r : Res p K H F A H1 σ1 ρ1 A1 B P) (h : P' (fun a => (a ∈ ([] : List Addr) ∨ a ∈ A1) ∨ F a)) : Res p K H F A H1 σ1 ρ1 A1 [] P' :=
  r.grow (C := []) (fun _ _ e => e) (fun c h => by cases h) List.nodup_nil (fun c h => by cases h) (fun c h => by cases h) h
theorem all_val : ∀ {ws : List W} {vs : List V} {A : List Addr}, DnAll K H U vs ws A → ws.all isV = true → A = []
  | [], _, _, h, _ => by cases h; rfl
  | w :: ws, _, _, h, hv => by
    cases h with
    | cons h1 h2 e =>
      simp only [List.all_cons, Bool.and_eq_true] at hv
      have z1 := val_nil h1 hv.1
      have z2 := all_val h2 hv.2
      subst z1 z2
      simpa using e
theorem fresh_un {P : US → Prop} {a : Addr} (S : Stt K H F σ ρ A) (r : Res p K H F A H1 σ1 ρ1 A1 B P) (h : H1 a = none) : ¬ ((a ∈ B ∨ a ∈ A1) ∨ F a) := by
  have S1 := Res.next S.bas r
  rintro ((z | z) | z)
  · exact r.db a z h
  · exact r.reps.dom a z h
  · exact S1.dm a (.inr z) h
/-- a new list, tuple, dict of what was found -/
theorem new_lst {vs : List V} {a : Addr} (S : Stt K H F σ ρ A) (r : Res p K H F A H1 σ ρ1 A1 B (fun U => DnAll K H1 U vs ws B)) (ha : H1 a = none) : Res p K H F A (upd H1 a (.lst vs)) σ ρ1 A1 (a :: B) (fun U => Dn K (upd H1 a (.lst vs)) U (.ref a) (.lst true ws) (a :: B)) := by
  refine r.grow (same_upd ha) (fun c h => ?_) (List.nodup_cons.mpr ⟨fun h => r.db a h ha, (List.nodup_append.mp r.nd).1⟩) (fun c h => ?_) (fun c h xs => ?_) (.lstO upd_same (r.ok.step (M := fun _ => False) ⟨fun b o _ e => same_upd ha b o e, fun _ z => z.elim, fun b z => ?_⟩ fun _ _ z => z))
  · rcases List.mem_cons.mp h with rfl | h
    · exact .inl ha
    · exact .inr h
  · rcases List.mem_cons.mp h with rfl | h
    · rw [upd_same]; simp
    · obtain ⟨o, e⟩ := some_of (r.db c h)
      rw [same_upd ha c o e]; simp
  · rcases List.mem_cons.mp h with rfl | h
    · rw [upd_same]; simp
    · obtain ⟨o, e⟩ := some_of (r.db c h)
      rw [same_upd ha c o e, ← e]; exact r.nb c h xs
  · rcases z with (z | z) | z
    · rcases List.mem_cons.mp z with rfl | z
      · exact .inr ha
      · exact .inl (.inl (.inl z))
    · exact .inl (.inl (.inr z))
    · exact .inl (.inr z)
theorem new_tup {vs : List V} {a : Addr} (S : Stt K H F σ ρ A) (r : Res p K H F A H1 σ ρ1 A1 B (fun U => DnAll K H1 U vs ws B)) (ha : H1 a = none) : Res p K H F A (upd H1 a (.tup vs)) σ ρ1 A1 B (fun U => Dn K (upd H1 a (.tup vs)) U (.ref a) (.tup (!ws.all isV) ws) B) := by
  have hun := fresh_un S r ha
  have d2 : DnAll K (upd H1 a (.tup vs)) (fun a => (a ∈ B ∨ a ∈ A1) ∨ F a) vs ws B := r.ok.step (M := fun _ => False) ⟨fun b o _ e => same_upd ha b o e, fun _ z => z.elim, fun b z => .inl z⟩ fun _ _ z => z
  have dn : Dn K (upd H1 a (.tup vs)) (fun a => (a ∈ B ∨ a ∈ A1) ∨ F a) (.ref a) (.tup (!ws.all isV) ws) B := by
    cases hv : ws.all isV with
    | true =>
      have z := all_val r.ok hv
      subst z
      exact .tupV hun upd_same d2
    | false => exact .tupO hun upd_same d2
  refine r.grow (same_upd ha) (fun c h => .inr h) (List.nodup_append.mp r.nd).1 (fun c h => ?_) (fun c h xs => ?_) dn
  · obtain ⟨o, e⟩ := some_of (r.db c h)
    rw [same_upd ha c o e]; simp
  · obtain ⟨o, e⟩ := some_of (r.db c h)
    rw [same_upd ha c o e, ← e]; exact r.nb c h xs
theorem rgn (i j : Int) : rgV i j = (rngW i j).map (fun w => match w with | .int n => V.int n | _ => V.non) := by
  unfold rgV rngW
  rw [List.map_map]
  rfl
theorem dn_rg (K : PySem.W.Frag) (H : Hp) (U : US) (i j : Int) : DnAll K H U (rgV i j) (rngW i j) [] := by
  have h := dn_ints K H U ((List.range (j - i).toNat).map fun n => i + (n : Nat))
  rw [List.map_map, List.map_map] at h
  exact h
theorem evGs_len {T : Tab} {Φ : Nat → Fun} {prot : Nat} : ∀ {ts : Tgs} {ws : List W} {ρ ρ' : Rho}, evGs T Φ prot ts ws ρ = some ρ' → ws.length = ts.len
  | .nil, ws, ρ, ρ', h => by
    cases ws with
    | nil => rfl
    | cons _ _ => simp [evGs] at h
  | .cons t ts, ws, ρ, ρ', h => by
    cases ws with
    | nil => simp [evGs] at h
    | cons w ws =>
      simp only [evGs] at h
      split at h
      · show ws.length + 1 = ts.len + 1
        rw [evGs_len h]
      · cases h
/-- a thing laid open at a0 while more is done, then changed once -/
theorem Res.openAt {a0 : Addr} {o0 o1 : HO} {B3 : List Addr} {P P' : US → Prop} (S : Stt K H F σ ρ A) (ha0 : H a0 = none) (h1 : ∀ xs, o1 ≠ .tup xs) (r : Res p K (upd H a0 o0) (fun a => a ∈ [a0] ∨ F a) A H2 σ2 ρ2 A2 B2 P) (hs : B3.Sublist B2)
    (hP : (∀ a, a ∈ B2 ∨ a ∈ A2 → a ≠ a0) → Stp H2 (upd H2 a0 o1) (fun a => (a ∈ B2 ∨ a ∈ A2) ∨ (a ∈ [a0] ∨ F a)) (fun a => (a ∈ a0 :: B3 ∨ a ∈ A2) ∨ F a) (fun b => b = a0) → P' (fun a => (a ∈ a0 :: B3 ∨ a ∈ A2) ∨ F a)) : Res p K H F A (upd H2 a0 o1) σ2 ρ2 A2 (a0 :: B3) P' := by
  have hA0 : a0 ∉ A := fun h => S.reps.dom a0 h ha0
  have free : ∀ a, upd H a0 o0 a = none → H a = none := fun a h => by
    by_cases e : a = a0
    · rw [e]; exact ha0
    · rwa [upd_ne e] at h
  have n0 : ∀ a, a ∈ B2 ∨ a ∈ A2 → a ≠ a0 := fun a h e => by
    subst e
    rcases r.pv a h with h | h
    · exact hA0 h
    · rw [upd_same] at h; cases h
  have st : Stp H2 (upd H2 a0 o1) (fun a => (a ∈ B2 ∨ a ∈ A2) ∨ (a ∈ [a0] ∨ F a)) (fun a => (a ∈ a0 :: B3 ∨ a ∈ A2) ∨ F a) (fun b => b = a0) := stp_at (.inr (.inl (by simp))) fun b z => by
    rcases z with (z | z) | z
    · rcases List.mem_cons.mp z with z | z
      · exact .inr (.inl (by simp [z]))
      · exact .inl (.inl (hs.subset z))
    · exact .inl (.inr z)
    · exact .inr (.inr z)
  have nd := List.nodup_append.mp r.nd
  refine ⟨hP n0 st, r.reps.step st fun a ha h => n0 a (.inr ha) h, ?_, fun a z => ?_, fun hp a z => ?_, fun b o z e => ?_, fun a z => ?_, fun a z xs => ?_⟩
  · rw [List.cons_append]
    refine List.nodup_cons.mpr ⟨fun h => ?_, r.nd.sublist (hs.append_right A2)⟩
    rcases List.mem_append.mp h with h | h
    · exact n0 a0 (.inl (hs.subset h)) rfl
    · exact n0 a0 (.inr h) rfl
  · rcases z with z | z
    · rcases List.mem_cons.mp z with rfl | z
      · exact .inr ha0
      · exact (r.pv a (.inl (hs.subset z))).imp_right (free a)
    · exact (r.pv a (.inr z)).imp_right (free a)
  · rcases List.mem_cons.mp z with rfl | z
    · exact ha0
    · exact free a (r.fr hp a (hs.subset z))
  · have hb : b ≠ a0 := fun h => by rw [h, ha0] at e; cases e
    rw [upd_ne hb]
    exact r.kp b o z (by rw [upd_ne hb]; exact e)
  · rcases List.mem_cons.mp z with rfl | z
    · rw [upd_same]; simp
    · rw [upd_ne (n0 a (.inl (hs.subset z)))]; exact r.db a (hs.subset z)
  · rcases List.mem_cons.mp z with rfl | z
    · rw [upd_same]; exact fun h => h1 xs (Option.some.inj h)
    · rw [upd_ne (n0 a (.inl (hs.subset z)))]; exact r.nb a (hs.subset z) xs
/-- a slot's dict is locked while a list is made of its keys; the list holds all its own things -/
theorem lock_state {i : Nat} {ks : List (List Key)} {vs : List W} (S : Stt K H F σ ρ A) (e : ρ[i]? = some (some (.dT true ks vs))) : ∃ dd kvs, σ[i]? = some (some (.ref dd)) ∧ H dd = some (.dT kvs) ∧ kvs.map (·.1) = ks ∧ dd ∈ A ∧
    ∀ od, ∃ A1, Stt K (upd H dd (.frz od (.dT kvs))) F σ (ρ.set i (some (.dL false ks (frzL vs)))) A1 ∧ (∀ a ∈ A1, a ∈ A) ∧ dd ∉ A1 ∧ ¬ F dd := by
  obtain ⟨v, L, B0, R, e1, e2, d, d1, d2⟩ := S.reps.split e
  have hi : i < ρ.length := (List.getElem?_eq_some_iff.mp e).1
  cases d with
  | @dTO dd kvs _ _ A' h1 h3 h2 =>
  have inA : ∀ a, a ∈ A ↔ a ∈ L ∨ a ∈ dd :: A' ∨ a ∈ R := fun a => by rw [e2]; simp only [List.mem_append]
  have inLR : ∀ a, a ∈ L ++ R → a ∈ A := fun a h => by
    rcases List.mem_append.mp h with h | h
    · exact (inA a).mpr (.inl h)
    · exact (inA a).mpr (.inr (.inr h))
  have hdA : dd ∈ A := (inA dd).mpr (.inr (.inl (List.mem_cons_self ..)))
  have ndA := S.nd
  rw [e2] at ndA
  have nLB : ∀ a, a ∈ dd :: A' → a ∈ L ++ R → False := fun a h1 h2 => by
    rcases List.mem_append.mp h2 with h2 | h2
    · exact (List.nodup_append.mp ndA).2.2 a h2 a (List.mem_append_left _ h1) rfl
    · exact (List.nodup_append.mp (List.nodup_append.mp ndA).2.1).2.2 a h1 a h2 rfl
  have ndB := List.nodup_cons.mp (List.nodup_append.mp (List.nodup_append.mp ndA).2.1).1
  refine ⟨dd, kvs, e1, h1, h3.1, hdA, fun od => ⟨L ++ R, ?_, inLR, nLB dd (List.mem_cons_self ..), fun h => S.dj dd hdA h⟩⟩
  have st : Stp H (upd H dd (.frz od (.dT kvs))) (fun a => a ∈ A ∨ F a) (fun a => a ∈ L ++ R ∨ F a) (fun b => b = dd) := stp_at (.inl hdA) fun b z => z.imp_left (inLR b)
  have dk : Dn K (upd H dd (.frz od (.dT kvs))) (fun a => a ∈ L ++ R ∨ F a) (.ref dd) (.dL false ks (frzL vs)) [] := by
    refine .dLV (fun z => ?_) ⟨od, upd_same⟩ h3 ?_
    · rcases z with z | z
      · exact nLB dd (List.mem_cons_self ..) z
      · exact S.dj dd hdA z
    · have h2' : DnAll K (upd H dd (.frz od (.dT kvs))) (fun a => a ∈ A ∨ F a) (kvs.map (·.2)) vs A' := h2.step (stp_at (.inl hdA) fun b z => z) fun a ha h => ndB.1 (by rw [← h]; exact ha)
      refine h2'.frz fun b z => ⟨z.imp_left (inLR b), fun h => ?_⟩
      rcases z with z | z
      · exact nLB b (List.mem_cons_of_mem _ h) z
      · exact S.dj b ((inA b).mpr (.inr (.inl (List.mem_cons_of_mem _ h)))) z
  have ndLR : (L ++ R).Nodup := ndA.sublist ((List.sublist_append_right (dd :: A') R).append_left L)
  refine ⟨?_, ndLR, fun a ha => S.dj a (inLR a ha), fun a z => ?_, fun a z xs => ?_⟩
  · have hlen := S.reps.len
    have es : σ.set i (some (.ref dd)) = σ := by
      have hσ : i < σ.length := by omega
      have e3 : σ[i] = some (.ref dd) := by
        have := List.getElem?_eq_getElem hσ
        rw [e1] at this
        exact (Option.some.inj this).symm
      rw [← e3]
      exact List.set_getElem_self hσ
    have j := Reps.join (A1 := L) (A2 := R) (B := []) hlen hi (d1.step st fun a ha h => nLB dd (List.mem_cons_self ..) (by rw [← h]; exact List.mem_append_left _ ha)) dk (d2.step st fun a ha h => nLB dd (List.mem_cons_self ..) (by rw [← h]; exact List.mem_append_right _ ha))
    rw [es, List.nil_append] at j
    exact j
  · by_cases hb : a = dd
    · rw [hb, upd_same]; simp
    · rw [upd_ne hb]; exact S.dm a z
  · by_cases hb : a = dd
    · rw [hb, upd_same]; simp
    · rw [upd_ne hb]; exact S.nt a z xs
/-- behind the lock -/
theorem lock_back {dd : Addr} {od : Obj} {kvs : List (List Key × V)} {ρ2 : Rho} {A1 : List Addr} (S : Stt K H F σ ρ A) (h1 : H dd = some (.dT kvs)) (hdA : dd ∈ A) (hA1 : ∀ a ∈ A1, a ∈ A)
    (r : Res true K (upd H dd (.frz od (.dT kvs))) F A1 H1 σ ρ2 A2 B (fun U => Dn K H1 U v w B)) (hi : iso w = true) : H1 dd = some (.frz od (.dT kvs)) ∧ Res false K H F A (upd H1 dd (.dT kvs)) σ ρ A B (fun U => Dn K (upd H1 dd (.dT kvs)) U v w B) := by
  have keep : ∀ b o, upd H dd (.frz od (.dT kvs)) b = some o → H1 b = some o := fun b o e => r.kp b o (.inl rfl) e
  have hd1 := keep dd _ upd_same
  have freeB : ∀ a ∈ B, H a = none ∧ a ≠ dd := fun a h => by
    have e := r.fr rfl a h
    have ne : a ≠ dd := fun z => by rw [z, upd_same] at e; cases e
    rw [upd_ne ne] at e
    exact ⟨e, ne⟩
  have keep2 : ∀ b o, H b = some o → upd H1 dd (.dT kvs) b = some o := fun b o e => by
    by_cases hb : b = dd
    · rw [hb] at e ⊢
      rw [upd_same, ← h1, e]
    · rw [upd_ne hb]
      exact keep b o (by rw [upd_ne hb]; exact e)
  refine ⟨hd1, ?_, ?_, ?_, fun a z => ?_, fun z => (by cases z), fun b o _ e => keep2 b o e, fun a z => ?_, fun a z xs => ?_⟩
  · have d0 : Dn K H1 (fun a => (a ∈ B ∨ a ∈ A) ∨ F a) v w B := r.ok.iso (fun b z => by
      rcases z with (z | z) | z
      · exact .inl (.inl (.inl z))
      · refine .inr fun xs => ?_
        by_cases hb : b = dd
        · rw [hb, hd1]; simp
        · obtain ⟨o, e⟩ := some_of (S.reps.dom b z)
          rw [keep b o (by rw [upd_ne hb]; exact e), ← e]
          exact S.reps.notup b z xs
      · exact .inl (.inr z)) hi
    exact d0.step (stp_at (.inl (.inr hdA)) fun b z => z) fun a ha h => (freeB a ha).2 h
  · exact S.reps.step (M := fun _ => False) ⟨fun b o _ e => keep2 b o e, fun _ z => z.elim, fun b z => by
      rcases z with (z | z) | z
      · exact .inr (freeB b z).1
      · exact .inl (.inl z)
      · exact .inl (.inr z)⟩ fun _ _ z => z
  · refine List.nodup_append.mpr ⟨(List.nodup_append.mp r.nd).1, S.nd, fun a ha b hb e => ?_⟩
    subst e
    exact S.reps.dom a hb (freeB a ha).1
  · exact z.elim (fun z => .inr (freeB a z).1) .inl
  · rw [upd_ne (freeB a z).2]; exact r.db a z
  · rw [upd_ne (freeB a z).2]; exact r.nb a z xs
end
end Ev

set_option Elab.async false
set_option linter.all false
set_option maxRecDepth 100000
set_option maxHeartbeats 8000000
/-! THE THEOREM: what the evaluator finds is what the reading does. -/
namespace Ev
open PySem PySem.Spec PyProof.Rows L2
section
variable {K : PySem.W.Frag} {T : Tab} {Φ : Nat → Fun} {prot : Nat}
def SndG (pt : Bool) (prot : Nat) (K : PySem.W.Frag) (H : Hp) (F : US) (σ : L2.St) (A B : List Addr) (ρ' : Rho) (wp : List Nat → Prop) (rd : (L2.St → Hp → Prop) → Prop) : Prop :=
  ∀ Q : L2.St → Hp → Prop, (∀ σ' H' A', Res pt K H F (B ++ A) H' σ' ρ' A' [] (fun _ => True) → (∀ j, j < prot → σ'[j]? = σ[j]?) → (∀ vs, wp vs → L2.wipe σ' vs = L2.wipe σ vs) → Q σ' H') → rd Q
def SndI (p : Bool) (K : PySem.W.Frag) (H : Hp) (F : US) (σ : L2.St) (A : List Addr) (ws : List W) (ρ' : Rho) (rd : (It → Hp → Prop) → Prop) : Prop :=
  ∀ R : It → Hp → Prop, (∀ J H1 A1 G, ItD K J ws G → Res p K H F A H1 σ ρ' A1 [] (fun U => G H1 U) → R J H1) → rd R
theorem lcP_of {own : List (Str × Nat)} {tg : Tg} {ifs : Es} {elt : E} (ht : tgIn (own.map (·.2)) tg = true)
    (hG : ∀ {w ρ ρ'}, evG T.bare Φ prot tg w ρ = some ρ' → ∀ {H F σ A v B}, Held K H F σ ρ A B (fun U => Dn K H U v w B) → SndG (pureG tg) prot K H F σ A B ρ' (fun vs => tgIn vs tg = true) (rdG T K tg v σ H))
    (hT : ∀ {ρ b ρ'}, evTs T.bare Φ prot ifs ρ = some (b, ρ') → ∀ {H F σ A}, Stt K H F σ ρ A → SndB (pureEs Φ ifs) K H F σ A b ρ' (rdTs T K ifs σ H))
    (hE : ∀ {ρ w ρ'}, evE T.bare Φ prot elt ρ = some (w, ρ') → ∀ {H F σ A}, Stt K H F σ ρ A → SndE (pureE Φ elt) K H F σ A w ρ' (rdE T K elt σ H)) :
    LcP true (pureEs Φ ifs) (pureE Φ elt) K (own.map (·.2)) (fun w ρ => evG T.bare Φ prot tg w ρ) (fun ρ => evTs T.bare Φ prot ifs ρ) (fun ρ => evE T.bare Φ prot elt ρ) (rdG T K tg) (rdTs T K ifs) (rdE T K elt) := by
  refine ⟨fun {w ρ ρ'} h {H F σ A v B} hh Q hq => ?_, fun {ρ ρ' b} h {H F σ A} S => hT h S, fun {ρ ρ' w} h {H F σ A} S => hE h S⟩
  have hp := tgIn_pure _ _ ht
  refine hG h hh Q fun σ' H' A' r _ hw => hq σ' H' A' ?_ (hw _ ht)
  rw [hp] at r
  exact r
theorem tyM_ok {m : Mth} {x : W} {H : Hp} {U : US} {vx : V} {B : List Addr} (hm : isMut m = true) (h : tyM m x = true) (hx : Dn K H U vx x B) : tyV K m.ty vx H := by
  have lst : ∀ {o : Bool} {xs : List W} {m : Mth}, Dn K H U vx (.lst o xs) B → m.ty = "list" → tyV K m.ty vx H := fun {o xs m} hx e => by
    obtain ⟨a, us, B', rfl, e1, _⟩ := hx.lst_inv
    exact .inl ⟨e, us, .of e1⟩
  cases m <;> simp only [isMut, Bool.false_eq_true] at hm <;> cases x <;> simp only [tyM, Bool.false_eq_true] at h <;> first
    | exact lst hx rfl
    | (obtain ⟨a, us, B', rfl, e1, _⟩ := hx.dK_inv; exact .inr (.inr (.inl ⟨rfl, .inl ⟨us, e1⟩⟩)))
    | (obtain ⟨a, us, B', rfl, e1, _⟩ := hx.dT_inv; exact .inr (.inr (.inl ⟨rfl, .inr ⟨us, e1⟩⟩)))
theorem get_ty {x : W} {H : Hp} {U : US} {vx : V} {B : List Addr} (h : tyM .get2 x = true) (hx : Dn K H U vx x B) : tyV K (Mth.get2).ty vx H := by
  cases x <;> simp only [tyM, Bool.false_eq_true] at h
  · obtain ⟨a, us, B', rfl, e1, _⟩ := hx.dK_inv
    exact .inr (.inr (.inl ⟨rfl, .inl ⟨us, e1⟩⟩))
  · obtain ⟨a, us, B', rfl, e1, _⟩ := hx.dT_inv
    exact .inr (.inr (.inl ⟨rfl, .inr ⟨us, e1⟩⟩))
theorem get_none {x k : W} {H : Hp} {U : US} {vx vk : V} {B Bk : List Addr} (h : getP x k = some none) (hx : Dn K H U vx x B) (hk : Dn K H U vk k Bk) : ∃ a, vx = .ref a ∧ DGet H a vk none := by
  unfold getP at h
  split at h
  · obtain ⟨a, kvs, B', rfl, e1, rfl, _⟩ := hx.dK_inv
    split at h
    · rename_i c hc
      refine ⟨a, rfl, .inl ⟨kvs, c, .inl e1, key_ok hc hk, ?_⟩⟩
      rw [posK_val, Option.some.inj h]
      rfl
    · cases h
  · obtain ⟨a, kvs, B', rfl, e1, rfl, _⟩ := hx.dT_inv
    split at h
    · rename_i c hc
      obtain ⟨b, rfl, hb, _⟩ := tk_ok hc hk
      refine ⟨a, rfl, .inr ⟨kvs, c, b, .inl e1, rfl, hb, ?_⟩⟩
      rw [posK_val, Option.some.inj h]
      rfl
    · cases h
  · cases h
theorem part_ok {lo : E} (hE : ∀ {ρ w ρ'}, evE T.bare Φ prot lo ρ = some (w, ρ') → ∀ {H F σ A}, Stt K H F σ ρ A → SndE (pureE Φ lo) K H F σ A w ρ' (rdE T K lo σ H)) {l : Option Int} {ρ ρ' : Rho}
    (h : (match isNonE lo with | true => some (none, ρ) | false => (match evE T.bare Φ prot lo ρ with | some (.int i, ρ2) => some (some i, ρ2) | _ => none)) = some (l, ρ')) {H : Hp} {F : US} {σ : L2.St} {A : List Addr} (S : Stt K H F σ ρ A) (Q : Option Int → Hp → Prop)
    (hq : ∀ H' A', Res (pureE Φ lo) K H F A H' σ ρ' A' [] (fun _ => True) → Q l H') : (fun (k : Option Int → Hp → Prop) => match isNonE lo with | true => k none H | false => rdE T K lo σ H fun l H2 => match l with | .int i => k (some i) H2 | _ => False) Q := by
  show (match isNonE lo with | true => Q none H | false => rdE T K lo σ H fun l H2 => match l with | .int i => Q (some i) H2 | _ => False)
  split at h
  · cases h
    exact hq H A ((Res.here S trivial).weak fun _ => rfl)
  · split at h
    · rename_i i ρ2 e
      cases h
      refine hE e S _ fun v H1 A1 B r => ?_
      obtain ⟨rfl, rfl⟩ := r.ok.int_inv
      exact hq H1 A1 (r.imp fun _ => trivial)
    · cases h
theorem rd_var {i : Nat} {σ : L2.St} {H : Hp} {Q : VK} : rdE T K (.var i) σ H Q = (match σ[i]? with | some (some v) => Q v H | _ => False) := by
  unfold rdE
  rfl
theorem held_bas {H : Hp} {F : US} {σ : L2.St} {ρ : Rho} {A B : List Addr} {P : US → Prop} (hh : Held K H F σ ρ A B P) : Bas K H F (B ++ A) :=
  ⟨fun a ha z => (List.mem_append.mp ha).elim (fun h => hh.dB a h z) fun h => hh.S.dj a h (.inr z), fun a z => hh.S.dm a (.inr z), fun a z => hh.S.nt a (.inr z)⟩
theorem held_res {H H1 : Hp} {F : US} {σ : L2.St} {ρ ρ1 : Rho} {A A1 B Bk : List Addr} {p : Bool} {v vk : V} {w k : W} (hh : Held K H F σ ρ A B (fun U => Dn K H U v w B)) (r : Res p K H (fun a => a ∈ B ∨ F a) A H1 σ ρ1 A1 Bk (fun U => Dn K H1 U vk k Bk)) :
    Res false K H F (B ++ A) H1 σ ρ1 A1 B (fun U => Dn K H1 U v w B ∧ Dn K H1 U vk k Bk) := by
  have nBA : ∀ a ∈ B, a ∉ A := fun a h1 h2 => hh.S.dj a h2 (.inl h1)
  have sub : ∀ a, ((a ∈ B ∨ a ∈ A1) ∨ F a) → ((a ∈ Bk ∨ a ∈ A1) ∨ (a ∈ B ∨ F a)) := fun a z => by
    rcases z with (z | z) | z
    · exact .inr (.inl z)
    · exact .inl (.inr z)
    · exact .inr (.inr z)
  have st : Stp H H1 (fun a => (a ∈ B ∨ a ∈ A) ∨ F a) (fun a => (a ∈ B ∨ a ∈ A1) ∨ F a) (fun a => a ∈ A) := ⟨fun b o n e => r.kp b o (.inr n) e, fun b m => .inl (.inr m), fun b z => by
    rcases z with (z | z) | z
    · exact .inl (.inl (.inl z))
    · exact (r.pv b (.inr z)).imp_left fun h => .inl (.inr h)
    · exact .inl (.inr z)⟩
  have same : ∀ a ∈ B, H1 a = H a := fun a h => by
    obtain ⟨o, e⟩ := some_of (hh.S.dm a (.inl h))
    rw [r.kp a o (.inr (nBA a h)) e, e]
  refine ⟨⟨hh.dn.step st nBA, r.ok.less sub⟩, r.reps.less sub, List.nodup_append.mpr ⟨hh.nB, (List.nodup_append.mp r.nd).2.1, fun a ha b hb e => ?_⟩, fun a z => ?_, fun z => (by cases z), fun b o z e => ?_, fun a z => ?_, fun a z xs => ?_⟩
  · subst e
    rcases r.pv a (.inr hb) with h | h
    · exact nBA a ha h
    · exact hh.S.dm a (.inl ha) h
  · rcases z with z | z
    · exact .inl (List.mem_append_left _ z)
    · exact (r.pv a (.inr z)).imp_left (List.mem_append_right _)
  · exact r.kp b o (.inr fun h => (z.resolve_left (by simp)) (List.mem_append_right _ h)) e
  · rw [same a z]; exact hh.S.dm a (.inl z)
  · rw [same a z]; exact hh.S.nt a (.inl z) xs
mutual
theorem vE (gd : Good K T Φ) : ∀ (e : E) {ρ : Rho} {w : W} {ρ' : Rho}, evE T.bare Φ prot e ρ = some (w, ρ') → ∀ {H : Hp} {F : US} {σ : L2.St} {A : List Addr}, Stt K H F σ ρ A → SndE (pureE Φ e) K H F σ A w ρ' (rdE T K e σ H)
  | .var i, ρ, w, ρ', h, H, F, σ, A, S => by
    simp only [evE] at h
    split at h
    · rename_i w0 e
      obtain ⟨v, L, B0, R, e1, e2, d, S0, go⟩ := S.slot e
      intro Q hq
      unfold rdE
      rw [e1]
      split at h
      · rename_i hv
        cases h
        have z := val_nil d hv
        subst z
        exact hq v H A [] (Res.here S (by rw [U_nil]; exact d))
      · cases h
        have dn : Dn K H (fun a => (a ∈ ([] : List Addr) ∨ a ∈ ([] : List Addr)) ∨ ((a ∈ L ∨ a ∈ R) ∨ F a)) v (frz w0) [] := d.frz fun b z => by
          rcases z with z | z
          · rcases z with z | z <;> cases z
          · refine ⟨?_, fun h => S0.dj b h z⟩
            rcases z with (z | z) | z
            · exact .inl (by rw [e2]; simp [z])
            · exact .inl (by rw [e2]; simp [z])
            · exact .inr z
        exact hq v H _ [] (go true H (frz w0) [] [] (fun U => Dn K H U v (frz w0) []) ⟨dn, .one dn .nil rfl, by simp, fun a z => (by rcases z with z | z <;> cases z), fun _ a z => (by cases z), fun _ _ _ e => e, fun a z => (by cases z), fun a z => (by cases z)⟩)
    · cases h
  | .cst v, ρ, w, ρ', h, H, F, σ, A, S => by
    simp only [evE] at h
    split at h
    · rename_i w0 e
      cases h
      exact fun Q hq => by
        unfold rdE
        exact hq v H A [] (Res.here S (cW_ok e))
    · cases h
  | .ty n, ρ, w, ρ', h, H, F, σ, A, S => by
    simp only [evE] at h
    cases h
    exact fun Q hq => by
      unfold rdE
      exact hq _ H A [] (Res.here S (.ty n))
  | .glb c, ρ, w, ρ', h, H, F, σ, A, S => by
    simp only [evE] at h
    split at h
    · rename_i q e
      split at h
      · rename_i w0 e0
        cases h
        exact fun Q hq => by
          unfold rdE
          rw [show T.cst[c]? = some q from e]
          exact hq _ H A [] (Res.here S (cW_ok e0))
      · cases h
    · cases h
  | .bin op a b, ρ, w, ρ', h, H, F, σ, A, S => by
    simp only [evE] at h
    refine keep_snd S (fun w ρ' h => ?_) h
    split at h
    · rename_i x ρ1 ea
      split at h
      · rename_i y ρ2 eb
        split at h
        · rename_i z ez
          cases h
          intro Q hq
          unfold rdE
          exact two_snd (k := fun vx vy H Q => rBin K op vx vy H Q) S (vE gd a ea S) (fun H1 A1 F1 S1 => vE gd b eb S1) (fun H2 U vx vy Bx By dx dy _ _ => bin_ok dx dy (fun a z => List.mem_append.mpr z) ez) Q hq
        · cases h
      · cases h
    · cases h
  | .neg a, ρ, w, ρ', h, H, F, σ, A, S => by
    simp only [evE] at h
    split at h
    · rename_i i ρ1 ea
      cases h
      intro Q hq
      unfold rdE
      refine vE gd a ea S _ fun v H1 A1 B r => ?_
      obtain ⟨rfl, rfl⟩ := r.ok.int_inv
      exact hq _ H1 A1 [] (r.imp fun _ => .int _)
    · cases h
  | .not a, ρ, w, ρ', h, H, F, σ, A, S => by
    simp only [evE] at h
    split at h
    · rename_i i ρ1 ea
      cases h
      intro Q hq
      unfold rdE
      refine vE gd a ea S _ fun v H1 A1 B r => ?_
      obtain ⟨rfl, rfl⟩ := r.ok.bl_inv
      exact hq _ H1 A1 [] (r.imp fun _ => .bl _)
    · cases h
  | .cmp op a b, ρ, w, ρ', h, H, F, σ, A, S => by
    simp only [evE] at h
    refine keep_snd S (fun w ρ' h => ?_) h
    split at h
    · rename_i x ρ1 ea
      split at h
      · rename_i y ρ2 eb
        split at h
        · rename_i z ez
          cases h
          intro Q hq
          unfold rdE
          exact two_snd (k := fun vx vy H Q => rCmp K op vx vy H Q) S (vE gd a ea S) (fun H1 A1 F1 S1 => vE gd b eb S1) (fun H2 U vx vy Bx By dx dy _ _ => .bl fun Q q => cmp_ok dx dy ez Q q) Q hq
        · cases h
      · cases h
    · cases h
  | .chn op op' a b c, ρ, w, ρ', h, H, F, σ, A, S => by
    simp only [evE] at h
    refine keep_snd S (fun w ρ' h => ?_) h
    split at h
    · rename_i x ρ1 ea
      split at h
      · rename_i y ρ2 eb
        split at h
        · rename_i k ek
          intro Q hq
          unfold rdE
          refine vE gd a ea S _ fun vx H1 A1 B1 r1 => ?_
          refine vE gd b eb (Res.next S.bas r1) _ fun vy H2 A2 B2 r2 => ?_
          have r12 := two_res (P1 := fun _ => True) S r1 r2
          refine cmp_ok r12.ok.1 r12.ok.2 ek _ ?_
          show (if k = true then rdE T K c σ H2 (fun w H4 => rCmp K op' vy w H4 Q) else Q (.bl false) H2)
          split at h
          · rw [if_pos rfl]
            split at h
            · rename_i z ρ3 ec
              split at h
              · rename_i k2 ek2
                cases h
                refine vE gd c ec (Res.next S.bas r12) _ fun vz H3 A3 B3 r3 => ?_
                have r := Res.seq (P := fun U => Dn K H3 U vy y B2 ∧ Dn K H3 U vz z B3) S r12 r3 fun s d => ⟨r12.ok.2.step s fun a ha h => (Res.next S.bas r12).dj a h (.inl (List.mem_append_right _ ha)), d⟩
                refine cmp_ok r.ok.1 r.ok.2 ek2 _ (hq _ H3 A3 [] ((r.drop0 (.bl _)).weak fun h => ?_))
                simp only [pureE, Bool.and_eq_true] at h ⊢
                exact ⟨⟨h.1, h.2.1⟩, h.2.2⟩
              · cases h
            · cases h
          · rw [if_neg (by decide)]
            cases h
            refine hq _ H2 A2 [] ((r12.drop0 (.bl _)).weak fun h => ?_)
            simp only [pureE, Bool.and_eq_true] at h ⊢
            exact ⟨h.1, h.2.1⟩
        · cases h
      · cases h
    · cases h
  | .and a b, ρ, w, ρ', h, H, F, σ, A, S => by
    simp only [evE] at h
    split at h
    · rename_i k ρ1 ea
      intro Q hq
      unfold rdE
      refine vE gd a ea S _ fun v H1 A1 B r1 => ?_
      obtain ⟨rfl, rfl⟩ := r1.ok.bl_inv
      show (if k = true then rdE T K b σ H1 Q else Q (.bl false) H1)
      split at h
      · rw [if_pos rfl]
        exact vE gd b h (after0 S r1) Q fun v2 H2 A2 B2 r2 => hq v2 H2 A2 B2 (seq0 S r1 r2)
      · cases h
        rw [if_neg (by decide)]
        refine hq _ H1 A1 [] ((r1.imp fun _ => .bl _).weak fun h => ?_)
        simp only [pureE, Bool.and_eq_true] at h
        exact h.1
    · cases h
  | .or a b, ρ, w, ρ', h, H, F, σ, A, S => by
    simp only [evE] at h
    split at h
    · rename_i k ρ1 ea
      intro Q hq
      unfold rdE
      refine vE gd a ea S _ fun v H1 A1 B r1 => ?_
      obtain ⟨rfl, rfl⟩ := r1.ok.bl_inv
      show (if k = true then Q (.bl true) H1 else rdE T K b σ H1 Q)
      split at h
      · cases h
        rw [if_pos rfl]
        refine hq _ H1 A1 [] ((r1.imp fun _ => .bl _).weak fun h => ?_)
        simp only [pureE, Bool.and_eq_true] at h
        exact h.1
      · rw [if_neg (by decide)]
        exact vE gd b h (after0 S r1) Q fun v2 H2 A2 B2 r2 => hq v2 H2 A2 B2 (seq0 S r1 r2)
    · cases h
  | .ite c a b, ρ, w, ρ', h, H, F, σ, A, S => by
    simp only [evE] at h
    split at h
    · rename_i k ρ1 ea
      intro Q hq
      unfold rdE
      refine vE gd c ea S _ fun v H1 A1 B r1 => ?_
      obtain ⟨rfl, rfl⟩ := r1.ok.bl_inv
      show (if k = true then rdE T K a σ H1 Q else rdE T K b σ H1 Q)
      split at h
      · rw [if_pos rfl]
        refine vE gd a h (after0 S r1) Q fun v2 H2 A2 B2 r2 => hq v2 H2 A2 B2 ((seq0 S r1 r2).weak fun h => ?_)
        simp only [pureE, Bool.and_eq_true] at h ⊢
        exact ⟨h.1, h.2.1⟩
      · rw [if_neg (by decide)]
        refine vE gd b h (after0 S r1) Q fun v2 H2 A2 B2 r2 => hq v2 H2 A2 B2 ((seq0 S r1 r2).weak fun h => ?_)
        simp only [pureE, Bool.and_eq_true] at h ⊢
        exact ⟨h.1, h.2.2⟩
    · cases h
  | .tup es, ρ, w, ρ', h, H, F, σ, A, S => by
    simp only [evE] at h
    split at h
    · rename_i ws ρ1 ea
      split at h
      · rename_i hl
        cases h
        intro Q hq
        unfold rdE
        refine vEs gd es ea S _ fun vs H1 A1 B r => ⟨by rw [dnAll_len r.ok]; exact Nat.le_trans hl lim_line, fun a ha => hq _ _ A1 B (new_tup S r ha)⟩
      · cases h
    · cases h
  | .lst es, ρ, w, ρ', h, H, F, σ, A, S => by
    simp only [evE] at h
    split at h
    · rename_i ws ρ1 ea
      split at h
      · rename_i hl
        cases h
        intro Q hq
        unfold rdE
        refine vEs gd es ea S _ fun vs H1 A1 B r => ⟨by rw [dnAll_len r.ok]; exact Nat.le_trans hl lim_line, fun a ha => hq _ _ A1 (a :: B) (new_lst S r ha)⟩
      · cases h
    · cases h
  | .call k .nil, ρ, w, ρ', h, H, F, σ, A, S => by
    simp only [evE] at h
    split at h
    · rename_i d ed
      obtain ⟨d0, ed0, rfl⟩ := bare_inv ed
      split at h
      · rename_i hio
        have hp : pureE Φ (.call k .nil) = pureEs Φ .nil := by simp [pureE, hio]
        rw [hp]
        refine keep_snd S (fun w ρ' h => ?_) h
        split at h
        · rename_i ws ρ1 ea
          split at h
          · rename_i ds eds
            split at h
            · rename_i hl
              split at h
              · rename_i r0 r1 ef
                cases h
                intro Q hq
                unfold rdE
                rw [ed0]
                refine call_snd (gd k d0 ed0) hio S (vEs gd .nil ea S) eds ef hl Q hq
              · cases h
            · cases h
          · cases h
        · cases h
      · cases h
    · cases h
  | .call k (.cons e es), ρ, w, ρ', h, H, F, σ, A, S => by
    simp only [evE] at h
    split at h
    · rename_i d ed
      obtain ⟨d0, ed0, rfl⟩ := bare_inv ed
      split at h
      · rename_i hio
        have hp : pureE Φ (.call k (.cons e es)) = pureEs Φ (.cons e es) := by simp [pureE, hio]
        rw [hp]
        refine keep_snd S (fun w ρ' h => ?_) h
        split at h
        · rename_i ws ρ1 ea
          split at h
          · rename_i ds eds
            split at h
            · rename_i hl
              split at h
              · rename_i r0 r1 ef
                have hE : SndL (pureEs Φ (.cons e es)) K H F σ A ws ρ1 (rdEs T K (.cons e es) σ H) := by
                  simp only [evEs] at ea
                  split at ea
                  · rename_i w1 ρa e1
                    split at ea
                    · rename_i ws2 ρb e2
                      cases ea
                      exact fun Q hq => by
                        unfold rdEs
                        exact cons_snd S (vE gd e e1 S) (fun H1 A1 F1 S1 => vEs gd es e2 S1) Q hq
                    · cases ea
                  · cases ea
                cases h
                intro Q hq
                unfold rdE
                rw [ed0]
                exact call_snd (gd k d0 ed0) hio S hE eds ef hl Q hq
              · cases h
            · cases h
          · cases h
        · cases h
      · rename_i hio
        have hp : pureE Φ (.call k (.cons e es)) = false := by simp [pureE, hio]
        rw [hp]
        intro Q hq
        unfold rdE
        rw [ed0]
        unfold rdEs
        split at h
        · rename_i i
          split at h
          · rename_i x0 ex0
            split at h
            · rename_i ws ρ1 ea
              split at h
              · rename_i ds eds
                split at h
                · rename_i x ex
                  split at h
                  · rename_i hl
                    split at h
                    · rename_i r0 r1 ef
                      cases hkp : (pureEs Φ es && (iso r0 && (oF x0 && (oF x && oF r1)))) with
                      | false =>
                        rw [hkp] at h
                        cases h
                        obtain ⟨vx, L, B0, R, e1, _⟩ := S.slot ex0
                        unfold rdE
                        rw [e1]
                        refine vEs gd es ea S _ fun vs H1 A1 Bs r => ?_
                        exact io_slot (gd k d0 ed0) hio S r ex e1 eds ef hl Q fun v H' A' B r' => hq v H' A' B r'
                      | true =>
                        rw [hkp] at h
                        cases h
                        simp only [Bool.and_eq_true] at hkp
                        obtain ⟨k1, k2, k3, k4, k5⟩ := hkp
                        obtain ⟨vx, L, B0, R, e1, _⟩ := S.slot ex0
                        unfold rdE
                        rw [e1]
                        refine vEs gd es ea S _ fun vs H1 A1 Bs r => ?_
                        rw [k1] at r
                        obtain ⟨vx', e1', g⟩ := io_slotK (gd k d0 ed0) hio S r ex0 ex eds ef hl k2 k3 k4 k5
                        rw [e1] at e1'
                        cases e1'
                        exact g Q fun v H' A' B r' => hq v H' A' B r'
                    · cases h
                  · cases h
                · cases h
              · cases h
            · cases h
          · cases h
        · split at h
          · rename_i x ρ1 ex
            split at h
            · rename_i ws ρ2 ea
              split at h
              · rename_i ds eds
                split at h
                · rename_i hl
                  split at h
                  · rename_i r0 r1 ef
                    cases h
                    refine vE gd e ex S _ fun vx H1 A1 B1 r1 => ?_
                    refine vEs gd es ea (Res.next S.bas r1) _ fun vs H2 A2 B2 r2 => ?_
                    exact io_tmp (gd k d0 ed0) hio S (two_res (P1 := fun _ => True) S r1 r2) eds ef hl Q fun v H' A' B r' => hq v H' A' B r'
                  · cases h
                · cases h
              · cases h
            · cases h
          · cases h
    · cases h
  | .kcall k ks pm es, ρ, w, ρ', h, H, F, σ, A, S => by
    simp only [evE] at h
    split at h
    · rename_i d ed
      obtain ⟨d0, ed0, rfl⟩ := bare_inv ed
      split at h
      · rename_i hio
        have hp : pureE Φ (.kcall k ks pm es) = pureEs Φ es := by simp [pureE, hio]
        rw [hp]
        refine keep_snd S (fun w ρ' h => ?_) h
        split at h
        · rename_i ws ρ1 ea
          split at h
          · rename_i hl
            split at h
            · rename_i r0 r1 ef
              cases h
              intro Q hq
              unfold rdE
              rw [ed0]
              refine kcall_snd (gd k d0 ed0) hio S (vEs gd es ea S) hl.1 hl.2.1 hl.2.2 ef Q hq
            · cases h
          · cases h
        · cases h
      · cases h
    · cases h
  | .blt b es, ρ, w, ρ', h, H, F, σ, A, S => by
    simp only [evE] at h
    refine keep_snd S (fun w ρ' h => ?_) h
    split at h
    · rename_i ws ρ1 ea
      split at h
      · rename_i z ez
        cases h
        intro Q hq
        unfold rdE
        exact list_val (k := fun vs H Q => rBlt K b vs H Q) S (vEs gd es ea S) (fun H2 U vs Bs d hT => blt_ok' hT d (fun a z => z) ez) Q hq
      · cases h
    · cases h
  | .mth m o es, ρ, w, ρ', h, H, F, σ, A, S => by
    simp only [evE] at h
    split at h
    · rename_i hm
      split at h
      · rename_i i
        split at h
        · rename_i x0 ex0
          split at h
          · rename_i ht
            split at h
            · rename_i ws ρ1 ea
              split at h
              · rename_i x ex
                split at h
                · rename_i r0 x' em
                  cases h
                  have hp : pureE Φ (.mth m (.var i) es) = false := by simp [pureE, hm]
                  rw [hp]
                  obtain ⟨vx, L, B0, R, e1, _, dx, _⟩ := S.slot ex0
                  intro Q hq
                  unfold rdE
                  unfold rdE
                  rw [e1]
                  refine ⟨tyM_ok hm ht dx, ?_⟩
                  refine vEs gd es ea S _ fun vs H1 A1 Bs r => ?_
                  exact mut_snd S r ex e1 em Q fun v H' A' B r' => hq v H' A' B r'
                · cases h
              · cases h
            · cases h
          · cases h
        · cases h
      · cases h
    · rename_i hm
      split at h
      · split at h
        · rename_i i
          split at h
          · rename_i x0 ex0
            split at h
            · rename_i ht
              split at h
              · rename_i ws ρ1 ea
                split at h
                · rename_i k z
                  split at h
                  · rename_i x ex
                    obtain ⟨vx, L, B0, R, e1, _, dx, _⟩ := S.slot ex0
                    have hp : pureE Φ (.mth .get2 (.var i) es) = pureEs Φ es := by simp [pureE, isMut]
                    rw [hp]
                    intro Q hq
                    unfold rdE
                    unfold rdE
                    rw [e1]
                    refine ⟨get_ty ht dx, ?_⟩
                    refine vEs gd es ea S _ fun vs H1 A1 Bs r => ?_
                    obtain ⟨vk, vz, Bk, Bz, rfl, eB, dk, dz⟩ := two_inv r.ok
                    split at h
                    · rename_i j hj
                      split at h
                      · rename_i c hc
                        obtain ⟨a, vc, rfl, _, h7, g1, A2, g2⟩ := kid_res S r ex e1 hc dk
                        refine ⟨some vc, h7 hj, ?_⟩
                        split at h
                        · rename_i hv
                          cases h
                          exact hq vc H1 A1 [] (g1 hv)
                        · cases h
                          exact hq vc H1 A2 [] g2
                      · cases h
                    · rename_i hj
                      cases h
                      obtain ⟨vx', L', B0', R', e1', _, dx', _⟩ := Res.slot S.bas r ex
                      rw [e1] at e1'
                      cases e1'
                      obtain ⟨a, rfl, hD⟩ := get_none hj dx' dk
                      refine ⟨none, hD, hq vz H1 A1 Bz ?_⟩
                      have s : Bz.Sublist Bs := by rw [eB]; exact List.sublist_append_right Bk Bz
                      exact r.grow (C := Bz) (fun _ _ e => e) (fun c h => .inr (s.subset h)) ((List.nodup_append.mp r.nd).1.sublist s) dz.dom dz.notup (dz.less fun b z => z.imp_left fun z => z.imp_left fun z => s.subset z)
                    · cases h
                  · cases h
                · cases h
              · cases h
            · cases h
          · cases h
        · cases h
      · rename_i hg
        have hp : pureE Φ (.mth m o es) = (pureE Φ o && pureEs Φ es) := by simp [pureE, hm]
        rw [hp]
        refine keep_snd S (fun w ρ' h => ?_) h
        split at h
        · rename_i x ρ1 ea
          split at h
          · rename_i ws ρ2 eb
            split at h
            · rename_i z ez
              cases h
              intro Q hq
              unfold rdE
              refine vE gd o ea S _ fun vx H1 A1 B1 r1 => ⟨mth_ty ez r1.ok, ?_⟩
              refine vEs gd es eb (Res.next S.bas r1) _ fun vs H2 A2 B2 r2 => ?_
              have r := two_res (P1 := fun _ => True) S r1 r2
              exact Res.val S r (mth_ok' r.ok.1 r.ok.2 ez) Q hq
            · cases h
          · cases h
        · cases h
  | .sub a b, ρ, w, ρ', h, H, F, σ, A, S => by
    simp only [evE] at h
    split at h
    · rename_i i
      split at h
      · rename_i x0 ex0
        split at h
        · rename_i k ρ1 ek
          split at h
          · rename_i x ex
            split at h
            · rename_i c ec
              obtain ⟨vx, L, B0, R, e1, _⟩ := S.slot ex0
              have hp : pureE Φ (.sub (.var i) b) = pureE Φ b := by simp [pureE]
              rw [hp]
              intro Q hq
              unfold rdE
              unfold rdE
              rw [e1]
              refine vE gd b ek S _ fun vk H1 A1 Bk r => ?_
              by_cases hs : ∃ s, x = .str s
              · obtain ⟨s, rfl⟩ := hs
                obtain ⟨d, rfl, hk⟩ := str_kid ec r.ok
                obtain ⟨vx', L', B0', R', e1', _, dx, _⟩ := Res.slot S.bas r ex
                rw [e1] at e1'
                cases e1'
                obtain ⟨rfl, _⟩ := dx.str_inv
                simp only [isV] at h
                cases h
                exact hk Q (hq _ H1 A1 [] (r.drop0 (.str _)))
              · obtain ⟨j, hj, hc⟩ := subW_pos (fun s e => hs ⟨s, e⟩) ec
                obtain ⟨a, vc, rfl, h6, _, g1, A2, g2⟩ := kid_res S r ex e1 hc r.ok
                split at h
                · rename_i hv
                  cases h
                  exact h6 hj Q (hq vc H1 A1 [] (g1 hv))
                · rw [hj] at h
                  cases h
                  exact h6 hj Q (hq vc H1 A2 [] g2)
            · cases h
          · cases h
        · cases h
      · cases h
    · refine keep_snd S (fun w ρ' h => ?_) h
      split at h
      · rename_i x ρ1 ea
        split at h
        · rename_i y ρ2 eb
          split at h
          · rename_i z ez
            cases h
            intro Q hq
            unfold rdE
            exact two_snd (k := fun vx vy H Q => rIxx K vx vy H Q) S (vE gd a ea S) (fun H1 A1 F1 S1 => vE gd b eb S1) (fun H2 U vx vy Bx By dx dy hU nd => sub_ok dx dy (fun b hb => hU b (List.mem_append_left _ hb)) (fun b hb => List.mem_append_left _ hb) (List.nodup_append.mp nd).1 ez) Q hq
          · cases h
        · cases h
      · cases h
  | .slc a lo hi, ρ, w, ρ', h, H, F, σ, A, S => by
    simp only [evE] at h
    refine keep_snd S (fun w ρ' h => ?_) h
    split at h
    · rename_i x ρ1 ea
      split at h
      · rename_i l ρ2 el
        split at h
        · rename_i u ρ3 eu
          split at h
          · rename_i z ez
            cases h
            intro Q hq
            unfold rdE
            refine vE gd a ea S _ fun vx H1 A1 B1 r1 => ?_
            refine part_ok (fun {_ _ _} h {_ _ _ _} S => vE gd lo h S) el (Res.next S.bas r1) (fun l H2 => (fun (k : Option Int → Hp → Prop) => match isNonE hi with | true => k none H2 | false => rdE T K hi σ H2 fun u H3 => match u with | .int i => k (some i) H3 | _ => False) fun u H3 => rSl K vx l u H3 Q) fun H2 A2 r2 => ?_
            have r12 := two_res (P1 := fun _ => True) S r1 r2
            rw [List.append_nil] at r12
            refine part_ok (fun {_ _ _} h {_ _ _ _} S => vE gd hi h S) eu (Res.next S.bas r12) (fun u H3 => rSl K vx l u H3 Q) fun H3 A3 r3 => ?_
            have r := Res.seq (P := fun U => Dn K H3 U vx x B1) S r12 r3 fun s _ => r12.ok.1.step s fun a ha h => (Res.next S.bas r12).dj a h (.inl ha)
            rw [List.append_nil] at r
            refine Res.val S r (sl_ok r.ok (fun b z => z) ez) Q fun v H' A' B r' => hq v H' A' B (r'.weak fun h => ?_)
            simp only [pureE, Bool.and_eq_true] at h ⊢
            exact ⟨⟨h.1, h.2.1⟩, h.2.2⟩
          · cases h
        · cases h
      · cases h
    · cases h
  | .rev a, ρ, w, ρ', h, H, F, σ, A, S => by
    simp only [evE] at h
    refine keep_snd S (fun w ρ' h => ?_) h
    split at h
    · rename_i o xs ρ1 ea
      cases h
      intro Q hq
      unfold rdE
      refine vE gd a ea S _ fun v H1 A1 B r => ?_
      obtain ⟨l, us, B', rfl, e, d, s⟩ := r.ok.lst_inv
      refine ⟨us, .of e, ?_⟩
      obtain ⟨A', pm, dr⟩ := (d.share (Bs := B) fun b z => s.subset z).rev
      have z := List.perm_nil.mp pm
      subst z
      have hv : ValOk K H1 (fun a => (a ∈ B ∨ a ∈ A1) ∨ F a) B (.lst true (frzL xs).reverse) (fun Q => ∀ p, H1 p = none → Q (.ref p) (upd H1 p (.lst us.reverse))) := .lst dr fun Q q => q
      exact Res.val S r hv Q hq
    · cases h
  | .lrng1 a, ρ, w, ρ', h, H, F, σ, A, S => by
    simp only [evE] at h
    split at h
    · rename_i j ρ1 ea
      split at h
      · rename_i hj
        cases h
        intro Q hq
        unfold rdE
        refine vE gd a ea S _ fun v H1 A1 B r => ?_
        obtain ⟨rfl, rfl⟩ := r.ok.int_inv
        have hl := lim_val
        refine ⟨⟨by omega, by omega, by omega, by omega, by omega⟩, ?_⟩
        have hv : ValOk K H1 (fun a => (a ∈ ([] : List Addr) ∨ a ∈ A1) ∨ F a) [] (.lst true (rngW 0 j)) (fun Q => ∀ p, H1 p = none → Q (.ref p) (upd H1 p (.lst (rgV 0 j)))) := .lst (dn_rg _ _ _ _ _) fun Q q => q
        exact Res.val S r hv Q hq
      · cases h
    · cases h
  | .lrng2 a b, ρ, w, ρ', h, H, F, σ, A, S => by
    simp only [evE] at h
    split at h
    · rename_i i ρ1 ea
      split at h
      · rename_i j ρ2 eb
        split at h
        · rename_i hj
          cases h
          intro Q hq
          unfold rdE
          refine vE gd a ea S _ fun v H1 A1 B r1 => ?_
          obtain ⟨rfl, rfl⟩ := r1.ok.int_inv
          refine vE gd b eb (after0 S r1) _ fun v H2 A2 B r2 => ?_
          obtain ⟨rfl, rfl⟩ := r2.ok.int_inv
          have hl := lim_val
          refine ⟨⟨by omega, by omega, by omega, by omega, by omega⟩, ?_⟩
          have hv : ValOk K H2 (fun a => (a ∈ ([] : List Addr) ∨ a ∈ A2) ∨ F a) [] (.lst true (rngW i j)) (fun Q => ∀ p, H2 p = none → Q (.ref p) (upd H2 p (.lst (rgV i j)))) := .lst (dn_rg _ _ _ _ _) fun Q q => q
          exact Res.val S (seq0 S r1 r2) hv Q hq
        · cases h
      · cases h
    · cases h
  | .dict0 t, ρ, w, ρ', h, H, F, σ, A, S => by
    simp only [evE] at h
    cases h
    intro Q hq
    unfold rdE
    cases t with
    | true =>
      have hv : ValOk K H (fun a => (a ∈ ([] : List Addr) ∨ a ∈ A) ∨ F a) [] (.dT true [] []) (fun Q => ∀ p, H p = none → Q (.ref p) (upd H p (.dT []))) := fun Q q p hp =>
        q (.ref p) _ [p] (same_upd hp) (fun c z => .inl (by rw [List.mem_singleton.mp z]; exact hp)) (List.pairwise_singleton _ p) (fun c z => by rw [List.mem_singleton.mp z, upd_same]; simp) (fun c z xs => by rw [List.mem_singleton.mp z, upd_same]; simp)
          fun U' hU => .dTO upd_same ⟨rfl, List.nodup_nil⟩ .nil
      exact Res.val S (Res.here (P := fun _ => True) S trivial) hv Q hq
    | false =>
      have hv : ValOk K H (fun a => (a ∈ ([] : List Addr) ∨ a ∈ A) ∨ F a) [] (.dK true [] []) (fun Q => ∀ p, H p = none → Q (.ref p) (upd H p (.dK []))) := .dK ⟨rfl, List.nodup_nil⟩ .nil fun Q q => q
      exact Res.val S (Res.here (P := fun _ => True) S trivial) hv Q hq
  | .dict1 a b, ρ, w, ρ', h, H, F, σ, A, S => by
    simp only [evE] at h
    split at h
    · rename_i k ρ1 ea
      split at h
      · rename_i z ρ2 eb
        split at h
        · rename_i ks hk
          cases h
          intro Q hq
          unfold rdE
          intro a0 ha0
          have same0 := same_upd (o := HO.dT []) ha0
          have hA0 : a0 ∉ A := fun h => S.reps.dom a0 h ha0
          have hF0 : ¬ F a0 := fun h => S.dm a0 h ha0
          have S0 : Stt K (upd H a0 (.dT [])) (fun a => a ∈ [a0] ∨ F a) σ ρ A := by
            refine ⟨S.reps.step (M := fun _ => False) ⟨fun b o _ e => same0 b o e, fun _ z => z.elim, fun b z => ?_⟩ fun _ _ z => z, S.nd, fun a ha z => ?_, fun a z => ?_, fun a z xs => ?_⟩
            · rcases z with z | z | z
              · exact .inl (.inl z)
              · exact .inr (by rw [List.mem_singleton.mp z]; exact ha0)
              · exact .inl (.inr z)
            · rcases z with z | z
              · exact hA0 (by rw [← List.mem_singleton.mp z]; exact ha)
              · exact S.dj a ha z
            · rcases z with z | z
              · rw [List.mem_singleton.mp z, upd_same]; simp
              · obtain ⟨o, e⟩ := some_of (S.dm a z)
                rw [same0 a o e]; simp
            · rcases z with z | z
              · rw [List.mem_singleton.mp z, upd_same]; simp
              · obtain ⟨o, e⟩ := some_of (S.dm a z)
                rw [same0 a o e, ← e]; exact S.nt a z xs
          refine vE gd a ea S0 _ fun vk H1 A1 B1 r1 => ?_
          refine vE gd b eb (Res.next S0.bas r1) _ fun vz H2 A2 B2 r2 => ?_
          have r := two_res (P1 := fun _ => True) S0 r1 r2
          obtain ⟨t, rfl, ht, _⟩ := tk_ok hk r.ok.1
          have hA0 : a0 ∉ A := hA0
          have h2 : H2 a0 = some (.dT []) := r.kp a0 _ (.inr hA0) upd_same
          refine ⟨h2, t, ks, rfl, ht, hq _ _ A2 (a0 :: B2) ?_⟩
          refine Res.openAt S ha0 (fun xs z => by cases z) r (List.sublist_append_right B1 B2) fun n0 st => ?_
          exact .dTO upd_same ⟨rfl, List.pairwise_singleton _ _⟩ (.cons (r.ok.2.step st fun a ha h => n0 a (.inl (List.mem_append_right _ ha)) h) .nil (List.append_nil _).symm)
        · cases h
      · cases h
    · cases h
  | .dc own k v tg it ifs, ρ, w, ρ', h, H, F, σ, A, S => by
    simp only [evE] at h
    refine keep_snd S (fun w ρ' h => ?_) h
    split at h
    · rename_i xs ρ1 ea
      split at h
      · rename_i ht
        split at h
        · rename_i ks ws ρ2 eg
          cases h
          intro Q hq
          unfold rdE
          refine vI gd it ea S _ fun J H1 A1 G hJ r1 => ?_
          have L := lcP_of (own := own) (ifs := ifs) ht (fun {_ _ _} h {_ _ _ _ _ _} hh => vG gd tg h hh) (fun {_ _ _} h {_ _ _ _} S => vTs gd ifs h S) (fun {_ _ _} h {_ _ _ _} S => vE gd v h S)
          have Lk := lcP_of (own := own) (ifs := ifs) ht (fun {_ _ _} h {_ _ _ _ _ _} hh => vG gd tg h hh) (fun {_ _ _} h {_ _ _ _} S => vTs gd ifs h S) (fun {_ _ _} h {_ _ _ _} S => vE gd k h S)
          refine dc_loop L Lk hJ S r1 eg Q fun v H' A' B r => hq v H' A' B (r.weak fun h => ?_)
          simp only [pureE, Bool.and_eq_true] at h ⊢
          exact ⟨h.1, trivial, h.2.1, h.2.2⟩
        · cases h
      · cases h
    · cases h
  | .lock own elt tg d ifs, ρ, w, ρ', h, H, F, σ, A, S => by
    simp only [evE] at h
    split at h
    · rename_i i
      split at h
      · rename_i ks vs ex
        split at h
        · rename_i ht
          rw [Bool.and_eq_true, Bool.and_eq_true, Bool.and_eq_true, decide_eq_true_eq] at ht
          split at h
          · rename_i ys ρ2 eg
            split at h
            · rename_i hi
              cases h
              intro Q hq
              unfold rdE
              obtain ⟨dd, kvs, e1, h1, rfl, hdA, go⟩ := lock_state S ex
              refine ⟨dd, .dT kvs, h1, trivial, fun od => ?_⟩
              obtain ⟨A1, S1, hA1, n1, nF⟩ := go od
              unfold tLc
              dsimp only
              rw [rd_var, e1]
              refine ⟨od, .inr ⟨kvs, upd_same, ?_⟩⟩
              have L := lcP_of (own := own) (ifs := ifs) ht.1 (fun {_ _ _} h {_ _ _ _ _ _} hh => vG gd tg h hh) (fun {_ _ _} h {_ _ _ _} S => vTs gd ifs h S) (fun {_ _ _} h {_ _ _ _} S => vE gd elt h S)
              have hl : ((kvs.map (·.1)).map fun k => W.tup false (k.map wKey)).length ≤ lim := by rw [List.length_map]; exact ht.2.1
              refine lc_loop (pi := true) L itd_keysT S1 (Res.here S1 ⟨upd_same, fun z => ?_⟩) eg hl (fun v H' => H' dd = some (HO.frz od (HO.dT kvs)) ∧ Q v (upd H' dd (HO.dT kvs))) fun v H' A' B r => ?_
              · rcases z with (z | z) | z
                · cases z
                · exact n1 z
                · exact nF z
              · have r' := r.weak (q := true) fun _ => by rw [ht.2.2.1, ht.2.2.2]; rfl
                obtain ⟨hd1, r2⟩ := lock_back S h1 hdA hA1 r' (by simpa [iso] using hi)
                exact ⟨hd1, hq v _ A B r2⟩
            · cases h
          · cases h
        · cases h
      · cases h
    · cases h
  | .lc own elt tg it ifs, ρ, w, ρ', h, H, F, σ, A, S => by
    simp only [evE] at h
    refine keep_snd S (fun w ρ' h => ?_) h
    split at h
    · rename_i xs ρ1 ea
      split at h
      · rename_i ht
        rw [Bool.and_eq_true, decide_eq_true_eq] at ht
        split at h
        · rename_i ys ρ2 eg
          cases h
          intro Q hq
          unfold rdE
          refine vI gd it ea S _ fun J H1 A1 G hJ r1 => ?_
          have L := lcP_of (own := own) (ifs := ifs) ht.1 (fun {_ _ _} h {_ _ _ _ _ _} hh => vG gd tg h hh) (fun {_ _ _} h {_ _ _ _} S => vTs gd ifs h S) (fun {_ _ _} h {_ _ _ _} S => vE gd elt h S)
          refine lc_loop L hJ S r1 eg ht.2 Q fun v H' A' B r => hq v H' A' B (r.weak fun h => ?_)
          simp only [pureE, Bool.and_eq_true] at h ⊢
          exact ⟨h.1, trivial, h.2.1, h.2.2⟩
        · cases h
      · cases h
    · cases h
theorem vEs (gd : Good K T Φ) : ∀ (es : Es) {ρ : Rho} {ws : List W} {ρ' : Rho}, evEs T.bare Φ prot es ρ = some (ws, ρ') → ∀ {H : Hp} {F : US} {σ : L2.St} {A : List Addr}, Stt K H F σ ρ A → SndL (pureEs Φ es) K H F σ A ws ρ' (rdEs T K es σ H)
  | .nil, ρ, ws, ρ', h, H, F, σ, A, S => by
    simp only [evEs] at h
    cases h
    exact fun Q hq => by
      unfold rdEs
      exact nil_snd S Q hq
  | .cons e es, ρ, ws, ρ', h, H, F, σ, A, S => by
    simp only [evEs] at h
    split at h
    · rename_i w ρ1 ea
      split at h
      · rename_i ws2 ρ2 eb
        cases h
        exact fun Q hq => by
          unfold rdEs
          exact cons_snd S (vE gd e ea S) (fun H1 A1 F1 S1 => vEs gd es eb S1) Q hq
      · cases h
    · cases h
theorem vTs (gd : Good K T Φ) : ∀ (es : Es) {ρ : Rho} {b : Bool} {ρ' : Rho}, evTs T.bare Φ prot es ρ = some (b, ρ') → ∀ {H : Hp} {F : US} {σ : L2.St} {A : List Addr}, Stt K H F σ ρ A → SndB (pureEs Φ es) K H F σ A b ρ' (rdTs T K es σ H)
  | .nil, ρ, b, ρ', h, H, F, σ, A, S => by
    simp only [evTs] at h
    cases h
    exact fun Q hq => by
      unfold rdTs
      exact hq H A (Res.here S trivial)
  | .cons e es, ρ, b, ρ', h, H, F, σ, A, S => by
    simp only [evTs] at h
    split at h
    · rename_i b ρ1 ea
      cases h
      intro Q hq
      unfold rdTs
      refine vE gd e ea S _ fun v H1 A1 B r => ?_
      obtain ⟨rfl, rfl⟩ := r.ok.bl_inv
      refine hq H1 A1 ((r.imp fun _ => trivial).weak fun h => ?_)
      simp only [pureEs, Bool.and_eq_true] at h
      exact h.1
    · cases h
theorem vI (gd : Good K T Φ) : ∀ (it : It') {ρ : Rho} {ws : List W} {ρ' : Rho}, evI T.bare Φ prot it ρ = some (ws, ρ') → ∀ {H : Hp} {F : US} {σ : L2.St} {A : List Addr}, Stt K H F σ ρ A → SndI (pureI Φ it) K H F σ A ws ρ' (rdI T K it σ H)
  | .seq e, ρ, ws, ρ', h, H, F, σ, A, S => by
    simp only [evI] at h
    split at h
    · rename_i w ρ1 ea
      split at h
      · rename_i xs ex
        cases h
        intro R hR
        unfold rdI
        refine vE gd e ea S _ fun v H1 A1 B r => ?_
        have sub : ∀ a, ((a ∈ ([] : List Addr) ∨ a ∈ A1) ∨ F a) → ((a ∈ B ∨ a ∈ A1) ∨ F a) ∧ a ∉ B := fun a z => by
          rcases z with (z | z) | z
          · cases z
          · exact ⟨.inl (.inr z), fun h => (List.nodup_append.mp r.nd).2.2 a h a z rfl⟩
          · refine ⟨.inr z, fun h => ?_⟩
            rcases r.pv a (.inl h) with h | h
            · exact S.dj a h z
            · exact S.dm a z h
        cases w <;> simp only [seqW, Option.some.injEq, reduceCtorEq] at ex
        · obtain ⟨rfl, rfl⟩ := r.ok.str_inv
          subst ex
          exact hR _ H1 A1 _ itd_str (r.drop0 trivial)
        · rename_i o ys
          obtain ⟨a, us, B', rfl, e1, d, s⟩ := r.ok.lst_inv
          subst ex
          have hG : GL K a (frzL ys) H1 (fun a => (a ∈ ([] : List Addr) ∨ a ∈ A1) ∨ F a) := by
            cases r.ok with
            | lstO h1 h2 => exact ⟨_, fun z => (sub _ z).2 (List.mem_cons_self ..), h1, h2.frz fun b z => ⟨(sub b z).1, fun q => (sub b z).2 (List.mem_cons_of_mem _ q)⟩⟩
            | lstV h0 h1 h2 => exact ⟨_, fun z => h0 (sub _ z).1, h1, h2.frz fun b z => ⟨(sub b z).1, fun q => by cases q⟩⟩
          exact .inl ⟨⟨us, .of e1⟩, hR _ H1 A1 _ itd_list (r.drop0 hG)⟩
        · obtain ⟨a, us, rfl, n1, e1, d⟩ := r.ok.tup_inv
          subst ex
          exact .inr ⟨⟨us, .of e1⟩, hR _ H1 A1 _ itd_tup (r.drop0 ⟨us, fun z => n1 (sub a z).1, e1, d.frz sub⟩)⟩
      · cases h
    · cases h
  | .rng1 a, ρ, ws, ρ', h, H, F, σ, A, S => by
    simp only [evI] at h
    split at h
    · rename_i j ρ1 ea
      split at h
      · rename_i hj
        cases h
        intro R hR
        unfold rdI
        refine vE gd a ea S _ fun v H1 A1 B r => ?_
        obtain ⟨rfl, rfl⟩ := r.ok.int_inv
        simp only [rgOkB, Bool.and_eq_true, decide_eq_true_eq] at hj
        refine ⟨hj.2.2.1, hj.2.2.2, ?_⟩
        have := hR (Itr 0 (j - 0).toNat) H1 A1 _ itd_rng (r.imp fun _ => trivial)
        rwa [Int.sub_zero] at this
      · cases h
    · cases h
  | .rng2 a b, ρ, ws, ρ', h, H, F, σ, A, S => by
    simp only [evI] at h
    split at h
    · rename_i i ρ1 ea
      split at h
      · rename_i j ρ2 eb
        split at h
        · rename_i hj
          cases h
          intro R hR
          unfold rdI
          refine vE gd a ea S _ fun v H1 A1 B r1 => ?_
          obtain ⟨rfl, rfl⟩ := r1.ok.int_inv
          refine vE gd b eb (after0 S r1) _ fun v H2 A2 B r2 => ?_
          obtain ⟨rfl, rfl⟩ := r2.ok.int_inv
          simp only [rgOkB, Bool.and_eq_true, decide_eq_true_eq] at hj
          exact ⟨⟨hj.1, hj.2.1, hj.2.2.1, hj.2.2.2⟩, hR _ H2 A2 _ itd_rng ((seq0 S r1 r2).imp fun _ => trivial)⟩
        · cases h
      · cases h
    · cases h
  | .enum e, ρ, ws, ρ', h, H, F, σ, A, S => by
    simp only [evI] at h
    split at h
    · rename_i o xs ρ1 ea
      cases h
      intro R hR
      unfold rdI
      refine vE gd e ea S _ fun v H1 A1 B r => ?_
      have sub : ∀ a, ((a ∈ ([] : List Addr) ∨ a ∈ A1) ∨ F a) → ((a ∈ B ∨ a ∈ A1) ∨ F a) ∧ a ∉ B := fun a z => by
        rcases z with (z | z) | z
        · cases z
        · exact ⟨.inl (.inr z), fun h => (List.nodup_append.mp r.nd).2.2 a h a z rfl⟩
        · refine ⟨.inr z, fun h => ?_⟩
          rcases r.pv a (.inl h) with h | h
          · exact S.dj a h z
          · exact S.dm a z h
      obtain ⟨a, us, B', rfl, e1, d, s⟩ := r.ok.lst_inv
      have hG : GL K a (frzL xs) H1 (fun a => (a ∈ ([] : List Addr) ∨ a ∈ A1) ∨ F a) := by
        cases r.ok with
        | lstO h1 h2 => exact ⟨_, fun z => (sub _ z).2 (List.mem_cons_self ..), h1, h2.frz fun b z => ⟨(sub b z).1, fun q => (sub b z).2 (List.mem_cons_of_mem _ q)⟩⟩
        | lstV h0 h1 h2 => exact ⟨_, fun z => h0 (sub _ z).1, h1, h2.frz fun b z => ⟨(sub b z).1, fun q => by cases q⟩⟩
      exact ⟨⟨us, .of e1⟩, hR _ H1 A1 _ itd_enum (r.drop0 hG)⟩
    · cases h
  | .dct e, ρ, ws, ρ', h, H, F, σ, A, S => by
    simp only [evI] at h
    cases h
theorem vG (gd : Good K T Φ) : ∀ (t : Tg) {w : W} {ρ ρ' : Rho}, evG T.bare Φ prot t w ρ = some ρ' → ∀ {H : Hp} {F : US} {σ : L2.St} {A : List Addr} {v : V} {B : List Addr}, Held K H F σ ρ A B (fun U => Dn K H U v w B) → SndG (pureG t) prot K H F σ A B ρ' (fun vs => tgIn vs t = true) (rdG T K t v σ H)
  | .nm i, w, ρ, ρ', h, H, F, σ, A, v, B, hh => by
    simp only [evG] at h
    split at h
    · rename_i hi
      cases h
      intro Q hq
      unfold rdG
      obtain ⟨A', r⟩ := nm_res hh hi.2
      refine hq _ H A' r (fun j hj => List.getElem?_set_ne (by omega)) fun vs hv => wipe_set (by simpa [tgIn] using hv)
    · cases h
  | .tp ts, w, ρ, ρ', h, H, F, σ, A, v, B, hh => by
    simp only [evG] at h
    split at h
    · rename_i o xs
      obtain ⟨a, us, rfl, n1, e1, d⟩ := hh.dn.tup_inv
      intro Q hq
      unfold rdG
      refine ⟨us, .inl (.of e1), by rw [dnAll_len d]; exact evGs_len h, ?_⟩
      exact vGs gd ts h ⟨hh.S, d, hh.nB, hh.dB⟩ Q fun σ' H' A' r h1 h2 => hq σ' H' A' r h1 fun vs hv => h2 vs (by simpa [tgIn] using hv)
    · rename_i o xs
      obtain ⟨a, us, B', rfl, e1, d, s⟩ := hh.dn.lst_inv
      intro Q hq
      unfold rdG
      refine ⟨us, .inr (.of e1), by rw [dnAll_len d]; exact evGs_len h, ?_⟩
      have hh' : Held K H F σ ρ A B' (fun U => DnAll K H U us xs B') := by
        refine ⟨⟨hh.S.reps.less fun b z => z.imp_right fun z => z.imp_left fun z => s.subset z, hh.S.nd, fun a ha z => hh.S.dj a ha (z.imp_left fun z => s.subset z), fun a z => hh.S.dm a (z.imp_left fun z => s.subset z), fun a z => hh.S.nt a (z.imp_left fun z => s.subset z)⟩,
          d.less fun b z => z.imp_left fun z => z.imp_left fun z => s.subset z, hh.nB.sublist s, fun a z => hh.dB a (s.subset z)⟩
      refine vGs gd ts h hh' Q fun σ' H' A' r h1 h2 => hq σ' H' A' ?_ h1 fun vs hv => h2 vs (by simpa [tgIn] using hv)
      have sub : ∀ a, a ∈ B' ++ A → a ∈ B ++ A := fun a z => by
        rcases List.mem_append.mp z with z | z
        · exact List.mem_append_left _ (s.subset z)
        · exact List.mem_append_right _ z
      exact ⟨r.ok, r.reps, r.nd, fun a z => (r.pv a z).imp_left (sub a), r.fr, fun b o z e => r.kp b o (z.imp_right fun z h => z (sub b h)) e, r.db, r.nb⟩
    · cases h
  | .sub o i, w, ρ, ρ', h, H, F, σ, A, v, B, hh => by
    simp only [evG] at h
    split at h
    · rename_i s
      split at h
      · rename_i x0 ex0
        split at h
        · rename_i k ρ1 ek
          split at h
          · rename_i x ex
            split at h
            · rename_i x' ex'
              cases h
              obtain ⟨vx, L, B0, R, e1, _⟩ := hh.S.slot ex0
              intro Q hq
              unfold rdG
              unfold rdE
              rw [e1]
              refine vE gd i ek hh.S _ fun vk H1 A1 Bk r => ?_
              exact put_snd (held_bas hh) (held_res hh r) ex e1 ex' _ fun H' A' r' => hq σ H' A' r' (fun _ _ => rfl) fun us hu => by simp [tgIn] at hu
            · cases h
          · cases h
        · cases h
      · cases h
    · cases h
theorem vGs (gd : Good K T Φ) : ∀ (ts : Tgs) {ws : List W} {ρ ρ' : Rho}, evGs T.bare Φ prot ts ws ρ = some ρ' → ∀ {H : Hp} {F : US} {σ : L2.St} {A : List Addr} {vs : List V} {B : List Addr}, Held K H F σ ρ A B (fun U => DnAll K H U vs ws B) → SndG (pureGs ts) prot K H F σ A B ρ' (fun us => tgIn.tgIns us ts = true) (rdGs T K ts vs σ H)
  | .nil, ws, ρ, ρ', h, H, F, σ, A, vs, B, hh => by
    simp only [evGs] at h
    split at h
    · cases h
      obtain ⟨rfl, rfl⟩ := dnAll_nilW hh.dn
      intro Q hq
      unfold rdGs
      have S : Stt K H F σ ρ A := by
        have := hh.S
        rw [F_nil] at this
        exact this
      exact hq σ H A (Res.here S trivial) (fun _ _ => rfl) fun _ _ => rfl
    · cases h
  | .cons t ts, ws, ρ, ρ', h, H, F, σ, A, vs, B, hh => by
    simp only [evGs] at h
    split at h
    · rename_i w ws
      split at h
      · rename_i ρ1 ea
        have hd := hh.dn
        cases hd with
        | @cons v vs _ _ B1 B2 _ d1 d2 eB =>
          subst eB
          intro Q hq
          unfold rdGs
          have nB := List.nodup_append.mp hh.nB
          have eF : (fun a => a ∈ B1 ++ B2 ∨ F a) = fun a => a ∈ B1 ∨ (a ∈ B2 ∨ F a) := by
            funext a
            apply propext
            rw [List.mem_append]
            exact or_assoc
          have h1 : Held K H (fun a => a ∈ B2 ∨ F a) σ ρ A B1 (fun U => Dn K H U v w B1) := by
            refine ⟨by rw [← eF]; exact hh.S, d1.less fun b z => ?_, nB.1, fun a ha z => ?_⟩
            · rcases z with (z | z) | z | z
              · exact .inl (.inl (List.mem_append_left _ z))
              · exact .inl (.inr z)
              · exact .inl (.inl (List.mem_append_right _ z))
              · exact .inr z
            · rcases z with z | z
              · exact nB.2.2 a ha a z rfl
              · exact hh.dB a (List.mem_append_left _ ha) z
          refine vG gd t ea h1 _ fun σ1 H1 A1 r1 p1 w1 => ?_
          have S1 : Stt K H1 (fun a => a ∈ B2 ∨ F a) σ1 ρ1 A1 := h1.next r1
          have nB1A : ∀ a ∈ B2, a ∉ B1 ++ A := fun a h2 h => by
            rcases List.mem_append.mp h with h | h
            · exact nB.2.2 a h a h2 rfl
            · exact hh.S.dj a h (.inl (List.mem_append_right _ h2))
          have d2' : DnAll K H1 (fun a => (a ∈ B2 ∨ a ∈ A1) ∨ F a) vs ws B2 := d2.step (M := fun a => a ∈ B1 ++ A) ⟨fun b o n e => r1.kp b o (.inr n) e, fun b m => by
            rcases List.mem_append.mp m with m | m
            · exact .inl (.inl (List.mem_append_left _ m))
            · exact .inl (.inr m), fun b z => by
            rcases z with (z | z) | z
            · exact .inl (.inl (.inl (List.mem_append_right _ z)))
            · rcases r1.pv b (.inr z) with h | h
              · rcases List.mem_append.mp h with h | h
                · exact .inl (.inl (.inl (List.mem_append_left _ h)))
                · exact .inl (.inl (.inr h))
              · exact .inr h
            · exact .inl (.inr z)⟩ fun a ha h => nB1A a ha h
          have h2 : Held K H1 F σ1 ρ1 A1 B2 (fun U => DnAll K H1 U vs ws B2) := ⟨S1, d2', nB.2.1, fun a ha => hh.dB a (List.mem_append_right _ ha)⟩
          refine vGs gd ts h h2 Q fun σ2 H2 A2 r2 p2 w2 => hq σ2 H2 A2 ?_ (fun j hj => (p2 j hj).trans (p1 j hj)) fun us hu => ?_
          · have pv : ∀ a, a ∈ ([] : List Addr) ∨ a ∈ A2 → a ∈ (B1 ++ B2) ++ A ∨ H a = none := fun a z => by
              rcases r2.pv a z with h | h
              · rcases List.mem_append.mp h with h | h
                · exact .inl (by simp [h])
                · rcases r1.pv a (.inr h) with h | h
                  · rcases List.mem_append.mp h with h | h
                    · exact .inl (by simp [h])
                    · exact .inl (by simp [h])
                  · exact .inr h
              · rcases r1.was h with h | h
                · rcases List.mem_append.mp h with h | h
                  · exact .inl (by simp [h])
                  · exact .inl (by simp [h])
                · exact .inr h
            refine ⟨trivial, r2.reps, r2.nd, pv, fun _ a z => (by cases z), fun b o z e => ?_, fun a z => (by cases z), fun a z => (by cases z)⟩
            simp only [pureGs, Bool.and_eq_true] at z
            refine r2.kp b o (z.elim (fun z => .inl z.2) fun z => .inr fun h => ?_) (r1.kp b o (z.elim (fun z => .inl z.1) fun z => .inr fun h => z ?_) e)
            · rcases List.mem_append.mp h with h | h
              · exact z (by simp [h])
              · rcases r1.pv b (.inr h) with h | h
                · exact z (by
                    rcases List.mem_append.mp h with h | h <;> simp [h])
                · rw [h] at e; cases e
            · rcases List.mem_append.mp h with h | h <;> simp [h]
          · simp only [tgIn.tgIns, Bool.and_eq_true] at hu
            exact (w2 us hu.2).trans (w1 us hu.1)
      · cases h
    · cases h
end
end
end Ev

set_option Elab.async false
set_option linter.all false
set_option maxRecDepth 100000
set_option maxHeartbeats 8000000
/-! Statements: what the evaluator finds is what the reading does; the def. -/
namespace Ev
open PySem PySem.Spec PyProof.Rows L2
section
variable {K : PySem.W.Frag} {T : Tab} {Φ : Nat → Fun} {prot : Nat} {H H1 H2 : Hp} {F U : US} {σ σ' σ1 σ2 : L2.St} {ρ ρ' ρ1 ρ2 : Rho} {A A1 A2 A' B B0 B1 B2 C : List Addr} {p q : Bool} {w x y z c : W} {ws ds ys : List W} {v : V}
/-- what a statement's end is to bring -/
def Brings (prot : Nat) (K : PySem.W.Frag) (H : Hp) (F : US) (σ : L2.St) (A : List Addr) (o : Out) (D : Ends) : Prop :=
  match o with
  | .nx ρ' => ∀ σ' H' A', Res false K H F A H' σ' ρ' A' [] (fun _ => True) → (∀ j, j < prot → σ'[j]? = σ[j]?) → D.nx σ' H'
  | .ct ρ' => ∀ σ' H' A', Res false K H F A H' σ' ρ' A' [] (fun _ => True) → (∀ j, j < prot → σ'[j]? = σ[j]?) → D.ct σ' H'
  | .bk ρ' => ∀ σ' H' A', Res false K H F A H' σ' ρ' A' [] (fun _ => True) → (∀ j, j < prot → σ'[j]? = σ[j]?) → D.bk σ' H'
  | .rt w ρ' => ∀ v σ' H' A' B, Res false K H F A H' σ' ρ' A' B (fun U => Dn K H' U v w B) → (∀ j, j < prot → σ'[j]? = σ[j]?) → D.rt v H'
def SndS (prot : Nat) (K : PySem.W.Frag) (H : Hp) (F : US) (σ : L2.St) (A : List Addr) (o : Out) (rd : Ends → Prop) : Prop := ∀ D : Ends, Brings prot K H F σ A o D → rd D
theorem Brings.after {P : US → Prop} {o : Out} {D : Ends} (S : Stt K H F σ ρ A) (r1 : Res p K H F A H1 σ1 ρ1 A1 [] P) (hp : ∀ j, j < prot → σ1[j]? = σ[j]?) (h : Brings prot K H F σ A o D) : Brings prot K H1 F σ1 A1 o D := by
  cases o with
  | nx ρ' => exact fun σ' H' A' r2 hq => h σ' H' A' ((seq0 S r1 r2).weak fun z => by cases z) fun j hj => (hq j hj).trans (hp j hj)
  | ct ρ' => exact fun σ' H' A' r2 hq => h σ' H' A' ((seq0 S r1 r2).weak fun z => by cases z) fun j hj => (hq j hj).trans (hp j hj)
  | bk ρ' => exact fun σ' H' A' r2 hq => h σ' H' A' ((seq0 S r1 r2).weak fun z => by cases z) fun j hj => (hq j hj).trans (hp j hj)
  | rt w ρ' => exact fun v σ' H' A' B r2 hq => h v σ' H' A' B ((seq0 S r1 r2).weak fun z => by cases z) fun j hj => (hq j hj).trans (hp j hj)
theorem Res.loose {P : US → Prop} (r : Res p K H F A H1 σ1 ρ1 A1 [] P) : Res false K H F A H1 σ1 ρ1 A1 [] (fun _ => True) := (r.imp fun _ => trivial).weak fun z => by cases z
/-- a slot given away -/
theorem move_slot {i : Nat} (S : Stt K H F σ ρ A) (e : ρ[i]? = some (some w)) : ∃ v A1 B, σ[i]? = some (some v) ∧ Res false K H F A H σ (ρ.set i none) A1 B (fun U => Dn K H U v w B) := by
  obtain ⟨v, L, B0, R, e1, e2, d, d1, d2⟩ := S.reps.split e
  have hi : i < ρ.length := (List.getElem?_eq_some_iff.mp e).1
  have hlen := S.reps.len
  have inA : ∀ a, a ∈ A ↔ a ∈ L ∨ a ∈ B0 ∨ a ∈ R := fun a => by rw [e2]; simp only [List.mem_append]
  have hu : ∀ a, ((a ∈ B0 ∨ a ∈ L ++ R) ∨ F a) → (a ∈ A ∨ F a) := fun a z => z.imp_left fun z => by
    rcases z with z | z
    · exact (inA a).mpr (.inr (.inl z))
    · rcases List.mem_append.mp z with z | z
      · exact (inA a).mpr (.inl z)
      · exact (inA a).mpr (.inr (.inr z))
  have nd := S.nd
  rw [e2] at nd
  refine ⟨v, L ++ R, B0, e1, d.less hu, ?_, ?_, fun a z => ?_, fun z => (by cases z), fun b o _ e => e, fun a z => S.reps.dom a ((inA a).mpr (.inr (.inl z))), fun a z => S.reps.notup a ((inA a).mpr (.inr (.inl z)))⟩
  · have j := Reps.joinD (x := some v) hlen hi (d1.less hu) (d2.less hu)
    have es : σ.set i (some v) = σ := by
      have hσ : i < σ.length := by omega
      have e3 : σ[i] = some v := by
        have := List.getElem?_eq_getElem hσ
        rw [e1] at this
        exact (Option.some.inj this).symm
      rw [← e3]
      exact List.set_getElem_self hσ
    rw [es] at j
    exact j
  · have p1 : (B0 ++ (L ++ R)).Perm (L ++ (B0 ++ R)) := by
      rw [← List.append_assoc, ← List.append_assoc]
      exact List.perm_append_comm.append_right R
    exact p1.nodup_iff.mpr nd
  · refine .inl ?_
    rcases z with z | z
    · exact (inA a).mpr (.inr (.inl z))
    · rcases List.mem_append.mp z with z | z
      · exact (inA a).mpr (.inl z)
      · exact (inA a).mpr (.inr (.inr z))
theorem SndE.loose {rd : VK → Prop} (h : SndE p K H F σ A w ρ' rd) : SndE false K H F σ A w ρ' rd := h.weak fun z => by cases z
/-- a value that is returned: a name's own value goes with it -/
theorem mv_snd (gd : Good K T Φ) (e : E) (h : (match e with | .var i => if prot ≤ i then (match ρ[i]? with | some (some w) => some (w, ρ.set i none) | _ => none) else evE T.bare Φ prot e ρ | _ => evE T.bare Φ prot e ρ) = some (w, ρ')) (S : Stt K H F σ ρ A) :
    SndE false K H F σ A w ρ' (rdE T K e σ H) := by
  split at h
  · rename_i i
    split at h
    · split at h
      · rename_i w0 e0
        cases h
        obtain ⟨v, A1, B, e1, r⟩ := move_slot S e0
        intro Q hq
        rw [rd_var, e1]
        exact hq v H A1 B r
      · cases h
    · exact (vE gd _ h S).loose
  · exact (vE gd _ h S).loose
theorem vRs (gd : Good K T Φ) : ∀ (es : Es) {ρ : Rho} {ws : List W} {ρ' : Rho}, evR.evRs T.bare Φ prot es ρ = some (ws, ρ') → ∀ {H : Hp} {F : US} {σ : L2.St} {A : List Addr}, Stt K H F σ ρ A → SndL false K H F σ A ws ρ' (rdEs T K es σ H)
  | .nil, ρ, ws, ρ', h, H, F, σ, A, S => by
    simp only [evR.evRs] at h
    cases h
    exact fun Q hq => by
      unfold rdEs
      exact nil_snd S Q fun vs H' A' B r => hq vs H' A' B (r.weak fun z => by cases z)
  | .cons e es, ρ, ws, ρ', h, H, F, σ, A, S => by
    simp only [evR.evRs] at h
    split at h
    · rename_i w ρ1 ea
      split at h
      · rename_i ws2 ρ2 eb
        cases h
        exact fun Q hq => by
          unfold rdEs
          exact cons_snd S (mv_snd gd e ea S) (fun H1 A1 F1 S1 => vRs gd es eb S1) Q hq
      · cases h
    · cases h
theorem vR (gd : Good K T Φ) (e : E) (h : evR T.bare Φ prot e ρ = some (w, ρ')) (S : Stt K H F σ ρ A) : SndE false K H F σ A w ρ' (rdE T K e σ H) := by
  unfold evR at h
  split at h
  · exact mv_snd (prot := prot) gd (.var _) h S
  · rename_i es
    split at h
    · rename_i ws ρ1 ea
      split at h
      · rename_i hl
        cases h
        intro Q hq
        unfold rdE
        exact vRs gd es ea S _ fun vs H1 A1 B r => ⟨by rw [dnAll_len r.ok]; exact Nat.le_trans hl lim_line, fun a ha => hq _ _ A1 B (new_tup S r ha)⟩
      · cases h
    · cases h
  · exact (vE gd _ h S).loose
/-- a value found is stored -/
theorem set_ok {t : Tg} (gd : Good K T Φ) (S : Stt K H F σ ρ A) (r : Res p K H F A H1 σ ρ1 A1 B (fun U => Dn K H1 U v w B)) (h : evG T.bare Φ prot t w ρ1 = some ρ2) (Q : L2.St → Hp → Prop)
    (hq : ∀ σ' H' A', Res false K H F A H' σ' ρ2 A' [] (fun _ => True) → (∀ j, j < prot → σ'[j]? = σ[j]?) → Q σ' H') : rdG T K t v σ H1 Q :=
  vG gd t h (Res.held S r) Q fun σ' H' A' r2 h1 _ => hq σ' H' A' (Res.loose (P := fun _ => True) (r.put r2 fun _ => trivial)) h1
theorem sets_ok {ts : Tgs} {vs : List V} (gd : Good K T Φ) (S : Stt K H F σ ρ A) (r : Res p K H F A H1 σ ρ1 A1 B (fun U => DnAll K H1 U vs ws B)) (h : evGs T.bare Φ prot ts ws ρ1 = some ρ2) (Q : L2.St → Hp → Prop)
    (hq : ∀ σ' H' A', Res false K H F A H' σ' ρ2 A' [] (fun _ => True) → (∀ j, j < prot → σ'[j]? = σ[j]?) → Q σ' H') : rdGs T K ts vs σ H1 Q :=
  vGs gd ts h (Res.held S r) Q fun σ' H' A' r2 h1 _ => hq σ' H' A' (Res.loose (P := fun _ => True) (r.put r2 fun _ => trivial)) h1
theorem evB_inv {e : E} {b : Bool} (h : evB T.bare Φ prot e ρ = some (b, ρ')) : evE T.bare Φ prot e ρ = some (.bl b, ρ') := by
  unfold evB at h
  split at h
  · rename_i e0
    cases h
    exact e0
  · cases h
/-- what a loop's body is to bring -/
theorem while_snd (gd : Good K T Φ) {c : E} {b : Ss} (hb : ∀ {ρ : Rho} {o : Out}, xSs T.bare Φ prot b ρ = some o → ∀ {H : Hp} {F : US} {σ : L2.St} {A : List Addr}, Stt K H F σ ρ A → SndS prot K H F σ A o (fun D => rdSs T K b D σ H)) {n : Nat} {o : Out}
    (h : whileGo (fun ρ => evB T.bare Φ prot c ρ) (fun ρ => xSs T.bare Φ prot b ρ) n ρ = some o) (S : Stt K H F σ ρ A) : SndS prot K H F σ A o (fun D => tWhile (rdT T K c) (rdSs T K b) D σ H) := by
  intro D hD
  refine ⟨fun m σ' H' => ∃ ρ' A', whileGo (fun ρ => evB T.bare Φ prot c ρ) (fun ρ => xSs T.bare Φ prot b ρ) m ρ' = some o ∧ Res false K H F A H' σ' ρ' A' [] (fun _ => True) ∧ ∀ j, j < prot → σ'[j]? = σ[j]?, ⟨n, ρ, A, h, Res.loose (Res.here (P := fun _ => True) S trivial), fun _ _ => rfl⟩, ?_⟩
  rintro m σ' H' ⟨ρ', A', hg, r, hp⟩
  have S' := after0 S r
  cases m with
  | zero => simp only [whileGo] at hg; cases hg
  | succ m =>
    simp only [whileGo] at hg
    split at hg
    · rename_i k ρ1 ec
      unfold rdT
      refine vE gd c (evB_inv ec) S' _ fun v H1 A1 B r1 => ?_
      obtain ⟨rfl, rfl⟩ := r1.ok.bl_inv
      have r01 : Res false K H F A H1 σ' ρ1 A1 [] (fun _ => True) := Res.loose (seq0 S r r1)
      split at hg
      · cases hg
        show (if false = true then _ else _)
        rw [if_neg (by decide)]
        exact hD σ' H1 A1 r01 hp
      · show (if true = true then _ else _)
        rw [if_pos rfl]
        split at hg
        · rename_i ob eb
          refine ⟨fun σ'' H'' => ∃ m', m' < m + 1 ∧ ∃ ρ' A', whileGo (fun ρ => evB T.bare Φ prot c ρ) (fun ρ => xSs T.bare Φ prot b ρ) m' ρ' = some o ∧ Res false K H F A H'' σ'' ρ' A' [] (fun _ => True) ∧ ∀ j, j < prot → σ''[j]? = σ[j]?, fun σ'' H'' h => h, ?_⟩
          refine hb eb (after0 S' r1) _ ?_
          have S1 := after0 S' r1
          split at hg
          · exact fun σ2 H2 A2 r2 hp2 => ⟨m, Nat.lt_succ_self m, _, A2, hg, Res.loose (seq0 S r01 r2), fun j hj => (hp2 j hj).trans (hp j hj)⟩
          · exact fun σ2 H2 A2 r2 hp2 => ⟨m, Nat.lt_succ_self m, _, A2, hg, Res.loose (seq0 S r01 r2), fun j hj => (hp2 j hj).trans (hp j hj)⟩
          · cases hg
            exact fun σ2 H2 A2 r2 hp2 => hD σ2 H2 A2 (Res.loose (seq0 S r01 r2)) fun j hj => (hp2 j hj).trans (hp j hj)
          · cases hg
            exact fun v σ2 H2 A2 B r2 hp2 => hD v σ2 H2 A2 B ((seq0 S r01 r2).weak fun z => by cases z) fun j hj => (hp2 j hj).trans (hp j hj)
        · cases hg
    · cases hg
theorem for_snd (gd : Good K T Φ) {tg : Tg} {it : It'} {b : Ss} (hb : ∀ {ρ : Rho} {o : Out}, xSs T.bare Φ prot b ρ = some o → ∀ {H : Hp} {F : US} {σ : L2.St} {A : List Addr}, Stt K H F σ ρ A → SndS prot K H F σ A o (fun D => rdSs T K b D σ H)) {o : Out}
    (hi : evI T.bare Φ prot it ρ = some (ws, ρ1)) (h : forGo (fun w ρ => evG T.bare Φ prot tg w ρ) (fun ρ => xSs T.bare Φ prot b ρ) ws ρ1 = some o) (S : Stt K H F σ ρ A) : SndS prot K H F σ A o (fun D => tFor (rdI T K it) (rdG T K tg) (rdSs T K b) D σ H) := by
  intro D hD
  refine vI gd it hi S _ fun J H1 A1 G hJ r1 => ?_
  let Iv : Nat → L2.St → Hp → Prop := fun i σ' H' => i ≤ ws.length ∧ ∃ ρ' A', forGo (fun w ρ => evG T.bare Φ prot tg w ρ) (fun ρ => xSs T.bare Φ prot b ρ) (ws.drop i) ρ' = some o ∧ Res false K H F A H' σ' ρ' A' [] (fun U => G H' U) ∧ ∀ j, j < prot → σ'[j]? = σ[j]?
  refine ⟨fun i m σ' H' => m = ws.length - i ∧ Iv i σ' H', ⟨ws.length, by simp, Nat.zero_le _, ρ1, A1, by simpa using h, r1.weak (fun z => nomatch z), fun _ _ => rfl⟩, ?_⟩
  rintro i m σ' H' ⟨rfl, hi, ρ', A', hg, r, hp⟩
  have S' := after0 S r
  have hG := r.ok
  by_cases hlt : i < ws.length
  · right
    have hw : ws[i]? = some ws[i] := List.getElem?_eq_getElem hlt
    have hdrop : ws.drop i = ws[i] :: ws.drop (i + 1) := List.drop_eq_getElem_cons hlt
    rw [hdrop] at hg
    simp only [forGo] at hg
    refine ⟨hJ.go i H' _ hlt hG, Iv (i + 1), fun σ2 H2 h => ⟨_, by omega, rfl, h⟩, fun x H2 hy => ?_⟩
    obtain ⟨hs2, hx⟩ := hJ.yld i H' _ x H2 _ hw hG hy
    split at hg
    · rename_i ρa ha
      -- the item, held by nobody
      have r2 : Res false K H F A H2 σ' ρ' A' [] (fun U => G H2 U) := r.grow hs2 (C := []) (fun c h => by cases h) List.nodup_nil (fun c h => by cases h) (fun c h => by cases h)
        (hJ.stp _ _ _ _ (fun _ => False) ⟨fun b o _ e => hs2 b o e, fun _ z => z.elim, fun b z => .inl z⟩ hG)
      have S2 := after0 S r2
      have hxv : Dn K H2 (fun a => a ∈ A' ∨ F a) x ws[i] [] := hx _ fun a z => by
        rcases z with z | z
        · exact ⟨.inl (.inr z), S'.reps.dom a z, S'.reps.notup a z⟩
        · exact ⟨.inr z, S'.dm a z, S'.nt a z⟩
      refine vG gd tg ha (Held.of_val S2 hxv) _ fun σ3 H3 A3 r3 hp3 _ => ?_
      have r3' : Res (pureG tg) K H2 F A' H3 σ3 ρa A3 [] (fun _ => True) := r3
      have S3 := after0 S2 r3'
      split at hg
      · rename_i ob eb
        refine hb eb S3 _ ?_
        have nxt : ∀ {ρ2 : Rho}, forGo (fun w ρ => evG T.bare Φ prot tg w ρ) (fun ρ => xSs T.bare Φ prot b ρ) (ws.drop (i + 1)) ρ2 = some o → ∀ σ4 H4 A4, Res false K H3 F A3 H4 σ4 ρ2 A4 [] (fun _ => True) → (∀ j, j < prot → σ4[j]? = σ3[j]?) → Iv (i + 1) σ4 H4 := fun {ρ2} hg σ4 H4 A4 r4 hp4 => by
          refine ⟨by omega, ρ2, A4, hg, ?_, fun j hj => (hp4 j hj).trans ((hp3 j hj).trans (hp j hj))⟩
          have r34 := seq0 S2 r3' r4
          have r34' : Res (pureG tg && false) K H2 (fun a => a ∈ ([] : List Addr) ∨ F a) A' H4 σ4 ρ2 A4 [] (fun _ => True) := by rw [F_nil]; exact r34
          exact (Res.seq (P := fun U => G H4 U) S r2 r34' fun s _ => hJ.stp _ _ _ _ _ s r2.ok).weak fun z => nomatch z
        split at hg
        · exact nxt hg
        · exact nxt hg
        · cases hg
          exact fun σ4 H4 A4 r4 hp4 => hD σ4 H4 A4 (Res.loose (seq0 S r2 (seq0 S2 r3' r4))) fun j hj => (hp4 j hj).trans ((hp3 j hj).trans (hp j hj))
        · cases hg
          exact fun v σ4 H4 A4 B r4 hp4 => hD v σ4 H4 A4 B ((seq0 S r2 (seq0 S2 r3' r4)).weak fun z => by cases z) fun j hj => (hp4 j hj).trans ((hp3 j hj).trans (hp j hj))
      · cases hg
    · cases hg
  · left
    have hi' : i = ws.length := by omega
    subst hi'
    rw [List.drop_length] at hg
    simp only [forGo] at hg
    cases hg
    exact ⟨hJ.stop H' _ hG, hD σ' H' A' (Res.loose r) hp⟩
mutual
theorem vS (gd : Good K T Φ) : ∀ (s : S) {ρ : Rho} {o : Out}, xS T.bare Φ prot s ρ = some o → ∀ {H : Hp} {F : US} {σ : L2.St} {A : List Addr}, Stt K H F σ ρ A → SndS prot K H F σ A o (fun D => rdS T K s D σ H)
  | .set t e, ρ, o, h, H, F, σ, A, S => by
    simp only [xS] at h
    split at h
    · rename_i w ρ1 ea
      split at h
      · rename_i ρ2 eb
        cases h
        intro D hD
        unfold rdS
        exact vE gd e ea S _ fun v H1 A1 B r => set_ok gd S r eb _ hD
      · cases h
    · cases h
  | .par2 i j a b, ρ, o, h, H, F, σ, A, S => by
    simp only [xS] at h
    split at h
    · rename_i x ρ1 ea
      split at h
      · rename_i y ρ2 eb
        split at h
        · rename_i hc
          cases h
          intro D hD
          have hE : evEs T.bare Φ prot (.cons a (.cons b .nil)) ρ = some ([x, y], ρ2) := by simp only [evEs, ea, eb]
          have hG : evGs T.bare Φ prot (.cons (.nm i) (.cons (.nm j) .nil)) [x, y] ρ2 = some ((ρ2.set i (some x)).set j (some y)) := by
            simp only [evGs, evG, if_pos (And.intro hc.1 hc.2.2.1)]
            rw [if_pos ⟨hc.2.1, by rw [List.length_set]; exact hc.2.2.2.1⟩]
          have k := vEs gd _ hE S (fun vs H => match vs with | [x, y] => D.nx ((σ.set i (some x)).set j (some y)) H | _ => False) fun vs H2 A2 B2 r => by
            obtain ⟨v1, v2, C1, C2, rfl, eB, d1, d2⟩ := two_inv r.ok
            have q := sets_ok gd S r hG D.nx hD
            simp only [rdGs, rdG] at q
            exact q
          simp only [rdEs] at k
          unfold rdS
          exact k
        · cases h
      · cases h
    · cases h
  | .par3 i j l a b c, ρ, o, h, H, F, σ, A, S => by
    simp only [xS] at h
    split at h
    · rename_i x ρ1 ea
      split at h
      · rename_i y ρ2 eb
        split at h
        · rename_i z ρ3 ec
          split at h
          · rename_i hc
            cases h
            intro D hD
            have hE : evEs T.bare Φ prot (.cons a (.cons b (.cons c .nil))) ρ = some ([x, y, z], ρ3) := by simp only [evEs, ea, eb, ec]
            have hG : evGs T.bare Φ prot (.cons (.nm i) (.cons (.nm j) (.cons (.nm l) .nil))) [x, y, z] ρ3 = some (((ρ3.set i (some x)).set j (some y)).set l (some z)) := by
              simp only [evGs, evG, if_pos (And.intro hc.1 hc.2.2.2.1)]
              rw [if_pos ⟨hc.2.1, by rw [List.length_set]; exact hc.2.2.2.2.1⟩]
              simp only []
              rw [if_pos ⟨hc.2.2.1, by rw [List.length_set, List.length_set]; exact hc.2.2.2.2.2.1⟩]
            have k := vEs gd _ hE S (fun vs H => match vs with | [x, y, z] => D.nx (((σ.set i (some x)).set j (some y)).set l (some z)) H | _ => False) fun vs H2 A2 B2 r => by
              have q := sets_ok gd S r hG D.nx hD
              have dd := r.ok
              cases dd with
              | cons d1 dd e1 =>
                cases dd with
                | cons d2 dd e2 =>
                  cases dd with
                  | cons d3 dd e3 =>
                    cases dd
                    simp only [rdGs, rdG] at q
                    exact q
            simp only [rdEs] at k
            unfold rdS
            exact k
          · cases h
        · cases h
      · cases h
    · cases h
  | .setlc i own elt tg it ifs, ρ, o, h, H, F, σ, A, S => by
    simp only [xS] at h
    split at h
    · rename_i w ρ1 ea
      split at h
      · rename_i hc
        cases h
        intro D hD
        have hG : evG T.bare Φ prot (.nm i) w ρ1 = some (ρ1.set i (some w)) := by simp only [evG, if_pos hc]
        have k := vE gd _ ea S (fun x H1 => D.nx (σ.set i (some x)) H1) fun v H1 A1 B r => by
          have q := set_ok gd S r hG D.nx hD
          simp only [rdG] at q
          exact q
        unfold rdS
        unfold rdE at k
        exact k
      · cases h
    · cases h
  | .augn i op e, ρ, o, h, H, F, σ, A, S => by
    simp only [xS] at h
    split at h
    · rename_i x ex
      split at h
      · rename_i y ρ1 ea
        obtain ⟨vx, L, B0, R, e1, _, dx, _⟩ := S.slot ex
        obtain ⟨rfl, _⟩ := dx.int_inv
        have go : ∀ {z : Int}, prot ≤ i ∧ i < ρ1.length → ∀ D : Ends, Brings prot K H F σ A (.nx (ρ1.set i (some (.int z)))) D → ∀ H1 A1 B, Res (pureE Φ e) K H F A H1 σ ρ1 A1 B (fun U => Dn K H1 U (.int y) (.int y) B) → D.nx (σ.set i (some (.int z))) H1 := fun {z} hc D hD H1 A1 B r => by
          have hG : evG T.bare Φ prot (.nm i) (.int z) ρ1 = some (ρ1.set i (some (.int z))) := by simp only [evG, if_pos hc]
          have q := set_ok gd S (v := .int z) (w := .int z) (r.drop0 (P' := fun U => Dn K H1 U (.int z) (.int z) []) (.int z)) hG D.nx hD
          simp only [rdG] at q
          exact q
        intro D hD
        unfold rdS
        rw [e1]
        refine vE gd e ea S _ fun vy H1 A1 B r => ?_
        obtain ⟨rfl, rfl⟩ := r.ok.int_inv
        split at h
        · split at h
          · rename_i hc
            cases h
            exact go hc D hD H1 A1 [] r
          · cases h
        · split at h
          · rename_i hc
            cases h
            exact go hc D hD H1 A1 [] r
          · cases h
        · cases h
      · cases h
    · cases h
  | .augs _ _ _ _, ρ, o, h, H, F, σ, A, S => by
    simp only [xS] at h
    cases h
  | .exp e, ρ, o, h, H, F, σ, A, S => by
    simp only [xS] at h
    split at h
    · rename_i w ρ1 ea
      cases h
      intro D hD
      unfold rdS
      exact vE gd e ea S _ fun v H1 A1 B r => hD σ H1 A1 (Res.loose (r.drop0 (P' := fun _ => True) trivial)) fun _ _ => rfl
    · cases h
  | .ret e, ρ, o, h, H, F, σ, A, S => by
    simp only [xS] at h
    split at h
    · rename_i w ρ1 ea
      cases h
      intro D hD
      unfold rdS
      exact vR gd e ea S _ fun v H1 A1 B r => hD v σ H1 A1 B r fun _ _ => rfl
    · cases h
  | .ite c a b, ρ, o, h, H, F, σ, A, S => by
    simp only [xS] at h
    split at h
    · rename_i k ρ1 ea
      intro D hD
      unfold rdS
      refine vE gd c (evB_inv ea) S _ fun v H1 A1 B r1 => ?_
      obtain ⟨rfl, rfl⟩ := r1.ok.bl_inv
      split at h
      · show (if true = true then _ else _)
        rw [if_pos rfl]
        exact vSs gd a h (after0 S r1) D (hD.after S r1 fun _ _ => rfl)
      · show (if false = true then _ else _)
        rw [if_neg (by decide)]
        exact vSs gd b h (after0 S r1) D (hD.after S r1 fun _ _ => rfl)
    · cases h
  | .while c b, ρ, o, h, H, F, σ, A, S => by
    simp only [xS] at h
    intro D hD
    unfold rdS
    exact while_snd gd (fun {_ _} h {_ _ _ _} S => vSs gd b h S) h S D hD
  | .for tg it b, ρ, o, h, H, F, σ, A, S => by
    simp only [xS] at h
    split at h
    · rename_i xs ρ1 ea
      intro D hD
      unfold rdS
      exact for_snd gd (fun {_ _} h {_ _ _ _} S => vSs gd b h S) ea h S D hD
    · cases h
  | .lock _, ρ, o, h, H, F, σ, A, S => by
    simp only [xS] at h
    cases h
  | .cont, ρ, o, h, H, F, σ, A, S => by
    simp only [xS] at h
    cases h
    intro D hD
    unfold rdS
    exact hD σ H A (Res.loose (Res.here (P := fun _ => True) S trivial)) fun _ _ => rfl
  | .brk, ρ, o, h, H, F, σ, A, S => by
    simp only [xS] at h
    cases h
    intro D hD
    unfold rdS
    exact hD σ H A (Res.loose (Res.here (P := fun _ => True) S trivial)) fun _ _ => rfl
  | .pass, ρ, o, h, H, F, σ, A, S => by
    simp only [xS] at h
    cases h
    intro D hD
    unfold rdS
    exact hD σ H A (Res.loose (Res.here (P := fun _ => True) S trivial)) fun _ _ => rfl
  | .never, ρ, o, h, H, F, σ, A, S => by
    simp only [xS] at h
    cases h
theorem vSs (gd : Good K T Φ) : ∀ (ss : Ss) {ρ : Rho} {o : Out}, xSs T.bare Φ prot ss ρ = some o → ∀ {H : Hp} {F : US} {σ : L2.St} {A : List Addr}, Stt K H F σ ρ A → SndS prot K H F σ A o (fun D => rdSs T K ss D σ H)
  | .nil, ρ, o, h, H, F, σ, A, S => by
    simp only [xSs] at h
    cases h
    intro D hD
    unfold rdSs
    exact hD σ H A (Res.loose (Res.here (P := fun _ => True) S trivial)) fun _ _ => rfl
  | .cons s ss, ρ, o, h, H, F, σ, A, S => by
    simp only [xSs] at h
    split at h
    · rename_i o1 ea
      intro D hD
      unfold rdSs
      refine vS gd s ea S _ ?_
      split at h
      · exact fun σ1 H1 A1 r1 hp => vSs gd ss h (after0 S r1) D (hD.after S r1 hp)
      · cases h
        exact hD
      · cases h
        exact hD
      · cases h
        exact hD
    · cases h
end
/-! ### the def -/
theorem reps_all {vs : List V} (h : DnAll K H U vs ws A) : Reps K H U (vs.map some) (ws.map some) A := by
  induction ws generalizing vs A with
  | nil => cases h; exact .nil
  | cons w ws ih =>
    cases h with
    | cons h1 h2 e => exact .one h1 (ih h2) e
theorem reps_none : ∀ n : Nat, Reps K H U (List.replicate n none) (List.replicate n none) []
  | 0 => .nil
  | n + 1 => .dead (reps_none n)
theorem start_stt {io : Bool} {N : List Str} {vs : List V} (hl : vs.length = ws.length) (S : Stt K H F (hdS io vs) (hdR io ws) A) (d : DnAll K H (fun a => a ∈ A ∨ F a) (tlV io vs) (tlW io ws) []) :
    Stt K H F (start N vs) (ws.map some ++ List.replicate (N.length - ws.length) none) A := by
  refine ⟨?_, S.nd, S.dj, S.dm, S.nt⟩
  unfold L2.start
  rw [hl]
  have key : Reps K H (fun a => a ∈ A ∨ F a) (vs.map some) (ws.map some) A := by
    cases io with
    | false =>
      have z : A = [] := by
        have := S.reps
        cases this
        rfl
      subst z
      exact reps_all d
    | true =>
      cases vs with
      | nil =>
        have z : ws = [] := List.length_eq_zero_iff.mp hl.symm
        subst z
        have z : A = [] := by
          have := S.reps
          cases this with
          | dead h => cases h; rfl
        subst z
        exact .nil
      | cons v vs =>
        cases ws with
        | nil => cases hl
        | cons w ws =>
          have k := S.reps.app (reps_all d)
          rw [List.append_nil] at k
          exact k
  have k := key.app (reps_none (N.length - ws.length))
  rw [List.append_nil] at k
  exact k
theorem io_end {vs : List V} {r : W × W} {N : List Str} {w0 : W} {Q : VK} (hl : vs.length = ws.length) (hN : ws.length ≤ N.length) (S : Stt K H F (hdS true vs) (hdR true ws) A) (hr : r.2 = w0)
    (hq : ∀ (v : V) (H' : Hp) (A' B : List Addr), Res false K H F A H' (hdS true vs) (newR true r.2) A' B (fun U => Dn K H' U v r.1 B) → Q v H') (rr : Res false K H F A H1 σ' ρ' A' B (fun U => Dn K H1 U v r.1 B)) (e : ρ'[0]? = some (some w0)) (hp : σ'[0]? = (start N vs)[0]?) : Q v H1 := by
  obtain ⟨v0, L, B0, R, e1, e2, d, d1, d2⟩ := rr.reps.split e
  have zL : L = [] := by
    have : Reps K H1 (fun a => (a ∈ B ∨ a ∈ A') ∨ F a) [] [] L := d1
    cases this
    rfl
  subst zL
  rw [List.nil_append] at e2
  have hv : vs.head? = some v0 := by
    rw [hp] at e1
    unfold L2.start at e1
    cases vs with
    | nil =>
      rw [List.map_nil, List.nil_append] at e1
      cases hk : N.length - ([] : List V).length with
      | zero => rw [hk] at e1; cases e1
      | succ k => rw [hk] at e1; cases e1
    | cons x xs => simpa using e1
  have sub : ∀ a, a ∈ B0 → a ∈ A' := fun a h => by rw [e2]; exact List.mem_append_left _ h
  have hu : ∀ a, ((a ∈ B ∨ a ∈ B0) ∨ F a) → ((a ∈ B ∨ a ∈ A') ∨ F a) := fun a z => z.imp_left fun z => z.imp_right (sub a)
  have s0 : B0.Sublist A' := by rw [e2]; exact List.sublist_append_left B0 R
  refine hq v H1 B0 B ⟨rr.ok.less hu, ?_, rr.nd.sublist (s0.append_left B), fun a z => rr.pv a (z.imp_right (sub a)), fun z => (by cases z), rr.kp, rr.db, rr.nb⟩
  show Reps K H1 _ [vs.head?] [some r.2] B0
  rw [hv, hr]
  exact .one (d.less hu) .nil (List.append_nil _).symm
theorem no_end {vs : List V} {r : W × W} {Q : VK} (S : Stt K H F (hdS false vs) (hdR false ws) A)
    (hq : ∀ (v : V) (H' : Hp) (A' B : List Addr), Res true K H F A H' (hdS false vs) (newR false r.2) A' B (fun U => Dn K H' U v r.1 B) → Q v H') (rr : Res false K H F A H1 σ' ρ' A' B (fun U => Dn K H1 U v r.1 B)) : Q v H1 := by
  have z : A = [] := by
    have := S.reps
    cases this
    rfl
  subst z
  have hu : ∀ a, ((a ∈ B ∨ a ∈ ([] : List Addr)) ∨ F a) → ((a ∈ B ∨ a ∈ A') ∨ F a) := fun a z => z.imp_left fun z => z.imp_right fun z => by cases z
  refine hq v H1 [] B ⟨rr.ok.less hu, .nil, ?_, fun a z => ?_, fun _ a z => ?_, fun b o _ e => rr.kp b o (.inr (by simp)) e, rr.db, rr.nb⟩
  · rw [List.append_nil]
    exact (List.nodup_append.mp rr.nd).1
  · rcases z with z | z
    · exact rr.pv a (.inl z)
    · cases z
  · exact (rr.pv a (.inl z)).resolve_left (by simp)
/-- A DEF: its body on data, then its promise -/
theorem fn_snd (gd : Good K T Φ) {φ : Fun} {N : List Str} {Bd : Ss} (hn : φ.n ≤ N.length) (hf : ∀ ws r, φ.f ws = some r → evFn T.bare Φ φ.io N.length Bd ws = some r) :
    ∀ vs H Q E, spF K φ vs H Q E → rdSs T K Bd { nx := fun _ H' => Q .non H', rt := Q } (start N vs) H := by
  rintro vs H Q E ⟨ws, r, F, A, hfr, hlen, hl, S, d, hq⟩
  have he := hf ws r hfr
  unfold evFn at he
  have S0 := start_stt (N := N) hl S d
  have hN : ws.length ≤ N.length := by omega
  generalize φ.io = io at *
  split at he
  · rename_i w ρ ex
    refine vSs gd Bd ex S0 _ fun v σ' H' A' B rr hp => ?_
    cases io with
    | false =>
      cases he
      exact no_end S hq rr
    | true =>
      dsimp only at he
      split at he
      · rename_i e0
        cases he
        exact io_end hl hN S rfl hq rr e0 (hp 0 (by decide))
      · cases he
  · rename_i ρ ex
    refine vSs gd Bd ex S0 _ fun σ' H' A' rr hp => ?_
    cases io with
    | false =>
      cases he
      exact no_end (v := .non) S hq (rr.imp fun _ => .non)
    | true =>
      dsimp only at he
      split at he
      · rename_i e0
        cases he
        exact io_end (v := .non) hl hN S rfl hq (rr.imp fun _ => .non) e0 (hp 0 (by decide))
      · cases he
  · cases he
end
end Ev

set_option Elab.async false
set_option linter.all false
set_option maxRecDepth 100000
set_option maxHeartbeats 4000000
/-! A law's defs, each by the evaluator over those ahead of it. -/
namespace Ev
open PySem PySem.Spec PyProof.Rows L2
def bot : Fun := ⟨0, false, fun _ => none⟩
def lk (L : List Fun) (k : Nat) : Fun := L.getD k bot
theorem infsF_sp : ∀ (ds : List Dfn) (g : Nat → Sp) (k : Nat) (d : FnI), (infsF ds g)[k]? = some d → d.sp = g k
  | [], _, _, _, e => by cases e
  | c :: ds, g, 0, d, e => by cases e; rfl
  | c :: ds, g, k + 1, d, e => infsF_sp ds (fun i => g (i + 1)) k d (by simpa [infsF] using e)
theorem good_chain {K : PySem.W.Frag} {ds : List Dfn} {cst : List (Str × V)} {fre : List Str} (L : List Fun) : Good K (mkT ds cst fre (L.map (spF K))) (lk L) := by
  intro k d e vs H Q h
  have hs : d.sp = (L.map (spF K)).getD k spBot := infsF_sp ds _ k d e
  rw [hs]
  unfold lk at h
  rw [List.getD_eq_getElem?_getD, List.getElem?_map]
  rw [List.getD_eq_getElem?_getD] at h
  cases e1 : L[k]? with
  | none =>
    rw [e1] at h
    obtain ⟨ws, r, F, A, hf, _⟩ := h
    cases hf
  | some φ =>
    rw [e1] at h
    exact h
def mkF (ds : List Dfn) (cst : List (Str × V)) (fre : List Str) (L : List Fun) (d : Dfn) (io : Bool) (B : Ss) : Fun := ⟨d.ps.length, io, evFn (mkT ds cst fre []) (lk L) io d.N.length B⟩
theorem spF_len {K : PySem.W.Frag} {φ : Fun} {vs : List V} {H : Hp} {Q : VK} {E : XK} (h : spF K φ vs H Q E) : vs.length = φ.n := by
  obtain ⟨ws, r, F, A, _, h2, h3, _⟩ := h
  rw [h3, h2]
section
variable {P : Program} {w : World} {K : PySem.W.Frag} {mg : Str → Option Value} {base : Heap} {k : Nat}
/-- the next def of the list -/
theorem chain_step {ds : List Dfn} {as : List (Addr × FuncData)} {cst : List (Str × V)} {fre : List Str} {L : List Fun} {d : Dfn} {io : Bool} {B : Ss} (h : AllAt K mg ds as) (hc : ∀ p ∈ cst, ∃ u, mg p.1 = some u ∧ RelV p.2 u) (hf : ∀ x ∈ fre, mg x = none)
    (q : AllOk P w K mg base k ds as (L.map (spF K))) (e : ds[L.length]? = some d) (S : FnScope d.N d.ps d.scope) (hm : ∀ sps, mSs (mkT ds cst fre sps) B ⟨d.N, d.scope, fun _ => true⟩ d.body = true) (hn : d.ps.length ≤ d.N.length) :
    AllOk P w K mg base (k + 1) ds as ((L ++ [mkF ds cst fre L d io B]).map (spF K)) := by
  rw [List.map_append]
  refine AllOk.step h hc hf q (by rw [List.length_map]; exact e) S (hm _) (fun vs H Q E h => spF_len h) ?_
  refine fn_snd (good_chain L) hn fun ws r hr => ?_
  rw [mkT_bare]
  exact hr
/-- the law's own promise -/
theorem law_sp {φ : Fun} {H : Hp} {a : Addr} {ns : List Int} {r : W} {E : XK} (hO : Only H) (hS : SqL K H a (ns.map V.int)) (hn : φ.n = 1) (hio : φ.io = false) (h : φ.f [.scr (ns.map W.int)] = some (.bl true, r)) :
    spF K φ [.ref a] H (fun v _ => v = .bl true) E := by
  refine ⟨_, _, fun _ => False, [], h, hn.symm, rfl, ?_, ?_, fun v H' A' B R => ?_⟩
  · rw [hio]
    exact ⟨.nil, List.nodup_nil, fun a z => (by cases z), fun a z => z.elim, fun a z => z.elim⟩
  · rw [hio]
    refine .cons (A := []) ?_ .nil rfl
    rcases hS with hS | hS
    · rcases hS with hS | ⟨o, hS⟩
      · rcases hO a with e | ⟨o, xs, e⟩ <;> (rw [hS] at e; cases e)
      · exact .scrV (fun z => z.elim (fun z => by cases z) fun z => z) ⟨o, hS⟩ (dn_ints _ _ _ ns)
    · exact .scrK hS (dn_ints _ _ _ ns)
  · have d := R.ok
    exact d.bl_inv.1
theorem AllAt.nil : AllAt K mg [] [] := by unfold AllAt; trivial
theorem AllAt.cons {d : Dfn} {ds : List Dfn} {f : Addr} {fd : FuncData} {as : List (Addr × FuncData)} (h : DfnAt K mg d f fd) (q : AllAt K mg ds as) : AllAt K mg (d :: ds) ((f, fd) :: as) := by unfold AllAt; exact ⟨h, q⟩
theorem AllOk.nil {ds : List Dfn} {as : List (Addr × FuncData)} : AllOk P w K mg base k ds as [] := by cases ds <;> (unfold AllOk; trivial)
end
end Ev

set_option Elab.async false
set_option linter.all false
set_option maxRecDepth 100000
set_option maxHeartbeats 4000000
/-! Rules to walk the evaluator on data of any form. -/
namespace Ev
open PySem PySem.Spec PyProof.Rows L2
def plainR : E → Bool
  | .var _ => false
  | .tup _ => false
  | _ => true
section
variable {T : Tab} {Φ : Nat → Fun} {prot : Nat} {ρ ρ0 ρ1 ρ2 ρ3 : Rho} {w x y z w0 : W} {ws xs ys : List W} {B : Ss} {N : Nat} {o : Out}
/-! ### defs -/
theorem f_rt (h0 : ws.map some ++ List.replicate (N - ws.length) none = ρ0) (h : xSs T Φ 0 B ρ0 = some (.rt w ρ)) : evFn T Φ false N B ws = some (w, .non) := by
  unfold evFn; simp only [h0, h]
theorem f_nx (h0 : ws.map some ++ List.replicate (N - ws.length) none = ρ0) (h : xSs T Φ 0 B ρ0 = some (.nx ρ)) : evFn T Φ false N B ws = some (.non, .non) := by
  unfold evFn; simp only [h0, h]
theorem f_rtI (h0 : ws.map some ++ List.replicate (N - ws.length) none = ρ0) (h : xSs T Φ 1 B ρ0 = some (.rt w (some w0 :: ρ))) : evFn T Φ true N B ws = some (w, w0) := by
  unfold evFn; simp only [h0, h]; rfl
theorem f_nxI (h0 : ws.map some ++ List.replicate (N - ws.length) none = ρ0) (h : xSs T Φ 1 B ρ0 = some (.nx (some w0 :: ρ))) : evFn T Φ true N B ws = some (.non, w0) := by
  unfold evFn; simp only [h0, h]; rfl
/-! ### statements -/
theorem s_nil : xSs T Φ prot .nil ρ = some (.nx ρ) := by simp only [xSs]
theorem s_cons {s : S} {ss : Ss} {r : Option Out} (h : xS T Φ prot s ρ = some (.nx ρ1)) (h2 : xSs T Φ prot ss ρ1 = r) : xSs T Φ prot (.cons s ss) ρ = r := by simp only [xSs, h, h2]
theorem s_rt {s : S} {ss : Ss} (h : xS T Φ prot s ρ = some (.rt w ρ1)) : xSs T Φ prot (.cons s ss) ρ = some (.rt w ρ1) := by simp only [xSs, h]
theorem s_bk {s : S} {ss : Ss} (h : xS T Φ prot s ρ = some (.bk ρ1)) : xSs T Φ prot (.cons s ss) ρ = some (.bk ρ1) := by simp only [xSs, h]
theorem s_ct {s : S} {ss : Ss} (h : xS T Φ prot s ρ = some (.ct ρ1)) : xSs T Φ prot (.cons s ss) ρ = some (.ct ρ1) := by simp only [xSs, h]
theorem t_set {t : Tg} {e : E} (h : evE T Φ prot e ρ = some (w, ρ1)) (h2 : evG T Φ prot t w ρ1 = some ρ2) : xS T Φ prot (.set t e) ρ = some (.nx ρ2) := by simp only [xS, h, h2]
theorem t_exp {e : E} (h : evE T Φ prot e ρ = some (w, ρ1)) : xS T Φ prot (.exp e) ρ = some (.nx ρ1) := by simp only [xS, h]
theorem t_ret {e : E} (h : evR T Φ prot e ρ = some (w, ρ1)) : xS T Φ prot (.ret e) ρ = some (.rt w ρ1) := by simp only [xS, h]
theorem t_if {c : E} {a b : Ss} {k : Bool} {r : Option Out} (h : evE T Φ prot c ρ = some (.bl k, ρ1)) (ht : k = true → xSs T Φ prot a ρ1 = r) (hf : k = false → xSs T Φ prot b ρ1 = r) : xS T Φ prot (.ite c a b) ρ = r := by
  simp only [xS, evB, h]
  cases k with
  | true => exact ht rfl
  | false => exact hf rfl
theorem t_ifT {c : E} {a b : Ss} {r : Option Out} (h : evE T Φ prot c ρ = some (.bl true, ρ1)) (ht : xSs T Φ prot a ρ1 = r) : xS T Φ prot (.ite c a b) ρ = r := by simp only [xS, evB, h]; exact ht
theorem t_ifF {c : E} {a b : Ss} {r : Option Out} (h : evE T Φ prot c ρ = some (.bl false, ρ1)) (hf : xSs T Φ prot b ρ1 = r) : xS T Φ prot (.ite c a b) ρ = r := by simp only [xS, evB, h]; exact hf
theorem t_for {tg : Tg} {it : It'} {b : Ss} (h : evI T Φ prot it ρ = some (xs, ρ1)) (h2 : forGo (fun w ρ => evG T Φ prot tg w ρ) (fun ρ => xSs T Φ prot b ρ) xs ρ1 = some o) : xS T Φ prot (.for tg it b) ρ = some o := by simp only [xS, h, h2]
theorem t_while {c : E} {b : Ss} (h : whileGo (fun ρ => evB T Φ prot c ρ) (fun ρ => xSs T Φ prot b ρ) lim ρ = some o) : xS T Φ prot (.while c b) ρ = some o := by simp only [xS, h]
theorem t_setlc {i : Nat} {own : List (Str × Nat)} {elt : E} {tg : Tg} {it : It'} {ifs : Es} (h : evE T Φ prot (.lc own elt tg it ifs) ρ = some (w, ρ1)) (hi : prot ≤ i ∧ i < ρ1.length) : xS T Φ prot (.setlc i own elt tg it ifs) ρ = some (.nx (ρ1.set i (some w))) := by
  simp only [xS, h, if_pos hi]
theorem t_par2 {i j : Nat} {a b : E} (ha : evE T Φ prot a ρ = some (x, ρ1)) (hb : evE T Φ prot b ρ1 = some (y, ρ2)) (hc : prot ≤ i ∧ prot ≤ j ∧ i < ρ2.length ∧ j < ρ2.length ∧ i ≠ j) : xS T Φ prot (.par2 i j a b) ρ = some (.nx ((ρ2.set i (some x)).set j (some y))) := by
  simp only [xS, ha, hb, if_pos hc]
theorem t_par3 {i j k : Nat} {a b c : E} (ha : evE T Φ prot a ρ = some (x, ρ1)) (hb : evE T Φ prot b ρ1 = some (y, ρ2)) (hc : evE T Φ prot c ρ2 = some (z, ρ3)) (hd : prot ≤ i ∧ prot ≤ j ∧ prot ≤ k ∧ i < ρ3.length ∧ j < ρ3.length ∧ k < ρ3.length ∧ i ≠ j ∧ i ≠ k ∧ j ≠ k) :
    xS T Φ prot (.par3 i j k a b c) ρ = some (.nx (((ρ3.set i (some x)).set j (some y)).set k (some z))) := by
  simp only [xS, ha, hb, hc, if_pos hd]
/-! ### expressions -/
theorem e_and {a b : E} {k l : Bool} (ha : evE T Φ prot a ρ = some (.bl k, ρ)) (hb : k = true → evE T Φ prot b ρ = some (.bl l, ρ)) : evE T Φ prot (.and a b) ρ = some (.bl (k && l), ρ) := by
  simp only [evE, ha]
  cases k with
  | true => rw [hb rfl] <;> rfl
  | false => rfl
theorem e_or {a b : E} {k l : Bool} (ha : evE T Φ prot a ρ = some (.bl k, ρ)) (hb : k = false → evE T Φ prot b ρ = some (.bl l, ρ)) : evE T Φ prot (.or a b) ρ = some (.bl (k || l), ρ) := by
  simp only [evE, ha]
  cases k with
  | true => rfl
  | false => rw [hb rfl] <;> rfl
theorem e_andT {a b : E} {r : Option (W × Rho)} (ha : evE T Φ prot a ρ = some (.bl true, ρ1)) (hb : evE T Φ prot b ρ1 = r) : evE T Φ prot (.and a b) ρ = r := by simp only [evE, ha]; exact hb
theorem e_andF {a b : E} (ha : evE T Φ prot a ρ = some (.bl false, ρ1)) : evE T Φ prot (.and a b) ρ = some (.bl false, ρ1) := by simp only [evE, ha]
theorem e_orT {a b : E} (ha : evE T Φ prot a ρ = some (.bl true, ρ1)) : evE T Φ prot (.or a b) ρ = some (.bl true, ρ1) := by simp only [evE, ha]
theorem e_orF {a b : E} {r : Option (W × Rho)} (ha : evE T Φ prot a ρ = some (.bl false, ρ1)) (hb : evE T Φ prot b ρ1 = r) : evE T Φ prot (.or a b) ρ = r := by simp only [evE, ha]; exact hb
theorem e_not {a : E} {k : Bool} (ha : evE T Φ prot a ρ = some (.bl k, ρ1)) : evE T Φ prot (.not a) ρ = some (.bl (!k), ρ1) := by simp only [evE, ha]
theorem e_neg {a : E} {i : Int} (ha : evE T Φ prot a ρ = some (.int i, ρ1)) : evE T Φ prot (.neg a) ρ = some (.int (-i), ρ1) := by simp only [evE, ha]
theorem e_iteT {c a b : E} {r : Option (W × Rho)} (h : evE T Φ prot c ρ = some (.bl true, ρ1)) (ht : evE T Φ prot a ρ1 = r) : evE T Φ prot (.ite c a b) ρ = r := by simp only [evE, h]; exact ht
theorem e_iteF {c a b : E} {r : Option (W × Rho)} (h : evE T Φ prot c ρ = some (.bl false, ρ1)) (ht : evE T Φ prot b ρ1 = r) : evE T Φ prot (.ite c a b) ρ = r := by simp only [evE, h]; exact ht
/-- a pure expression whose result holds all its own: the slots stay -/
theorem keep_t {p : Bool} {r : Option (W × Rho)} (h : r = some (w, ρ1)) (hp : p = true) (hi : iso w = true) : keep p ρ r = some (w, ρ) := by
  subst h
  simp only [keep, hp, hi, Bool.and_self]
theorem keep_f {p : Bool} {r : Option (W × Rho)} (h : r = some (w, ρ1)) (hi : (p && iso w) = false) : keep p ρ r = some (w, ρ1) := by
  subst h
  simp only [keep, hi]
theorem e_bin {op : Operator} {a b : E} (ha : evE T Φ prot a ρ = some (x, ρ1)) (hb : evE T Φ prot b ρ1 = some (y, ρ2)) (hz : binW op x y = some z) (hp : (pureE Φ a && pureE Φ b) = true) (hi : iso z = true) : evE T Φ prot (.bin op a b) ρ = some (z, ρ) := by
  simp only [evE, ha, hb, hz]
  exact keep_t rfl hp hi
theorem e_cmp {op : CmpOp} {a b : E} {k : Bool} (ha : evE T Φ prot a ρ = some (x, ρ1)) (hb : evE T Φ prot b ρ1 = some (y, ρ2)) (hz : cmpW op x y = some k) (hp : (pureE Φ a && pureE Φ b) = true) : evE T Φ prot (.cmp op a b) ρ = some (.bl k, ρ) := by
  simp only [evE, ha, hb, hz]
  exact keep_t rfl hp rfl
theorem e_cmpI {op : CmpOp} {a b : E} {k : Bool} (ha : evE T Φ prot a ρ = some (x, ρ1)) (hb : evE T Φ prot b ρ1 = some (y, ρ2)) (hz : cmpW op x y = some k) (hp : (pureE Φ a && pureE Φ b) = false) : evE T Φ prot (.cmp op a b) ρ = some (.bl k, ρ2) := by
  simp only [evE, ha, hb, hz]
  exact keep_f rfl (by rw [hp]; rfl)
theorem e_blt {b : Blt} {es : Es} (h : evEs T Φ prot es ρ = some (ws, ρ1)) (hz : bltW b ws = some z) (hp : pureEs Φ es = true) (hi : iso z = true) : evE T Φ prot (.blt b es) ρ = some (z, ρ) := by
  simp only [evE, h, hz]
  exact keep_t rfl hp hi
theorem e_call {k : Nat} {es : Es} {d : FnI} {w' : W} {as : List W} (hd : T.fns[k]? = some d) (hio : (Φ k).io = false) (h : evEs T Φ prot es ρ = some (ws, ρ1)) (hds : d.dv es.len = []) (ha : frzL ws = as) (hl : as.length = (Φ k).n) (hf : (Φ k).f as = some (w, w')) (hp : pureEs Φ es = true) (hi : iso w = true) :
    evE T Φ prot (.call k es) ρ = some (w, ρ) := by
  subst ha
  have e : frzL ws ++ ([] : List W) = frzL ws := List.append_nil _
  simp only [evE, hd, hio, h, hds, cWs, e, if_pos hl, hf]
  exact keep_t rfl hp hi
/-- the first argument a slot that is changed -/
theorem e_callI {k i : Nat} {es : Es} {d : FnI} {as : List W} {w1 : W} (hd : T.fns[k]? = some d) (hio : (Φ k).io = true) (hx : ρ[i]? = some (some x)) (h : evEs T Φ prot es ρ = some (ws, ρ1)) (hds : d.dv (es.len + 1) = []) (hy : ρ1[i]? = some (some y)) (ha : y :: frzL ws = as) (hl : as.length = (Φ k).n) (hf : (Φ k).f as = some (w, w1)) {b : Bool} (h2 : (match b with | true => ρ.set i (some w1) | false => ρ1.set i (some w1)) = ρ2) (hb : (pureEs Φ es && (iso w && (oF x && (oF y && oF w1)))) = b) :
    evE T Φ prot (.call k (.cons (.var i) es)) ρ = some (w, ρ2) := by
  subst ha
  subst hb
  have e : frzL ws ++ ([] : List W) = frzL ws := List.append_nil _
  simp only [evE, hd, hio, hx, h, hds, cWs, hy, e, if_pos hl, hf, ← h2]
  rfl
/-- the same, nothing else touched -/
theorem e_callJ {k i : Nat} {es : Es} {d : FnI} {as : List W} {w1 : W} (hd : T.fns[k]? = some d) (hio : (Φ k).io = true) (hx : ρ[i]? = some (some x)) (h : evEs T Φ prot es ρ = some (ws, ρ)) (hds : d.dv (es.len + 1) = []) (ha : x :: frzL ws = as) (hl : as.length = (Φ k).n) (hf : (Φ k).f as = some (w, w1)) :
    evE T Φ prot (.call k (.cons (.var i) es)) ρ = some (w, ρ.set i (some w1)) :=
  e_callI hd hio hx h hds hx ha hl hf (b := pureEs Φ es && (iso w && (oF x && (oF x && oF w1)))) (by cases (pureEs Φ es && (iso w && (oF x && (oF x && oF w1)))) <;> rfl) rfl
theorem e_kcall {k : Nat} {ks : List Str} {pm : List Nat} {es : Es} {d : FnI} {w' : W} {as : List W} (hd : T.fns[k]? = some d) (hio : (Φ k).io = false) (h : evEs T Φ prot es ρ = some (ws, ρ1)) (hc : ws.length = ks.length ∧ pm.all (fun i => decide (i < ks.length)) = true ∧ pm.length = (Φ k).n)
    (ha : (pm.map fun i => (frzL ws).getD i .non) = as) (hf : (Φ k).f as = some (w, w')) (hp : pureEs Φ es = true) (hi : iso w = true) : evE T Φ prot (.kcall k ks pm es) ρ = some (w, ρ) := by
  subst ha
  simp only [evE, hd, hio, h, if_pos hc, hf]
  exact keep_t rfl hp hi
theorem a_nil : evEs T Φ prot .nil ρ = some ([], ρ) := by simp only [evEs]
theorem a_cons {e : E} {es : Es} (h : evE T Φ prot e ρ = some (w, ρ1)) (h2 : evEs T Φ prot es ρ1 = some (ws, ρ2)) : evEs T Φ prot (.cons e es) ρ = some (w :: ws, ρ2) := by simp only [evEs, h, h2]
theorem e_cmpP {op : CmpOp} {a b : E} {k : Bool} (ha : evE T Φ prot a ρ = some (x, ρ)) (hb : evE T Φ prot b ρ = some (y, ρ)) (hz : cmpW op x y = some k) (hp : (pureE Φ a && pureE Φ b) = true) : evE T Φ prot (.cmp op a b) ρ = some (.bl k, ρ) := e_cmp ha hb hz hp
theorem e_binP {op : Operator} {a b : E} (ha : evE T Φ prot a ρ = some (x, ρ)) (hb : evE T Φ prot b ρ = some (y, ρ)) (hz : binW op x y = some z) (hp : (pureE Φ a && pureE Φ b) = true) (hi : iso z = true) : evE T Φ prot (.bin op a b) ρ = some (z, ρ) := e_bin ha hb hz hp hi
theorem evR_plain {e : E} (h : plainR e = true) : evR T Φ prot e ρ = evE T Φ prot e ρ := by
  cases e <;> first | (cases h; done) | (unfold evR; rfl)
theorem t_retP {e : E} (h : evE T Φ prot e ρ = some (w, ρ)) (hr : plainR e = true) : xS T Φ prot (.ret e) ρ = some (.rt w ρ) := t_ret ((evR_plain hr).trans h)
theorem t_retQ {e : E} (h : evE T Φ prot e ρ = some (w, ρ1)) (hr : plainR e = true) : xS T Φ prot (.ret e) ρ = some (.rt w ρ1) := t_ret ((evR_plain hr).trans h)
/-! ### comprehensions -/
theorem lcGo_map {vs : List Nat} {t : W → Rho → Option Rho} {c : Rho → Option (Bool × Rho)} {e : Rho → Option (W × Rho)} {r0 : Rho} {bf : W → Bool} {f : W → W} : ∀ {xs : List W} {ρ : Rho}, wipeR ρ vs = r0 →
    (∀ x ∈ xs, ∃ ρ1 ρ2, t x r0 = some ρ1 ∧ c ρ1 = some (bf x, ρ2) ∧ (bf x = false → wipeR ρ2 vs = r0) ∧ (bf x = true → ∃ ρ3, e ρ2 = some (f x, ρ3) ∧ wipeR ρ3 vs = r0)) → ∃ ρ', lcGo vs t c e xs ρ = some ((xs.filter bf).map f, ρ') ∧ wipeR ρ' vs = r0
  | [], ρ, h0, _ => ⟨ρ, rfl, h0⟩
  | x :: xs, ρ, h0, h => by
    obtain ⟨ρ1, ρ2, h1, h2, h3, h4⟩ := h x (List.mem_cons_self ..)
    simp only [lcGo, h0, h1, h2]
    cases hb : bf x with
    | true =>
      obtain ⟨ρ3, h5, h6⟩ := h4 hb
      obtain ⟨ρ', h7, h8⟩ := lcGo_map h6 fun y hy => h y (List.mem_cons_of_mem _ hy)
      refine ⟨ρ', ?_, h8⟩
      simp only [h5, h7, List.filter_cons, hb, if_true, List.map_cons]
    | false =>
      obtain ⟨ρ', h7, h8⟩ := lcGo_map (h3 hb) fun y hy => h y (List.mem_cons_of_mem _ hy)
      refine ⟨ρ', ?_, h8⟩
      simp only [h7, List.filter_cons, hb]
      rfl
/-- a comprehension, pure: its own slots are let go, all else stays -/
theorem e_lc {own : List (Str × Nat)} {elt : E} {tg : Tg} {it : It'} {ifs : Es} {bf : W → Bool} {f : W → W} {r0 : Rho} (h : evI T Φ prot it ρ = some (xs, ρ1)) (hc : (tgIn (own.map (·.2)) tg && decide (xs.length ≤ lim)) = true) (h0 : wipeR ρ1 (own.map (·.2)) = r0)
    (ht : ∀ x ∈ xs, ∃ ρ1 ρ2, evG T Φ prot tg x r0 = some ρ1 ∧ evTs T Φ prot ifs ρ1 = some (bf x, ρ2) ∧ (bf x = false → wipeR ρ2 (own.map (·.2)) = r0) ∧ (bf x = true → ∃ ρ3, evE T Φ prot elt ρ2 = some (f x, ρ3) ∧ wipeR ρ3 (own.map (·.2)) = r0))
    (hp : (pureI Φ it && (pureEs Φ ifs && pureE Φ elt)) = true) (hi : isoL ((xs.filter bf).map f) = true) : evE T Φ prot (.lc own elt tg it ifs) ρ = some (.lst true ((xs.filter bf).map f), ρ) := by
  obtain ⟨ρ', h1, h2⟩ := lcGo_map h0 ht
  simp only [evE, h, if_pos hc, h1]
  exact keep_t rfl hp (by simpa [iso] using hi)
/-! ### loops -/
theorem for_inv {α : Type} {t : W → Rho → Option Rho} {b : Rho → Option Out} {st : α → W → α} {I : α → Rho → Prop} : ∀ {xs : List W} {s : α} {ρ : Rho}, I s ρ → (∀ s ρ x, x ∈ xs → I s ρ → ∃ ρ1 ρ2, t x ρ = some ρ1 ∧ b ρ1 = some (.nx ρ2) ∧ I (st s x) ρ2) →
    ∃ ρ', forGo t b xs ρ = some (.nx ρ') ∧ I (xs.foldl st s) ρ'
  | [], s, ρ, h0, _ => ⟨ρ, rfl, h0⟩
  | x :: xs, s, ρ, h0, h => by
    obtain ⟨ρ1, ρ2, h1, h2, h3⟩ := h s ρ x (List.mem_cons_self ..) h0
    obtain ⟨ρ', h4, h5⟩ := for_inv h3 fun s ρ y hy => h s ρ y (List.mem_cons_of_mem _ hy)
    exact ⟨ρ', by simp only [forGo, h1, h2, h4], h5⟩
/-- an invariant over what has been walked -/
theorem for_ix {t : W → Rho → Option Rho} {b : Rho → Option Out} {I : Nat → Rho → Prop} : ∀ {xs : List W} {n : Nat} {ρ : Rho}, I n ρ → (∀ i ρ x, xs[i]? = some x → I (n + i) ρ → ∃ ρ1 ρ2, t x ρ = some ρ1 ∧ b ρ1 = some (.nx ρ2) ∧ I (n + i + 1) ρ2) →
    ∃ ρ', forGo t b xs ρ = some (.nx ρ') ∧ I (n + xs.length) ρ'
  | [], n, ρ, h0, _ => ⟨ρ, rfl, h0⟩
  | x :: xs, n, ρ, h0, h => by
    obtain ⟨ρ1, ρ2, h1, h2, h3⟩ := h 0 ρ x rfl h0
    obtain ⟨ρ', h4, h5⟩ := for_ix (n := n + 1) h3 fun i ρ y hy hI => by
      have := h (i + 1) ρ y hy (by rwa [show n + (i + 1) = n + 1 + i by omega])
      rwa [show n + (i + 1) + 1 = n + 1 + i + 1 by omega] at this
    exact ⟨ρ', by simp only [forGo, h1, h2, h4], by rw [List.length_cons, show n + (xs.length + 1) = n + 1 + xs.length by omega]; exact h5⟩
theorem while_inv {c : Rho → Option (Bool × Rho)} {b : Rho → Option Out} {I : Nat → Rho → Prop} {J : Rho → Prop} : ∀ {n m : Nat} {ρ : Rho}, n < m → I n ρ → (∀ n ρ, I n ρ → (∃ ρ1, c ρ = some (false, ρ1) ∧ J ρ1) ∨ ∃ ρ1 ρ2 n', c ρ = some (true, ρ1) ∧ b ρ1 = some (.nx ρ2) ∧ n' < n ∧ I n' ρ2) →
    ∃ ρ', whileGo c b m ρ = some (.nx ρ') ∧ J ρ'
  | n, 0, ρ, hn, _, _ => absurd hn (by omega)
  | n, m + 1, ρ, hn, h0, h => by
    rcases h n ρ h0 with ⟨ρ1, h1, h2⟩ | ⟨ρ1, ρ2, n', h1, h2, h3, h4⟩
    · exact ⟨ρ1, by simp only [whileGo, h1], h2⟩
    · obtain ⟨ρ', h5, h6⟩ := while_inv (n := n') (m := m) (by omega) h4 h
      exact ⟨ρ', by simp only [whileGo, h1, h2, h5], h6⟩
end
/-! ### lists of ints -/
def iN (n : Nat) : W := .int (n : Nat)
def iL (l : List Nat) : List W := l.map iN
def prs (l : List (Nat × Nat)) : List W := l.map fun p => .tup false [iN p.1, iN p.2]
theorem frzL_ints (l : List Nat) : frzL (iL l) = iL l := by
  induction l with
  | nil => rfl
  | cons n l ih => show frz (iN n) :: frzL (iL l) = iN n :: iL l; rw [ih]; rfl
theorem isoL_ints (l : List Nat) : isoL (iL l) = true := by
  induction l with
  | nil => rfl
  | cons n l ih => show (true && isoL (iL l)) = true; rw [ih]; rfl
theorem ints_len (l : List Nat) : (iL l).length = l.length := List.length_map ..
theorem shL_ints (l : List Nat) (n : Nat) : shL (iL l) n = true := by
  induction l with
  | nil => rfl
  | cons m l ih => show (true && shL (iL l) n) = true; rw [ih]; rfl
theorem eqL_ints : ∀ l m : List Nat, eqL (iL l) (iL m) = decide (l = m)
  | [], [] => rfl
  | [], _ :: _ => rfl
  | _ :: _, [] => rfl
  | a :: l, b :: m => by
    show (eqW (iN a) (iN b) && eqL (iL l) (iL m)) = _
    rw [eqL_ints l m]
    show (((a : Nat) : Int) == ((b : Nat) : Int) && _) = _
    by_cases h : a = b
    · subst h; simp
    · have : ¬ ((a : Nat) : Int) = ((b : Nat) : Int) := by omega
      simp [h, this]
theorem intsW_ints (l : List Nat) : intsW (iL l) = some (l.map fun n => ((n : Nat) : Int)) := by
  induction l with
  | nil => rfl
  | cons n l ih => show (match iN n, intsW (iL l) with | .int i, some is => some (i :: is) | _, _ => none) = _; rw [ih]; rfl
theorem frzL_prs (l : List (Nat × Nat)) : frzL (prs l) = prs l := by
  induction l with
  | nil => rfl
  | cons n l ih => show frz _ :: frzL (prs l) = _ :: prs l; rw [ih]; rfl
theorem isoL_prs (l : List (Nat × Nat)) : isoL (prs l) = true := by
  induction l with
  | nil => rfl
  | cons n l ih => show (iso _ && isoL (prs l)) = true; rw [ih]; rfl
theorem iL_get {l : List Nat} {i m : Nat} (h : l[i]? = some m) : (iL l)[i]? = some (iN m) := by simp [iL, h]
theorem iL_set {l : List Nat} {i m : Nat} : (iL l).set i (iN m) = iL (l.set i m) := by simp [iL, List.map_set]
theorem ixN_nat {n i : Nat} (h : i < n) : ixN n (i : Nat) = some i := by
  unfold ixN
  rw [if_pos (by omega), if_pos (by omega)]
  simp
theorem enum_get {l : List Nat} {i : Nat} {x : W} (h : (enumW 0 (frzL (iL l)))[i]? = some x) : ∃ m, l[i]? = some m ∧ x = .tup false [iN i, iN m] := by
  obtain ⟨u, h1, h2⟩ := enumW_get h
  rw [frzL_ints] at h1
  simp only [iL, List.getElem?_map, Option.map_eq_some_iff] at h1
  obtain ⟨m, h3, rfl⟩ := h1
  refine ⟨m, h3, ?_⟩
  rw [h2]
  simp [iN]
theorem setW_iL {l : List Nat} {m v : Nat} (h : m < l.length) : setW (.lst true (iL l)) (iN m) (iN v) = some (.lst true (iL (l.set m v))) := by
  simp only [setW, iN, ints_len, ixN_nat h]
  rw [← iL_set] <;> rfl
theorem b_rep {o : Bool} {xs : List W} {n : Nat} (h1 : n < 2 ^ 62) (h : xs.length * n ≤ lim) : binW .Mult (.lst o xs) (.int (n : Nat)) = some (.lst true (List.replicate n (frzL xs)).flatten) := by
  simp only [binW]
  rw [if_pos ⟨by omega, by omega, by simpa using h⟩]
  simp
theorem sub_iL {o : Bool} {l : List Nat} {i m : Nat} (h : l[i]? = some m) : subW (.lst o (iL l)) (iN i) = some (iN m) := by
  have hi : i < l.length := (List.getElem?_eq_some_iff.mp h).1
  simp only [subW, posW, iN, ints_len, ixN_nat hi, kids]
  exact iL_get h
section
variable {T : Tab} {Φ : Nat → Fun} {prot : Nat} {ρ ρ0 ρ1 ρ2 ρ3 : Rho} {w x x0 y z w0 k c : W} {ws xs ys : List W} {B : Ss} {N : Nat} {o : Out}
theorem g_sub {s : Nat} {i : E} (hx : ρ[s]? = some (some x0)) (hk : evE T Φ prot i ρ = some (k, ρ1)) (hx1 : ρ1[s]? = some (some x)) (hs : setW x k w = some y) : evG T Φ prot (.sub (.var s) i) w ρ = some (ρ1.set s (some y)) := by simp only [evG, hx, hk, hx1, hs]
/-- an item that is held by nobody else -/
theorem e_sub {s : Nat} {i : E} (hx : ρ[s]? = some (some x0)) (hk : evE T Φ prot i ρ = some (k, ρ1)) (hx1 : ρ1[s]? = some (some x)) (hs : subW x k = some c) (hv : isV c = true) : evE T Φ prot (.sub (.var s) i) ρ = some (c, ρ1) := by simp only [evE, hx, hk, hx1, hs, hv]
theorem e_mut {m : Mth} {s : Nat} {es : Es} (hm : isMut m = true) (hx : ρ[s]? = some (some x0)) (ht : tyM m x0 = true) (h : evEs T Φ prot es ρ = some (ws, ρ1)) (hx1 : ρ1[s]? = some (some x)) (hs : mutW m x ws = some (w, y)) : evE T Φ prot (.mth m (.var s) es) ρ = some (w, ρ1.set s (some y)) := by
  simp only [evE, hm, hx, ht, h, hx1, hs]
theorem e_tup {es : Es} (h : evEs T Φ prot es ρ = some (ws, ρ1)) (hl : ws.length ≤ lim) : evE T Φ prot (.tup es) ρ = some (.tup (!ws.all isV) ws, ρ1) := by simp only [evE, h, if_pos hl]
theorem e_lst {es : Es} (h : evEs T Φ prot es ρ = some (ws, ρ1)) (hl : ws.length ≤ lim) : evE T Φ prot (.lst es) ρ = some (.lst true ws, ρ1) := by simp only [evE, h, if_pos hl]
end
section
variable {T : Tab} {Φ : Nat → Fun} {prot : Nat} {ρ ρ0 ρ1 ρ2 ρ3 r0 : Rho} {w x x0 y z w0 k c : W} {ws xs ys : List W} {B : Ss} {N : Nat} {o : Out} {α : Type} {enc : α → W} {tb : α → Bool} {fe : α → W}
theorem lcGo_mapE {vs : List Nat} {t : W → Rho → Option Rho} {c : Rho → Option (Bool × Rho)} {e : Rho → Option (W × Rho)} : ∀ {l : List α} {ρ : Rho}, wipeR ρ vs = r0 →
    (∀ a ∈ l, ∃ ρ1 ρ2, t (enc a) r0 = some ρ1 ∧ c ρ1 = some (tb a, ρ2) ∧ (tb a = false → wipeR ρ2 vs = r0) ∧ (tb a = true → ∃ ρ3, e ρ2 = some (fe a, ρ3) ∧ wipeR ρ3 vs = r0)) → ∃ ρ', lcGo vs t c e (l.map enc) ρ = some ((l.filter tb).map fe, ρ') ∧ wipeR ρ' vs = r0
  | [], ρ, h0, _ => ⟨ρ, rfl, h0⟩
  | x :: xs, ρ, h0, h => by
    obtain ⟨ρ1, ρ2, h1, h2, h3, h4⟩ := h x (List.mem_cons_self ..)
    simp only [List.map_cons, lcGo, h0, h1, h2]
    cases hb : tb x with
    | true =>
      obtain ⟨ρ3, h5, h6⟩ := h4 hb
      obtain ⟨ρ', h7, h8⟩ := lcGo_mapE h6 fun y hy => h y (List.mem_cons_of_mem _ hy)
      refine ⟨ρ', ?_, h8⟩
      simp only [h5, h7, List.filter_cons, hb, if_true, List.map_cons]
    | false =>
      obtain ⟨ρ', h7, h8⟩ := lcGo_mapE (h3 hb) fun y hy => h y (List.mem_cons_of_mem _ hy)
      refine ⟨ρ', ?_, h8⟩
      simp only [h7, List.filter_cons, hb]
      rfl
theorem e_lcE {l : List α} {own : List (Str × Nat)} {elt : E} {tg : Tg} {it : It'} {ifs : Es} (h : evI T Φ prot it ρ = some (l.map enc, ρ1)) (htg : tgIn (own.map (·.2)) tg = true) (hl : l.length ≤ lim) (h0 : wipeR ρ1 (own.map (·.2)) = r0)
    (ht : ∀ a ∈ l, ∃ ρ1 ρ2, evG T Φ prot tg (enc a) r0 = some ρ1 ∧ evTs T Φ prot ifs ρ1 = some (tb a, ρ2) ∧ (tb a = false → wipeR ρ2 (own.map (·.2)) = r0) ∧ (tb a = true → ∃ ρ3, evE T Φ prot elt ρ2 = some (fe a, ρ3) ∧ wipeR ρ3 (own.map (·.2)) = r0))
    (hp : (pureI Φ it && (pureEs Φ ifs && pureE Φ elt)) = true) (hi : isoL ((l.filter tb).map fe) = true) : evE T Φ prot (.lc own elt tg it ifs) ρ = some (.lst true ((l.filter tb).map fe), ρ) := by
  obtain ⟨ρ', h1, h2⟩ := lcGo_mapE h0 ht
  have hc : (tgIn (own.map (·.2)) tg && decide ((l.map enc).length ≤ lim)) = true := by rw [htg, List.length_map]; simpa using hl
  simp only [evE, h, if_pos hc, h1]
  exact keep_t rfl hp (by simpa [iso] using hi)
theorem for_ixE {l : List α} {t : W → Rho → Option Rho} {b : Rho → Option Out} {I : Nat → Rho → Prop} (h0 : I 0 ρ) (h : ∀ i ρ a, l[i]? = some a → I i ρ → ∃ ρ1 ρ2, t (enc a) ρ = some ρ1 ∧ b ρ1 = some (.nx ρ2) ∧ I (i + 1) ρ2) :
    ∃ ρ', forGo t b (l.map enc) ρ = some (.nx ρ') ∧ I l.length ρ' := by
  have k := for_ix (t := t) (b := b) (I := I) (xs := l.map enc) (n := 0) h0 fun i ρ x hx hI => by
    rw [List.getElem?_map] at hx
    cases e : l[i]? with
    | none => rw [e] at hx; cases hx
    | some a =>
      rw [e] at hx
      cases hx
      rw [Nat.zero_add] at hI ⊢
      exact h i ρ a e hI
  rw [List.length_map, Nat.zero_add] at k
  exact k
theorem rngW_iL (a b : Nat) : rngW (a : Nat) (b : Nat) = iL (List.range' a (b - a)) := by
  unfold rngW iL iN
  have e : (((b : Nat) : Int) - ((a : Nat) : Int)).toNat = b - a := by omega
  rw [e, List.range'_eq_map_range, List.map_map]
  apply List.map_congr_left
  intro n _
  simp
theorem rgOk_nat {a b : Nat} (ha : a < 2 ^ 62) (hb : b < 2 ^ 62) : rgOkB (a : Nat) (b : Nat) = true := by
  simp [rgOkB]
  omega
theorem i_rng1 {a : E} {n : Nat} (h : evE T Φ prot a ρ = some (iN n, ρ1)) (hn : n < 2 ^ 62) : evI T Φ prot (.rng1 a) ρ = some ((List.range n).map iN, ρ1) := by
  have e : rgOkB 0 ((n : Nat) : Int) = true := rgOk_nat (a := 0) (by decide) hn
  simp only [evI, h, iN, e, if_true]
  rw [show (0 : Int) = ((0 : Nat) : Int) from rfl, rngW_iL, Nat.sub_zero, ← List.range_eq_range'] <;> rfl
theorem i_rng2 {a b : E} {m n : Nat} (h : evE T Φ prot a ρ = some (iN m, ρ1)) (h2 : evE T Φ prot b ρ1 = some (iN n, ρ2)) (hm : m < 2 ^ 62) (hn : n < 2 ^ 62) : evI T Φ prot (.rng2 a b) ρ = some ((List.range' m (n - m)).map iN, ρ2) := by
  simp only [evI, h, iN, h2, rgOk_nat hm hn, if_true]
  rw [rngW_iL] <;> rfl
theorem range'_get {s n i m : Nat} (h : (List.range' s n)[i]? = some m) : m = s + i ∧ i < n := by
  have hi : i < n := by
    have := (List.getElem?_eq_some_iff.mp h).1
    simpa using this
  rw [List.getElem?_range' hi] at h
  simp only [Option.some.injEq] at h
  omega
theorem range_get {n i m : Nat} (h : (List.range n)[i]? = some m) : m = i ∧ i < n := by
  have := List.getElem?_eq_some_iff.mp h
  obtain ⟨h1, h2⟩ := this
  simp at h1 h2
  omega
theorem c_lt (a b : Nat) : cmpW .Lt (iN a) (iN b) = some (decide (a < b)) := by
  simp only [cmpW, iN, Int.ofNat_lt]
theorem c_gt (a b : Nat) : cmpW .Gt (iN a) (iN b) = some (decide (b < a)) := by
  simp only [cmpW, iN, Int.ofNat_lt]
theorem c_le (a b : Nat) : cmpW .LtE (iN a) (iN b) = some (decide (a ≤ b)) := by
  simp only [cmpW, iN, Int.ofNat_le]
theorem c_neB (a b : Bool) : cmpW .NotEq (.bl a) (.bl b) = some (a != b) := by cases a <;> cases b <;> rfl
theorem c_neL {o p : Bool} (a b : List Nat) : cmpW .NotEq (.lst o (iL a)) (.lst p (iL b)) = some (!decide (a = b)) := by
  simp only [cmpW, eqqW, shW, shL_ints, Bool.and_self, if_true, eqW, eqL_ints]
theorem c_eqL {o p : Bool} (a b : List Nat) : cmpW .Eq (.lst o (iL a)) (.lst p (iL b)) = some (decide (a = b)) := by
  simp only [cmpW, eqqW, shW, shL_ints, Bool.and_self, if_true, eqW, eqL_ints]
theorem b_add (a b : Nat) : binW .Add (iN a) (iN b) = some (iN (a + b)) := by
  simp only [binW, iN, Int.natCast_add]
theorem m_app {xs : List W} {y : W} (h : xs.length < lim) : mutW .append (.lst true xs) [y] = some (.non, .lst true (xs ++ [y])) := by
  simp only [mutW, if_pos h]
theorem int_bl (b : Bool) : bltW .int [.bl b] = some (iN b.toNat) := by cases b <;> rfl
theorem prs_app (l m : List (Nat × Nat)) : prs (l ++ m) = prs l ++ prs m := List.map_append ..
theorem iL_app (l m : List Nat) : iL (l ++ m) = iL l ++ iL m := List.map_append ..
theorem i_seq {e : E} (h : evE T Φ prot e ρ = some (w, ρ1)) (hs : seqW w = some xs) : evI T Φ prot (.seq e) ρ = some (xs, ρ1) := by simp only [evI, h, hs]
theorem seq_prs {o : Bool} (l : List (Nat × Nat)) : seqW (.lst o (prs l)) = some (l.map fun p => W.tup false [iN p.1, iN p.2]) := by
  simp only [seqW, frzL_prs]
  rfl
theorem seq_iL {o : Bool} (l : List Nat) : seqW (.lst o (iL l)) = some (l.map iN) := by
  simp only [seqW, frzL_ints]
  rfl
theorem e_dc {own : List (Str × Nat)} {k v : E} {tg : Tg} {it : It'} {ifs : Es} {ks : List Key} (h : evI T Φ prot it ρ = some (xs, ρ1)) (htg : tgIn (own.map (·.2)) tg = true)
    (hg : ∃ ρ', dcGo (own.map (·.2)) (fun w ρ => evG T Φ prot tg w ρ) (fun ρ => evTs T Φ prot ifs ρ) (fun ρ => evE T Φ prot k ρ) (fun ρ => evE T Φ prot v ρ) xs ρ1 [] [] = some (ks, ws, ρ'))
    (hp : (pureI Φ it && (pureEs Φ ifs && (pureE Φ k && pureE Φ v))) = true) (hi : isoL ws = true) : evE T Φ prot (.dc own k v tg it ifs) ρ = some (.dK true ks ws, ρ) := by
  obtain ⟨ρ', hg⟩ := hg
  simp only [evE, h, if_pos htg, hg]
  exact keep_t rfl hp (by simpa [iso] using hi)
def PartOk (T : Tab) (Φ : Nat → Fun) (prot : Nat) (lo : E) (ρ : Rho) (l : Option Int) (ρ' : Rho) : Prop := (isNonE lo = true ∧ l = none ∧ ρ' = ρ) ∨ (isNonE lo = false ∧ ∃ i, l = some i ∧ evE T Φ prot lo ρ = some (.int i, ρ'))
theorem po_no {lo : E} (h : isNonE lo = true) : PartOk T Φ prot lo ρ none ρ := .inl ⟨h, rfl, rfl⟩
theorem po_so {lo : E} {i : Int} (h : isNonE lo = false) (he : evE T Φ prot lo ρ = some (.int i, ρ1)) : PartOk T Φ prot lo ρ (some i) ρ1 := .inr ⟨h, i, rfl, he⟩
theorem e_slc {a lo hi : E} {l h : Option Int} (ha : evE T Φ prot a ρ = some (x, ρ1)) (hl : PartOk T Φ prot lo ρ1 l ρ2) (hh : PartOk T Φ prot hi ρ2 h ρ3) (hz : slW x l h = some z) (hp : (pureE Φ a && (pureE Φ lo && pureE Φ hi)) = true) (hi' : iso z = true) : evE T Φ prot (.slc a lo hi) ρ = some (z, ρ) := by
  simp only [evE, ha]
  rcases hl with ⟨h1, rfl, rfl⟩ | ⟨h1, i, rfl, h2⟩
  · rcases hh with ⟨h3, rfl, rfl⟩ | ⟨h3, j, rfl, h4⟩
    · simp only [h1, h3, hz]
      exact keep_t rfl hp hi'
    · simp only [h1, h3, h4, hz]
      exact keep_t rfl hp hi'
  · rcases hh with ⟨h3, rfl, rfl⟩ | ⟨h3, j, rfl, h4⟩
    · simp only [h1, h2, h3, hz]
      exact keep_t rfl hp hi'
    · simp only [h1, h2, h3, h4, hz]
      exact keep_t rfl hp hi'
theorem cutW_iL (l : List Nat) (lo hi : Option Int) : cutW (iL l) lo hi = iL ((l.drop (HT.sIx l.length 0 lo)).take (HT.sIx l.length l.length hi - HT.sIx l.length 0 lo)) := by
  unfold cutW iL
  rw [List.length_map, List.map_take, List.map_drop]
theorem sl_take {o : Bool} (l : List Nat) (k : Nat) : slW (.lst o (iL l)) none (some (k : Nat)) = some (.lst true (iL (l.take k))) := by
  simp only [slW, cutW_iL, frzL_ints, HT.sIx_none, HT.sIx_nat, List.drop_zero, Nat.sub_zero]
  rw [← List.take_eq_take_min]
theorem sl_drop {o : Bool} (l : List Nat) (k : Nat) : slW (.lst o (iL l)) (some (k : Nat)) none = some (.lst true (iL (l.drop k))) := by
  simp only [slW, cutW_iL, frzL_ints, HT.sIx_none, HT.sIx_nat]
  have e : (l.drop (min k l.length)).take (l.length - min k l.length) = l.drop k := by
    rw [List.take_of_length_le (by simp)]
    by_cases h : k ≤ l.length
    · rw [Nat.min_eq_left h]
    · have e1 : min k l.length = l.length := by omega
      rw [e1, List.drop_of_length_le (Nat.le_refl _), List.drop_of_length_le (by omega)]
  rw [e]
theorem sl_mid {o : Bool} (l : List Nat) (a b : Nat) : slW (.lst o (iL l)) (some (a : Nat)) (some (b : Nat)) = some (.lst true (iL ((l.drop a).take (b - a)))) := by
  simp only [slW, cutW_iL, frzL_ints, HT.sIx_nat]
  have e : (l.drop (min a l.length)).take (min b l.length - min a l.length) = (l.drop a).take (b - a) := by
    by_cases h : a ≤ l.length
    · rw [Nat.min_eq_left h, List.take_eq_take_iff]
      simp only [List.length_drop]
      omega
    · have e1 : min a l.length = l.length := by omega
      rw [e1, List.drop_of_length_le (Nat.le_refl _), List.drop_of_length_le (by omega)]
      simp
  rw [e]
theorem cat_iL {o p : Bool} (l m : List Nat) (h : l.length + m.length ≤ lim) : binW .Add (.lst o (iL l)) (.lst p (iL m)) = some (.lst true (iL (l ++ m))) := by
  simp only [binW, ints_len, if_pos h, frzL_ints, iL_app]
/-! ### dicts of places -/
theorem enum_zip : ∀ (l : List Nat) (k : Nat), enumW k (iL l) = (l.zipIdx k).map fun p => W.tup false [iN p.2, iN p.1]
  | [], _ => rfl
  | a :: l, k => by
    show W.tup false [iN k, iN a] :: enumW (k + 1) (iL l) = _
    rw [enum_zip l (k + 1)]
    rfl
theorem i_enum {e : E} {o : Bool} {l : List Nat} (h : evE T Φ prot e ρ = some (.lst o (iL l), ρ1)) : evI T Φ prot (.enum e) ρ = some ((l.zipIdx).map (fun p => W.tup false [iN p.2, iN p.1]), ρ1) := by
  simp only [evI, h, frzL_ints, enum_zip]
def kI (K : List Nat) : List Key := K.map fun k => Sum.inl ((k : Nat) : Int)
theorem kPairs_zip : ∀ (l : List Nat) (k : Nat), kPairs ((l.zipIdx k).map fun p => W.tup false [iN p.1, iN p.2]) = some (kI l, iL (List.range' k l.length))
  | [], _ => rfl
  | a :: l, k => by
    have e : ((a :: l).zipIdx k).map (fun p => W.tup false [iN p.1, iN p.2]) = W.tup false [iN a, iN k] :: (l.zipIdx (k + 1)).map fun p => W.tup false [iN p.1, iN p.2] := rfl
    rw [e]
    unfold kPairs
    rw [kPairs_zip l (k + 1)]
    rfl
theorem putP_new {κ : Type} [DecidableEq κ] {k : κ} {w : W} : ∀ {ks : List κ} {vs : List W}, ks.length = vs.length → k ∉ ks → putP ks vs k w = (ks ++ [k], vs ++ [w])
  | [], [], _, _ => rfl
  | [], _ :: _, h, _ => by cases h
  | _ :: _, [], h, _ => by cases h
  | a :: ks, v :: vs, h, hn => by
    unfold putP
    rw [if_neg fun e => hn (by rw [e]; exact List.mem_cons_self ..), putP_new (by simpa using h) fun z => hn (List.mem_cons_of_mem _ z)]
    rfl
theorem mergeP_nd {κ : Type} [DecidableEq κ] : ∀ {ks' ks : List κ} {vs' vs : List W}, ks.length = vs.length → ks'.length = vs'.length → ks'.Nodup → (∀ k ∈ ks', k ∉ ks) → mergeP ks vs ks' vs' = (ks ++ ks', vs ++ vs')
  | [], ks, [], vs, _, _, _, _ => by unfold mergeP; simp
  | [], _, _ :: _, _, _, h, _, _ => by cases h
  | _ :: _, _, [], _, _, h, _, _ => by cases h
  | k :: ks', ks, v :: vs', vs, h1, h2, hn, hd => by
    have hn' := List.nodup_cons.mp hn
    unfold mergeP
    rw [putP_new h1 (hd k (List.mem_cons_self ..))]
    simp only []
    rw [mergeP_nd (by simp [h1]) (by simpa using h2) hn'.2 fun x hx hm => ?_]
    · simp
    · rcases List.mem_append.mp hm with hm | hm
      · exact hd x (List.mem_cons_of_mem _ hx) hm
      · rw [List.mem_singleton.mp hm] at hx
        exact hn'.1 hx
theorem kI_nd {l : List Nat} (h : l.Nodup) : (kI l).Nodup := by
  unfold kI List.Nodup
  rw [List.pairwise_map]
  refine List.Pairwise.imp ?_ h
  intro a b hab e
  apply hab
  have := Sum.inl.inj e
  omega
theorem dict_zip {o : Bool} {l : List Nat} (h : l.Nodup) : bltW .dict [.lst o ((l.zipIdx).map fun p => W.tup false [iN p.1, iN p.2])] = some (.dK true (kI l) (iL (List.range l.length))) := by
  have e := mergeP_nd (κ := Key) (ks' := kI l) (ks := []) (vs' := iL (List.range' 0 l.length)) (vs := []) rfl (by simp [kI, iL]) (kI_nd h) fun k _ hk => by cases hk
  rw [← List.range_eq_range'] at e
  simp only [bltW, kPairs_zip, ← List.range_eq_range', e, List.nil_append]
theorem posK_kI : ∀ {l : List Nat} {x : Nat}, x ∈ l → posK (kI l) (Sum.inl ((x : Nat) : Int)) = some (l.idxOf x)
  | [], x, h => by cases h
  | a :: l, x, h => by
    show (if (Sum.inl ((a : Nat) : Int) : Key) = Sum.inl ((x : Nat) : Int) then some 0 else match posK (kI l) (Sum.inl ((x : Nat) : Int)) with | some n => some (n + 1) | none => none) = _
    by_cases e : a = x
    · subst e
      rw [if_pos rfl]
      simp
    · have e' : ¬ (Sum.inl ((a : Nat) : Int) : Key) = Sum.inl ((x : Nat) : Int) := fun z => e (by have := Sum.inl.inj z; omega)
      have hx : x ∈ l := by
        rcases List.mem_cons.mp h with h | h
        · exact absurd h.symm e
        · exact h
      rw [if_neg e', posK_kI hx]
      rw [List.idxOf_cons]
      have : (a == x) = false := by simp [e]
      rw [this]
      rfl
theorem sub_pos {o : Bool} {l : List Nat} {x : Nat} (h : x ∈ l) : subW (.dK o (kI l) (iL (List.range l.length))) (iN x) = some (iN (l.idxOf x)) := by
  simp only [subW, posW, iN, keyW, posK_kI h, kids]
  have hi := List.idxOf_lt_length_iff.mpr h
  exact iL_get (by simp [hi])
theorem e_callF {k : Nat} {es : Es} {d : FnI} {w' : W} {as : List W} (hd : T.fns[k]? = some d) (hio : (Φ k).io = false) (h : evEs T Φ prot es ρ = some (ws, ρ1)) (hds : d.dv es.len = []) (ha : frzL ws = as) (hl : as.length = (Φ k).n) (hf : (Φ k).f as = some (w, w')) (hp : (pureEs Φ es && iso w) = false) :
    evE T Φ prot (.call k es) ρ = some (w, ρ1) := by
  subst ha
  have e : frzL ws ++ ([] : List W) = frzL ws := List.append_nil _
  simp only [evE, hd, hio, h, hds, cWs, e, if_pos hl, hf]
  exact keep_f rfl hp
theorem intsW_prs {p : Nat × Nat} {l : List (Nat × Nat)} : intsW (prs (p :: l)) = none := by rfl
theorem pairsW_prs (l : List (Nat × Nat)) : pairsW (prs l) = some (l.map fun p => (((p.1 : Nat) : Int), ((p.2 : Nat) : Int))) := by
  induction l with
  | nil => rfl
  | cons p l ih =>
    have e : prs (p :: l) = W.tup false [iN p.1, iN p.2] :: prs l := rfl
    rw [e]
    unfold pairsW
    rw [ih]
    rfl
def lexN (p q : Nat × Nat) : Prop := p.1 < q.1 ∨ p.1 = q.1 ∧ p.2 < q.2
/-- sorted pairs: the list with the same items that rises -/
theorem sort_prs {o : Bool} {P U : List (Nat × Nat)} (hp : U.Perm P) (hs : U.Pairwise lexN) : bltW .sorted [.lst o (prs P)] = some (.lst true (prs U)) := by
  cases P with
  | nil =>
    have : U = [] := List.perm_nil.mp hp
    subst this
    rfl
  | cons p P =>
    have e : isort SrtO.lexB ((p :: P).map fun p => (((p.1 : Nat) : Int), ((p.2 : Nat) : Int))) = U.map fun p => (((p.1 : Nat) : Int), ((p.2 : Nat) : Int)) := by
      refine (isort_uniq tot_lex (hp.map _) ?_).symm
      rw [List.pairwise_map]
      refine hs.imp ?_
      intro a b hab
      have hab : a.1 < b.1 ∨ a.1 = b.1 ∧ a.2 < b.2 := hab
      rw [Bool.eq_false_iff]
      intro z
      have z := SrtO.lexB_iff.mp z
      simp only at z
      omega
    simp only [bltW, intsW_prs, pairsW_prs, e]
    simp only [prs, List.map_map]
    rfl
theorem e_binF {op : Operator} {a b : E} (ha : evE T Φ prot a ρ = some (x, ρ1)) (hb : evE T Φ prot b ρ1 = some (y, ρ2)) (hz : binW op x y = some z) (hp : (pureE Φ a && pureE Φ b) = false) : evE T Φ prot (.bin op a b) ρ = some (z, ρ2) := by
  simp only [evE, ha, hb, hz]
  exact keep_f rfl (by rw [hp]; rfl)
theorem e_bltF {b : Blt} {es : Es} (h : evEs T Φ prot es ρ = some (ws, ρ1)) (hz : bltW b ws = some z) (hp : pureEs Φ es = false) : evE T Φ prot (.blt b es) ρ = some (z, ρ1) := by
  simp only [evE, h, hz]
  exact keep_f rfl (by rw [hp]; rfl)
theorem e_rev {a : E} {o : Bool} {l : List Nat} (ha : evE T Φ prot a ρ = some (.lst o (iL l), ρ1)) (hp : pureE Φ a = true) : evE T Φ prot (.rev a) ρ = some (.lst true (iL l.reverse), ρ) := by
  have e : (iL l).reverse = iL l.reverse := by simp [iL, List.map_reverse]
  simp only [evE, ha, frzL_ints, e]
  exact keep_t rfl hp (by simp only [iso, isoL_ints, Bool.and_self])
theorem e_lrng1 {a : E} {n : Nat} (ha : evE T Φ prot a ρ = some (iN n, ρ1)) (hn : n ≤ 1000) : evE T Φ prot (.lrng1 a) ρ = some (.lst true (iL (List.range n)), ρ1) := by
  simp only [evE, ha, iN]
  rw [if_pos ⟨by omega, by unfold lim; omega⟩, show (0 : Int) = ((0 : Nat) : Int) from rfl, rngW_iL, Nat.sub_zero, ← List.range_eq_range']
theorem e_lrng2 {a b : E} {m n : Nat} (ha : evE T Φ prot a ρ = some (iN m, ρ1)) (hb : evE T Φ prot b ρ1 = some (iN n, ρ2)) (hm : m ≤ 1000) (hn : n ≤ 1000) : evE T Φ prot (.lrng2 a b) ρ = some (.lst true (iL (List.range' m (n - m))), ρ2) := by
  simp only [evE, ha, hb, iN]
  rw [if_pos ⟨by omega, by omega, by omega, by omega, by unfold lim; omega⟩, rngW_iL]
end
end Ev

set_option Elab.async false
set_option linter.all false
set_option maxRecDepth 100000
set_option maxHeartbeats 0
/-! The defs of the law in the compact syntax: printed by evgen.py. -/
namespace K90
open PySem PySem.Spec PyProof.Rows L2 Ev
def top (i : Nat) : Stmt := PySem.Challenge.pw_voicerows_k90_whole_counts_that_pairs_ne.main.body.getD i (.Pass ⟨0, 0, 0, 0⟩)
/-- 0: is_whole(value) -/
def D0 : Dfn := ⟨"is_whole", defArgs (top 6), defBody (top 6), defScope (top 6), [], [("value" : Str)], [("value" : Str)], []⟩
/-- slots: 0 value -/
def B0 : Ss := (.cons (.ret (.and (.blt .isinst (.cons (.var 0) (.cons (.ty "int") .nil))) (.not (.blt .isinst (.cons (.var 0) (.cons (.ty "bool") .nil))))))
    .nil)
/-- 1: is_between(value, low, high) -/
def D1 : Dfn := ⟨"is_between", defArgs (top 7), defBody (top 7), defScope (top 7), [], [("value" : Str), ("low" : Str), ("high" : Str)], [("value" : Str), ("low" : Str), ("high" : Str)], []⟩
/-- slots: 0 value, 1 low, 2 high -/
def B1 : Ss := (.cons (.ite (.not (.call 0 (.cons (.var 0) .nil))) (.cons (.ret (.cst (.bl false)))
    .nil) .nil)
    (.cons (.ret (.and (.or (.cmp .Is (.var 1) (.cst (.non))) (.cmp .GtE (.var 0) (.var 1))) (.or (.cmp .Is (.var 2) (.cst (.non))) (.cmp .LtE (.var 0) (.var 2)))))
    .nil))
/-- 2: is_order_list(value) -/
def D2 : Dfn := ⟨"is_order_list", defArgs (top 8), defBody (top 8), defScope (top 8), [], [("value" : Str), ("item" : Str)], [("value" : Str)], []⟩
/-- slots: 0 value, 1 item -/
def B2 : Ss := (.cons (.ite (.or (.not (.blt .isinst (.cons (.var 0) (.cons (.ty "list") .nil)))) (.cmp .Gt (.blt .len (.cons (.var 0) .nil)) (.glb 0))) (.cons (.ret (.cst (.bl false)))
    .nil) .nil)
    (.cons (.ite (.cmp .NotEq (.lc [("item", 1)] (.var 1) (.nm 1) (.seq (.var 0)) (.cons (.not (.call 1 (.cons (.var 1) (.cons (.cst (.int 0)) (.cons (.bin .Sub (.blt .len (.cons (.var 0) .nil)) (.cst (.int 1))) .nil))))) .nil)) (.lst .nil)) (.cons (.ret (.cst (.bl false)))
    .nil) .nil)
    (.cons (.ret (.cmp .Eq (.blt .sorted (.cons (.var 0) .nil)) (.lrng1 (.blt .len (.cons (.var 0) .nil)))))
    .nil)))
/-- 3: check_order(order) -/
def D3 : Dfn := ⟨"check_order", defArgs (top 9), defBody (top 9), defScope (top 9), [], [("order" : Str)], [("order" : Str)], []⟩
/-- slots: 0 order -/
def B3 : Ss := (.cons (.ite (.not (.call 2 (.cons (.var 0) .nil))) (.cons .never
    .nil) .nil)
    .nil)
/-- 4: places_from(order) -/
def D4 : Dfn := ⟨"places_from", defArgs (top 10), defBody (top 10), defScope (top 10), [], [("order" : Str), ("found" : Str), ("at" : Str), ("item" : Str)], [("order" : Str)], []⟩
/-- slots: 0 order, 1 found, 2 at, 3 item -/
def B4 : Ss := (.cons (.set (.nm 1) (.bin .Mult (.lst (.cons (.cst (.int 0)) .nil)) (.blt .len (.cons (.var 0) .nil))))
    (.cons (.for (.tp (.cons (.nm 2) (.cons (.nm 3) .nil))) (.enum (.var 0)) (.cons (.set (.sub (.var 1) (.var 3)) (.var 2))
    .nil))
    (.cons (.ret (.var 1))
    .nil)))
/-- 5: check_two_orders(one, other) -/
def D5 : Dfn := ⟨"check_two_orders", defArgs (top 12), defBody (top 12), defScope (top 12), [], [("one" : Str), ("other" : Str)], [("one" : Str), ("other" : Str)], []⟩
/-- slots: 0 one, 1 other -/
def B5 : Ss := (.cons (.exp (.call 3 (.cons (.var 0) .nil)))
    (.cons (.exp (.call 3 (.cons (.var 1) .nil)))
    (.cons (.ite (.cmp .NotEq (.blt .len (.cons (.var 0) .nil)) (.blt .len (.cons (.var 1) .nil))) (.cons .never
    .nil) .nil)
    .nil)))
/-- 6: unlike_pairs(here, there) -/
def D6 : Dfn := ⟨"unlike_pairs", defArgs (top 13), defBody (top 13), defScope (top 13), [], [("here" : Str), ("there" : Str), ("found" : Str), ("low" : Str), ("high" : Str)], [("here" : Str), ("there" : Str)], []⟩
/-- slots: 0 here, 1 there, 2 found, 3 low, 4 high -/
def B6 : Ss := (.cons (.set (.nm 2) (.lst .nil))
    (.cons (.for (.nm 3) (.rng1 (.blt .len (.cons (.var 0) .nil))) (.cons (.for (.nm 4) (.rng2 (.bin .Add (.var 3) (.cst (.int 1))) (.blt .len (.cons (.var 0) .nil))) (.cons (.ite (.cmp .NotEq (.cmp .Lt (.sub (.var 0) (.var 3)) (.sub (.var 0) (.var 4))) (.cmp .Lt (.sub (.var 1) (.var 3)) (.sub (.var 1) (.var 4)))) (.cons (.exp (.mth .append (.var 2) (.cons (.tup (.cons (.var 3) (.cons (.var 4) .nil))) .nil)))
    .nil) .nil)
    .nil))
    .nil))
    (.cons (.ret (.var 2))
    .nil)))
/-- 7: counted(here, there, low, high) -/
def D7 : Dfn := ⟨"counted", defArgs (top 14), defBody (top 14), defScope (top 14), [], [("here" : Str), ("there" : Str), ("low" : Str), ("high" : Str), ("least" : Str), ("most" : Str), ("number" : Str), ("ahead" : Str), ("one" : Str), ("behind" : Str)], [("here" : Str), ("there" : Str), ("low" : Str), ("high" : Str)], []⟩
/-- slots: 0 here, 1 there, 2 low, 3 high, 4 least, 5 most, 6 number, 7 ahead, 8 one, 9 behind -/
def B7 : Ss := (.cons (.set (.tp (.cons (.nm 4) (.cons (.nm 5) .nil))) (.tup (.cons (.cst (.int 0)) (.cons (.cst (.int 0)) .nil))))
    (.cons (.for (.nm 6) (.rng2 (.bin .Add (.var 2) (.cst (.int 1))) (.var 3)) (.cons (.setlc 7 [("one", 8)] (.var 8) (.nm 8) (.seq (.lst (.cons (.var 2) (.cons (.var 3) .nil)))) (.cons (.and (.cmp .Lt (.sub (.var 0) (.var 6)) (.sub (.var 0) (.var 8))) (.cmp .Lt (.sub (.var 1) (.var 6)) (.sub (.var 1) (.var 8)))) .nil))
    (.cons (.setlc 9 [("one", 8)] (.var 8) (.nm 8) (.seq (.lst (.cons (.var 2) (.cons (.var 3) .nil)))) (.cons (.and (.cmp .Gt (.sub (.var 0) (.var 6)) (.sub (.var 0) (.var 8))) (.cmp .Gt (.sub (.var 1) (.var 6)) (.sub (.var 1) (.var 8)))) .nil))
    (.cons (.par2 4 5 (.bin .Add (.var 4) (.blt .int (.cons (.cmp .NotEq (.var 7) (.lst .nil)) .nil))) (.bin .Add (.var 5) (.blt .int (.cons (.cmp .Eq (.var 9) (.lst .nil)) .nil))))
    .nil))))
    (.cons (.ret (.tup (.cons (.var 4) (.cons (.var 5) .nil))))
    .nil)))
/-- 8: counts_of(one, other) -/
def D8 : Dfn := ⟨"counts_of", defArgs (top 15), defBody (top 15), defScope (top 15), [], [("one" : Str), ("other" : Str), ("here" : Str), ("there" : Str), ("low" : Str), ("high" : Str)], [("one" : Str), ("other" : Str)], []⟩
/-- slots: 0 one, 1 other, 2 here, 3 there, 4 low, 5 high -/
def B8 : Ss := (.cons (.set (.tp (.cons (.nm 2) (.cons (.nm 3) .nil))) (.tup (.cons (.call 4 (.cons (.var 0) .nil)) (.cons (.call 4 (.cons (.var 1) .nil)) .nil))))
    (.cons (.ret (.lc [("low", 4), ("high", 5)] (.bin .Add (.tup (.cons (.var 4) (.cons (.var 5) .nil))) (.call 7 (.cons (.var 2) (.cons (.var 3) (.cons (.var 4) (.cons (.var 5) .nil)))))) (.tp (.cons (.nm 4) (.cons (.nm 5) .nil))) (.seq (.call 6 (.cons (.var 2) (.cons (.var 3) .nil)))) .nil))
    .nil))
/-- 9: needs_of(one, other) -/
def D9 : Dfn := ⟨"needs_of", defArgs (top 16), defBody (top 16), defScope (top 16), [], [("one" : Str), ("other" : Str), ("found" : Str), ("_" : Str), ("low" : Str), ("high" : Str), ("count" : Str)], [("one" : Str), ("other" : Str)], []⟩
/-- slots: 0 one, 1 other, 2 found, 3 _, 4 low, 5 high, 6 count -/
def B9 : Ss := (.cons (.set (.nm 2) (.dict0 false))
    (.cons (.for (.tp (.cons (.nm 3) (.cons (.nm 3) (.cons (.nm 4) (.cons (.nm 5) .nil))))) (.seq (.call 8 (.cons (.var 0) (.cons (.var 1) .nil)))) (.cons (.exp (.mth .update (.var 2) (.cons (.dc [("count", 6)] (.var 6) (.cst (.bl true)) (.nm 6) (.rng2 (.var 4) (.bin .Add (.var 5) (.cst (.int 1)))) .nil) .nil)))
    .nil))
    (.cons (.ret (.blt .sorted (.cons (.blt .list (.cons (.var 2) .nil)) .nil)))
    .nil)))
/-- 10: pair_counts(one, other) -/
def D10 : Dfn := ⟨"pair_counts", defArgs (top 17), defBody (top 17), defScope (top 17), [], [("one" : Str), ("other" : Str)], [("one" : Str), ("other" : Str)], [([("other" : Str), ("one" : Str)], [1, 0]), ([("one" : Str), ("other" : Str)], [0, 1])]⟩
/-- slots: 0 one, 1 other -/
def B10 : Ss := (.cons (.exp (.call 5 (.cons (.var 0) (.cons (.var 1) .nil))))
    (.cons (.ret (.call 8 (.cons (.var 0) (.cons (.var 1) .nil))))
    .nil))
/-- 11: needed(one, other) -/
def D11 : Dfn := ⟨"needed", defArgs (top 18), defBody (top 18), defScope (top 18), [], [("one" : Str), ("other" : Str)], [("one" : Str), ("other" : Str)], [([("other" : Str), ("one" : Str)], [1, 0])]⟩
/-- slots: 0 one, 1 other -/
def B11 : Ss := (.cons (.exp (.call 5 (.cons (.var 0) (.cons (.var 1) .nil))))
    (.cons (.ret (.call 9 (.cons (.var 0) (.cons (.var 1) .nil))))
    .nil))
/-- 12: _law_hash(seed, index) -/
def D12 : Dfn := ⟨"_law_hash", defArgs (top 20), defBody (top 20), defScope (top 20), [], [("seed" : Str), ("index" : Str), ("mixed" : Str)], [("seed" : Str), ("index" : Str)], []⟩
/-- slots: 0 seed, 1 index, 2 mixed -/
def B12 : Ss := (.cons (.set (.nm 2) (.bin .Mod (.blt .int (.cons (.bin .Add (.bin .Add (.bin .Add (.bin .Mult (.var 0) (.cst (.int 1140671))) (.bin .Mult (.bin .Mult (.cst (.int 27644437)) (.var 1)) (.var 1))) (.bin .Mult (.cst (.int 131)) (.var 1))) (.cst (.int 19))) .nil)) (.cst (.int 2147483629))))
    (.cons (.set (.nm 2) (.bin .Mod (.blt .int (.cons (.bin .Add (.bin .Add (.bin .Mult (.var 2) (.var 2)) (.bin .Mult (.cst (.int 62089)) (.var 1))) (.cst (.int 32416187))) .nil)) (.cst (.int 2147483587))))
    (.cons (.ret (.bin .Mod (.blt .int (.cons (.bin .Mult (.var 2) (.cst (.int 48271))) .nil)) (.cst (.int 2147483647))))
    .nil)))
/-- 13: _law_random(generator, bound) -/
def D13 : Dfn := ⟨"_law_random", defArgs (top 21), defBody (top 21), defScope (top 21), [], [("generator" : Str), ("bound" : Str), ("drawn" : Str), ("turn" : Str)], [("generator" : Str), ("bound" : Str)], []⟩
/-- slots: 0 generator, 1 bound, 2 drawn, 3 turn -/
def B13 : Ss := (.cons (.ite (.cmp .Gt (.sub (.var 0) (.cst (.int 0))) (.cst (.int 0))) (.cons (.set (.nm 2) (.bin .Mod (.blt .int (.cons (.sub (.var 0) (.cst (.int 0))) .nil)) (.var 1)))
    (.cons (.set (.sub (.var 0) (.cst (.int 0))) (.bin .FloorDiv (.sub (.var 0) (.cst (.int 0))) (.var 1)))
    (.cons (.ret (.var 2))
    .nil))) .nil)
    (.cons (.set (.nm 2) (.cst (.int 0)))
    (.cons (.for (.nm 3) (.rng1 (.bin .Add (.cst (.int 1)) (.bin .FloorDiv (.mth .bitlen (.var 1) .nil) (.cst (.int 30))))) (.cons (.set (.sub (.var 0) (.cst (.int 2))) (.bin .Add (.sub (.var 0) (.cst (.int 2))) (.cst (.int 1))))
    (.cons (.set (.nm 2) (.bin .Add (.bin .Mult (.var 2) (.cst (.int 2147483587))) (.call 12 (.cons (.sub (.var 0) (.cst (.int 1))) (.cons (.sub (.var 0) (.cst (.int 2))) .nil)))))
    .nil)))
    (.cons (.ret (.bin .Mod (.blt .int (.cons (.var 2) .nil)) (.var 1)))
    .nil))))
/-- 14: _law_cell(script, index) -/
def D14 : Dfn := ⟨"_law_cell", defArgs (top 22), defBody (top 22), defScope (top 22), [], [("script" : Str), ("index" : Str)], [("script" : Str), ("index" : Str)], []⟩
/-- slots: 0 script, 1 index -/
def B14 : Ss := (.cons (.ite (.cmp .Lt (.var 1) (.blt .len (.cons (.var 0) .nil))) (.cons (.ret (.sub (.var 0) (.var 1)))
    .nil) .nil)
    (.cons (.ret (.bin .Mod (.blt .sum (.cons (.slc (.var 0) (.cst .non) (.cst (.int 1))) .nil)) (.cst (.int 1000003))))
    .nil))
/-- 15: _law_generator(script, index) -/
def D15 : Dfn := ⟨"_law_generator", defArgs (top 23), defBody (top 23), defScope (top 23), [], [("script" : Str), ("index" : Str), ("seed" : Str)], [("script" : Str), ("index" : Str)], []⟩
/-- slots: 0 script, 1 index, 2 seed -/
def B15 : Ss := (.cons (.set (.nm 2) (.call 14 (.cons (.var 0) (.cons (.var 1) .nil))))
    (.cons (.ret (.lst (.cons (.bin .Mod (.blt .int (.cons (.blt .max (.cons (.bin .Sub (.var 2) (.bin .Pow (.cst (.int 10)) (.cst (.int 18)))) (.cons (.cst (.int 0)) .nil))) .nil)) (.bin .Pow (.bin .Pow (.cst (.int 10)) (.cst (.int 60))) (.cst (.int 10)))) (.cons (.bin .Mod (.blt .int (.cons (.var 2) .nil)) (.cst (.int 2147483647))) (.cons (.bin .Mult (.cst (.int 1000)) (.var 1)) .nil)))))
    .nil))
/-- 16: _law_order(generator, size) -/
def D16 : Dfn := ⟨"_law_order", defArgs (top 24), defBody (top 24), defScope (top 24), [], [("generator" : Str), ("size" : Str), ("left" : Str), ("found" : Str)], [("generator" : Str), ("size" : Str)], []⟩
/-- slots: 0 generator, 1 size, 2 left, 3 found -/
def B16 : Ss := (.cons (.par2 2 3 (.lrng1 (.var 1)) (.lst .nil))
    (.cons (.while (.cmp .NotEq (.var 2) (.lst .nil)) (.cons (.exp (.mth .append (.var 3) (.cons (.mth .pop1 (.var 2) (.cons (.call 13 (.cons (.var 0) (.cons (.blt .len (.cons (.var 2) .nil)) .nil))) .nil)) .nil)))
    .nil))
    (.cons (.ret (.var 3))
    .nil)))
/-- 17: _law_exchanged(order, at) -/
def D17 : Dfn := ⟨"_law_exchanged", defArgs (top 25), defBody (top 25), defScope (top 25), [], [("order" : Str), ("at" : Str)], [("order" : Str), ("at" : Str)], []⟩
/-- slots: 0 order, 1 at -/
def B17 : Ss := (.cons (.ret (.bin .Add (.bin .Add (.slc (.var 0) (.cst .non) (.var 1)) (.lst (.cons (.sub (.var 0) (.bin .Add (.var 1) (.cst (.int 1)))) (.cons (.sub (.var 0) (.var 1)) .nil)))) (.slc (.var 0) (.bin .Add (.var 1) (.cst (.int 2))) (.cst .non))))
    .nil)
/-- 18: _law_left(order, at) -/
def D18 : Dfn := ⟨"_law_left", defArgs (top 26), defBody (top 26), defScope (top 26), [], [("order" : Str), ("at" : Str), ("low" : Str), ("high" : Str), ("number" : Str)], [("order" : Str), ("at" : Str)], []⟩
/-- slots: 0 order, 1 at, 2 low, 3 high, 4 number -/
def B18 : Ss := (.cons (.set (.tp (.cons (.nm 2) (.cons (.nm 3) .nil))) (.tup (.cons (.blt .min (.cons (.sub (.var 0) (.var 1)) (.cons (.sub (.var 0) (.bin .Add (.var 1) (.cst (.int 1)))) .nil))) (.cons (.blt .max (.cons (.sub (.var 0) (.var 1)) (.cons (.sub (.var 0) (.bin .Add (.var 1) (.cst (.int 1)))) .nil))) .nil))))
    (.cons (.ret (.blt .len (.cons (.lc [("number", 4)] (.var 4) (.nm 4) (.seq (.slc (.var 0) (.cst .non) (.var 1))) (.cons (.chn .Lt .Lt (.var 2) (.var 4) (.var 3)) .nil)) .nil)))
    .nil))
/-- 19: _law_unlike(one, other) -/
def D19 : Dfn := ⟨"_law_unlike", defArgs (top 27), defBody (top 27), defScope (top 27), [], [("one" : Str), ("other" : Str), ("places" : Str), ("found" : Str), ("at" : Str), ("number" : Str), ("low" : Str), ("high" : Str)], [("one" : Str), ("other" : Str)], []⟩
/-- slots: 0 one, 1 other, 2 places, 3 found, 4 at, 5 number, 6 low, 7 high -/
def B19 : Ss := (.cons (.par2 2 3 (.blt .dict (.cons (.lc [("at", 4), ("number", 5)] (.tup (.cons (.var 5) (.cons (.var 4) .nil))) (.tp (.cons (.nm 4) (.cons (.nm 5) .nil))) (.enum (.var 1)) .nil) .nil)) (.lst .nil))
    (.cons (.for (.tp (.cons (.nm 4) (.cons (.nm 6) .nil))) (.enum (.var 0)) (.cons (.for (.nm 7) (.seq (.slc (.var 0) (.bin .Add (.var 4) (.cst (.int 1))) (.cst .non))) (.cons (.ite (.cmp .Gt (.sub (.var 2) (.var 6)) (.sub (.var 2) (.var 7))) (.cons (.exp (.mth .append (.var 3) (.cons (.tup (.cons (.blt .min (.cons (.var 6) (.cons (.var 7) .nil))) (.cons (.blt .max (.cons (.var 6) (.cons (.var 7) .nil))) .nil))) .nil)))
    .nil) .nil)
    .nil))
    .nil))
    (.cons (.ret (.blt .sorted (.cons (.var 3) .nil)))
    .nil)))
/-- 20: _law_low_high(one, other, low, high) -/
def D20 : Dfn := ⟨"_law_low_high", defArgs (top 28), defBody (top 28), defScope (top 28), [], [("one" : Str), ("other" : Str), ("low" : Str), ("high" : Str), ("here" : Str), ("at" : Str), ("number" : Str), ("there" : Str), ("least" : Str), ("most" : Str), ("ahead" : Str), ("end" : Str), ("behind" : Str)], [("one" : Str), ("other" : Str), ("low" : Str), ("high" : Str)], []⟩
/-- slots: 0 one, 1 other, 2 low, 3 high, 4 here, 5 at, 6 number, 7 there, 8 least, 9 most, 10 ahead, 11 end, 12 behind -/
def B20 : Ss := (.cons (.set (.nm 4) (.blt .dict (.cons (.lc [("at", 5), ("number", 6)] (.tup (.cons (.var 6) (.cons (.var 5) .nil))) (.tp (.cons (.nm 5) (.cons (.nm 6) .nil))) (.enum (.var 0)) .nil) .nil)))
    (.cons (.set (.nm 7) (.blt .dict (.cons (.lc [("at", 5), ("number", 6)] (.tup (.cons (.var 6) (.cons (.var 5) .nil))) (.tp (.cons (.nm 5) (.cons (.nm 6) .nil))) (.enum (.var 1)) .nil) .nil)))
    (.cons (.set (.tp (.cons (.nm 8) (.cons (.nm 9) .nil))) (.tup (.cons (.cst (.int 0)) (.cons (.cst (.int 0)) .nil))))
    (.cons (.for (.nm 6) (.rng2 (.bin .Add (.var 2) (.cst (.int 1))) (.var 3)) (.cons (.setlc 10 [("end", 11)] (.var 11) (.nm 11) (.seq (.lst (.cons (.var 2) (.cons (.var 3) .nil)))) (.cons (.and (.cmp .Lt (.sub (.var 4) (.var 6)) (.sub (.var 4) (.var 11))) (.cmp .Lt (.sub (.var 7) (.var 6)) (.sub (.var 7) (.var 11)))) .nil))
    (.cons (.setlc 12 [("end", 11)] (.var 11) (.nm 11) (.seq (.lst (.cons (.var 2) (.cons (.var 3) .nil)))) (.cons (.and (.cmp .Gt (.sub (.var 4) (.var 6)) (.sub (.var 4) (.var 11))) (.cmp .Gt (.sub (.var 7) (.var 6)) (.sub (.var 7) (.var 11)))) .nil))
    (.cons (.par2 8 9 (.bin .Add (.var 8) (.blt .int (.cons (.cmp .NotEq (.var 10) (.lst .nil)) .nil))) (.bin .Add (.var 9) (.blt .int (.cons (.cmp .Eq (.var 12) (.lst .nil)) .nil))))
    .nil))))
    (.cons (.ret (.tup (.cons (.var 2) (.cons (.var 3) (.cons (.var 8) (.cons (.var 9) .nil))))))
    .nil)))))
/-- 21: _law_needs(one, other) -/
def D21 : Dfn := ⟨"_law_needs", defArgs (top 29), defBody (top 29), defScope (top 29), [], [("one" : Str), ("other" : Str), ("found" : Str), ("low" : Str), ("high" : Str), ("least" : Str), ("most" : Str), ("count" : Str)], [("one" : Str), ("other" : Str)], []⟩
/-- slots: 0 one, 1 other, 2 found, 3 low, 4 high, 5 least, 6 most, 7 count -/
def B21 : Ss := (.cons (.set (.nm 2) (.dict0 false))
    (.cons (.for (.tp (.cons (.nm 3) (.cons (.nm 4) .nil))) (.seq (.call 19 (.cons (.var 0) (.cons (.var 1) .nil)))) (.cons (.set (.tp (.cons (.nm 3) (.cons (.nm 4) (.cons (.nm 5) (.cons (.nm 6) .nil))))) (.call 20 (.cons (.var 0) (.cons (.var 1) (.cons (.var 3) (.cons (.var 4) .nil))))))
    (.cons (.for (.nm 7) (.rng2 (.var 5) (.bin .Add (.var 6) (.cst (.int 1)))) (.cons (.set (.sub (.var 2) (.var 7)) (.cst (.bl true)))
    .nil))
    .nil)))
    (.cons (.ret (.blt .sorted (.cons (.var 2) .nil)))
    .nil)))
/-- 22: _law_steps(order, goal) -/
def D22 : Dfn := ⟨"_law_steps", defArgs (top 30), defBody (top 30), defScope (top 30), [], [("order" : Str), ("goal" : Str), ("places" : Str), ("at" : Str), ("number" : Str)], [("order" : Str), ("goal" : Str)], []⟩
/-- slots: 0 order, 1 goal, 2 places, 3 at, 4 number -/
def B22 : Ss := (.cons (.set (.nm 2) (.blt .dict (.cons (.lc [("at", 3), ("number", 4)] (.tup (.cons (.var 4) (.cons (.var 3) .nil))) (.tp (.cons (.nm 3) (.cons (.nm 4) .nil))) (.enum (.var 1)) .nil) .nil)))
    (.cons (.ret (.lc [("at", 3)] (.var 3) (.nm 3) (.rng1 (.bin .Sub (.blt .len (.cons (.var 0) .nil)) (.cst (.int 1)))) (.cons (.cmp .Gt (.sub (.var 2) (.sub (.var 0) (.var 3))) (.sub (.var 2) (.sub (.var 0) (.bin .Add (.var 3) (.cst (.int 1)))))) .nil)))
    .nil))
/-- 23: _law_seen(one, other) -/
def D23 : Dfn := ⟨"_law_seen", defArgs (top 31), defBody (top 31), defScope (top 31), [], [("one" : Str), ("other" : Str), ("found" : Str), ("rows" : Str), ("known" : Str), ("at" : Str), ("place" : Str), ("low" : Str), ("high" : Str), ("counts" : Str), ("count" : Str), ("fresh" : Str)], [("one" : Str), ("other" : Str)], []⟩
/-- slots: 0 one, 1 other, 2 found, 3 rows, 4 known, 5 at, 6 place, 7 low, 8 high, 9 counts, 10 count, 11 fresh -/
def B23 : Ss := (.cons (.set (.tp (.cons (.nm 2) (.cons (.nm 3) (.cons (.nm 4) (.cons (.nm 5) .nil))))) (.tup (.cons (.dict0 true) (.cons (.lst (.cons (.blt .list (.cons (.var 0) .nil)) .nil)) (.cons (.dict1 (.blt .tuple (.cons (.var 0) .nil)) (.cst (.bl true))) (.cons (.cst (.int 0)) .nil))))))
    (.cons (.while (.cmp .Lt (.var 5) (.blt .len (.cons (.var 3) .nil))) (.cons (.for (.nm 6) (.seq (.call 22 (.cons (.sub (.var 3) (.var 5)) (.cons (.var 1) .nil)))) (.cons (.set (.tp (.cons (.nm 7) (.cons (.nm 8) .nil))) (.blt .sorted (.cons (.slc (.sub (.var 3) (.var 5)) (.var 6) (.bin .Add (.var 6) (.cst (.int 2)))) .nil)))
    (.cons (.set (.nm 9) (.mth .get2 (.var 2) (.cons (.tup (.cons (.var 7) (.cons (.var 8) .nil))) (.cons (.lst .nil) .nil))))
    (.cons (.set (.nm 10) (.call 18 (.cons (.sub (.var 3) (.var 5)) (.cons (.var 6) .nil))))
    (.cons (.set (.sub (.var 2) (.tup (.cons (.var 7) (.cons (.var 8) .nil)))) (.ite (.cmp .In (.var 10) (.var 9)) (.var 9) (.bin .Add (.var 9) (.lst (.cons (.var 10) .nil)))))
    (.cons (.set (.nm 11) (.call 17 (.cons (.sub (.var 3) (.var 5)) (.cons (.var 6) .nil))))
    (.cons (.ite (.cmp .NotIn (.blt .tuple (.cons (.var 11) .nil)) (.var 4)) (.cons (.set (.sub (.var 4) (.blt .tuple (.cons (.var 11) .nil))) (.cst (.bl true)))
    (.cons (.exp (.mth .append (.var 3) (.cons (.var 11) .nil)))
    .nil)) .nil)
    .nil)))))))
    (.cons (.set (.nm 5) (.bin .Add (.var 5) (.cst (.int 1))))
    .nil)))
    (.cons (.ret (.var 2))
    .nil)))
/-- 24: _law_near(generator, order, steps) -/
def D24 : Dfn := ⟨"_law_near", defArgs (top 32), defBody (top 32), defScope (top 32), [], [("generator" : Str), ("order" : Str), ("steps" : Str), ("found" : Str), ("turn" : Str)], [("generator" : Str), ("order" : Str), ("steps" : Str)], []⟩
/-- slots: 0 generator, 1 order, 2 steps, 3 found, 4 turn -/
def B24 : Ss := (.cons (.set (.nm 3) (.blt .list (.cons (.var 1) .nil)))
    (.cons (.for (.nm 4) (.rng1 (.bin .Mult (.var 2) (.blt .int (.cons (.cmp .Gt (.blt .len (.cons (.var 1) .nil)) (.cst (.int 1))) .nil)))) (.cons (.set (.nm 3) (.call 17 (.cons (.var 3) (.cons (.call 13 (.cons (.var 0) (.cons (.bin .Sub (.blt .len (.cons (.var 1) .nil)) (.cst (.int 1))) .nil))) .nil))))
    .nil))
    (.cons (.ret (.var 3))
    .nil)))
/-- 25: _law_two_right(one, other) -/
def D25 : Dfn := ⟨"_law_two_right", defArgs (top 33), defBody (top 33), defScope (top 33), [], [("one" : Str), ("other" : Str), ("kept" : Str), ("due" : Str), ("low" : Str), ("high" : Str), ("told" : Str), ("counts" : Str)], [("one" : Str), ("other" : Str)], []⟩
/-- slots: 0 one, 1 other, 2 kept, 3 due, 4 low, 5 high, 6 told, 7 counts -/
def B25 : Ss := (.cons (.set (.nm 2) (.blt .repr (.cons (.tup (.cons (.var 0) (.cons (.var 1) .nil))) .nil)))
    (.cons (.setlc 3 [("low", 4), ("high", 5)] (.call 20 (.cons (.var 0) (.cons (.var 1) (.cons (.var 4) (.cons (.var 5) .nil))))) (.tp (.cons (.nm 4) (.cons (.nm 5) .nil))) (.seq (.call 19 (.cons (.var 0) (.cons (.var 1) .nil)))) .nil)
    (.cons (.ite (.or (.cmp .NotEq (.call 10 (.cons (.var 0) (.cons (.var 1) .nil))) (.var 3)) (.or (.cmp .NotEq (.kcall 10 [("other" : Str), ("one" : Str)] [1, 0] (.cons (.var 1) (.cons (.var 0) .nil))) (.var 3)) (.cmp .NotEq (.call 10 (.cons (.var 1) (.cons (.var 0) .nil))) (.var 3)))) (.cons (.ret (.cst (.bl false)))
    .nil) .nil)
    (.cons (.ite (.or (.cmp .NotEq (.call 11 (.cons (.var 0) (.cons (.var 1) .nil))) (.call 21 (.cons (.var 0) (.cons (.var 1) .nil)))) (.cmp .NotEq (.kcall 11 [("other" : Str), ("one" : Str)] [1, 0] (.cons (.var 0) (.cons (.var 1) .nil))) (.call 21 (.cons (.var 0) (.cons (.var 1) .nil))))) (.cons (.ret (.cst (.bl false)))
    .nil) .nil)
    (.cons (.par2 6 7 (.call 10 (.cons (.var 0) (.cons (.var 1) .nil))) (.call 11 (.cons (.var 0) (.cons (.var 1) .nil))))
    (.cons (.exp (.mth .append (.var 6) (.cons (.cst (.non)) .nil)))
    (.cons (.exp (.mth .append (.var 7) (.cons (.cst (.non)) .nil)))
    (.cons (.exp (.mth .reverse (.var 0) .nil))
    (.cons (.ite (.or (.cmp .NotEq (.call 11 (.cons (.var 0) (.cons (.var 1) .nil))) (.call 21 (.cons (.var 0) (.cons (.var 1) .nil)))) (.cmp .NotEq (.blt .len (.cons (.call 10 (.cons (.var 0) (.cons (.var 1) .nil))) .nil)) (.blt .len (.cons (.call 19 (.cons (.var 0) (.cons (.var 1) .nil))) .nil)))) (.cons (.ret (.cst (.bl false)))
    .nil) .nil)
    (.cons (.exp (.mth .reverse (.var 0) .nil))
    (.cons (.ret (.and (.cmp .Eq (.call 10 (.cons (.var 0) (.cons (.var 1) .nil))) (.var 3)) (.and (.cmp .Eq (.call 11 (.cons (.var 0) (.cons (.var 1) .nil))) (.call 21 (.cons (.var 0) (.cons (.var 1) .nil)))) (.cmp .Eq (.blt .repr (.cons (.tup (.cons (.var 0) (.cons (.var 1) .nil))) .nil)) (.var 2)))))
    .nil)))))))))))
/-- 26: _law_right(generator) -/
def D26 : Dfn := ⟨"_law_right", defArgs (top 34), defBody (top 34), defScope (top 34), [], [("generator" : Str), ("size" : Str), ("one" : Str), ("other" : Str), ("seen" : Str), ("low" : Str), ("high" : Str), ("pair" : Str), ("many" : Str), ("long" : Str)], [("generator" : Str)], []⟩
/-- slots: 0 generator, 1 size, 2 one, 3 other, 4 seen, 5 low, 6 high, 7 pair, 8 many, 9 long -/
def B26 : Ss := (.cons (.set (.nm 1) (.call 13 (.cons (.var 0) (.cons (.cst (.int 7)) .nil))))
    (.cons (.set (.nm 2) (.call 16 (.cons (.var 0) (.cons (.var 1) .nil))))
    (.cons (.set (.nm 3) (.ite (.cmp .Eq (.call 13 (.cons (.var 0) (.cons (.cst (.int 2)) .nil))) (.cst (.int 0))) (.call 16 (.cons (.var 0) (.cons (.var 1) .nil))) (.call 24 (.cons (.var 0) (.cons (.var 2) (.cons (.cst (.int 6)) .nil))))))
    (.cons (.ite (.not (.call 25 (.cons (.var 2) (.cons (.var 3) .nil)))) (.cons (.ret (.cst (.bl false)))
    .nil) .nil)
    (.cons (.set (.nm 4) (.call 23 (.cons (.var 2) (.cons (.var 3) .nil))))
    (.cons (.ite (.cmp .NotEq (.lc [("low", 5), ("high", 6)] (.tup (.cons (.var 5) (.cons (.var 6) (.cons (.blt .min (.cons (.sub (.var 4) (.tup (.cons (.var 5) (.cons (.var 6) .nil)))) .nil)) (.cons (.blt .max (.cons (.sub (.var 4) (.tup (.cons (.var 5) (.cons (.var 6) .nil)))) .nil)) .nil))))) (.tp (.cons (.nm 5) (.cons (.nm 6) .nil))) (.seq (.blt .sorted (.cons (.var 4) .nil))) .nil) (.call 10 (.cons (.var 2) (.cons (.var 3) .nil)))) (.cons (.ret (.cst (.bl false)))
    .nil) .nil)
    (.cons (.ite (.cmp .NotEq (.lock [("pair", 7)] (.var 7) (.nm 7) (.var 4) (.cons (.cmp .NotEq (.blt .sorted (.cons (.sub (.var 4) (.var 7)) .nil)) (.lrng2 (.blt .min (.cons (.sub (.var 4) (.var 7)) .nil)) (.bin .Add (.blt .max (.cons (.sub (.var 4) (.var 7)) .nil)) (.cst (.int 1))))) .nil)) (.lst .nil)) (.cons (.ret (.cst (.bl false)))
    .nil) .nil)
    (.cons (.set (.nm 8) (.bin .Add (.cst (.int 7)) (.call 13 (.cons (.var 0) (.cons (.cst (.int 14)) .nil)))))
    (.cons (.set (.nm 9) (.call 16 (.cons (.var 0) (.cons (.var 8) .nil))))
    (.cons (.ret (.and (.call 25 (.cons (.var 9) (.cons (.call 24 (.cons (.var 0) (.cons (.var 9) (.cons (.cst (.int 200)) .nil)))) .nil))) (.call 25 (.cons (.var 9) (.cons (.call 16 (.cons (.var 0) (.cons (.var 8) .nil))) .nil)))))
    .nil))))))))))
/-- 27: _law_great_right(generator) -/
def D27 : Dfn := ⟨"_law_great_right", defArgs (top 35), defBody (top 35), defScope (top 35), [], [("generator" : Str), ("many" : Str), ("one" : Str), ("half" : Str), ("other" : Str), ("at" : Str), ("back" : Str), ("item" : Str), ("due" : Str), ("low" : Str), ("high" : Str), ("counts" : Str), ("kept" : Str)], [("generator" : Str)], []⟩
/-- slots: 0 generator, 1 many, 2 one, 3 half, 4 other, 5 at, 6 back, 7 item, 8 due, 9 low, 10 high, 11 counts, 12 kept -/
def B27 : Ss := (.cons (.set (.nm 1) (.bin .Add (.cst (.int 21)) (.call 13 (.cons (.var 0) (.cons (.cst (.int 180)) .nil)))))
    (.cons (.set (.nm 2) (.call 16 (.cons (.var 0) (.cons (.var 1) .nil))))
    (.cons (.ite (.cmp .Eq (.call 13 (.cons (.var 0) (.cons (.cst (.int 2)) .nil))) (.cst (.int 0))) (.cons (.set (.nm 3) (.call 13 (.cons (.var 0) (.cons (.var 1) .nil))))
    (.cons (.set (.nm 2) (.bin .Add (.lrng2 (.var 3) (.var 1)) (.lrng1 (.var 3))))
    .nil)) .nil)
    (.cons (.set (.tp (.cons (.nm 4) (.cons (.nm 5) (.cons (.nm 6) .nil)))) (.tup (.cons (.blt .list (.cons (.var 2) .nil)) (.cons (.call 13 (.cons (.var 0) (.cons (.var 1) .nil))) (.cons (.call 13 (.cons (.var 0) (.cons (.var 1) .nil))) .nil)))))
    (.cons (.set (.nm 4) (.bin .Add (.bin .Add (.slc (.var 4) (.cst .non) (.var 6)) (.rev (.slc (.var 4) (.var 6) (.bin .Add (.var 6) (.cst (.int 13)))))) (.slc (.var 4) (.bin .Add (.var 6) (.cst (.int 13))) (.cst .non))))
    (.cons (.set (.nm 7) (.mth .pop1 (.var 4) (.cons (.var 5) .nil)))
    (.cons (.exp (.mth .insert (.var 4) (.cons (.blt .min (.cons (.bin .Sub (.var 1) (.cst (.int 1))) (.cons (.blt .max (.cons (.cst (.int 0)) (.cons (.bin .Sub (.bin .Add (.var 5) (.call 13 (.cons (.var 0) (.cons (.cst (.int 121)) .nil)))) (.cst (.int 60))) .nil))) .nil))) (.cons (.var 7) .nil))))
    (.cons (.set (.nm 4) (.call 24 (.cons (.var 0) (.cons (.var 4) (.cons (.call 13 (.cons (.var 0) (.cons (.cst (.int 12)) .nil))) .nil)))))
    (.cons (.setlc 8 [("low", 9), ("high", 10)] (.call 20 (.cons (.var 2) (.cons (.var 4) (.cons (.var 9) (.cons (.var 10) .nil))))) (.tp (.cons (.nm 9) (.cons (.nm 10) .nil))) (.seq (.call 19 (.cons (.var 2) (.cons (.var 4) .nil)))) .nil)
    (.cons (.par2 11 12 (.call 21 (.cons (.var 2) (.cons (.var 4) .nil))) (.blt .repr (.cons (.tup (.cons (.var 2) (.cons (.var 4) .nil))) .nil)))
    (.cons (.ite (.or (.cmp .NotEq (.blt .repr (.cons (.call 10 (.cons (.var 2) (.cons (.var 4) .nil))) .nil)) (.blt .repr (.cons (.var 8) .nil))) (.cmp .NotEq (.blt .repr (.cons (.call 11 (.cons (.var 2) (.cons (.var 4) .nil))) .nil)) (.blt .repr (.cons (.var 11) .nil)))) (.cons (.ret (.cst (.bl false)))
    .nil) .nil)
    (.cons (.ret (.and (.cmp .Eq (.blt .repr (.cons (.kcall 10 [("one" : Str), ("other" : Str)] [0, 1] (.cons (.var 4) (.cons (.var 2) .nil))) .nil)) (.blt .repr (.cons (.var 8) .nil))) (.and (.cmp .Eq (.blt .repr (.cons (.call 11 (.cons (.var 4) (.cons (.var 2) .nil))) .nil)) (.blt .repr (.cons (.var 11) .nil))) (.cmp .Eq (.blt .repr (.cons (.tup (.cons (.var 2) (.cons (.var 4) .nil))) .nil)) (.var 12)))))
    .nil))))))))))))
/-- 28: law(script) -/
def D28 : Dfn := ⟨"law", defArgs (top 36), defBody (top 36), defScope (top 36), [], [("script" : Str), ("index" : Str), ("high" : Str), ("great" : Str), ("wide" : Str)], [("script" : Str)], []⟩
/-- slots: 0 script, 1 index, 2 high, 3 great, 4 wide -/
def B28 : Ss := (.cons (.ite (.not (.call 27 (.cons (.call 15 (.cons (.var 0) (.cons (.cst (.int 3)) .nil))) .nil))) (.cons (.ret (.cst (.bl false)))
    .nil) .nil)
    (.cons (.for (.nm 1) (.rng1 (.cst (.int 3))) (.cons (.ite (.not (.call 26 (.cons (.call 15 (.cons (.var 0) (.cons (.var 1) .nil))) .nil))) (.cons (.ret (.cst (.bl false)))
    .nil) .nil)
    .nil))
    (.cons (.ite (.or (.cmp .NotEq (.call 10 (.cons (.lst (.cons (.cst (.int 3)) (.cons (.cst (.int 4)) (.cons (.cst (.int 0)) (.cons (.cst (.int 1)) (.cons (.cst (.int 2)) .nil)))))) (.cons (.lst (.cons (.cst (.int 3)) (.cons (.cst (.int 0)) (.cons (.cst (.int 1)) (.cons (.cst (.int 2)) (.cons (.cst (.int 4)) .nil)))))) .nil))) (.lst (.cons (.tup (.cons (.cst (.int 0)) (.cons (.cst (.int 4)) (.cons (.cst (.int 1)) (.cons (.cst (.int 1)) .nil))))) (.cons (.tup (.cons (.cst (.int 1)) (.cons (.cst (.int 4)) (.cons (.cst (.int 1)) (.cons (.cst (.int 1)) .nil))))) (.cons (.tup (.cons (.cst (.int 2)) (.cons (.cst (.int 4)) (.cons (.cst (.int 1)) (.cons (.cst (.int 1)) .nil))))) .nil))))) (.cmp .NotEq (.call 11 (.cons (.lst .nil) (.cons (.lst .nil) .nil))) (.lst .nil))) (.cons (.ret (.cst (.bl false)))
    .nil) .nil)
    (.cons (.set (.nm 2) (.bin .Add (.lrng2 (.cst (.int 1)) (.cst (.int 61))) (.lst (.cons (.cst (.int 0)) (.cons (.cst (.int 61)) .nil)))))
    (.cons (.ite (.or (.cmp .NotEq (.call 11 (.cons (.var 2) (.cons (.bin .Add (.slc (.var 2) (.cst .non) (.cst (.int 60))) (.lst (.cons (.cst (.int 61)) (.cons (.cst (.int 0)) .nil)))) .nil))) (.lst (.cons (.cst (.int 60)) .nil))) (.cmp .NotEq (.call 11 (.cons (.lst (.cons (.cst (.int 0)) (.cons (.cst (.int 1)) (.cons (.cst (.int 2)) (.cons (.cst (.int 3)) .nil))))) (.cons (.lst (.cons (.cst (.int 3)) (.cons (.cst (.int 2)) (.cons (.cst (.int 1)) (.cons (.cst (.int 0)) .nil))))) .nil))) (.lst (.cons (.cst (.int 0)) (.cons (.cst (.int 1)) (.cons (.cst (.int 2)) .nil)))))) (.cons (.ret (.cst (.bl false)))
    .nil) .nil)
    (.cons (.par2 3 4 (.lrng1 (.cst (.int 200))) (.lrng1 (.cst (.int 40))))
    (.cons (.ret (.and (.cmp .Eq (.call 11 (.cons (.var 3) (.cons (.var 3) .nil))) (.lst .nil)) (.and (.cmp .Eq (.blt .len (.cons (.call 10 (.cons (.var 4) (.cons (.rev (.var 4)) .nil))) .nil)) (.cst (.int 780))) (.cmp .Eq (.call 11 (.cons (.lst (.cons (.cst (.int 0)) .nil)) (.cons (.lst (.cons (.cst (.int 0)) .nil)) .nil))) (.lst .nil)))))
    .nil)))))))
def ds : List Dfn := [D0, D1, D2, D3, D4, D5, D6, D7, D8, D9, D10, D11, D12, D13, D14, D15, D16, D17, D18, D19, D20, D21, D22, D23, D24, D25, D26, D27, D28]
def cst : List (Str × V) := [("MOST_LENGTH", .int 200)]
def fre : List Str := [("isinstance" : Str), ("bool" : Str), ("int" : Str), ("sorted" : Str), ("list" : Str), ("range" : Str), ("len" : Str), ("enumerate" : Str), ("sum" : Str), ("max" : Str), ("min" : Str), ("dict" : Str), ("tuple" : Str), ("repr" : Str)]
abbrev tab (sps : List Sp) : Tab := mkT ds cst fre sps
theorem sc0 : FnScope D0.N D0.ps D0.scope := ⟨by kernel_rfl, by kernel_rfl, by kernel_rfl, by decide +kernel, by kernel_rfl, by decide +kernel, by decide +kernel⟩
theorem m0 (sps : List Sp) : mSs (tab sps) B0 ⟨D0.N, D0.scope, fun _ => true⟩ D0.body = true := by kernel_rfl
theorem sc1 : FnScope D1.N D1.ps D1.scope := ⟨by kernel_rfl, by kernel_rfl, by kernel_rfl, by decide +kernel, by kernel_rfl, by decide +kernel, by decide +kernel⟩
theorem m1 (sps : List Sp) : mSs (tab sps) B1 ⟨D1.N, D1.scope, fun _ => true⟩ D1.body = true := by kernel_rfl
theorem sc2 : FnScope D2.N D2.ps D2.scope := ⟨by kernel_rfl, by kernel_rfl, by kernel_rfl, by decide +kernel, by kernel_rfl, by decide +kernel, by decide +kernel⟩
theorem m2 (sps : List Sp) : mSs (tab sps) B2 ⟨D2.N, D2.scope, fun _ => true⟩ D2.body = true := by kernel_rfl
theorem sc3 : FnScope D3.N D3.ps D3.scope := ⟨by kernel_rfl, by kernel_rfl, by kernel_rfl, by decide +kernel, by kernel_rfl, by decide +kernel, by decide +kernel⟩
theorem m3 (sps : List Sp) : mSs (tab sps) B3 ⟨D3.N, D3.scope, fun _ => true⟩ D3.body = true := by kernel_rfl
theorem sc4 : FnScope D4.N D4.ps D4.scope := ⟨by kernel_rfl, by kernel_rfl, by kernel_rfl, by decide +kernel, by kernel_rfl, by decide +kernel, by decide +kernel⟩
theorem m4 (sps : List Sp) : mSs (tab sps) B4 ⟨D4.N, D4.scope, fun _ => true⟩ D4.body = true := by kernel_rfl
theorem sc5 : FnScope D5.N D5.ps D5.scope := ⟨by kernel_rfl, by kernel_rfl, by kernel_rfl, by decide +kernel, by kernel_rfl, by decide +kernel, by decide +kernel⟩
theorem m5 (sps : List Sp) : mSs (tab sps) B5 ⟨D5.N, D5.scope, fun _ => true⟩ D5.body = true := by kernel_rfl
theorem sc6 : FnScope D6.N D6.ps D6.scope := ⟨by kernel_rfl, by kernel_rfl, by kernel_rfl, by decide +kernel, by kernel_rfl, by decide +kernel, by decide +kernel⟩
theorem m6 (sps : List Sp) : mSs (tab sps) B6 ⟨D6.N, D6.scope, fun _ => true⟩ D6.body = true := by kernel_rfl
theorem sc7 : FnScope D7.N D7.ps D7.scope := ⟨by kernel_rfl, by kernel_rfl, by kernel_rfl, by decide +kernel, by kernel_rfl, by decide +kernel, by decide +kernel⟩
theorem m7 (sps : List Sp) : mSs (tab sps) B7 ⟨D7.N, D7.scope, fun _ => true⟩ D7.body = true := by kernel_rfl
theorem sc8 : FnScope D8.N D8.ps D8.scope := ⟨by kernel_rfl, by kernel_rfl, by kernel_rfl, by decide +kernel, by kernel_rfl, by decide +kernel, by decide +kernel⟩
theorem m8 (sps : List Sp) : mSs (tab sps) B8 ⟨D8.N, D8.scope, fun _ => true⟩ D8.body = true := by kernel_rfl
theorem sc9 : FnScope D9.N D9.ps D9.scope := ⟨by kernel_rfl, by kernel_rfl, by kernel_rfl, by decide +kernel, by kernel_rfl, by decide +kernel, by decide +kernel⟩
theorem m9 (sps : List Sp) : mSs (tab sps) B9 ⟨D9.N, D9.scope, fun _ => true⟩ D9.body = true := by kernel_rfl
theorem sc10 : FnScope D10.N D10.ps D10.scope := ⟨by kernel_rfl, by kernel_rfl, by kernel_rfl, by decide +kernel, by kernel_rfl, by decide +kernel, by decide +kernel⟩
theorem m10 (sps : List Sp) : mSs (tab sps) B10 ⟨D10.N, D10.scope, fun _ => true⟩ D10.body = true := by kernel_rfl
theorem sc11 : FnScope D11.N D11.ps D11.scope := ⟨by kernel_rfl, by kernel_rfl, by kernel_rfl, by decide +kernel, by kernel_rfl, by decide +kernel, by decide +kernel⟩
theorem m11 (sps : List Sp) : mSs (tab sps) B11 ⟨D11.N, D11.scope, fun _ => true⟩ D11.body = true := by kernel_rfl
theorem sc12 : FnScope D12.N D12.ps D12.scope := ⟨by kernel_rfl, by kernel_rfl, by kernel_rfl, by decide +kernel, by kernel_rfl, by decide +kernel, by decide +kernel⟩
theorem m12 (sps : List Sp) : mSs (tab sps) B12 ⟨D12.N, D12.scope, fun _ => true⟩ D12.body = true := by kernel_rfl
theorem sc13 : FnScope D13.N D13.ps D13.scope := ⟨by kernel_rfl, by kernel_rfl, by kernel_rfl, by decide +kernel, by kernel_rfl, by decide +kernel, by decide +kernel⟩
theorem m13 (sps : List Sp) : mSs (tab sps) B13 ⟨D13.N, D13.scope, fun _ => true⟩ D13.body = true := by kernel_rfl
theorem sc14 : FnScope D14.N D14.ps D14.scope := ⟨by kernel_rfl, by kernel_rfl, by kernel_rfl, by decide +kernel, by kernel_rfl, by decide +kernel, by decide +kernel⟩
theorem m14 (sps : List Sp) : mSs (tab sps) B14 ⟨D14.N, D14.scope, fun _ => true⟩ D14.body = true := by kernel_rfl
theorem sc15 : FnScope D15.N D15.ps D15.scope := ⟨by kernel_rfl, by kernel_rfl, by kernel_rfl, by decide +kernel, by kernel_rfl, by decide +kernel, by decide +kernel⟩
theorem m15 (sps : List Sp) : mSs (tab sps) B15 ⟨D15.N, D15.scope, fun _ => true⟩ D15.body = true := by kernel_rfl
theorem sc16 : FnScope D16.N D16.ps D16.scope := ⟨by kernel_rfl, by kernel_rfl, by kernel_rfl, by decide +kernel, by kernel_rfl, by decide +kernel, by decide +kernel⟩
theorem m16 (sps : List Sp) : mSs (tab sps) B16 ⟨D16.N, D16.scope, fun _ => true⟩ D16.body = true := by kernel_rfl
theorem sc17 : FnScope D17.N D17.ps D17.scope := ⟨by kernel_rfl, by kernel_rfl, by kernel_rfl, by decide +kernel, by kernel_rfl, by decide +kernel, by decide +kernel⟩
theorem m17 (sps : List Sp) : mSs (tab sps) B17 ⟨D17.N, D17.scope, fun _ => true⟩ D17.body = true := by kernel_rfl
theorem sc18 : FnScope D18.N D18.ps D18.scope := ⟨by kernel_rfl, by kernel_rfl, by kernel_rfl, by decide +kernel, by kernel_rfl, by decide +kernel, by decide +kernel⟩
theorem m18 (sps : List Sp) : mSs (tab sps) B18 ⟨D18.N, D18.scope, fun _ => true⟩ D18.body = true := by kernel_rfl
theorem sc19 : FnScope D19.N D19.ps D19.scope := ⟨by kernel_rfl, by kernel_rfl, by kernel_rfl, by decide +kernel, by kernel_rfl, by decide +kernel, by decide +kernel⟩
theorem m19 (sps : List Sp) : mSs (tab sps) B19 ⟨D19.N, D19.scope, fun _ => true⟩ D19.body = true := by kernel_rfl
theorem sc20 : FnScope D20.N D20.ps D20.scope := ⟨by kernel_rfl, by kernel_rfl, by kernel_rfl, by decide +kernel, by kernel_rfl, by decide +kernel, by decide +kernel⟩
theorem m20 (sps : List Sp) : mSs (tab sps) B20 ⟨D20.N, D20.scope, fun _ => true⟩ D20.body = true := by kernel_rfl
theorem sc21 : FnScope D21.N D21.ps D21.scope := ⟨by kernel_rfl, by kernel_rfl, by kernel_rfl, by decide +kernel, by kernel_rfl, by decide +kernel, by decide +kernel⟩
theorem m21 (sps : List Sp) : mSs (tab sps) B21 ⟨D21.N, D21.scope, fun _ => true⟩ D21.body = true := by kernel_rfl
theorem sc22 : FnScope D22.N D22.ps D22.scope := ⟨by kernel_rfl, by kernel_rfl, by kernel_rfl, by decide +kernel, by kernel_rfl, by decide +kernel, by decide +kernel⟩
theorem m22 (sps : List Sp) : mSs (tab sps) B22 ⟨D22.N, D22.scope, fun _ => true⟩ D22.body = true := by kernel_rfl
theorem sc23 : FnScope D23.N D23.ps D23.scope := ⟨by kernel_rfl, by kernel_rfl, by kernel_rfl, by decide +kernel, by kernel_rfl, by decide +kernel, by decide +kernel⟩
theorem m23 (sps : List Sp) : mSs (tab sps) B23 ⟨D23.N, D23.scope, fun _ => true⟩ D23.body = true := by kernel_rfl
theorem sc24 : FnScope D24.N D24.ps D24.scope := ⟨by kernel_rfl, by kernel_rfl, by kernel_rfl, by decide +kernel, by kernel_rfl, by decide +kernel, by decide +kernel⟩
theorem m24 (sps : List Sp) : mSs (tab sps) B24 ⟨D24.N, D24.scope, fun _ => true⟩ D24.body = true := by kernel_rfl
theorem sc25 : FnScope D25.N D25.ps D25.scope := ⟨by kernel_rfl, by kernel_rfl, by kernel_rfl, by decide +kernel, by kernel_rfl, by decide +kernel, by decide +kernel⟩
theorem m25 (sps : List Sp) : mSs (tab sps) B25 ⟨D25.N, D25.scope, fun _ => true⟩ D25.body = true := by kernel_rfl
theorem sc26 : FnScope D26.N D26.ps D26.scope := ⟨by kernel_rfl, by kernel_rfl, by kernel_rfl, by decide +kernel, by kernel_rfl, by decide +kernel, by decide +kernel⟩
theorem m26 (sps : List Sp) : mSs (tab sps) B26 ⟨D26.N, D26.scope, fun _ => true⟩ D26.body = true := by kernel_rfl
theorem sc27 : FnScope D27.N D27.ps D27.scope := ⟨by kernel_rfl, by kernel_rfl, by kernel_rfl, by decide +kernel, by kernel_rfl, by decide +kernel, by decide +kernel⟩
theorem m27 (sps : List Sp) : mSs (tab sps) B27 ⟨D27.N, D27.scope, fun _ => true⟩ D27.body = true := by kernel_rfl
theorem sc28 : FnScope D28.N D28.ps D28.scope := ⟨by kernel_rfl, by kernel_rfl, by kernel_rfl, by decide +kernel, by kernel_rfl, by decide +kernel, by decide +kernel⟩
theorem m28 (sps : List Sp) : mSs (tab sps) B28 ⟨D28.N, D28.scope, fun _ => true⟩ D28.body = true := by kernel_rfl
end K90

set_option Elab.async false
set_option linter.all false
set_option maxRecDepth 100000
set_option maxHeartbeats 0
/-! What each def does, by the evaluator; all keep it: printed by endgen.py. -/
namespace K90
open PySem PySem.Spec PyProof.Rows L2 Ev
def L0 : List Fun := []
/-- is_whole -/
def p0 : Fun := mkF ds cst fre L0 D0 false B0
def L1 : List Fun := L0 ++ [p0]
theorem e0 (ws : List W) : p0.f ws = evFn (mkT ds cst fre []) (lk L0) false 1 B0 ws := by
  have h : D0.N.length = 1 := rfl
  unfold p0 mkF
  dsimp only
  rw [h]
/-- is_between -/
def p1 : Fun := mkF ds cst fre L1 D1 false B1
def L2 : List Fun := L1 ++ [p1]
theorem e1 (ws : List W) : p1.f ws = evFn (mkT ds cst fre []) (lk L1) false 3 B1 ws := by
  have h : D1.N.length = 3 := rfl
  unfold p1 mkF
  dsimp only
  rw [h]
/-- is_order_list -/
def p2 : Fun := mkF ds cst fre L2 D2 false B2
def L3 : List Fun := L2 ++ [p2]
theorem e2 (ws : List W) : p2.f ws = evFn (mkT ds cst fre []) (lk L2) false 2 B2 ws := by
  have h : D2.N.length = 2 := rfl
  unfold p2 mkF
  dsimp only
  rw [h]
/-- check_order -/
def p3 : Fun := mkF ds cst fre L3 D3 false B3
def L4 : List Fun := L3 ++ [p3]
theorem e3 (ws : List W) : p3.f ws = evFn (mkT ds cst fre []) (lk L3) false 1 B3 ws := by
  have h : D3.N.length = 1 := rfl
  unfold p3 mkF
  dsimp only
  rw [h]
/-- places_from -/
def p4 : Fun := mkF ds cst fre L4 D4 false B4
def L5 : List Fun := L4 ++ [p4]
theorem e4 (ws : List W) : p4.f ws = evFn (mkT ds cst fre []) (lk L4) false 4 B4 ws := by
  have h : D4.N.length = 4 := rfl
  unfold p4 mkF
  dsimp only
  rw [h]
/-- check_two_orders -/
def p5 : Fun := mkF ds cst fre L5 D5 false B5
def L6 : List Fun := L5 ++ [p5]
theorem e5 (ws : List W) : p5.f ws = evFn (mkT ds cst fre []) (lk L5) false 2 B5 ws := by
  have h : D5.N.length = 2 := rfl
  unfold p5 mkF
  dsimp only
  rw [h]
/-- unlike_pairs -/
def p6 : Fun := mkF ds cst fre L6 D6 false B6
def L7 : List Fun := L6 ++ [p6]
theorem e6 (ws : List W) : p6.f ws = evFn (mkT ds cst fre []) (lk L6) false 5 B6 ws := by
  have h : D6.N.length = 5 := rfl
  unfold p6 mkF
  dsimp only
  rw [h]
/-- counted -/
def p7 : Fun := mkF ds cst fre L7 D7 false B7
def L8 : List Fun := L7 ++ [p7]
theorem e7 (ws : List W) : p7.f ws = evFn (mkT ds cst fre []) (lk L7) false 10 B7 ws := by
  have h : D7.N.length = 10 := rfl
  unfold p7 mkF
  dsimp only
  rw [h]
/-- counts_of -/
def p8 : Fun := mkF ds cst fre L8 D8 false B8
def L9 : List Fun := L8 ++ [p8]
theorem e8 (ws : List W) : p8.f ws = evFn (mkT ds cst fre []) (lk L8) false 6 B8 ws := by
  have h : D8.N.length = 6 := rfl
  unfold p8 mkF
  dsimp only
  rw [h]
/-- needs_of -/
def p9 : Fun := mkF ds cst fre L9 D9 false B9
def L10 : List Fun := L9 ++ [p9]
theorem e9 (ws : List W) : p9.f ws = evFn (mkT ds cst fre []) (lk L9) false 7 B9 ws := by
  have h : D9.N.length = 7 := rfl
  unfold p9 mkF
  dsimp only
  rw [h]
/-- pair_counts -/
def p10 : Fun := mkF ds cst fre L10 D10 false B10
def L11 : List Fun := L10 ++ [p10]
theorem e10 (ws : List W) : p10.f ws = evFn (mkT ds cst fre []) (lk L10) false 2 B10 ws := by
  have h : D10.N.length = 2 := rfl
  unfold p10 mkF
  dsimp only
  rw [h]
/-- needed -/
def p11 : Fun := mkF ds cst fre L11 D11 false B11
def L12 : List Fun := L11 ++ [p11]
theorem e11 (ws : List W) : p11.f ws = evFn (mkT ds cst fre []) (lk L11) false 2 B11 ws := by
  have h : D11.N.length = 2 := rfl
  unfold p11 mkF
  dsimp only
  rw [h]
/-- _law_hash -/
def p12 : Fun := mkF ds cst fre L12 D12 false B12
def L13 : List Fun := L12 ++ [p12]
theorem e12 (ws : List W) : p12.f ws = evFn (mkT ds cst fre []) (lk L12) false 3 B12 ws := by
  have h : D12.N.length = 3 := rfl
  unfold p12 mkF
  dsimp only
  rw [h]
/-- _law_random -/
def p13 : Fun := mkF ds cst fre L13 D13 true B13
def L14 : List Fun := L13 ++ [p13]
theorem e13 (ws : List W) : p13.f ws = evFn (mkT ds cst fre []) (lk L13) true 4 B13 ws := by
  have h : D13.N.length = 4 := rfl
  unfold p13 mkF
  dsimp only
  rw [h]
/-- _law_cell -/
def p14 : Fun := mkF ds cst fre L14 D14 false B14
def L15 : List Fun := L14 ++ [p14]
theorem e14 (ws : List W) : p14.f ws = evFn (mkT ds cst fre []) (lk L14) false 2 B14 ws := by
  have h : D14.N.length = 2 := rfl
  unfold p14 mkF
  dsimp only
  rw [h]
/-- _law_generator -/
def p15 : Fun := mkF ds cst fre L15 D15 false B15
def L16 : List Fun := L15 ++ [p15]
theorem e15 (ws : List W) : p15.f ws = evFn (mkT ds cst fre []) (lk L15) false 3 B15 ws := by
  have h : D15.N.length = 3 := rfl
  unfold p15 mkF
  dsimp only
  rw [h]
/-- _law_order -/
def p16 : Fun := mkF ds cst fre L16 D16 true B16
def L17 : List Fun := L16 ++ [p16]
theorem e16 (ws : List W) : p16.f ws = evFn (mkT ds cst fre []) (lk L16) true 4 B16 ws := by
  have h : D16.N.length = 4 := rfl
  unfold p16 mkF
  dsimp only
  rw [h]
/-- _law_exchanged -/
def p17 : Fun := mkF ds cst fre L17 D17 false B17
def L18 : List Fun := L17 ++ [p17]
theorem e17 (ws : List W) : p17.f ws = evFn (mkT ds cst fre []) (lk L17) false 2 B17 ws := by
  have h : D17.N.length = 2 := rfl
  unfold p17 mkF
  dsimp only
  rw [h]
/-- _law_left -/
def p18 : Fun := mkF ds cst fre L18 D18 false B18
def L19 : List Fun := L18 ++ [p18]
theorem e18 (ws : List W) : p18.f ws = evFn (mkT ds cst fre []) (lk L18) false 5 B18 ws := by
  have h : D18.N.length = 5 := rfl
  unfold p18 mkF
  dsimp only
  rw [h]
/-- _law_unlike -/
def p19 : Fun := mkF ds cst fre L19 D19 false B19
def L20 : List Fun := L19 ++ [p19]
theorem e19 (ws : List W) : p19.f ws = evFn (mkT ds cst fre []) (lk L19) false 8 B19 ws := by
  have h : D19.N.length = 8 := rfl
  unfold p19 mkF
  dsimp only
  rw [h]
/-- _law_low_high -/
def p20 : Fun := mkF ds cst fre L20 D20 false B20
def L21 : List Fun := L20 ++ [p20]
theorem e20 (ws : List W) : p20.f ws = evFn (mkT ds cst fre []) (lk L20) false 13 B20 ws := by
  have h : D20.N.length = 13 := rfl
  unfold p20 mkF
  dsimp only
  rw [h]
/-- _law_needs -/
def p21 : Fun := mkF ds cst fre L21 D21 false B21
def L22 : List Fun := L21 ++ [p21]
theorem e21 (ws : List W) : p21.f ws = evFn (mkT ds cst fre []) (lk L21) false 8 B21 ws := by
  have h : D21.N.length = 8 := rfl
  unfold p21 mkF
  dsimp only
  rw [h]
/-- _law_steps -/
def p22 : Fun := mkF ds cst fre L22 D22 false B22
def L23 : List Fun := L22 ++ [p22]
theorem e22 (ws : List W) : p22.f ws = evFn (mkT ds cst fre []) (lk L22) false 5 B22 ws := by
  have h : D22.N.length = 5 := rfl
  unfold p22 mkF
  dsimp only
  rw [h]
/-- _law_seen -/
def p23 : Fun := mkF ds cst fre L23 D23 false B23
def L24 : List Fun := L23 ++ [p23]
theorem e23 (ws : List W) : p23.f ws = evFn (mkT ds cst fre []) (lk L23) false 12 B23 ws := by
  have h : D23.N.length = 12 := rfl
  unfold p23 mkF
  dsimp only
  rw [h]
/-- _law_near -/
def p24 : Fun := mkF ds cst fre L24 D24 true B24
def L25 : List Fun := L24 ++ [p24]
theorem e24 (ws : List W) : p24.f ws = evFn (mkT ds cst fre []) (lk L24) true 5 B24 ws := by
  have h : D24.N.length = 5 := rfl
  unfold p24 mkF
  dsimp only
  rw [h]
/-- _law_two_right -/
def p25 : Fun := mkF ds cst fre L25 D25 true B25
def L26 : List Fun := L25 ++ [p25]
theorem e25 (ws : List W) : p25.f ws = evFn (mkT ds cst fre []) (lk L25) true 8 B25 ws := by
  have h : D25.N.length = 8 := rfl
  unfold p25 mkF
  dsimp only
  rw [h]
/-- _law_right -/
def p26 : Fun := mkF ds cst fre L26 D26 true B26
def L27 : List Fun := L26 ++ [p26]
theorem e26 (ws : List W) : p26.f ws = evFn (mkT ds cst fre []) (lk L26) true 10 B26 ws := by
  have h : D26.N.length = 10 := rfl
  unfold p26 mkF
  dsimp only
  rw [h]
/-- _law_great_right -/
def p27 : Fun := mkF ds cst fre L27 D27 true B27
def L28 : List Fun := L27 ++ [p27]
theorem e27 (ws : List W) : p27.f ws = evFn (mkT ds cst fre []) (lk L27) true 13 B27 ws := by
  have h : D27.N.length = 13 := rfl
  unfold p27 mkF
  dsimp only
  rw [h]
/-- law -/
def p28 : Fun := mkF ds cst fre L28 D28 false B28
def L29 : List Fun := L28 ++ [p28]
theorem e28 (ws : List W) : p28.f ws = evFn (mkT ds cst fre []) (lk L28) false 5 B28 ws := by
  have h : D28.N.length = 5 := rfl
  unfold p28 mkF
  dsimp only
  rw [h]
section
variable {P : Program} {w : World} {K : PySem.W.Frag} {mg : Str → Option Value} {base : Heap} {as : List (Addr × FuncData)}
theorem k0 : AllOk P w K mg base 1 ds as (L0.map (spF K)) := AllOk.nil
theorem k1 (h : AllAt K mg ds as) (hc : ∀ p ∈ cst, ∃ u, mg p.1 = some u ∧ RelV p.2 u) (hf : ∀ x ∈ fre, mg x = none) : AllOk P w K mg base 2 ds as (L1.map (spF K)) := chain_step h hc hf (k0) (by rfl) sc0 m0 (by decide)
theorem k2 (h : AllAt K mg ds as) (hc : ∀ p ∈ cst, ∃ u, mg p.1 = some u ∧ RelV p.2 u) (hf : ∀ x ∈ fre, mg x = none) : AllOk P w K mg base 3 ds as (L2.map (spF K)) := chain_step h hc hf (k1 h hc hf) (by rfl) sc1 m1 (by decide)
theorem k3 (h : AllAt K mg ds as) (hc : ∀ p ∈ cst, ∃ u, mg p.1 = some u ∧ RelV p.2 u) (hf : ∀ x ∈ fre, mg x = none) : AllOk P w K mg base 4 ds as (L3.map (spF K)) := chain_step h hc hf (k2 h hc hf) (by rfl) sc2 m2 (by decide)
theorem k4 (h : AllAt K mg ds as) (hc : ∀ p ∈ cst, ∃ u, mg p.1 = some u ∧ RelV p.2 u) (hf : ∀ x ∈ fre, mg x = none) : AllOk P w K mg base 5 ds as (L4.map (spF K)) := chain_step h hc hf (k3 h hc hf) (by rfl) sc3 m3 (by decide)
theorem k5 (h : AllAt K mg ds as) (hc : ∀ p ∈ cst, ∃ u, mg p.1 = some u ∧ RelV p.2 u) (hf : ∀ x ∈ fre, mg x = none) : AllOk P w K mg base 6 ds as (L5.map (spF K)) := chain_step h hc hf (k4 h hc hf) (by rfl) sc4 m4 (by decide)
theorem k6 (h : AllAt K mg ds as) (hc : ∀ p ∈ cst, ∃ u, mg p.1 = some u ∧ RelV p.2 u) (hf : ∀ x ∈ fre, mg x = none) : AllOk P w K mg base 7 ds as (L6.map (spF K)) := chain_step h hc hf (k5 h hc hf) (by rfl) sc5 m5 (by decide)
theorem k7 (h : AllAt K mg ds as) (hc : ∀ p ∈ cst, ∃ u, mg p.1 = some u ∧ RelV p.2 u) (hf : ∀ x ∈ fre, mg x = none) : AllOk P w K mg base 8 ds as (L7.map (spF K)) := chain_step h hc hf (k6 h hc hf) (by rfl) sc6 m6 (by decide)
theorem k8 (h : AllAt K mg ds as) (hc : ∀ p ∈ cst, ∃ u, mg p.1 = some u ∧ RelV p.2 u) (hf : ∀ x ∈ fre, mg x = none) : AllOk P w K mg base 9 ds as (L8.map (spF K)) := chain_step h hc hf (k7 h hc hf) (by rfl) sc7 m7 (by decide)
theorem k9 (h : AllAt K mg ds as) (hc : ∀ p ∈ cst, ∃ u, mg p.1 = some u ∧ RelV p.2 u) (hf : ∀ x ∈ fre, mg x = none) : AllOk P w K mg base 10 ds as (L9.map (spF K)) := chain_step h hc hf (k8 h hc hf) (by rfl) sc8 m8 (by decide)
theorem k10 (h : AllAt K mg ds as) (hc : ∀ p ∈ cst, ∃ u, mg p.1 = some u ∧ RelV p.2 u) (hf : ∀ x ∈ fre, mg x = none) : AllOk P w K mg base 11 ds as (L10.map (spF K)) := chain_step h hc hf (k9 h hc hf) (by rfl) sc9 m9 (by decide)
theorem k11 (h : AllAt K mg ds as) (hc : ∀ p ∈ cst, ∃ u, mg p.1 = some u ∧ RelV p.2 u) (hf : ∀ x ∈ fre, mg x = none) : AllOk P w K mg base 12 ds as (L11.map (spF K)) := chain_step h hc hf (k10 h hc hf) (by rfl) sc10 m10 (by decide)
theorem k12 (h : AllAt K mg ds as) (hc : ∀ p ∈ cst, ∃ u, mg p.1 = some u ∧ RelV p.2 u) (hf : ∀ x ∈ fre, mg x = none) : AllOk P w K mg base 13 ds as (L12.map (spF K)) := chain_step h hc hf (k11 h hc hf) (by rfl) sc11 m11 (by decide)
theorem k13 (h : AllAt K mg ds as) (hc : ∀ p ∈ cst, ∃ u, mg p.1 = some u ∧ RelV p.2 u) (hf : ∀ x ∈ fre, mg x = none) : AllOk P w K mg base 14 ds as (L13.map (spF K)) := chain_step h hc hf (k12 h hc hf) (by rfl) sc12 m12 (by decide)
theorem k14 (h : AllAt K mg ds as) (hc : ∀ p ∈ cst, ∃ u, mg p.1 = some u ∧ RelV p.2 u) (hf : ∀ x ∈ fre, mg x = none) : AllOk P w K mg base 15 ds as (L14.map (spF K)) := chain_step h hc hf (k13 h hc hf) (by rfl) sc13 m13 (by decide)
theorem k15 (h : AllAt K mg ds as) (hc : ∀ p ∈ cst, ∃ u, mg p.1 = some u ∧ RelV p.2 u) (hf : ∀ x ∈ fre, mg x = none) : AllOk P w K mg base 16 ds as (L15.map (spF K)) := chain_step h hc hf (k14 h hc hf) (by rfl) sc14 m14 (by decide)
theorem k16 (h : AllAt K mg ds as) (hc : ∀ p ∈ cst, ∃ u, mg p.1 = some u ∧ RelV p.2 u) (hf : ∀ x ∈ fre, mg x = none) : AllOk P w K mg base 17 ds as (L16.map (spF K)) := chain_step h hc hf (k15 h hc hf) (by rfl) sc15 m15 (by decide)
theorem k17 (h : AllAt K mg ds as) (hc : ∀ p ∈ cst, ∃ u, mg p.1 = some u ∧ RelV p.2 u) (hf : ∀ x ∈ fre, mg x = none) : AllOk P w K mg base 18 ds as (L17.map (spF K)) := chain_step h hc hf (k16 h hc hf) (by rfl) sc16 m16 (by decide)
theorem k18 (h : AllAt K mg ds as) (hc : ∀ p ∈ cst, ∃ u, mg p.1 = some u ∧ RelV p.2 u) (hf : ∀ x ∈ fre, mg x = none) : AllOk P w K mg base 19 ds as (L18.map (spF K)) := chain_step h hc hf (k17 h hc hf) (by rfl) sc17 m17 (by decide)
theorem k19 (h : AllAt K mg ds as) (hc : ∀ p ∈ cst, ∃ u, mg p.1 = some u ∧ RelV p.2 u) (hf : ∀ x ∈ fre, mg x = none) : AllOk P w K mg base 20 ds as (L19.map (spF K)) := chain_step h hc hf (k18 h hc hf) (by rfl) sc18 m18 (by decide)
theorem k20 (h : AllAt K mg ds as) (hc : ∀ p ∈ cst, ∃ u, mg p.1 = some u ∧ RelV p.2 u) (hf : ∀ x ∈ fre, mg x = none) : AllOk P w K mg base 21 ds as (L20.map (spF K)) := chain_step h hc hf (k19 h hc hf) (by rfl) sc19 m19 (by decide)
theorem k21 (h : AllAt K mg ds as) (hc : ∀ p ∈ cst, ∃ u, mg p.1 = some u ∧ RelV p.2 u) (hf : ∀ x ∈ fre, mg x = none) : AllOk P w K mg base 22 ds as (L21.map (spF K)) := chain_step h hc hf (k20 h hc hf) (by rfl) sc20 m20 (by decide)
theorem k22 (h : AllAt K mg ds as) (hc : ∀ p ∈ cst, ∃ u, mg p.1 = some u ∧ RelV p.2 u) (hf : ∀ x ∈ fre, mg x = none) : AllOk P w K mg base 23 ds as (L22.map (spF K)) := chain_step h hc hf (k21 h hc hf) (by rfl) sc21 m21 (by decide)
theorem k23 (h : AllAt K mg ds as) (hc : ∀ p ∈ cst, ∃ u, mg p.1 = some u ∧ RelV p.2 u) (hf : ∀ x ∈ fre, mg x = none) : AllOk P w K mg base 24 ds as (L23.map (spF K)) := chain_step h hc hf (k22 h hc hf) (by rfl) sc22 m22 (by decide)
theorem k24 (h : AllAt K mg ds as) (hc : ∀ p ∈ cst, ∃ u, mg p.1 = some u ∧ RelV p.2 u) (hf : ∀ x ∈ fre, mg x = none) : AllOk P w K mg base 25 ds as (L24.map (spF K)) := chain_step h hc hf (k23 h hc hf) (by rfl) sc23 m23 (by decide)
theorem k25 (h : AllAt K mg ds as) (hc : ∀ p ∈ cst, ∃ u, mg p.1 = some u ∧ RelV p.2 u) (hf : ∀ x ∈ fre, mg x = none) : AllOk P w K mg base 26 ds as (L25.map (spF K)) := chain_step h hc hf (k24 h hc hf) (by rfl) sc24 m24 (by decide)
theorem k26 (h : AllAt K mg ds as) (hc : ∀ p ∈ cst, ∃ u, mg p.1 = some u ∧ RelV p.2 u) (hf : ∀ x ∈ fre, mg x = none) : AllOk P w K mg base 27 ds as (L26.map (spF K)) := chain_step h hc hf (k25 h hc hf) (by rfl) sc25 m25 (by decide)
theorem k27 (h : AllAt K mg ds as) (hc : ∀ p ∈ cst, ∃ u, mg p.1 = some u ∧ RelV p.2 u) (hf : ∀ x ∈ fre, mg x = none) : AllOk P w K mg base 28 ds as (L27.map (spF K)) := chain_step h hc hf (k26 h hc hf) (by rfl) sc26 m26 (by decide)
theorem k28 (h : AllAt K mg ds as) (hc : ∀ p ∈ cst, ∃ u, mg p.1 = some u ∧ RelV p.2 u) (hf : ∀ x ∈ fre, mg x = none) : AllOk P w K mg base 29 ds as (L28.map (spF K)) := chain_step h hc hf (k27 h hc hf) (by rfl) sc27 m27 (by decide)
theorem k29 (h : AllAt K mg ds as) (hc : ∀ p ∈ cst, ∃ u, mg p.1 = some u ∧ RelV p.2 u) (hf : ∀ x ∈ fre, mg x = none) : AllOk P w K mg base 30 ds as (L29.map (spF K)) := chain_step h hc hf (k28 h hc hf) (by rfl) sc28 m28 (by decide)
end
end K90

set_option Elab.async false
set_option linter.all false
set_option maxRecDepth 100000
set_option maxHeartbeats 4000000
namespace K90
open PySem PySem.Spec PyProof.Rows L2 Ev
abbrev T0 : Tab := mkT ds cst fre []
/-- an order of n numbers -/
def Ord (n : Nat) (l : List Nat) : Prop := l.Perm (List.range n)
theorem Ord.len {n : Nat} {l : List Nat} (h : Ord n l) : l.length = n := by rw [h.length_eq, List.length_range]
theorem Ord.mem {n : Nat} {l : List Nat} (h : Ord n l) {x : Nat} : x ∈ l ↔ x < n := by rw [h.mem_iff, List.mem_range]
theorem Ord.nd {n : Nat} {l : List Nat} (h : Ord n l) : l.Nodup := h.nodup_iff.mpr List.nodup_range
abbrev oW (l : List Nat) : W := .lst false (iL l)
theorem mem_iL {l : List Nat} {x : W} (h : x ∈ iL l) : ∃ m, m ∈ l ∧ x = iN m := by
  obtain ⟨m, h1, h2⟩ := List.mem_map.mp h
  exact ⟨m, h1, h2.symm⟩
theorem F0 (i : Int) : p0.f [.int i] = some (.bl true, .non) := by rfl
theorem F1 (i lo hi : Int) : p1.f [.int i, .int lo, .int hi] = some (.bl (decide (lo ≤ i) && decide (i ≤ hi)), .non) := by
  rw [e1]
  refine f_rt (T := T0) (Φ := lk L1) (N := 3) (B := B1) rfl (s_cons (t_ifF (by rfl) s_nil) (s_rt (t_ret (e_and (e_orF (by rfl) (by rfl)) fun _ => e_orF (by rfl) (by rfl)))))
theorem sort_ord {n : Nat} {l : List Nat} (h : Ord n l) : isort ltI (l.map fun n => ((n : Nat) : Int)) = (List.range n).map fun n => ((n : Nat) : Int) := by
  refine (isort_uniq tot_int (List.Perm.map _ h.symm) ?_).symm
  rw [List.pairwise_map]
  refine List.Pairwise.imp ?_ (List.pairwise_lt_range (n := n))
  intro a b hab
  show decide ((b : Int) < (a : Int)) = false
  simp; omega
theorem rng_iL (n : Nat) : rngW 0 (n : Nat) = iL (List.range n) := by
  unfold rngW iL iN
  simp
theorem F2 {n : Nat} {l : List Nat} (h : Ord n l) (hn : n ≤ 200) : p2.f [oW l] = some (.bl true, .non) := by
  rw [e2]
  have hlen : ((iL l).length : Int) = (n : Int) := by rw [ints_len, h.len]
  refine f_rt (T := T0) (Φ := lk L2) (N := 2) (B := B2) (ρ0 := [some (oW l), none]) rfl (s_cons (t_ifF (e_orF (by rfl) (e_cmp (x := .int (iL l).length) (y := .int 200) (by rfl) (by rfl) ?_ (by rfl))) s_nil) (s_cons (t_ifF (e_cmpP (x := .lst true []) (y := .lst true []) ?_ (by rfl) (by rfl) (by rfl)) s_nil) (s_rt (t_retP ?_ (by rfl)))))
  · show some (decide ((200 : Int) < ((iL l).length : Int))) = some false
    rw [hlen]
    simp; omega
  · have e0 : ((frzL (iL l)).filter fun _ => false).map id = [] := by simp
    have k := e_lc (T := T0) (Φ := lk L2) (prot := 0) (ρ := [some (oW l), none]) (own := [("item", 1)]) (elt := .var 1) (tg := .nm 1) (it := .seq (.var 0)) (ifs := .cons (.not (.call 1 (.cons (.var 1) (.cons (.cst (.int 0)) (.cons (.bin .Sub (.blt .len (.cons (.var 0) .nil)) (.cst (.int 1))) .nil))))) .nil)
      (xs := frzL (iL l)) (ρ1 := [some (oW l), none]) (bf := fun _ => false) (f := id) (r0 := [some (oW l), none]) (by rfl) ?_ (by rfl) ?_ (by rfl) ?_
    · rw [e0] at k
      exact k
    · rw [Bool.and_eq_true]
      exact ⟨by rfl, decide_eq_true (by rw [frzL_ints, ints_len, h.len]; unfold lim; omega)⟩
    · intro x hx
      rw [frzL_ints] at hx
      obtain ⟨m, hm, rfl⟩ := mem_iL hx
      refine ⟨[some (oW l), some (iN m)], [some (oW l), some (iN m)], by rfl, ?_, fun _ => by rfl, fun z => by cases z⟩
      have hc := F1 (m : Nat) 0 (((iL l).length : Int) - 1)
      have hmn := h.mem.mp hm
      rw [hlen] at hc
      have e1 : (decide ((0 : Int) ≤ (m : Nat)) && decide (((m : Nat) : Int) ≤ (n : Int) - 1)) = true := by simp; omega
      rw [e1] at hc
      have k2 := e_call (T := T0) (Φ := lk L2) (prot := 0) (ρ := [some (oW l), some (iN m)]) (k := 1) (es := .cons (.var 1) (.cons (.cst (.int 0)) (.cons (.bin .Sub (.blt .len (.cons (.var 0) .nil)) (.cst (.int 1))) .nil))) (ws := [iN m, .int 0, .int ((iL l).length - 1)]) (by rfl) (by rfl) (by rfl) (by rfl) (by rfl) (by rfl) (by rw [hlen]; exact hc) (by rfl) (by rfl)
      have k3 := e_not k2
      simp only [evTs, k3]
      rfl
    · rw [e0]
      rfl
  · refine e_cmpP (x := .lst true (iL (List.range n))) (y := .lst true (iL (List.range n))) (e_blt (ws := [oW l]) (by rfl) ?_ (by rfl) (by simp [iso, isoL_ints])) ?_ ?_ (by rfl)
    · show (match intsW (iL l) with
        | some is => some (W.lst true ((isort ltI is).map W.int))
        | none => _) = _
      rw [intsW_ints]
      simp only [sort_ord h, List.map_map]
      rfl
    · have k : evE T0 (lk L2) 0 (.lrng1 (.blt .len (.cons (.var 0) .nil))) [some (oW l), none] = (if -(2 ^ 60) ≤ ((iL l).length : Int) ∧ ((iL l).length : Int) ≤ (lim : Int) then some (.lst true (rngW 0 ((iL l).length : Int)), [some (oW l), none]) else none) := by rfl
      refine k.trans ?_
      rw [hlen, if_pos ⟨by omega, by unfold lim; omega⟩, rng_iL]
    · show (if (shW _ 60 && shW _ 60) = true then some (eqW _ _) else none) = _
      simp only [shW, shL_ints, eqW, eqL_ints]
      simp
theorem F3 {n : Nat} {l : List Nat} (h : Ord n l) (hn : n ≤ 200) : p3.f [oW l] = some (.non, .non) :=
  f_nx (T := T0) (Φ := lk L3) (N := 1) (B := B3) (ρ0 := [some (oW l)]) (ρ := [some (oW l)]) rfl (s_cons (t_ifF (e_not (k := true) (e_call (ws := [oW l]) (by rfl) (by rfl) (by rfl) (by rfl) (by rfl) (by rfl) (F2 h hn) (by rfl) (by rfl))) s_nil) s_nil)
/-- where the numbers stand -/
def pl (l : List Nat) (x : Nat) : Nat := l.idxOf x
def fL (n : Nat) (f : Nat → Nat) : List Nat := (List.range n).map f
theorem fL_len (n : Nat) (f : Nat → Nat) : (fL n f).length = n := by simp [fL]
theorem fL_get {n : Nat} {f : Nat → Nat} {i : Nat} (h : i < n) : (fL n f)[i]? = some (f i) := by simp [fL, h]
/-- .. the first i written -/
def plTo (n : Nat) (l : List Nat) (i : Nat) : List Nat := fL n fun x => if pl l x < i then pl l x else 0
theorem plTo_len (n : Nat) (l : List Nat) (i : Nat) : (plTo n l i).length = n := fL_len ..
theorem F4 {n : Nat} {l : List Nat} (h : Ord n l) (hn : n ≤ 200) : p4.f [oW l] = some (.lst true (iL (fL n (pl l))), .non) := by
  rw [e4]
  have hz : binW .Mult (.lst true [W.int 0]) (.int ((iL l).length : Nat)) = some (.lst true (iL (plTo n l 0))) := by
    rw [ints_len, h.len, b_rep (by omega) (by unfold lim; simp; omega)]
    have : (List.replicate n (frzL [W.int 0])).flatten = iL (plTo n l 0) := by
      show (List.replicate n [W.int 0]).flatten = _
      apply List.ext_getElem?
      intro j
      simp [plTo, fL, iL, iN]
      by_cases hj : j < n <;> simp [hj, iN]
    rw [this]
  have hf := for_ix (t := fun w ρ => evG T0 (lk L4) 0 (.tp (.cons (.nm 2) (.cons (.nm 3) .nil))) w ρ) (b := fun ρ => xSs T0 (lk L4) 0 (.cons (.set (.sub (.var 1) (.var 3)) (.var 2)) .nil) ρ)
    (I := fun i ρ => ∃ a b, ρ = [some (oW l), some (.lst true (iL (plTo n l i))), a, b]) (xs := enumW 0 (frzL (iL l))) (n := 0) (ρ := [some (oW l), some (.lst true (iL (plTo n l 0))), none, none]) ⟨none, none, rfl⟩ fun i ρ x hx hI => by
      obtain ⟨a, b, rfl⟩ := hI
      obtain ⟨m, hm, rfl⟩ := enum_get hx
      rw [Nat.zero_add] at *
      have hi : i < n := by
        have := (List.getElem?_eq_some_iff.mp hm).1
        rwa [h.len] at this
      have hml : m ∈ l := List.mem_of_getElem? hm
      have hmn : m < n := h.mem.mp hml
      have him : pl l m = i := by
        have hi' : i < l.length := by rw [h.len]; exact hi
        have e : l[i] = m := (List.getElem?_eq_some_iff.mp hm).2
        unfold pl
        rw [← e]
        exact h.nd.idxOf_getElem i hi'
      refine ⟨[some (oW l), some (.lst true (iL (plTo n l i))), some (iN i), some (iN m)], [some (oW l), some (.lst true (iL (plTo n l (i + 1)))), some (iN i), some (iN m)], by rfl, ?_, _, _, rfl⟩
      refine s_cons (t_set (w := iN i) (ρ1 := [some (oW l), some (.lst true (iL (plTo n l i))), some (iN i), some (iN m)]) (by rfl) ?_) s_nil
      refine g_sub (k := iN m) (x := .lst true (iL (plTo n l i))) (ρ1 := [some (oW l), some (.lst true (iL (plTo n l i))), some (iN i), some (iN m)]) (by rfl) (by rfl) (by rfl) ?_
      have e2 : (plTo n l i).set m i = plTo n l (i + 1) := by
        apply List.ext_getElem?
        intro j
        rw [List.getElem?_set]
        simp only [plTo_len, plTo, fL_len]
        by_cases hj : j < n
        · rw [fL_get hj, fL_get hj]
          by_cases hmj : m = j
          · subst hmj
            simp [hj, him]
          · have hne : pl l j ≠ i := fun e => hmj (by
              have hjl : j ∈ l := h.mem.mpr hj
              have e3 : l[pl l j]? = some j := by
                have hlt : l.idxOf j < l.length := List.idxOf_lt_length_iff.mpr hjl
                unfold pl
                rw [List.getElem?_eq_getElem hlt, List.getElem_idxOf hlt]
              rw [e, hm] at e3
              exact Option.some.inj e3)
            rw [if_neg hmj]
            refine congrArg some ?_
            by_cases hlt : pl l j < i
            · rw [if_pos hlt, if_pos (by omega)]
            · rw [if_neg hlt, if_neg (by omega)]
        · have e4 : ∀ g : Nat → Nat, (fL n g)[j]? = none := fun g => by simp [fL]; omega
          rw [e4, e4, if_neg (by omega)]
      rw [← e2]
      exact setW_iL (by rw [plTo_len]; exact hmn)
  obtain ⟨ρ', h1, a, b, rfl⟩ := hf
  have hP : plTo n l (0 + (enumW 0 (frzL (iL l))).length) = fL n (pl l) := by
    rw [enumW_len, frzL_ints, ints_len, h.len, Nat.zero_add]
    simp only [plTo, fL]
    apply List.map_congr_left
    intro x hx
    have : pl l x < n := by
      unfold pl
      have := List.idxOf_lt_length_iff.mpr (h.mem.mpr (List.mem_range.mp hx))
      rwa [h.len] at this
    rw [if_pos this]
  rw [hP] at h1
  refine f_rt (T := T0) (Φ := lk L4) (N := 4) (B := B4) (ρ0 := [some (oW l), none, none, none]) (ρ := [some (oW l), none, a, b]) rfl ?_
  refine s_cons (ρ1 := [some (oW l), some (.lst true (iL (plTo n l 0))), none, none]) ?_ ?_
  · refine t_set (ρ1 := [some (oW l), none, none, none]) (e_binP (x := .lst true [.int 0]) (y := .int ((iL l).length : Nat)) (by rfl) (by rfl) hz (by rfl) (by simp only [iso, isoL_ints, Bool.and_self])) ?_
    rfl
  refine s_cons (t_for (xs := enumW 0 (frzL (iL l))) (by rfl) h1) ?_
  refine s_rt (t_ret ?_)
  rfl
theorem F5 {n : Nat} {l m : List Nat} (h : Ord n l) (h' : Ord n m) (hn : n ≤ 200) : p5.f [oW l, oW m] = some (.non, .non) := by
  rw [e5]
  refine f_nx (T := T0) (Φ := lk L5) (N := 2) (B := B5) (ρ0 := [some (oW l), some (oW m)]) (ρ := [some (oW l), some (oW m)]) rfl (s_cons (t_exp (e_call (ws := [oW l]) (by rfl) (by rfl) (by rfl) (by rfl) (by rfl) (by rfl) (F3 h hn) (by rfl) (by rfl)))
    (s_cons (t_exp (e_call (ws := [oW m]) (by rfl) (by rfl) (by rfl) (by rfl) (by rfl) (by rfl) (F3 h' hn) (by rfl) (by rfl))) (s_cons (t_ifF (e_cmpP (x := .int ((iL l).length : Int)) (y := .int ((iL m).length : Int)) (by rfl) (by rfl) ?_ (by rfl)) s_nil) s_nil)))
  rw [ints_len, ints_len, h.len, h'.len]
  show some (!decide ((n : Int) = (n : Int))) = _
  simp
end K90

set_option Elab.async false
set_option linter.all false
set_option maxRecDepth 100000
set_option maxHeartbeats 4000000
namespace K90
open PySem PySem.Spec PyProof.Rows L2 Ev
/-! ### unlike pairs, their counts -/
section
variable (f g : Nat → Nat)
def unB (lo hi : Nat) : Bool := decide (f lo < f hi) != decide (g lo < g hi)
def rowU (lo k : Nat) : List (Nat × Nat) := ((List.range' (lo + 1) k).filter (unB f g lo)).map fun hi => (lo, hi)
def unlTo (n i : Nat) : List (Nat × Nat) := (List.range i).flatMap fun lo => rowU f g lo (n - (lo + 1))
def unl (n : Nat) : List (Nat × Nat) := unlTo f g n n
def ahB (z e : Nat) : Bool := decide (f z < f e) && decide (g z < g e)
def ahead (lo hi z : Nat) : Bool := ahB f g z lo || ahB f g z hi
def beB (z e : Nat) : Bool := decide (f e < f z) && decide (g e < g z)
def behind (lo hi z : Nat) : Bool := beB f g z lo || beB f g z hi
def leastTo (lo hi j : Nat) : Nat := ((List.range' (lo + 1) j).filter (ahead f g lo hi)).length
def mostTo (lo hi j : Nat) : Nat := ((List.range' (lo + 1) j).filter fun z => !behind f g lo hi z).length
def least (lo hi : Nat) : Nat := leastTo f g lo hi (hi - (lo + 1))
def most (lo hi : Nat) : Nat := mostTo f g lo hi (hi - (lo + 1))
theorem rowU_len (lo k : Nat) : (rowU f g lo k).length ≤ k := by
  unfold rowU
  rw [List.length_map]
  have := List.length_filter_le (unB f g lo) (List.range' (lo + 1) k)
  simpa using this
theorem unlTo_succ (n i : Nat) : unlTo f g n (i + 1) = unlTo f g n i ++ rowU f g i (n - (i + 1)) := by
  unfold unlTo
  rw [List.range_succ, List.flatMap_append]
  simp
theorem unlTo_len (n : Nat) : ∀ i, (unlTo f g n i).length ≤ i * n
  | 0 => by simp [unlTo]
  | i + 1 => by
    rw [unlTo_succ, List.length_append, Nat.succ_mul]
    have h1 := unlTo_len n i
    have h2 := rowU_len f g i (n - (i + 1))
    omega
theorem rowU_succ (lo k : Nat) : rowU f g lo (k + 1) = rowU f g lo k ++ (if unB f g lo (lo + 1 + k) = true then [(lo, lo + 1 + k)] else []) := by
  unfold rowU
  rw [List.range'_1_concat, List.filter_append, List.map_append]
  congr 1
  by_cases h : unB f g lo (lo + 1 + k) = true
  · rw [if_pos h]; simp [h]
  · rw [if_neg h]; simp [h]
theorem leastTo_succ (lo hi j : Nat) : leastTo f g lo hi (j + 1) = leastTo f g lo hi j + (ahead f g lo hi (lo + 1 + j)).toNat := by
  unfold leastTo
  rw [List.range'_1_concat, List.filter_append, List.length_append]
  congr 1
  cases h : ahead f g lo hi (lo + 1 + j) <;> simp [h]
theorem mostTo_succ (lo hi j : Nat) : mostTo f g lo hi (j + 1) = mostTo f g lo hi j + (!behind f g lo hi (lo + 1 + j)).toNat := by
  unfold mostTo
  rw [List.range'_1_concat, List.filter_append, List.length_append]
  congr 1
  cases h : behind f g lo hi (lo + 1 + j) <;> simp [h]
end
abbrev fW (n : Nat) (f : Nat → Nat) : W := .lst false (iL (fL n f))
theorem fW_sub {o : Bool} {n : Nat} {f : Nat → Nat} {i : Nat} (h : i < n) : subW (.lst o (iL (fL n f))) (iN i) = some (iN (f i)) := sub_iL (fL_get h)
theorem F6 {n : Nat} {f g : Nat → Nat} (hn : n ≤ 200) : p6.f [fW n f, fW n g] = some (.lst true (prs (unl f g n)), .non) := by
  rw [e6]
  have lenP : ∀ i j, i < n → j ≤ n → (prs (unlTo f g n i ++ rowU f g i j)).length < lim := fun i j hi hj => by
    have h1 := unlTo_len f g n i
    have h2 := rowU_len f g i j
    have h3 : i * n ≤ 200 * 200 := Nat.mul_le_mul (by omega) hn
    simp only [prs, List.length_map, List.length_append]
    unfold lim
    omega
  have hout := for_ixE (enc := iN) (l := List.range n) (ρ := [some (fW n f), some (fW n g), some (.lst true []), none, none]) (t := fun w ρ => evG T0 (lk L6) 0 (.nm 3) w ρ) (b := fun ρ => xSs T0 (lk L6) 0 (.cons (.for (.nm 4) (.rng2 (.bin .Add (.var 3) (.cst (.int 1))) (.blt .len (.cons (.var 0) .nil))) (.cons (.ite (.cmp .NotEq (.cmp .Lt (.sub (.var 0) (.var 3)) (.sub (.var 0) (.var 4))) (.cmp .Lt (.sub (.var 1) (.var 3)) (.sub (.var 1) (.var 4)))) (.cons (.exp (.mth .append (.var 2) (.cons (.tup (.cons (.var 3) (.cons (.var 4) .nil))) .nil))) .nil) .nil) .nil)) .nil) ρ)
    (I := fun i ρ => ∃ a b, ρ = [some (fW n f), some (fW n g), some (.lst true (prs (unlTo f g n i))), a, b]) ⟨none, none, rfl⟩ fun i ρ a ha hI => by
      obtain ⟨a3, b4, rfl⟩ := hI
      obtain ⟨rfl, hi⟩ := range_get ha
      have hin := for_ixE (enc := iN) (l := List.range' (a + 1) (n - (a + 1))) (ρ := [some (fW n f), some (fW n g), some (.lst true (prs (unlTo f g n a))), some (iN a), b4]) (t := fun w ρ => evG T0 (lk L6) 0 (.nm 4) w ρ) (b := fun ρ => xSs T0 (lk L6) 0 (.cons (.ite (.cmp .NotEq (.cmp .Lt (.sub (.var 0) (.var 3)) (.sub (.var 0) (.var 4))) (.cmp .Lt (.sub (.var 1) (.var 3)) (.sub (.var 1) (.var 4)))) (.cons (.exp (.mth .append (.var 2) (.cons (.tup (.cons (.var 3) (.cons (.var 4) .nil))) .nil))) .nil) .nil) .nil) ρ)
        (I := fun j ρ => ∃ b, ρ = [some (fW n f), some (fW n g), some (.lst true (prs (unlTo f g n a ++ rowU f g a j))), some (iN a), b]) ⟨b4, by simp [rowU]⟩ fun j ρ hi' hh hI => by
          obtain ⟨b, rfl⟩ := hI
          obtain ⟨rfl, hj⟩ := range'_get hh
          have hlt : a + 1 + j < n := by omega
          have e1 : evE T0 (lk L6) 0 (.cmp .NotEq (.cmp .Lt (.sub (.var 0) (.var 3)) (.sub (.var 0) (.var 4))) (.cmp .Lt (.sub (.var 1) (.var 3)) (.sub (.var 1) (.var 4)))) [some (fW n f), some (fW n g), some (.lst true (prs (unlTo f g n a ++ rowU f g a j))), some (iN a), some (iN (a + 1 + j))] = some (.bl (unB f g a (a + 1 + j)), [some (fW n f), some (fW n g), some (.lst true (prs (unlTo f g n a ++ rowU f g a j))), some (iN a), some (iN (a + 1 + j))]) :=
            e_cmpP (e_cmpP (e_sub (by rfl) (by rfl) (by rfl) (fW_sub hi) (by rfl)) (e_sub (by rfl) (by rfl) (by rfl) (fW_sub hlt) (by rfl)) (c_lt _ _) (by rfl)) (e_cmpP (e_sub (by rfl) (by rfl) (by rfl) (fW_sub hi) (by rfl)) (e_sub (by rfl) (by rfl) (by rfl) (fW_sub hlt) (by rfl)) (c_lt _ _) (by rfl)) (c_neB _ _) (by rfl)
          refine ⟨_, [some (fW n f), some (fW n g), some (.lst true (prs (unlTo f g n a ++ rowU f g a (j + 1)))), some (iN a), some (iN (a + 1 + j))], by rfl, s_cons (t_if e1 (fun hk => ?_) fun hk => ?_) s_nil, _, rfl⟩
          · rw [rowU_succ, if_pos hk, ← List.append_assoc, prs_app (_ ++ _)]
            exact s_cons (t_exp (e_mut (x := .lst true (prs (unlTo f g n a ++ rowU f g a j))) (by rfl) (by rfl) (by rfl) (by rfl) (by rfl) (m_app (lenP a j hi (by omega))))) s_nil
          · rw [rowU_succ, if_neg (by rw [hk]; decide), List.append_nil]
            exact s_nil
      obtain ⟨ρ', h1, b, rfl⟩ := hin
      rw [List.length_range'] at h1
      refine ⟨_, _, by rfl, s_cons (t_for (i_rng2 (m := a + 1) (n := n) (e_binP (x := iN a) (y := iN 1) (by rfl) (by rfl) (b_add a 1) (by rfl) (by rfl)) ?_ (by omega) (by omega)) h1) s_nil, some (iN a), b, by rw [unlTo_succ]⟩
      refine e_blt (ws := [fW n f]) (by rfl) ?_ (by rfl) (by rfl)
      show some (W.int ((iL (fL n f)).length : Nat)) = _
      rw [ints_len, fL_len]
      rfl
  obtain ⟨ρ', h1, a, b, rfl⟩ := hout
  rw [List.length_range] at h1
  refine f_rt (ρ0 := [some (fW n f), some (fW n g), none, none, none]) rfl (s_cons (t_set (ρ1 := [some (fW n f), some (fW n g), none, none, none]) (ρ2 := [some (fW n f), some (fW n g), some (.lst true []), none, none]) (by rfl) (by rfl)) (s_cons (t_for (i_rng1 (n := n) ?_ (by omega)) h1) (s_rt (t_ret (by rfl)))))
  refine e_blt (ws := [fW n f]) (by rfl) ?_ (by rfl) (by rfl)
  show some (W.int ((iL (fL n f)).length : Nat)) = _
  rw [ints_len, fL_len]
  rfl
theorem ts_one {T : Tab} {Φ : Nat → Fun} {prot : Nat} {c : E} {b : Bool} {ρ ρ1 : Rho} (h : evE T Φ prot c ρ = some (.bl b, ρ1)) : evTs T Φ prot (.cons c .nil) ρ = some (b, ρ1) := by simp only [evTs, h]
theorem fil2 (tb : Nat → Bool) (lo hi : Nat) : (!decide ([lo, hi].filter tb = [])) = (tb lo || tb hi) := by
  cases h1 : tb lo <;> cases h2 : tb hi <;> simp [h1, h2]
theorem fil2' (tb : Nat → Bool) (lo hi : Nat) : (decide ([lo, hi].filter tb = [])) = !(tb lo || tb hi) := by
  rw [← fil2]; simp
theorem F7 {n lo hi : Nat} {f g : Nat → Nat} (hn : n ≤ 200) (h1 : lo < hi) (h2 : hi < n) : p7.f [fW n f, fW n g, iN lo, iN hi] = some (.tup false [iN (least f g lo hi), iN (most f g lo hi)], .non) := by
  rw [e7]
  let bd : Ss := (.cons (.setlc 7 [("one", 8)] (.var 8) (.nm 8) (.seq (.lst (.cons (.var 2) (.cons (.var 3) .nil)))) (.cons (.and (.cmp .Lt (.sub (.var 0) (.var 6)) (.sub (.var 0) (.var 8))) (.cmp .Lt (.sub (.var 1) (.var 6)) (.sub (.var 1) (.var 8)))) .nil))
    (.cons (.setlc 9 [("one", 8)] (.var 8) (.nm 8) (.seq (.lst (.cons (.var 2) (.cons (.var 3) .nil)))) (.cons (.and (.cmp .Gt (.sub (.var 0) (.var 6)) (.sub (.var 0) (.var 8))) (.cmp .Gt (.sub (.var 1) (.var 6)) (.sub (.var 1) (.var 8)))) .nil))
    (.cons (.par2 4 5 (.bin .Add (.var 4) (.blt .int (.cons (.cmp .NotEq (.var 7) (.lst .nil)) .nil))) (.bin .Add (.var 5) (.blt .int (.cons (.cmp .Eq (.var 9) (.lst .nil)) .nil)))) .nil)))
  have hl := for_ixE (enc := iN) (l := List.range' (lo + 1) (hi - (lo + 1))) (ρ := [some (fW n f), some (fW n g), some (iN lo), some (iN hi), some (iN 0), some (iN 0), none, none, none, none]) (t := fun w ρ => evG T0 (lk L7) 0 (.nm 6) w ρ) (b := fun ρ => xSs T0 (lk L7) 0 bd ρ)
    (I := fun j ρ => ∃ a b c d, ρ = [some (fW n f), some (fW n g), some (iN lo), some (iN hi), some (iN (leastTo f g lo hi j)), some (iN (mostTo f g lo hi j)), a, b, c, d]) ⟨none, none, none, none, rfl⟩ fun j ρ z hz hI => by
      obtain ⟨a, b, c, d, rfl⟩ := hI
      obtain ⟨rfl, hj⟩ := range'_get hz
      generalize hzz : lo + 1 + j = z at *
      have hzn : z < n := by omega
      have c1 : ∀ e b d, e < n → evE T0 (lk L7) 0 (.and (.cmp .Lt (.sub (.var 0) (.var 6)) (.sub (.var 0) (.var 8))) (.cmp .Lt (.sub (.var 1) (.var 6)) (.sub (.var 1) (.var 8)))) [some (fW n f), some (fW n g), some (iN lo), some (iN hi), some (iN (leastTo f g lo hi j)), some (iN (mostTo f g lo hi j)), some (iN z), b, some (iN e), d] =
          some (.bl (ahB f g z e), [some (fW n f), some (fW n g), some (iN lo), some (iN hi), some (iN (leastTo f g lo hi j)), some (iN (mostTo f g lo hi j)), some (iN z), b, some (iN e), d]) := fun e b d he =>
        e_and (e_cmpP (e_sub (by rfl) (by rfl) (by rfl) (fW_sub hzn) (by rfl)) (e_sub (by rfl) (by rfl) (by rfl) (fW_sub he) (by rfl)) (c_lt _ _) (by rfl)) fun _ => (e_cmpP (e_sub (by rfl) (by rfl) (by rfl) (fW_sub hzn) (by rfl)) (e_sub (by rfl) (by rfl) (by rfl) (fW_sub he) (by rfl)) (c_lt _ _) (by rfl))
      have c2 : ∀ e b d, e < n → evE T0 (lk L7) 0 (.and (.cmp .Gt (.sub (.var 0) (.var 6)) (.sub (.var 0) (.var 8))) (.cmp .Gt (.sub (.var 1) (.var 6)) (.sub (.var 1) (.var 8)))) [some (fW n f), some (fW n g), some (iN lo), some (iN hi), some (iN (leastTo f g lo hi j)), some (iN (mostTo f g lo hi j)), some (iN z), b, some (iN e), d] =
          some (.bl (beB f g z e), [some (fW n f), some (fW n g), some (iN lo), some (iN hi), some (iN (leastTo f g lo hi j)), some (iN (mostTo f g lo hi j)), some (iN z), b, some (iN e), d]) := fun e b d he =>
        e_and (e_cmpP (e_sub (by rfl) (by rfl) (by rfl) (fW_sub hzn) (by rfl)) (e_sub (by rfl) (by rfl) (by rfl) (fW_sub he) (by rfl)) (c_gt _ _) (by rfl)) fun _ => (e_cmpP (e_sub (by rfl) (by rfl) (by rfl) (fW_sub hzn) (by rfl)) (e_sub (by rfl) (by rfl) (by rfl) (fW_sub he) (by rfl)) (c_gt _ _) (by rfl))
      have hin : ∀ e ∈ [lo, hi], e < n := fun e he => by
        simp only [List.mem_cons, List.not_mem_nil, or_false] at he
        omega
      have k1 := e_lcE (T := T0) (Φ := lk L7) (prot := 0) (enc := iN) (l := [lo, hi]) (fe := iN) (tb := ahB f g z) (own := [("one", 8)]) (elt := .var 8) (tg := .nm 8) (it := .seq (.lst (.cons (.var 2) (.cons (.var 3) .nil)))) (ifs := .cons (.and (.cmp .Lt (.sub (.var 0) (.var 6)) (.sub (.var 0) (.var 8))) (.cmp .Lt (.sub (.var 1) (.var 6)) (.sub (.var 1) (.var 8)))) .nil)
        (ρ := [some (fW n f), some (fW n g), some (iN lo), some (iN hi), some (iN (leastTo f g lo hi j)), some (iN (mostTo f g lo hi j)), some (iN z), b, c, d]) (by rfl) (by rfl) (by show 2 ≤ lim; decide) rfl (fun e he => ⟨_, _, by rfl, ts_one (c1 e b d (hin e he)), fun _ => by rfl, fun _ => ⟨_, by rfl, by rfl⟩⟩) (by rfl) (isoL_ints _)
      have k2 := e_lcE (T := T0) (Φ := lk L7) (prot := 0) (enc := iN) (l := [lo, hi]) (fe := iN) (tb := beB f g z) (own := [("one", 8)]) (elt := .var 8) (tg := .nm 8) (it := .seq (.lst (.cons (.var 2) (.cons (.var 3) .nil)))) (ifs := .cons (.and (.cmp .Gt (.sub (.var 0) (.var 6)) (.sub (.var 0) (.var 8))) (.cmp .Gt (.sub (.var 1) (.var 6)) (.sub (.var 1) (.var 8)))) .nil)
        (ρ := [some (fW n f), some (fW n g), some (iN lo), some (iN hi), some (iN (leastTo f g lo hi j)), some (iN (mostTo f g lo hi j)), some (iN z), some (.lst true (iL ([lo, hi].filter (ahB f g z)))), c, d]) (by rfl) (by rfl) (by show 2 ≤ lim; decide) rfl (fun e he => ⟨_, _, by rfl, ts_one (c2 e _ d (hin e he)), fun _ => by rfl, fun _ => ⟨_, by rfl, by rfl⟩⟩) (by rfl) (isoL_ints _)
      refine ⟨_, [some (fW n f), some (fW n g), some (iN lo), some (iN hi), some (iN (leastTo f g lo hi (j + 1))), some (iN (mostTo f g lo hi (j + 1))), some (iN z), some (.lst true (iL ([lo, hi].filter (ahB f g z)))), c, some (.lst true (iL ([lo, hi].filter (beB f g z))))], by rfl, ?_, _, _, _, _, rfl⟩
      refine s_cons (ρ1 := [some (fW n f), some (fW n g), some (iN lo), some (iN hi), some (iN (leastTo f g lo hi j)), some (iN (mostTo f g lo hi j)), some (iN z), some (.lst true (iL ([lo, hi].filter (ahB f g z)))), c, d]) (t_setlc k1 ⟨by decide, by show 7 < 10; decide⟩) ?_
      refine s_cons (ρ1 := [some (fW n f), some (fW n g), some (iN lo), some (iN hi), some (iN (leastTo f g lo hi j)), some (iN (mostTo f g lo hi j)), some (iN z), some (.lst true (iL ([lo, hi].filter (ahB f g z)))), c, some (.lst true (iL ([lo, hi].filter (beB f g z))))]) (t_setlc k2 ⟨by decide, by show 9 < 10; decide⟩) ?_
      rw [leastTo_succ, mostTo_succ, hzz]
      refine s_cons (t_par2 (e_binP (by rfl) (e_blt (a_cons (e_cmp (by rfl) (by rfl) ?_ (by rfl)) a_nil) (int_bl _) (by rfl) (by rfl)) (b_add _ _) (by rfl) (by rfl)) (e_binP (by rfl) (e_blt (a_cons (e_cmp (by rfl) (by rfl) ?_ (by rfl)) a_nil) (int_bl _) (by rfl) (by rfl)) (b_add _ _) (by rfl) (by rfl)) ⟨by decide, by decide, by show 4 < 10; decide, by show 5 < 10; decide, by decide⟩) s_nil
      · simp only [frz, frzL_ints]
        exact (c_neL (o := false) (p := true) _ []).trans (congrArg some (fil2 _ _ _))
      · simp only [frz, frzL_ints]
        exact (c_eqL (o := false) (p := true) _ []).trans (congrArg some (fil2' _ _ _))
  obtain ⟨ρ', k, a, b, c, d, rfl⟩ := hl
  rw [List.length_range'] at k
  exact f_rt (ρ0 := [some (fW n f), some (fW n g), some (iN lo), some (iN hi), none, none, none, none, none, none]) rfl (s_cons (t_set (ρ2 := [some (fW n f), some (fW n g), some (iN lo), some (iN hi), some (iN 0), some (iN 0), none, none, none, none]) (by rfl) (by rfl)) (s_cons (t_for (i_rng2 (m := lo + 1) (n := hi) (e_binP (x := iN lo) (y := iN 1) (by rfl) (by rfl) (b_add lo 1) (by rfl) (by rfl)) (by rfl) (by omega) (by omega)) k) (s_rt (t_ret (by rfl)))))
end K90

set_option Elab.async false
set_option linter.all false
set_option maxRecDepth 100000
set_option maxHeartbeats 4000000
namespace K90
open PySem PySem.Spec PyProof.Rows L2 Ev
/-! ### sets of counts as dicts -/
def insK (K : List Nat) (k : Nat) : List Nat := if k ∈ K then K else K ++ [k]
def kk (K : List Nat) : List Key := K.map fun k => Sum.inl ((k : Nat) : Int)
def tt (K : List Nat) : List W := K.map fun _ => W.bl true
abbrev dW (K : List Nat) : W := .dK true (kk K) (tt K)
theorem putP_ins : ∀ (K : List Nat) (k : Nat), putP (kk K) (tt K) (Sum.inl ((k : Nat) : Int)) (.bl true) = (kk (insK K k), tt (insK K k))
  | [], k => rfl
  | a :: K, k => by
    show (if (Sum.inl ((a : Nat) : Int) : Key) = Sum.inl ((k : Nat) : Int) then ((Sum.inl ((a : Nat) : Int) :: kk K : List Key), W.bl true :: tt K) else (Sum.inl ((a : Nat) : Int) :: (putP (kk K) (tt K) (Sum.inl ((k : Nat) : Int)) (.bl true)).1, W.bl true :: (putP (kk K) (tt K) (Sum.inl ((k : Nat) : Int)) (.bl true)).2)) = _
    by_cases h : a = k
    · subst h
      rw [if_pos rfl]
      simp [insK, kk, tt]
    · have h' : ¬ (Sum.inl ((a : Nat) : Int) : Key) = Sum.inl ((k : Nat) : Int) := fun e => h (by have := Sum.inl.inj e; omega)
      rw [if_neg h', putP_ins K k]
      have e : insK (a :: K) k = a :: insK K k := by
        unfold insK
        have h2 : ¬ k = a := fun e => h e.symm
        by_cases hk : k ∈ K
        · simp [hk]
        · simp [hk, h2]
      rw [e]
      rfl
theorem frzL_tt (K : List Nat) : frzL (tt K) = tt K := by
  induction K with
  | nil => rfl
  | cons a K ih => show frz _ :: frzL (tt K) = _ :: tt K; rw [ih]; rfl
theorem isoL_tt (K : List Nat) : isoL (tt K) = true := by
  induction K with
  | nil => rfl
  | cons a K ih => show (true && isoL (tt K)) = true; rw [ih]; rfl
theorem mergeP_ins : ∀ (D K : List Nat), mergeP (kk K) (tt K) (kk D) (tt D) = (kk (D.foldl insK K), tt (D.foldl insK K))
  | [], K => rfl
  | d :: D, K => by
    show mergeP (putP (kk K) (tt K) (Sum.inl ((d : Nat) : Int)) (.bl true)).1 (putP (kk K) (tt K) (Sum.inl ((d : Nat) : Int)) (.bl true)).2 (kk D) (tt D) = _
    rw [putP_ins]
    exact mergeP_ins D (insK K d)
theorem insK_len (K : List Nat) (k : Nat) : (insK K k).length ≤ K.length + 1 := by
  unfold insK
  split <;> simp
theorem dcGo_ins {vs : List Nat} {t : W → Rho → Option Rho} {c : Rho → Option (Bool × Rho)} {k e : Rho → Option (W × Rho)} {r0 : Rho} : ∀ {l K : List Nat} {ρ : Rho}, wipeR ρ vs = r0 → K.length + l.length ≤ lim →
    (∀ a ∈ l, ∃ ρ1 ρ2 ρ3 ρ4, t (iN a) r0 = some ρ1 ∧ c ρ1 = some (true, ρ2) ∧ k ρ2 = some (iN a, ρ3) ∧ e ρ3 = some (.bl true, ρ4) ∧ wipeR ρ4 vs = r0) → ∃ ρ', dcGo vs t c k e (l.map iN) ρ (kk K) (tt K) = some (kk (l.foldl insK K), tt (l.foldl insK K), ρ')
  | [], K, ρ, _, _, _ => ⟨ρ, rfl⟩
  | a :: l, K, ρ, h0, hl, h => by
    obtain ⟨ρ1, ρ2, ρ3, ρ4, h1, h2, h3, h4, h5⟩ := h a (List.mem_cons_self ..)
    rw [List.length_cons] at hl
    have hk : (kk K).length < lim := by unfold kk; rw [List.length_map]; omega
    have e1 : keyW (iN a) = some (Sum.inl ((a : Nat) : Int)) := rfl
    simp only [List.map_cons, dcGo, h0, h1, h2, h3, e1, h4, if_pos hk, putP_ins]
    exact dcGo_ins h5 (by have := insK_len K a; omega) fun b hb => h b (List.mem_cons_of_mem _ hb)
theorem insK_foldl_nd : ∀ {l K : List Nat}, l.Nodup → (∀ x ∈ l, x ∉ K) → l.foldl insK K = K ++ l
  | [], K, _, _ => by simp
  | a :: l, K, hn, h => by
    have hn' := List.nodup_cons.mp hn
    have e : insK K a = K ++ [a] := by unfold insK; rw [if_neg (h a (List.mem_cons_self ..))]
    rw [List.foldl_cons, e, insK_foldl_nd hn'.2 fun x hx hm => ?_]
    · simp
    · rcases List.mem_append.mp hm with hm | hm
      · exact h x (List.mem_cons_of_mem _ hx) hm
      · rw [List.mem_singleton.mp hm] at hx
        exact hn'.1 hx
theorem mem_insK {K : List Nat} {k x : Nat} : x ∈ insK K k ↔ x ∈ K ∨ x = k := by
  unfold insK
  split
  · rename_i h
    constructor
    · exact .inl
    · rintro (h' | rfl)
      · exact h'
      · exact h
  · simp
theorem nd_insK {K : List Nat} {k : Nat} (h : K.Nodup) : (insK K k).Nodup := by
  unfold insK
  split
  · exact h
  · rename_i hk
    exact List.nodup_append.mpr ⟨h, List.pairwise_singleton _ _, fun a ha b hb e => hk (by rw [← List.mem_singleton.mp hb, ← e]; exact ha)⟩
theorem mem_foldK : ∀ {l K : List Nat} {x : Nat}, x ∈ l.foldl insK K ↔ x ∈ K ∨ x ∈ l
  | [], K, x => by simp
  | a :: l, K, x => by
    rw [List.foldl_cons, mem_foldK, mem_insK, List.mem_cons]
    exact or_assoc
theorem nd_foldK : ∀ {l K : List Nat}, K.Nodup → (l.foldl insK K).Nodup
  | [], K, h => h
  | a :: l, K, h => nd_foldK (l := l) (nd_insK h)
/-! ### the pairs -/
theorem mem_unl {f g : Nat → Nat} {n : Nat} {p : Nat × Nat} : p ∈ unl f g n ↔ p.1 < p.2 ∧ p.2 < n ∧ unB f g p.1 p.2 = true := by
  unfold unl unlTo rowU
  simp only [List.mem_flatMap, List.mem_range, List.mem_map, List.mem_filter, List.mem_range'_1]
  constructor
  · rintro ⟨lo, h1, hi, ⟨⟨h2, h3⟩, h4⟩, rfl⟩
    exact ⟨by show lo < hi; omega, by show hi < n; omega, h4⟩
  · rintro ⟨h1, h2, h3⟩
    exact ⟨p.1, by omega, p.2, ⟨⟨by omega, by omega⟩, h3⟩, rfl⟩
theorem unl_len {f g : Nat → Nat} {n : Nat} : (unl f g n).length ≤ n * n := unlTo_len f g n n
theorem least_le {f g : Nat → Nat} {lo hi : Nat} : least f g lo hi ≤ hi - (lo + 1) := by
  unfold least leastTo
  have := List.length_filter_le (ahead f g lo hi) (List.range' (lo + 1) (hi - (lo + 1)))
  simpa using this
theorem most_le {f g : Nat → Nat} {lo hi : Nat} : most f g lo hi ≤ hi - (lo + 1) := by
  unfold most mostTo
  have := List.length_filter_le (fun z => !behind f g lo hi z) (List.range' (lo + 1) (hi - (lo + 1)))
  simpa using this
def quad (f g : Nat → Nat) (p : Nat × Nat) : W := .tup false [iN p.1, iN p.2, iN (least f g p.1 p.2), iN (most f g p.1 p.2)]
def cntL (f g : Nat → Nat) (n : Nat) : List W := (unl f g n).map (quad f g)
theorem isoL_map {α : Type} {h : α → W} {l : List α} (q : ∀ a ∈ l, iso (h a) = true) : isoL (l.map h) = true := by
  induction l with
  | nil => rfl
  | cons a l ih =>
    show (iso (h a) && isoL (l.map h)) = true
    rw [q a (List.mem_cons_self ..), ih fun b hb => q b (List.mem_cons_of_mem _ hb)]
    rfl
theorem frzL_mapV {α : Type} {h : α → W} {l : List α} (q : ∀ a ∈ l, isV (h a) = true) : frzL (l.map h) = l.map h := by
  rw [frzL_map, List.map_map]
  apply List.map_congr_left
  intro a ha
  exact frz_isV (q a ha)
abbrev encP (p : Nat × Nat) : W := .tup false [iN p.1, iN p.2]
theorem F8 {n : Nat} {l m : List Nat} (h : Ord n l) (h' : Ord n m) (hn : n ≤ 200) : p8.f [oW l, oW m] = some (.lst true (cntL (pl l) (pl m) n), .non) := by
  rw [e8]
  have ka := e_call (T := T0) (Φ := lk L8) (prot := 0) (ρ := [some (oW l), some (oW m), none, none, none, none]) (k := 4) (es := .cons (.var 0) .nil) (ws := [oW l]) (w := .lst true (iL (fL n (pl l)))) (by rfl) (by rfl) (by rfl) (by rfl) (by rfl) (by rfl) (F4 h hn) (by rfl) (by simp only [iso, isoL_ints, Bool.and_self])
  have kb := e_call (T := T0) (Φ := lk L8) (prot := 0) (ρ := [some (oW l), some (oW m), none, none, none, none]) (k := 4) (es := .cons (.var 1) .nil) (ws := [oW m]) (w := .lst true (iL (fL n (pl m)))) (by rfl) (by rfl) (by rfl) (by rfl) (by rfl) (by rfl) (F4 h' hn) (by rfl) (by simp only [iso, isoL_ints, Bool.and_self])
  have k1 := e_tup (a_cons ka (a_cons kb a_nil)) (by show 2 ≤ lim; decide)
  have k2 : evI T0 (lk L8) 0 (.seq (.call 6 (.cons (.var 2) (.cons (.var 3) .nil)))) [some (oW l), some (oW m), some (.lst true (iL (fL n (pl l)))), some (.lst true (iL (fL n (pl m)))), none, none] = some ((unl (pl l) (pl m) n).map encP, [some (oW l), some (oW m), some (.lst true (iL (fL n (pl l)))), some (.lst true (iL (fL n (pl m)))), none, none]) := by
    have k := e_call (T := T0) (Φ := lk L8) (prot := 0) (ρ := [some (oW l), some (oW m), some (.lst true (iL (fL n (pl l)))), some (.lst true (iL (fL n (pl m)))), none, none]) (k := 6) (es := .cons (.var 2) (.cons (.var 3) .nil)) (as := [fW n (pl l), fW n (pl m)]) (by rfl) (by rfl) (by rfl) (by rfl) (by simp only [frzL, frz, frzL_ints]) (by rfl) (F6 hn) (by rfl) (by simp only [iso, isoL_prs, Bool.and_self])
    exact i_seq k (seq_prs _)
  have k3 := e_lcE (T := T0) (Φ := lk L8) (prot := 0) (enc := encP) (l := unl (pl l) (pl m) n) (fe := quad (pl l) (pl m)) (tb := fun _ => true) (own := [("low", 4), ("high", 5)]) (elt := .bin .Add (.tup (.cons (.var 4) (.cons (.var 5) .nil))) (.call 7 (.cons (.var 2) (.cons (.var 3) (.cons (.var 4) (.cons (.var 5) .nil)))))) (tg := .tp (.cons (.nm 4) (.cons (.nm 5) .nil))) (it := .seq (.call 6 (.cons (.var 2) (.cons (.var 3) .nil)))) (ifs := .nil)
    k2 (by rfl) (by have := unl_len (f := pl l) (g := pl m) (n := n); have h3 : n * n ≤ 200 * 200 := Nat.mul_le_mul hn hn; unfold lim; omega) rfl (fun p hp => ⟨[some (oW l), some (oW m), some (.lst true (iL (fL n (pl l)))), some (.lst true (iL (fL n (pl m)))), some (iN p.1), some (iN p.2)], _, by rfl, by rfl, fun z => (by cases z), fun _ => by
      obtain ⟨q1, q2, _⟩ := mem_unl.mp hp
      refine ⟨[some (oW l), some (oW m), some (.lst true (iL (fL n (pl l)))), some (.lst true (iL (fL n (pl m)))), some (iN p.1), some (iN p.2)], ?_, by rfl⟩
      exact e_binP (x := .tup false [iN p.1, iN p.2]) (by rfl) (e_call (as := [fW n (pl l), fW n (pl m), iN p.1, iN p.2]) (by rfl) (by rfl) (by rfl) (by rfl) (by simp only [frzL, frz, frzL_ints, iN]) (by rfl) (F7 hn q1 q2) (by rfl) (by rfl)) (by rfl) (by rfl) (by rfl)⟩) (by rfl) (isoL_map fun a _ => by rfl)
  rw [show ((unl (pl l) (pl m) n).filter fun _ => true) = unl (pl l) (pl m) n from by simp] at k3
  exact f_rt (ρ0 := [some (oW l), some (oW m), none, none, none, none]) rfl (s_cons (t_set (ρ2 := [some (oW l), some (oW m), some (.lst true (iL (fL n (pl l)))), some (.lst true (iL (fL n (pl m)))), none, none]) k1 (by rfl)) (s_rt (t_retP k3 (by rfl))))
end K90

set_option Elab.async false
set_option linter.all false
set_option maxRecDepth 100000
set_option maxHeartbeats 4000000
namespace K90
open PySem PySem.Spec PyProof.Rows L2 Ev
/-! ### the needed counts -/
def ran (f g : Nat → Nat) (p : Nat × Nat) : List Nat := List.range' (least f g p.1 p.2) (most f g p.1 p.2 + 1 - least f g p.1 p.2)
def stepK (f g : Nat → Nat) (K : List Nat) (p : Nat × Nat) : List Nat := (ran f g p).foldl insK K
def keysOf (f g : Nat → Nat) (l : List (Nat × Nat)) : List Nat := l.foldl (stepK f g) []
def srt (K : List Nat) : List Nat := (isort ltI (K.map fun k => ((k : Nat) : Int))).map Int.toNat
theorem srt_int {K : List Nat} : (isort ltI (K.map fun k => ((k : Nat) : Int))).map W.int = iL (srt K) := by
  unfold srt iL iN
  rw [List.map_map]
  apply List.map_congr_left
  intro i hi
  have := (isort_perm ltI _).mem_iff.mp hi
  obtain ⟨k, _, rfl⟩ := List.mem_map.mp this
  simp
theorem kInts_kk (K : List Nat) : kInts (kk K) = some (K.map fun k => ((k : Nat) : Int)) := by
  induction K with
  | nil => rfl
  | cons a K ih =>
    have e : kk (a :: K) = Sum.inl ((a : Nat) : Int) :: kk K := rfl
    rw [e]
    unfold kInts
    rw [ih]
    rfl
theorem wKey_kk (K : List Nat) : (kk K).map wKey = iL K := by
  unfold kk iL
  rw [List.map_map]
  rfl
theorem ran_nd {f g : Nat → Nat} {p : Nat × Nat} : (ran f g p).Nodup := List.nodup_range'
theorem ran_lt {f g : Nat → Nat} {n : Nat} {p : Nat × Nat} (hp : p ∈ unl f g n) : ∀ x ∈ ran f g p, x < n := by
  intro x hx
  obtain ⟨h1, h2, _⟩ := mem_unl.mp hp
  unfold ran at hx
  have h3 := least_le (f := f) (g := g) (lo := p.1) (hi := p.2)
  have h4 := most_le (f := f) (g := g) (lo := p.1) (hi := p.2)
  have := List.mem_range'_1.mp hx
  omega
theorem keys_ok {f g : Nat → Nat} {n : Nat} {l : List (Nat × Nat)} (h : ∀ p ∈ l, p ∈ unl f g n) : (keysOf f g l).Nodup ∧ ∀ x ∈ keysOf f g l, x < n := by
  have key : ∀ {l : List (Nat × Nat)} {K : List Nat}, (∀ p ∈ l, p ∈ unl f g n) → K.Nodup → (∀ x ∈ K, x < n) → (l.foldl (stepK f g) K).Nodup ∧ ∀ x ∈ l.foldl (stepK f g) K, x < n := by
    intro l
    induction l with
    | nil => exact fun _ h1 h2 => ⟨h1, h2⟩
    | cons p l ih =>
      intro K h h1 h2
      refine ih (fun q hq => h q (List.mem_cons_of_mem _ hq)) (nd_foldK h1) fun x hx => ?_
      rcases mem_foldK.mp hx with hx | hx
      · exact h2 x hx
      · exact ran_lt (h p (List.mem_cons_self ..)) x hx
  exact key h List.nodup_nil fun x hx => by cases hx
theorem keys_len {f g : Nat → Nat} {n : Nat} {l : List (Nat × Nat)} (h : ∀ p ∈ l, p ∈ unl f g n) : (keysOf f g l).length ≤ n := by
  obtain ⟨h1, h2⟩ := keys_ok h
  have := h1.length_le_of_subset (l₂ := List.range n) fun x hx => List.mem_range.mpr (h2 x hx)
  simpa using this
theorem keys_succ {f g : Nat → Nat} {l : List (Nat × Nat)} {i : Nat} {a : Nat × Nat} (h : l[i]? = some a) : keysOf f g (l.take (i + 1)) = stepK f g (keysOf f g (l.take i)) a := by
  unfold keysOf
  rw [List.take_add_one, h, List.foldl_append]
  rfl
def needL (f g : Nat → Nat) (n : Nat) : List Nat := srt (keysOf f g (unl f g n))
theorem iso_quad {f g : Nat → Nat} {n : Nat} : isoL (cntL f g n) = true := isoL_map fun a _ => by rfl
theorem seq_cnt {o : Bool} {f g : Nat → Nat} {n : Nat} : seqW (.lst o (cntL f g n)) = some ((unl f g n).map (quad f g)) := by
  simp only [seqW, cntL]
  rw [frzL_mapV fun a _ => by rfl]
theorem F9 {n : Nat} {l m : List Nat} (h : Ord n l) (h' : Ord n m) (hn : n ≤ 200) : p9.f [oW l, oW m] = some (.lst true (iL (needL (pl l) (pl m) n)), .non) := by
  rw [e9]
  let f := pl l
  let g := pl m
  have k0 := e_call (T := T0) (Φ := lk L9) (prot := 0) (ρ := [some (oW l), some (oW m), some (dW []), none, none, none, none]) (k := 8) (es := .cons (.var 0) (.cons (.var 1) .nil)) (as := [oW l, oW m]) (w := .lst true (cntL f g n)) (by rfl) (by rfl) (by rfl) (by rfl) (by simp only [frzL, frz]) (by rfl) (F8 h h' hn) (by rfl) (by simp only [iso, iso_quad, Bool.and_self])
  have hl := for_ixE (enc := quad f g) (l := unl f g n) (ρ := [some (oW l), some (oW m), some (dW []), none, none, none, none]) (t := fun w ρ => evG T0 (lk L9) 0 (.tp (.cons (.nm 3) (.cons (.nm 3) (.cons (.nm 4) (.cons (.nm 5) .nil))))) w ρ) (b := fun ρ => xSs T0 (lk L9) 0 (.cons (.exp (.mth .update (.var 2) (.cons (.dc [("count", 6)] (.var 6) (.cst (.bl true)) (.nm 6) (.rng2 (.var 4) (.bin .Add (.var 5) (.cst (.int 1)))) .nil) .nil))) .nil) ρ)
    (I := fun i ρ => ∃ a b c d, ρ = [some (oW l), some (oW m), some (dW (keysOf f g ((unl f g n).take i))), a, b, c, d]) ⟨none, none, none, none, rfl⟩ fun i ρ p hp hI => by
      obtain ⟨a, b, c, d, rfl⟩ := hI
      have hpm : p ∈ unl f g n := List.mem_of_getElem? hp
      obtain ⟨q1, q2, _⟩ := mem_unl.mp hpm
      have b1 := least_le (f := f) (g := g) (lo := p.1) (hi := p.2)
      have b2 := most_le (f := f) (g := g) (lo := p.1) (hi := p.2)
      have hlen := keys_len (f := f) (g := g) (n := n) (l := (unl f g n).take i) fun p hp => List.mem_of_mem_take hp
      have hran : (ran f g p).length ≤ 201 := by unfold ran; rw [List.length_range']; omega
      have eran : (ran f g p).foldl insK [] = ran f g p := by rw [insK_foldl_nd ran_nd (fun x _ hx => by cases hx)]; rfl
      have k1 := e_dc (T := T0) (Φ := lk L9) (prot := 0) (ρ := [some (oW l), some (oW m), some (dW (keysOf f g ((unl f g n).take i))), some (iN p.2), some (iN (least f g p.1 p.2)), some (iN (most f g p.1 p.2)), d]) (own := [("count", 6)]) (k := .var 6) (v := .cst (.bl true)) (tg := .nm 6) (it := .rng2 (.var 4) (.bin .Add (.var 5) (.cst (.int 1)))) (ifs := .nil)
        (i_rng2 (m := least f g p.1 p.2) (n := most f g p.1 p.2 + 1) (by rfl) (e_binP (x := iN (most f g p.1 p.2)) (y := iN 1) (by rfl) (by rfl) (b_add _ _) (by rfl) (by rfl)) (by omega) (by omega)) (by rfl)
        (dcGo_ins (l := ran f g p) (K := []) (r0 := [some (oW l), some (oW m), some (dW (keysOf f g ((unl f g n).take i))), some (iN p.2), some (iN (least f g p.1 p.2)), some (iN (most f g p.1 p.2)), none]) (by rfl) (by rw [List.length_nil]; unfold lim; omega) fun x hx => ⟨_, _, _, _, by rfl, by rfl, by rfl, by rfl, by rfl⟩) (by rfl) (isoL_tt _)
      rw [eran] at k1
      refine ⟨[some (oW l), some (oW m), some (dW (keysOf f g ((unl f g n).take i))), some (iN p.2), some (iN (least f g p.1 p.2)), some (iN (most f g p.1 p.2)), d], [some (oW l), some (oW m), some (dW (keysOf f g ((unl f g n).take (i + 1)))), some (iN p.2), some (iN (least f g p.1 p.2)), some (iN (most f g p.1 p.2)), d], by rfl, ?_, _, _, _, _, rfl⟩
      refine s_cons (t_exp (e_mut (w := .non) (x0 := dW (keysOf f g ((unl f g n).take i))) (x := dW (keysOf f g ((unl f g n).take i))) (y := dW (keysOf f g ((unl f g n).take (i + 1)))) (by rfl) (by rfl) (by rfl) (a_cons k1 a_nil) (by rfl) ?_)) s_nil
      have hle : (kk (keysOf f g ((unl f g n).take i))).length + (kk (ran f g p)).length ≤ lim := by
        unfold kk
        rw [List.length_map, List.length_map]
        unfold lim
        omega
      simp only [mutW, if_pos hle, frzL_tt, mergeP_ins]
      rw [keys_succ hp]
      rfl
  obtain ⟨ρ', k, a, b, c, d, rfl⟩ := hl
  rw [List.take_length] at k
  refine f_rt (ρ0 := [some (oW l), some (oW m), none, none, none, none, none]) rfl (s_cons (t_set (ρ2 := [some (oW l), some (oW m), some (dW []), none, none, none, none]) (by rfl) (by rfl)) (s_cons (t_for (i_seq k0 seq_cnt) k) (s_rt (t_retP ?_ (by rfl)))))
  refine e_blt (ws := [.lst true (iL (keysOf f g (unl f g n)))]) (a_cons (e_blt (ws := [.dK false (kk (keysOf f g (unl f g n))) (frzL (tt (keysOf f g (unl f g n))))]) (by rfl) ?_ (by rfl) (by simp only [iso, isoL_ints, Bool.and_self])) a_nil) ?_ (by rfl) (by simp only [iso, isoL_ints, Bool.and_self])
  · show some (W.lst true ((kk _).map wKey)) = _
    rw [wKey_kk]
  · show (match intsW (iL (keysOf f g (unl f g n))) with | some is => some (W.lst true ((isort ltI is).map W.int)) | none => _) = _
    rw [intsW_ints]
    simp only [srt_int]
    rfl
theorem F10 {n : Nat} {l m : List Nat} (h : Ord n l) (h' : Ord n m) (hn : n ≤ 200) : p10.f [oW l, oW m] = some (.lst true (cntL (pl l) (pl m) n), .non) := by
  rw [e10]
  exact f_rt (ρ0 := [some (oW l), some (oW m)]) rfl (s_cons (t_exp (e_call (as := [oW l, oW m]) (w := .non) (by rfl) (by rfl) (by rfl) (by rfl) (by simp only [frzL, frz]) (by rfl) (F5 h h' hn) (by rfl) (by rfl)))
    (s_rt (t_retP (e_call (as := [oW l, oW m]) (w := .lst true (cntL (pl l) (pl m) n)) (by rfl) (by rfl) (by rfl) (by rfl) (by simp only [frzL, frz]) (by rfl) (F8 h h' hn) (by rfl) (by simp only [iso, iso_quad, Bool.and_self])) (by rfl))))
theorem F11 {n : Nat} {l m : List Nat} (h : Ord n l) (h' : Ord n m) (hn : n ≤ 200) : p11.f [oW l, oW m] = some (.lst true (iL (needL (pl l) (pl m) n)), .non) := by
  rw [e11]
  exact f_rt (ρ0 := [some (oW l), some (oW m)]) rfl (s_cons (t_exp (e_call (as := [oW l, oW m]) (w := .non) (by rfl) (by rfl) (by rfl) (by rfl) (by simp only [frzL, frz]) (by rfl) (F5 h h' hn) (by rfl) (by rfl)))
    (s_rt (t_retP (e_call (as := [oW l, oW m]) (w := .lst true (iL (needL (pl l) (pl m) n))) (by rfl) (by rfl) (by rfl) (by rfl) (by simp only [frzL, frz]) (by rfl) (F9 h h' hn) (by rfl) (by simp only [iso, isoL_ints, Bool.and_self])) (by rfl))))
end K90

set_option Elab.async false
set_option linter.all false
set_option maxRecDepth 100000
set_option maxHeartbeats 4000000
namespace K90
open PySem PySem.Spec PyProof.Rows L2 Ev
/-! ### draws -/
theorem mul_ok {i j : Int} (h : (-(2 ^ 64) < i ∧ i < 2 ^ 64) ∨ (-(2 ^ 64) < j ∧ j < 2 ^ 64)) : binW .Mult (.int i) (.int j) = some (.int (i * j)) := by
  simp only [binW]
  rw [if_pos]
  simp only [CMulB, Bool.or_eq_true, Bool.and_eq_true, decide_eq_true_eq]
  exact h
theorem add_ok (i j : Int) : binW .Add (.int i) (.int j) = some (.int (i + j)) := rfl
theorem mod_ok {i j : Int} (h : 0 < j) : binW .Mod (.int i) (.int j) = some (.int (i % j)) := by
  simp only [binW]
  rw [if_pos h]
theorem div_ok {i j : Int} (h : 0 < j) (h2 : j < 1073741824) : binW .FloorDiv (.int i) (.int j) = some (.int (i / j)) := by
  simp only [binW]
  rw [if_pos ⟨h, h2⟩]
theorem F12 (s i : Int) (h1 : 0 ≤ i) (h2 : i < 2 ^ 60) : ∃ r : Int, p12.f [.int s, .int i] = some (.int r, .non) := by
  let m1 := (s * 1140671 + 27644437 * i * i + 131 * i + 19) % 2147483629
  let m2 := (m1 * m1 + 62089 * i + 32416187) % 2147483587
  have hm1 : 0 ≤ m1 ∧ m1 < 2147483629 := ⟨Int.emod_nonneg _ (by decide), Int.emod_lt_of_pos _ (by decide)⟩
  have hm2 : 0 ≤ m2 ∧ m2 < 2147483587 := ⟨Int.emod_nonneg _ (by decide), Int.emod_lt_of_pos _ (by decide)⟩
  refine ⟨m2 * 48271 % 2147483647, ?_⟩
  rw [e12]
  refine f_rt (ρ0 := [some (.int s), some (.int i), none]) rfl (s_cons (t_set (ρ2 := [some (.int s), some (.int i), some (.int m1)]) (e_binP (x := .int (s * 1140671 + 27644437 * i * i + 131 * i + 19)) (y := .int 2147483629) (e_blt (a_cons (e_binP (e_binP (e_binP (e_binP (by rfl) (by rfl) (mul_ok (.inr (by decide))) (by rfl) (by rfl)) (e_binP (e_binP (by rfl) (by rfl) (mul_ok (.inl (by decide))) (by rfl) (by rfl)) (by rfl) (mul_ok (.inr (by omega))) (by rfl) (by rfl)) (add_ok _ _) (by rfl) (by rfl)) (e_binP (by rfl) (by rfl) (mul_ok (.inl (by decide))) (by rfl) (by rfl)) (add_ok _ _) (by rfl) (by rfl)) (by rfl) (add_ok _ _) (by rfl) (by rfl)) a_nil) (by rfl) (by rfl) (by rfl)) (by rfl) (mod_ok (by decide)) (by rfl) (by rfl)) (by rfl))
    (s_cons (t_set (ρ2 := [some (.int s), some (.int i), some (.int m2)]) (e_binP (x := .int (m1 * m1 + 62089 * i + 32416187)) (y := .int 2147483587) (e_blt (a_cons (e_binP (e_binP (e_binP (by rfl) (by rfl) (mul_ok (.inl (by omega))) (by rfl) (by rfl)) (e_binP (by rfl) (by rfl) (mul_ok (.inl (by decide))) (by rfl) (by rfl)) (add_ok _ _) (by rfl) (by rfl)) (by rfl) (add_ok _ _) (by rfl) (by rfl)) a_nil) (by rfl) (by rfl) (by rfl)) (by rfl) (mod_ok (by decide)) (by rfl) (by rfl)) (by rfl))
      (s_rt (t_retP (e_binP (x := .int (m2 * 48271)) (y := .int 2147483647) (e_blt (a_cons (e_binP (by rfl) (by rfl) (mul_ok (.inl (by omega))) (by rfl) (by rfl)) a_nil) (by rfl) (by rfl) (by rfl)) (by rfl) (mod_ok (by decide)) (by rfl) (by rfl)) (by rfl)))))
/-- the state of a generator that has drawn at most c values from its hash -/
def Gn (c : Nat) (w : W) : Prop := ∃ (a b : Int) (k : Nat), w = .lst true [.int a, .int b, iN k] ∧ k ≤ c
theorem Gn.mono {c d : Nat} {w : W} (h : Gn c w) (hd : c ≤ d) : Gn d w := by
  obtain ⟨a, b, k, rfl, hk⟩ := h
  exact ⟨a, b, k, rfl, by omega⟩
theorem bits_small : ∀ b : Nat, b ≤ 1000 → (Builtin.Int.intBits ((b : Nat) : Int) : Int) / 30 = 0 := by decide +kernel
theorem F13 {c bd : Nat} {gen : W} (hg : Gn c gen) (h0 : 0 < bd) (h1 : bd ≤ 1000) (hc : c < 1000000000) : ∃ (r : Nat) (gen' : W), r < bd ∧ Gn (c + 1) gen' ∧ p13.f [gen, iN bd] = some (iN r, gen') := by
  obtain ⟨a, b, k, rfl, hk⟩ := hg
  by_cases ha : 0 < a
  · refine ⟨(a % (bd : Nat)).toNat, .lst true [.int (a / (bd : Nat)), .int b, iN k], ?_, ⟨_, _, k, rfl, by omega⟩, ?_⟩
    · have := Int.emod_lt_of_pos a (b := ((bd : Nat) : Int)) (by omega)
      have := Int.emod_nonneg a (b := ((bd : Nat) : Int)) (by omega)
      omega
    · have e : ((a % ((bd : Nat) : Int)).toNat : Int) = a % (bd : Nat) := Int.toNat_of_nonneg (Int.emod_nonneg a (by omega))
      unfold iN
      rw [e, e13]
      refine f_rtI (ρ := [some (.int bd), none, none]) (ρ0 := [some (.lst true [.int a, .int b, iN k]), some (.int bd), none, none]) rfl (s_rt (t_ifT (ρ1 := [some (.lst true [.int a, .int b, iN k]), some (.int bd), none, none]) (e_cmpP (x := .int a) (y := .int 0) (by rfl) (by rfl) ?_ (by rfl)) ?_))
      · show some (decide ((0 : Int) < a)) = some true
        simp [ha]
      · refine s_cons (t_set (ρ2 := [some (.lst true [.int a, .int b, iN k]), some (.int bd), some (.int (a % (bd : Nat))), none]) (e_binP (x := .int a) (y := .int bd) (by rfl) (by rfl) (mod_ok (by omega)) (by rfl) (by rfl)) (by rfl)) ?_
        refine s_cons (t_set (ρ2 := [some (.lst true [.int (a / (bd : Nat)), .int b, iN k]), some (.int bd), some (.int (a % (bd : Nat))), none]) (e_binP (x := .int a) (y := .int bd) (by rfl) (by rfl) (div_ok (by omega) (by omega)) (by rfl) (by rfl)) (by rfl)) ?_
        exact s_rt (t_ret (by rfl))
  · obtain ⟨hh, e12'⟩ := F12 b ((k + 1 : Nat) : Int) (by omega) (by omega)
    refine ⟨((hh : Int) % (bd : Nat)).toNat, .lst true [.int a, .int b, iN (k + 1)], ?_, ⟨_, _, k + 1, rfl, by omega⟩, ?_⟩
    · have := Int.emod_lt_of_pos hh (b := ((bd : Nat) : Int)) (by omega)
      have := Int.emod_nonneg hh (b := ((bd : Nat) : Int)) (by omega)
      omega
    · have e : ((hh % ((bd : Nat) : Int)).toNat : Int) = hh % (bd : Nat) := Int.toNat_of_nonneg (Int.emod_nonneg hh (by omega))
      unfold iN
      rw [e, e13]
      refine f_rtI (ρ := [some (.int bd), some (.int hh), some (.int 0)]) (ρ0 := [some (.lst true [.int a, .int b, iN k]), some (.int bd), none, none]) rfl (s_cons (t_ifF (ρ1 := [some (.lst true [.int a, .int b, iN k]), some (.int bd), none, none]) (e_cmpP (x := .int a) (y := .int 0) (by rfl) (by rfl) ?_ (by rfl)) s_nil) ?_)
      · show some (decide ((0 : Int) < a)) = some false
        simp; omega
      · refine s_cons (t_set (ρ2 := [some (.lst true [.int a, .int b, iN k]), some (.int bd), some (.int 0), none]) (by rfl) (by rfl)) ?_
        have hr : evI T0 (lk L13) 1 (.rng1 (.bin .Add (.cst (.int 1)) (.bin .FloorDiv (.mth .bitlen (.var 1) .nil) (.cst (.int 30))))) [some (.lst true [.int a, .int b, iN k]), some (.int bd), some (.int 0), none] = some ([.int 0], [some (.lst true [.int a, .int b, iN k]), some (.int bd), some (.int 0), none]) := by
          have k1 : evE T0 (lk L13) 1 (.bin .Add (.cst (.int 1)) (.bin .FloorDiv (.mth .bitlen (.var 1) .nil) (.cst (.int 30)))) [some (.lst true [.int a, .int b, iN k]), some (.int bd), some (.int 0), none] = some (iN 1, [some (.lst true [.int a, .int b, iN k]), some (.int bd), some (.int 0), none]) := by
            refine e_binP (x := .int 1) (y := .int 0) (by rfl) (e_binP (x := .int (Builtin.Int.intBits ((bd : Nat) : Int) : Nat)) (y := .int 30) (by rfl) (by rfl) ?_ (by rfl) (by rfl)) (by rfl) (by rfl) (by rfl)
            rw [div_ok (by decide) (by decide), bits_small bd h1]
          exact i_rng1 (n := 1) k1 (by decide)
        refine s_cons (t_for hr (o := .nx [some (.lst true [.int a, .int b, iN (k + 1)]), some (.int bd), some (.int hh), some (.int 0)]) ?_) ?_
        · have hb : xSs T0 (lk L13) 1 (.cons (.set (.sub (.var 0) (.cst (.int 2))) (.bin .Add (.sub (.var 0) (.cst (.int 2))) (.cst (.int 1)))) (.cons (.set (.nm 2) (.bin .Add (.bin .Mult (.var 2) (.cst (.int 2147483587))) (.call 12 (.cons (.sub (.var 0) (.cst (.int 1))) (.cons (.sub (.var 0) (.cst (.int 2))) .nil))))) .nil)) [some (.lst true [.int a, .int b, iN k]), some (.int bd), some (.int 0), some (.int 0)] = some (.nx [some (.lst true [.int a, .int b, iN (k + 1)]), some (.int bd), some (.int hh), some (.int 0)]) := by
            refine s_cons (t_set (ρ2 := [some (.lst true [.int a, .int b, iN (k + 1)]), some (.int bd), some (.int 0), some (.int 0)]) (e_binP (x := iN k) (y := iN 1) (by rfl) (by rfl) (b_add k 1) (by rfl) (by rfl)) (by rfl)) ?_
            refine s_cons (t_set (ρ2 := [some (.lst true [.int a, .int b, iN (k + 1)]), some (.int bd), some (.int hh), some (.int 0)]) (e_binP (x := .int 0) (y := .int hh) (z := .int hh) (by rfl) (e_call (as := [.int b, iN (k + 1)]) (by rfl) (by rfl) (by rfl) (by rfl) (by rfl) (by rfl) e12' (by rfl) (by rfl)) ?_ (by rfl) (by rfl)) (by rfl)) s_nil
            rw [add_ok, Int.zero_add]
          simp only [forGo]
          have hg0 : evG T0 (lk L13) 1 (.nm 3) (.int 0) [some (.lst true [.int a, .int b, iN k]), some (.int bd), some (.int 0), none] = some [some (.lst true [.int a, .int b, iN k]), some (.int bd), some (.int 0), some (.int 0)] := by rfl
          rw [hg0]
          simp only [hb]
        · exact s_rt (t_retP (e_binP (x := .int hh) (y := .int bd) (by rfl) (by rfl) (mod_ok (by omega)) (by rfl) (by rfl)) (by rfl))
/-! ### the scripts' cells -/
theorem F14 (ns : List Int) (j : Nat) (hj : j < 4) : ∃ s : Int, p14.f [.scr (ns.map W.int), .int j] = some (.int s, .non) := by
  by_cases h : j < ns.length
  · refine ⟨ns[j], ?_⟩
    rw [e14]
    refine f_rt (ρ := [some (.scr (ns.map W.int)), some (.int j)]) (ρ0 := [some (.scr (ns.map W.int)), some (.int j)]) rfl (s_rt (t_ifT (ρ1 := [some (.scr (ns.map W.int)), some (.int j)]) (e_cmpP (x := .int j) (y := .int (ns.map W.int).length) (by rfl) (by rfl) ?_ (by rfl)) (s_rt (t_ret (w := .int ns[j]) (ρ1 := [some (.scr (ns.map W.int)), some (.int j)]) ?_))))
    · rw [List.length_map]
      show some (decide (((j : Nat) : Int) < ((ns.length : Nat) : Int))) = some true
      simp; omega
    · refine (evR_plain (by rfl)).trans (e_sub (x := .scr (ns.map W.int)) (k := .int j) (by rfl) (by rfl) (by rfl) ?_ (by rfl))
      simp only [subW, posW, List.length_map, ixN_nat h, kids]
      simp [h]
  · have hs : ∃ s : Int, sumL (match ns with | [] => [] | a :: _ => [a]) = s := ⟨_, rfl⟩
    obtain ⟨s, hs⟩ := hs
    refine ⟨s % 1000003, ?_⟩
    rw [e14]
    refine f_rt (ρ := [some (.scr (ns.map W.int)), some (.int j)]) (ρ0 := [some (.scr (ns.map W.int)), some (.int j)]) rfl (s_cons (t_ifF (ρ1 := [some (.scr (ns.map W.int)), some (.int j)]) (e_cmpP (x := .int j) (y := .int (ns.map W.int).length) (by rfl) (by rfl) ?_ (by rfl)) s_nil) (s_rt (t_retP (e_binP (x := .int s) (y := .int 1000003) ?_ (by rfl) (mod_ok (by decide)) (by rfl) (by rfl)) (by rfl))))
    · rw [List.length_map]
      show some (decide (((j : Nat) : Int) < ((ns.length : Nat) : Int))) = some false
      simp; omega
    · subst hs
      cases ns with
      | nil => rfl
      | cons a ns => rfl
theorem F15 (ns : List Int) (j : Nat) (hj : j < 4) : ∃ gen, Gn 3000 gen ∧ p15.f [.scr (ns.map W.int), .int j] = some (gen, .non) := by
  obtain ⟨s, hs⟩ := F14 ns j hj
  refine ⟨.lst true [.int ((if (0 : Int) > s - 10 ^ 18 then 0 else s - 10 ^ 18) % ((10 ^ 60) ^ 10)), .int (s % 2147483647), iN (1000 * j)], ⟨_, _, _, rfl, by omega⟩, ?_⟩
  rw [e15]
  refine f_rt (ρ := [some (.scr (ns.map W.int)), some (.int j), some (.int s)]) (ρ0 := [some (.scr (ns.map W.int)), some (.int j), none]) rfl (s_cons (t_set (ρ2 := [some (.scr (ns.map W.int)), some (.int j), some (.int s)]) (e_call (as := [.scr (ns.map W.int), .int j]) (by rfl) (by rfl) (by rfl) (by rfl) (by rfl) (by rfl) hs (by rfl) (by rfl)) (by rfl)) (s_rt (t_retP (e_lst (a_cons (ρ1 := [some (.scr (ns.map W.int)), some (.int j), some (.int s)]) ?_ (a_cons (ρ1 := [some (.scr (ns.map W.int)), some (.int j), some (.int s)]) ?_ (a_cons (ρ1 := [some (.scr (ns.map W.int)), some (.int j), some (.int s)]) ?_ a_nil))) (by show 3 ≤ lim; decide)) (by rfl))))
  · refine e_binP (x := .int (if (0 : Int) > s - 10 ^ 18 then 0 else s - 10 ^ 18)) (y := .int ((10 ^ 60) ^ 10)) (by rfl) (e_binP (x := .int (10 ^ 60)) (y := .int 10) (by rfl) (by rfl) (by simp only [binW]; rw [if_pos (by decide +kernel)]; rfl) (by rfl) (by rfl)) (mod_ok (by decide +kernel)) (by rfl) (by rfl)
  · exact e_binP (x := .int s) (y := .int 2147483647) (by rfl) (by rfl) (mod_ok (by decide)) (by rfl) (by rfl)
  · refine e_binP (x := .int 1000) (y := .int j) (by rfl) (by rfl) ?_ (by rfl) (by rfl)
    rw [mul_ok (.inl (by decide))]
    unfold iN
    rw [show ((1000 * j : Nat) : Int) = 1000 * (j : Int) from by simp]
/-! ### random orders -/
theorem eraseIdx_iL : ∀ (l : List Nat) (r : Nat), (iL l).eraseIdx r = iL (l.eraseIdx r)
  | [], r => by cases r <;> rfl
  | a :: l, 0 => rfl
  | a :: l, r + 1 => by
    show iN a :: (iL l).eraseIdx r = iN a :: iL (l.eraseIdx r)
    rw [eraseIdx_iL l r]
theorem erase_perm : ∀ (l : List Nat) (r : Nat) (h : r < l.length), (l[r] :: l.eraseIdx r).Perm l
  | a :: l, 0, h => List.Perm.refl _
  | a :: l, r + 1, h => by
    have h' : r < l.length := by simpa using h
    show (l[r] :: a :: l.eraseIdx r).Perm (a :: l)
    exact (List.Perm.swap a l[r] _).trans ((erase_perm l r h').cons a)
theorem c_ne0 {o : Bool} (l : List Nat) : cmpW .NotEq (.lst o (iL l)) (.lst true []) = some (!decide (l = [])) := c_neL (o := o) (p := true) l []
theorem len_iL {o : Bool} (l : List Nat) : bltW .len [.lst o (iL l)] = some (iN l.length) := by
  show some (W.int ((iL l).length : Nat)) = _
  rw [ints_len]
  rfl
theorem F16 {c n : Nat} {gen : W} (hg : Gn c gen) (hn : n ≤ 1000) (hc : c + n < 1000000000) : ∃ (l : List Nat) (gen' : W), Ord n l ∧ Gn (c + n) gen' ∧ p16.f [gen, iN n] = some (.lst true (iL l), gen') := by
  have hw := while_inv (c := fun ρ => evB T0 (lk L16) 1 (.cmp .NotEq (.var 2) (.lst .nil)) ρ) (b := fun ρ => xSs T0 (lk L16) 1 (.cons (.exp (.mth .append (.var 3) (.cons (.mth .pop1 (.var 2) (.cons (.call 13 (.cons (.var 0) (.cons (.blt .len (.cons (.var 2) .nil)) .nil))) .nil)) .nil))) .nil) ρ)
    (I := fun k ρ => ∃ (gen : W) (L Fd : List Nat), ρ = [some gen, some (iN n), some (.lst true (iL L)), some (.lst true (iL Fd))] ∧ L.length = k ∧ (L ++ Fd).Perm (List.range n) ∧ Gn (c + Fd.length) gen)
    (J := fun ρ => ∃ (gen : W) (Fd : List Nat), ρ = [some gen, some (iN n), some (.lst true []), some (.lst true (iL Fd))] ∧ Ord n Fd ∧ Gn (c + n) gen)
    (n := n) (m := lim) (ρ := [some gen, some (iN n), some (.lst true (iL (List.range n))), some (.lst true [])]) (by unfold lim; omega) ⟨gen, List.range n, [], rfl, by simp, by simp, hg⟩ fun k ρ hI => by
      obtain ⟨gen, L, Fd, rfl, hk, hp, hG⟩ := hI
      have htest : evE T0 (lk L16) 1 (.cmp .NotEq (.var 2) (.lst .nil)) [some gen, some (iN n), some (.lst true (iL L)), some (.lst true (iL Fd))] = some (.bl (!decide (L = [])), [some gen, some (iN n), some (.lst true (iL L)), some (.lst true (iL Fd))]) :=
        e_cmp (x := .lst false (frzL (iL L))) (y := .lst true []) (by rfl) (by rfl) (by rw [frzL_ints]; exact c_ne0 L) (by rfl)
      have hsum : L.length + Fd.length = n := by
        have := hp.length_eq
        simpa using this
      by_cases hL : L = []
      · left
        subst hL
        refine ⟨[some gen, some (iN n), some (.lst true []), some (.lst true (iL Fd))], ?_, gen, Fd, rfl, hp, ?_⟩
        · simp only [evB, htest]
          rfl
        · simp at hsum
          rw [← hsum]
          exact hG
      · right
        have hLp : 0 < L.length := List.length_pos_iff.mpr hL
        obtain ⟨r, gen', hr, hG', hf⟩ := F13 (bd := L.length) hG hLp (by omega) (by omega)
        refine ⟨[some gen, some (iN n), some (.lst true (iL L)), some (.lst true (iL Fd))], [some gen', some (iN n), some (.lst true (iL (L.eraseIdx r))), some (.lst true (iL (Fd ++ [L[r]])))], k - 1, ?_, ?_, by omega, gen', L.eraseIdx r, Fd ++ [L[r]], rfl, ?_, ?_, ?_⟩
        · simp only [evB, htest, hL]
          rfl
        · refine s_cons (t_exp (e_mut (w := .non) (x0 := .lst true (iL Fd)) (x := .lst true (iL Fd)) (ws := [iN L[r]]) (ρ1 := [some gen', some (iN n), some (.lst true (iL (L.eraseIdx r))), some (.lst true (iL Fd))]) (by rfl) (by rfl) (by rfl) (a_cons (ρ1 := [some gen', some (iN n), some (.lst true (iL (L.eraseIdx r))), some (.lst true (iL Fd))]) (e_mut (x0 := .lst true (iL L)) (x := .lst true (iL L)) (y := .lst true (iL (L.eraseIdx r))) (ws := [iN r]) (ρ1 := [some gen', some (iN n), some (.lst true (iL L)), some (.lst true (iL Fd))]) (by rfl) (by rfl) (by rfl)
            (a_cons (e_callJ (x := gen) (ρ := [some gen, some (iN n), some (.lst true (iL L)), some (.lst true (iL Fd))]) (ws := [iN L.length]) (as := [gen, iN L.length]) (by rfl) (by rfl) (by rfl) (a_cons (e_blt (ws := [.lst false (frzL (iL L))]) (by rfl) (by rw [frzL_ints]; exact len_iL L) (by rfl) (by rfl)) a_nil) (by rfl) (by rfl) (by rfl) hf) a_nil) (by rfl) ?_) a_nil) (by rfl) ?_)) s_nil
          · simp only [mutW, iN]
            rw [if_pos ⟨by omega, by omega⟩]
            simp only [ints_len, ixN_nat hr]
            have e1 : (iL L)[r]? = some (iN L[r]) := iL_get (List.getElem?_eq_getElem hr)
            have e2 : (iL L).eraseIdx r = iL (L.eraseIdx r) := eraseIdx_iL L r
            simp only [iN] at e1
            simp only [e1, e2]
          · have hl : (iL Fd).length < lim := by rw [ints_len]; unfold lim; omega
            rw [m_app hl]
            simp [iL]
        · rw [List.length_eraseIdx]
          simp [hr]; omega
        · refine List.Perm.trans ?_ hp
          rw [← List.append_assoc]
          have p1 : (L.eraseIdx r ++ Fd ++ [L[r]]).Perm (L[r] :: (L.eraseIdx r ++ Fd)) := List.perm_append_comm
          refine p1.trans ?_
          rw [← List.cons_append]
          exact (erase_perm L r hr).append_right Fd
        · rw [List.length_append, ← Nat.add_assoc]
          exact hG'
  obtain ⟨ρ', k, gen', Fd, rfl, hO, hG⟩ := hw
  refine ⟨Fd, gen', hO, hG, ?_⟩
  rw [e16]
  refine f_rtI (ρ := [some (iN n), some (.lst true []), none]) (ρ0 := [some gen, some (iN n), none, none]) rfl (s_cons (ρ1 := [some gen, some (iN n), some (.lst true (iL (List.range n))), some (.lst true [])]) ?_ (s_cons (t_while k) (s_rt (t_ret (by rfl)))))
  refine t_par2 (x := .lst true (iL (List.range n))) (y := .lst true []) (ρ1 := [some gen, some (iN n), none, none]) (ρ2 := [some gen, some (iN n), none, none]) ?_ (by rfl) ⟨by decide, by decide, by show 2 < 4; decide, by show 3 < 4; decide, by decide⟩
  have k2 : evE T0 (lk L16) 1 (.lrng1 (.var 1)) [some gen, some (iN n), none, none] = (if -(2 ^ 60) ≤ ((n : Nat) : Int) ∧ ((n : Nat) : Int) ≤ (lim : Int) then some (.lst true (rngW 0 (n : Nat)), [some gen, some (iN n), none, none]) else none) := by rfl
  rw [k2, if_pos ⟨by omega, by unfold lim; omega⟩, rng_iL]
end K90

set_option Elab.async false
set_option linter.all false
set_option maxRecDepth 100000
set_option maxHeartbeats 4000000
namespace K90
open PySem PySem.Spec PyProof.Rows L2 Ev
theorem iL_idx {l : List Nat} {A B : List Nat} {a : Nat} (h : l = A ++ a :: B) : l[A.length]? = some a := by subst h; simp
theorem F17 {A B : List Nat} {a b : Nat} (hl : (A ++ a :: b :: B).length ≤ 1000) : p17.f [oW (A ++ a :: b :: B), iN A.length] = some (.lst true (iL (A ++ b :: a :: B)), .non) := by
  rw [e17]
  have g1 : (A ++ a :: b :: B)[A.length]? = some a := by simp
  have g2 : (A ++ a :: b :: B)[A.length + 1]? = some b := by
    rw [List.getElem?_append_right (by omega)]
    simp
  have t1 : (A ++ a :: b :: B).take A.length = A := by simp
  have t2 : (A ++ a :: b :: B).drop (A.length + 2) = B := by
    rw [List.drop_append]
    simp
  simp only [List.length_append, List.length_cons] at hl
  have s1 : evE T0 (lk L17) 0 (.slc (.var 0) (.cst .non) (.var 1)) [some (oW (A ++ a :: b :: B)), some (iN A.length)] = some (.lst true (iL A), [some (oW (A ++ a :: b :: B)), some (iN A.length)]) :=
    e_slc (x := oW (A ++ a :: b :: B)) (by rfl) (po_no (by rfl)) (po_so (i := (A.length : Nat)) (by rfl) (by rfl)) (by rw [sl_take, t1]) (by rfl) (by simp only [iso, isoL_ints, Bool.and_self])
  have s2 : evE T0 (lk L17) 0 (.slc (.var 0) (.bin .Add (.var 1) (.cst (.int 2))) (.cst .non)) [some (oW (A ++ a :: b :: B)), some (iN A.length)] = some (.lst true (iL B), [some (oW (A ++ a :: b :: B)), some (iN A.length)]) :=
    e_slc (x := oW (A ++ a :: b :: B)) (by rfl) (po_so (i := ((A.length + 2 : Nat) : Int)) (by rfl) (e_binP (x := iN A.length) (y := iN 2) (by rfl) (by rfl) (b_add _ _) (by rfl) (by rfl))) (po_no (by rfl)) (by rw [sl_drop, t2]) (by rfl) (by simp only [iso, isoL_ints, Bool.and_self])
  have s3 : evE T0 (lk L17) 0 (.lst (.cons (.sub (.var 0) (.bin .Add (.var 1) (.cst (.int 1)))) (.cons (.sub (.var 0) (.var 1)) .nil))) [some (oW (A ++ a :: b :: B)), some (iN A.length)] = some (.lst true (iL [b, a]), [some (oW (A ++ a :: b :: B)), some (iN A.length)]) :=
    e_lst (a_cons (e_sub (k := iN (A.length + 1)) (by rfl) (e_binP (x := iN A.length) (y := iN 1) (by rfl) (by rfl) (b_add _ _) (by rfl) (by rfl)) (by rfl) (sub_iL g2) (by rfl)) (a_cons (e_sub (k := iN A.length) (by rfl) (by rfl) (by rfl) (sub_iL g1) (by rfl)) a_nil)) (by show 2 ≤ lim; decide)
  refine f_rt (ρ0 := [some (oW (A ++ a :: b :: B)), some (iN A.length)]) rfl (s_rt (t_retP (e_binP (e_binP s1 s3 (cat_iL _ _ ?_) (by rfl) (by simp only [iso, isoL_ints, Bool.and_self])) s2 ?_ (by rfl) (by simp only [iso, isoL_ints, Bool.and_self])) (by rfl)))
  · simp only [List.length_cons, List.length_nil]; unfold lim; omega
  · rw [cat_iL _ _ (by simp only [List.length_append, List.length_cons, List.length_nil]; unfold lim; omega)]
    simp
def lcnt (A : List Nat) (a b : Nat) : Nat := (A.filter fun z => decide (min a b < z) && decide (z < max a b)).length
theorem min_iN (a b : Nat) : bltW .min [iN a, iN b] = some (iN (min a b)) := by
  simp only [bltW, iN]
  by_cases h : a ≤ b
  · rw [if_neg (by omega), Nat.min_eq_left h]
  · rw [if_pos (by omega), Nat.min_eq_right (by omega)]
theorem max_iN (a b : Nat) : bltW .max [iN a, iN b] = some (iN (max a b)) := by
  simp only [bltW, iN]
  by_cases h : b ≤ a
  · rw [if_neg (by omega), Nat.max_eq_left h]
  · rw [if_pos (by omega), Nat.max_eq_right (by omega)]
theorem e_chn {T : Tab} {Φ : Nat → Fun} {prot : Nat} {ρ : Rho} {op op' : CmpOp} {a b c : E} {x y z : W} {k l : Bool} (ha : evE T Φ prot a ρ = some (x, ρ)) (hb : evE T Φ prot b ρ = some (y, ρ)) (hc : evE T Φ prot c ρ = some (z, ρ)) (h1 : cmpW op x y = some k) (h2 : cmpW op' y z = some l) (hp : (pureE Φ a && (pureE Φ b && pureE Φ c)) = true) :
    evE T Φ prot (.chn op op' a b c) ρ = some (.bl (k && l), ρ) := by
  simp only [evE, ha, hb, h1]
  cases k with
  | true =>
    simp only [hc, h2]
    exact keep_t rfl hp rfl
  | false => exact keep_t rfl hp rfl
theorem F18 {A B : List Nat} {a b : Nat} (hl : (A ++ a :: b :: B).length ≤ 1000) : p18.f [oW (A ++ a :: b :: B), iN A.length] = some (iN (lcnt A a b), .non) := by
  rw [e18]
  have g1 : (A ++ a :: b :: B)[A.length]? = some a := by simp
  have g2 : (A ++ a :: b :: B)[A.length + 1]? = some b := by
    rw [List.getElem?_append_right (by omega)]
    simp
  have t1 : (A ++ a :: b :: B).take A.length = A := by simp
  simp only [List.length_append, List.length_cons] at hl
  have x1 : evEs T0 (lk L18) 0 (.cons (.sub (.var 0) (.var 1)) (.cons (.sub (.var 0) (.bin .Add (.var 1) (.cst (.int 1)))) .nil)) [some (oW (A ++ a :: b :: B)), some (iN A.length), none, none, none] = some ([iN a, iN b], [some (oW (A ++ a :: b :: B)), some (iN A.length), none, none, none]) :=
    a_cons (e_sub (k := iN A.length) (by rfl) (by rfl) (by rfl) (sub_iL g1) (by rfl)) (a_cons (e_sub (k := iN (A.length + 1)) (by rfl) (e_binP (x := iN A.length) (y := iN 1) (by rfl) (by rfl) (b_add _ _) (by rfl) (by rfl)) (by rfl) (sub_iL g2) (by rfl)) a_nil)
  have s1 : evE T0 (lk L18) 0 (.slc (.var 0) (.cst .non) (.var 1)) [some (oW (A ++ a :: b :: B)), some (iN A.length), some (iN (min a b)), some (iN (max a b)), none] = some (.lst true (iL A), [some (oW (A ++ a :: b :: B)), some (iN A.length), some (iN (min a b)), some (iN (max a b)), none]) :=
    e_slc (x := oW (A ++ a :: b :: B)) (by rfl) (po_no (by rfl)) (po_so (i := (A.length : Nat)) (by rfl) (by rfl)) (by rw [sl_take, t1]) (by rfl) (by simp only [iso, isoL_ints, Bool.and_self])
  have k := e_lcE (T := T0) (Φ := lk L18) (prot := 0) (enc := iN) (l := A) (fe := iN) (tb := fun z => decide (min a b < z) && decide (z < max a b)) (own := [("number", 4)]) (elt := .var 4) (tg := .nm 4) (it := .seq (.slc (.var 0) (.cst .non) (.var 1))) (ifs := .cons (.chn .Lt .Lt (.var 2) (.var 4) (.var 3)) .nil)
    (i_seq s1 (seq_iL A)) (by rfl) (by unfold lim; omega) rfl (fun z _ => ⟨[some (oW (A ++ a :: b :: B)), some (iN A.length), some (iN (min a b)), some (iN (max a b)), some (iN z)], _, by rfl, ts_one (e_chn (by rfl) (by rfl) (by rfl) (c_lt _ _) (c_lt _ _) (by rfl)), fun _ => by rfl, fun _ => ⟨_, by rfl, by rfl⟩⟩) (by rfl) (isoL_ints _)
  refine f_rt (ρ0 := [some (oW (A ++ a :: b :: B)), some (iN A.length), none, none, none]) rfl (s_cons (t_set (w := .tup false [iN (min a b), iN (max a b)]) (ρ1 := [some (oW (A ++ a :: b :: B)), some (iN A.length), none, none, none]) (ρ2 := [some (oW (A ++ a :: b :: B)), some (iN A.length), some (iN (min a b)), some (iN (max a b)), none]) ?_ (by rfl)) (s_rt (t_retP (e_blt (a_cons k a_nil) (len_iL _) (by rfl) (by rfl)) (by rfl))))
  exact e_tup (a_cons (e_blt x1 (min_iN _ _) (by rfl) (by rfl)) (a_cons (e_blt x1 (max_iN _ _) (by rfl) (by rfl)) a_nil)) (by show 2 ≤ lim; decide)
/-- the places as a dict -/
abbrev pW (o : Bool) (l : List Nat) : W := .dK o (kI l) (iL (List.range l.length))
theorem zip_nd {n : Nat} {l : List Nat} (h : Ord n l) (hn : n ≤ 200) {L : List Fun} {prot i j k : Nat} {own : List (Str × Nat)} {ρ r1 : Rho} {o : Bool} (he : evE T0 (lk L) prot (.var k) ρ = some (.lst o (iL l), r1)) (htg : tgIn (own.map (·.2)) (.tp (.cons (.nm i) (.cons (.nm j) .nil))) = true) {r0 : Rho} (h0 : wipeR r1 (own.map (·.2)) = r0)
    (ht : ∀ x m : Nat, ∃ ρ1, evG T0 (lk L) prot (.tp (.cons (.nm i) (.cons (.nm j) .nil))) (.tup false [iN x, iN m]) r0 = some ρ1 ∧ evE T0 (lk L) prot (.tup (.cons (.var j) (.cons (.var i) .nil))) ρ1 = some (.tup false [iN m, iN x], ρ1) ∧ wipeR ρ1 (own.map (·.2)) = r0) :
    evE T0 (lk L) prot (.blt .dict (.cons (.lc own (.tup (.cons (.var j) (.cons (.var i) .nil))) (.tp (.cons (.nm i) (.cons (.nm j) .nil))) (.enum (.var k)) .nil) .nil)) ρ = some (pW true l, ρ) := by
  have k1 := e_lcE (T := T0) (Φ := lk L) (prot := prot) (ρ := ρ) (enc := fun p : Nat × Nat => W.tup false [iN p.2, iN p.1]) (l := l.zipIdx) (fe := fun p => W.tup false [iN p.1, iN p.2]) (tb := fun _ => true) (own := own) (elt := .tup (.cons (.var j) (.cons (.var i) .nil))) (tg := .tp (.cons (.nm i) (.cons (.nm j) .nil))) (it := .enum (.var k)) (ifs := .nil)
    (i_enum he) htg (by rw [List.length_zipIdx, h.len]; unfold lim; omega) h0 (fun p _ => by
      obtain ⟨ρ1, h1, h2, h3⟩ := ht p.2 p.1
      exact ⟨ρ1, ρ1, h1, by simp only [evTs], fun z => (by cases z), fun _ => ⟨ρ1, h2, h3⟩⟩) (by rfl) (isoL_map fun _ _ => by rfl)
  rw [show ((l.zipIdx).filter fun _ => true) = l.zipIdx from by simp] at k1
  exact e_blt (a_cons k1 a_nil) (dict_zip h.nd) (by rfl) (by simp only [iso, isoL_ints, Bool.and_self])
theorem pW_sub {o : Bool} {n : Nat} {l : List Nat} (h : Ord n l) {x : Nat} (hx : x < n) : subW (pW o l) (iN x) = some (iN (pl l x)) := sub_pos (h.mem.mpr hx)
def stepsN (l : List Nat) (g : Nat → Nat) : List Nat := (List.range (l.length - 1)).filter fun i => decide (g (l.getD (i + 1) 0) < g (l.getD i 0))
theorem F22 {n : Nat} {l m : List Nat} (h : Ord n l) (h' : Ord n m) (h1 : 1 ≤ n) (hn : n ≤ 200) : p22.f [oW l, oW m] = some (.lst true (iL (stepsN l (pl m))), .non) := by
  rw [e22]
  have z := zip_nd (L := L22) (prot := 0) (i := 3) (j := 4) (k := 1) (own := [("at", 3), ("number", 4)]) (ρ := [some (oW l), some (oW m), none, none, none]) (r1 := [some (oW l), some (oW m), none, none, none]) h' hn (by rfl) (by rfl) rfl fun x y => ⟨_, by rfl, by rfl, by rfl⟩
  have k := e_lcE (T := T0) (Φ := lk L22) (prot := 0) (ρ := [some (oW l), some (oW m), some (pW true m), none, none]) (enc := iN) (l := List.range (l.length - 1)) (fe := iN) (tb := fun i => decide (pl m (l.getD (i + 1) 0) < pl m (l.getD i 0))) (own := [("at", 3)]) (elt := .var 3) (tg := .nm 3) (it := .rng1 (.bin .Sub (.blt .len (.cons (.var 0) .nil)) (.cst (.int 1)))) (ifs := .cons (.cmp .Gt (.sub (.var 2) (.sub (.var 0) (.var 3))) (.sub (.var 2) (.sub (.var 0) (.bin .Add (.var 3) (.cst (.int 1)))))) .nil)
    (i_rng1 (e_binP (x := iN l.length) (y := iN 1) (e_blt (a_cons (by rfl) a_nil) (len_iL l) (by rfl) (by rfl)) (by rfl) (by
      rw [h.len]
      show some (W.int (((n : Nat) : Int) - 1)) = some (W.int ((n - 1 : Nat) : Int))
      congr 2; omega) (by rfl) (by rfl)) (by rw [h.len]; omega)) (by rfl) (by rw [List.length_range, h.len]; unfold lim; omega) rfl (fun i hi => by
        rw [List.mem_range, h.len] at hi
        have g1 : l[i]? = some (l.getD i 0) := by
          rw [List.getD_eq_getElem?_getD]
          have : i < l.length := by rw [h.len]; omega
          rw [List.getElem?_eq_getElem this]; rfl
        have g2 : l[i + 1]? = some (l.getD (i + 1) 0) := by
          rw [List.getD_eq_getElem?_getD]
          have : i + 1 < l.length := by rw [h.len]; omega
          rw [List.getElem?_eq_getElem this]; rfl
        have m1 := h.mem.mp (List.mem_of_getElem? g1)
        have m2 := h.mem.mp (List.mem_of_getElem? g2)
        refine ⟨[some (oW l), some (oW m), some (pW true m), some (iN i), none], _, by rfl, ts_one (e_cmpP (e_sub (x := pW true m) (by rfl) (e_sub (k := iN i) (by rfl) (by rfl) (by rfl) (sub_iL g1) (by rfl)) (by rfl) (pW_sub h' m1) (by rfl)) (e_sub (x := pW true m) (by rfl) (e_sub (k := iN (i + 1)) (by rfl) (e_binP (x := iN i) (y := iN 1) (by rfl) (by rfl) (b_add _ _) (by rfl) (by rfl)) (by rfl) (sub_iL g2) (by rfl)) (by rfl) (pW_sub h' m2) (by rfl)) (c_gt _ _) (by rfl)), fun _ => by rfl, fun _ => ⟨_, by rfl, by rfl⟩⟩) (by rfl) (isoL_ints _)
  exact f_rt (ρ0 := [some (oW l), some (oW m), none, none, none]) rfl (s_cons (t_set (ρ2 := [some (oW l), some (oW m), some (pW true m), none, none]) z (by rfl)) (s_rt (t_retP k (by rfl))))
end K90

set_option Elab.async false
set_option linter.all false
set_option maxRecDepth 100000
set_option maxHeartbeats 4000000
namespace K90
open PySem PySem.Spec PyProof.Rows L2 Ev
/-! ### the law's unlike pairs -/
def rowL (g : Nat → Nat) (a : Nat) (T : List Nat) : List (Nat × Nat) := (T.filter fun b => decide (g b < g a)).map fun b => (min a b, max a b)
def lawR (g : Nat → Nat) : List Nat → List (Nat × Nat)
  | [] => []
  | a :: T => rowL g a T ++ lawR g T
def lawTo (g : Nat → Nat) (l : List Nat) (i : Nat) : List (Nat × Nat) := (List.range i).flatMap fun k => rowL g (l.getD k 0) (l.drop (k + 1))
theorem lawTo_succ (g : Nat → Nat) (l : List Nat) (i : Nat) : lawTo g l (i + 1) = lawTo g l i ++ rowL g (l.getD i 0) (l.drop (i + 1)) := by
  unfold lawTo
  rw [List.range_succ, List.flatMap_append]
  simp
theorem lawTo_all (g : Nat → Nat) : ∀ l : List Nat, lawTo g l l.length = lawR g l
  | [] => rfl
  | a :: T => by
    have ih := lawTo_all g T
    unfold lawTo at ih ⊢
    rw [List.length_cons, List.range_succ_eq_map, List.flatMap_cons, List.flatMap_map]
    unfold lawR
    rw [← ih]
    rfl
theorem rowL_len (g : Nat → Nat) (a : Nat) (T : List Nat) : (rowL g a T).length ≤ T.length := by
  unfold rowL
  rw [List.length_map]
  exact List.length_filter_le _ _
theorem lawTo_len (g : Nat → Nat) (l : List Nat) : ∀ i, (lawTo g l i).length ≤ i * l.length
  | 0 => by simp [lawTo]
  | i + 1 => by
    rw [lawTo_succ, List.length_append, Nat.succ_mul]
    have h1 := lawTo_len g l i
    have h2 := rowL_len g (l.getD i 0) (l.drop (i + 1))
    rw [List.length_drop] at h2
    omega
theorem mem_rowL {g : Nat → Nat} {a : Nat} {T : List Nat} {p : Nat × Nat} : p ∈ rowL g a T ↔ ∃ b ∈ T, g b < g a ∧ p = (min a b, max a b) := by
  unfold rowL
  simp only [List.mem_map, List.mem_filter, decide_eq_true_eq]
  constructor
  · rintro ⟨b, ⟨h1, h2⟩, rfl⟩
    exact ⟨b, h1, h2, rfl⟩
  · rintro ⟨b, h1, h2, rfl⟩
    exact ⟨b, ⟨h1, h2⟩, rfl⟩
theorem mem_lawR {f g : Nat → Nat} {p : Nat × Nat} : ∀ {l : List Nat}, l.Pairwise (fun x y => f x < f y) → (p ∈ lawR g l ↔ ∃ a ∈ l, ∃ b ∈ l, f a < f b ∧ g b < g a ∧ p = (min a b, max a b))
  | [], _ => by simp [lawR]
  | x :: T, h => by
    have h' := List.pairwise_cons.mp h
    unfold lawR
    rw [List.mem_append, mem_rowL, mem_lawR h'.2]
    constructor
    · rintro (⟨b, h1, h2, h3⟩ | ⟨a, h1, b, h2, h3, h4, h5⟩)
      · exact ⟨x, List.mem_cons_self .., b, List.mem_cons_of_mem _ h1, h'.1 b h1, h2, h3⟩
      · exact ⟨a, List.mem_cons_of_mem _ h1, b, List.mem_cons_of_mem _ h2, h3, h4, h5⟩
    · rintro ⟨a, h1, b, h2, h3, h4, h5⟩
      rcases List.mem_cons.mp h1 with e1 | k1
      · rcases List.mem_cons.mp h2 with e2 | k2
        · rw [e1, e2] at h3
          exact absurd h3 (Nat.lt_irrefl _)
        · rw [e1] at h4 h5
          exact .inl ⟨b, k2, h4, h5⟩
      · rcases List.mem_cons.mp h2 with e2 | k2
        · have := h'.1 a k1
          rw [e2] at h3
          omega
        · exact .inr ⟨a, k1, b, k2, h3, h4, h5⟩
theorem nd_lawR {g : Nat → Nat} : ∀ {l : List Nat}, l.Nodup → (lawR g l).Nodup
  | [], _ => List.nodup_nil
  | x :: T, h => by
    have h' := List.nodup_cons.mp h
    unfold lawR
    refine List.nodup_append.mpr ⟨?_, nd_lawR h'.2, ?_⟩
    · unfold rowL List.Nodup
      rw [List.pairwise_map]
      refine List.Pairwise.imp_of_mem ?_ (h'.2.filter _)
      intro b c hb hc hne e
      have hb' := (List.mem_filter.mp hb).1
      have hc' := (List.mem_filter.mp hc).1
      have e1 := congrArg Prod.fst e
      have e2 := congrArg Prod.snd e
      simp only at e1 e2
      have nb : b ≠ x := fun z => h'.1 (z ▸ hb')
      have nc : c ≠ x := fun z => h'.1 (z ▸ hc')
      apply hne
      omega
    · intro p hp q hq e
      subst e
      obtain ⟨b, hb, _, rfl⟩ := mem_rowL.mp hp
      have key : ∀ {L : List Nat} {p : Nat × Nat}, p ∈ lawR g L → p.1 ∈ L ∧ p.2 ∈ L := by
        intro L
        induction L with
        | nil => intro p h; cases h
        | cons y L ih =>
          intro p h
          unfold lawR at h
          rcases List.mem_append.mp h with h | h
          · obtain ⟨c, hc, _, rfl⟩ := mem_rowL.mp h
            constructor
            · rcases Nat.le_total y c with z | z
              · rw [show (min y c, max y c).1 = y from Nat.min_eq_left z]; exact List.mem_cons_self ..
              · rw [show (min y c, max y c).1 = c from Nat.min_eq_right z]; exact List.mem_cons_of_mem _ hc
            · rcases Nat.le_total y c with z | z
              · rw [show (min y c, max y c).2 = c from Nat.max_eq_right z]; exact List.mem_cons_of_mem _ hc
              · rw [show (min y c, max y c).2 = y from Nat.max_eq_left z]; exact List.mem_cons_self ..
          · exact ⟨List.mem_cons_of_mem _ (ih h).1, List.mem_cons_of_mem _ (ih h).2⟩
      obtain ⟨k1, k2⟩ := key hq
      rcases Nat.le_total x b with z | z
      · exact h'.1 (by have : (min x b, max x b).1 = x := Nat.min_eq_left z; rwa [this] at k1)
      · exact h'.1 (by have : (min x b, max x b).2 = x := Nat.max_eq_left z; rwa [this] at k2)
theorem pw_pl {l : List Nat} (h : l.Nodup) : l.Pairwise fun x y => pl l x < pl l y := by
  rw [List.pairwise_iff_getElem]
  intro i j hi hj hij
  unfold pl
  rw [h.idxOf_getElem i hi, h.idxOf_getElem j hj]
  exact hij
theorem pl_inj {n : Nat} {l : List Nat} (h : Ord n l) {x y : Nat} (hx : x < n) (hy : y < n) (e : pl l x = pl l y) : x = y := by
  have h1 := List.idxOf_lt_length_iff.mpr (h.mem.mpr hx)
  have h2 := List.idxOf_lt_length_iff.mpr (h.mem.mpr hy)
  have e1 := List.getElem_idxOf h1
  have e2 := List.getElem_idxOf h2
  unfold pl at e
  rw [← e1, ← e2]
  congr 1
theorem unl_srt (f g : Nat → Nat) (n : Nat) : (unl f g n).Pairwise lexN := by
  have key : ∀ i, (unlTo f g n i).Pairwise lexN ∧ ∀ p ∈ unlTo f g n i, p.1 < i := by
    intro i
    induction i with
    | zero => simp [unlTo]
    | succ i ih =>
      rw [unlTo_succ]
      refine ⟨List.pairwise_append.mpr ⟨ih.1, ?_, fun p hp q hq => ?_⟩, fun p hp => ?_⟩
      · unfold rowU
        rw [List.pairwise_map]
        refine List.Pairwise.imp ?_ (List.Pairwise.filter _ List.pairwise_lt_range')
        intro a b hab
        exact .inr ⟨rfl, hab⟩
      · unfold rowU at hq
        obtain ⟨b, _, rfl⟩ := List.mem_map.mp hq
        exact .inl (ih.2 p hp)
      · rcases List.mem_append.mp hp with hp | hp
        · exact Nat.lt_succ_of_lt (ih.2 p hp)
        · unfold rowU at hp
          obtain ⟨b, _, rfl⟩ := List.mem_map.mp hp
          exact Nat.lt_succ_self i
  exact (key n).1
theorem unl_nd (f g : Nat → Nat) (n : Nat) : (unl f g n).Nodup := (unl_srt f g n).imp fun {a b} h e => by
  subst e
  have h : a.1 < a.1 ∨ a.1 = a.1 ∧ a.2 < a.2 := h
  omega
theorem law_perm {n : Nat} {l m : List Nat} (h : Ord n l) (h' : Ord n m) : (unl (pl l) (pl m) n).Perm (lawR (pl m) l) := by
  refine (List.perm_ext_iff_of_nodup (unl_nd _ _ _) (nd_lawR h.nd)).mpr fun p => ?_
  rw [mem_unl, mem_lawR (f := pl l) (pw_pl h.nd)]
  constructor
  · rintro ⟨h1, h2, h3⟩
    have i1 := pl_inj h (x := p.1) (y := p.2) (by omega) h2
    have i2 := pl_inj h' (x := p.1) (y := p.2) (by omega) h2
    have d1 : pl l p.1 ≠ pl l p.2 := fun e => by have := i1 e; omega
    have d2 : pl m p.1 ≠ pl m p.2 := fun e => by have := i2 e; omega
    simp only [unB, bne_iff_ne, ne_eq] at h3
    by_cases c1 : pl l p.1 < pl l p.2
    · have c2 : ¬ pl m p.1 < pl m p.2 := fun c2 => h3 (by simp [c1, c2])
      exact ⟨p.1, h.mem.mpr (by omega), p.2, h.mem.mpr h2, c1, by omega, by rw [Nat.min_eq_left (by omega), Nat.max_eq_right (by omega)]⟩
    · have c2 : pl m p.1 < pl m p.2 := by
        rcases Nat.lt_or_ge (pl m p.1) (pl m p.2) with c | c
        · exact c
        · exact absurd (by simp [c1, Nat.not_lt.mpr c]) h3
      exact ⟨p.2, h.mem.mpr h2, p.1, h.mem.mpr (by omega), by omega, c2, by rw [Nat.min_eq_right (by omega), Nat.max_eq_left (by omega)]⟩
  · rintro ⟨a, ha, b, hb, h1, h2, rfl⟩
    have ha' := h.mem.mp ha
    have hb' := h.mem.mp hb
    have hne : a ≠ b := fun e => by subst e; omega
    simp only [unB, bne_iff_ne, ne_eq]
    rcases Nat.lt_or_gt_of_ne hne with hlt | hlt
    · rw [Nat.min_eq_left (by omega), Nat.max_eq_right (by omega)]
      refine ⟨hlt, hb', fun e => ?_⟩
      have e1 : decide (pl l a < pl l b) = true := decide_eq_true h1
      rw [e1] at e
      have := of_decide_eq_true e.symm
      omega
    · rw [Nat.min_eq_right (by omega), Nat.max_eq_left (by omega)]
      refine ⟨hlt, ha', fun e => ?_⟩
      have e1 : decide (pl m b < pl m a) = true := decide_eq_true h2
      rw [e1] at e
      have := of_decide_eq_true e
      omega
end K90

set_option Elab.async false
set_option linter.all false
set_option maxRecDepth 100000
set_option maxHeartbeats 4000000
namespace K90
open PySem PySem.Spec PyProof.Rows L2 Ev
theorem getD_get {l : List Nat} {i : Nat} (h : i < l.length) : l[i]? = some (l.getD i 0) := by
  rw [List.getD_eq_getElem?_getD, List.getElem?_eq_getElem h]
  rfl
theorem zip_get {l : List Nat} {i : Nat} {p : Nat × Nat} (h : (l.zipIdx)[i]? = some p) : i < l.length ∧ p = (l.getD i 0, i) := by
  have hi : i < l.length := by
    have := (List.getElem?_eq_some_iff.mp h).1
    rwa [List.length_zipIdx] at this
  rw [List.getElem?_zipIdx, getD_get hi] at h
  simp only [Option.map_some, Nat.zero_add, Option.some.injEq] at h
  exact ⟨hi, h.symm⟩
theorem F19 {n : Nat} {l m : List Nat} (h : Ord n l) (h' : Ord n m) (hn : n ≤ 200) : p19.f [oW l, oW m] = some (.lst true (prs (unl (pl l) (pl m) n)), .non) := by
  rw [e19]
  have z := zip_nd (L := L19) (prot := 0) (i := 4) (j := 5) (k := 1) (own := [("at", 4), ("number", 5)]) (ρ := [some (oW l), some (oW m), none, none, none, none, none, none]) (r1 := [some (oW l), some (oW m), none, none, none, none, none, none]) h' hn (by rfl) (by rfl) rfl fun x y => ⟨_, by rfl, by rfl, by rfl⟩
  let g := pl m
  have lenP : ∀ i T, i < n → T.length ≤ n → (prs (lawTo g l i ++ rowL g (l.getD i 0) T)).length < lim := fun i T hi hj => by
    have h1 := lawTo_len g l i
    have h2 := rowL_len g (l.getD i 0) T
    rw [h.len] at h1
    have h3 : i * n ≤ 200 * 200 := Nat.mul_le_mul (by omega) hn
    simp only [prs, List.length_map, List.length_append]
    unfold lim
    omega
  let ib : Ss := (.cons (.ite (.cmp .Gt (.sub (.var 2) (.var 6)) (.sub (.var 2) (.var 7))) (.cons (.exp (.mth .append (.var 3) (.cons (.tup (.cons (.blt .min (.cons (.var 6) (.cons (.var 7) .nil))) (.cons (.blt .max (.cons (.var 6) (.cons (.var 7) .nil))) .nil))) .nil))) .nil) .nil) .nil)
  have hout := for_ixE (enc := fun p : Nat × Nat => W.tup false [iN p.2, iN p.1]) (l := l.zipIdx) (ρ := [some (oW l), some (oW m), some (pW true m), some (.lst true []), none, none, none, none]) (t := fun w ρ => evG T0 (lk L19) 0 (.tp (.cons (.nm 4) (.cons (.nm 6) .nil))) w ρ) (b := fun ρ => xSs T0 (lk L19) 0 (.cons (.for (.nm 7) (.seq (.slc (.var 0) (.bin .Add (.var 4) (.cst (.int 1))) (.cst .non))) ib) .nil) ρ)
    (I := fun i ρ => ∃ a b c d, ρ = [some (oW l), some (oW m), some (pW true m), some (.lst true (prs (lawTo g l i))), a, b, c, d]) ⟨none, none, none, none, rfl⟩ fun i ρ p hp hI => by
      obtain ⟨a, b, c, d, rfl⟩ := hI
      obtain ⟨hi, rfl⟩ := zip_get hp
      have hi' : i < n := by rwa [h.len] at hi
      let x := l.getD i 0
      have hx : x < n := h.mem.mp (List.mem_of_getElem? (getD_get hi))
      have hin := for_ixE (enc := iN) (l := l.drop (i + 1)) (ρ := [some (oW l), some (oW m), some (pW true m), some (.lst true (prs (lawTo g l i))), some (iN i), b, some (iN x), d]) (t := fun w ρ => evG T0 (lk L19) 0 (.nm 7) w ρ) (b := fun ρ => xSs T0 (lk L19) 0 ib ρ)
        (I := fun j ρ => ∃ d, ρ = [some (oW l), some (oW m), some (pW true m), some (.lst true (prs (lawTo g l i ++ rowL g x ((l.drop (i + 1)).take j)))), some (iN i), b, some (iN x), d]) ⟨d, by simp [rowL]⟩ fun j ρ y hy hI => by
          obtain ⟨d, rfl⟩ := hI
          have hyl : y ∈ l := List.mem_of_mem_drop (List.mem_of_getElem? hy)
          have hyn := h.mem.mp hyl
          have e1 : evE T0 (lk L19) 0 (.cmp .Gt (.sub (.var 2) (.var 6)) (.sub (.var 2) (.var 7))) [some (oW l), some (oW m), some (pW true m), some (.lst true (prs (lawTo g l i ++ rowL g x ((l.drop (i + 1)).take j)))), some (iN i), b, some (iN x), some (iN y)] = some (.bl (decide (g y < g x)), [some (oW l), some (oW m), some (pW true m), some (.lst true (prs (lawTo g l i ++ rowL g x ((l.drop (i + 1)).take j)))), some (iN i), b, some (iN x), some (iN y)]) :=
            e_cmpP (e_sub (x := pW true m) (by rfl) (by rfl) (by rfl) (pW_sub h' hx) (by rfl)) (e_sub (x := pW true m) (by rfl) (by rfl) (by rfl) (pW_sub h' hyn) (by rfl)) (c_gt _ _) (by rfl)
          have hrow : rowL g x ((l.drop (i + 1)).take (j + 1)) = rowL g x ((l.drop (i + 1)).take j) ++ (if decide (g y < g x) = true then [(min x y, max x y)] else []) := by
            unfold rowL
            rw [List.take_add_one, hy, List.filter_append, List.map_append]
            congr 1
            by_cases hc : decide (g y < g x) = true
            · rw [if_pos hc]; simp [hc]
            · rw [if_neg hc]; simp [hc]
          refine ⟨_, [some (oW l), some (oW m), some (pW true m), some (.lst true (prs (lawTo g l i ++ rowL g x ((l.drop (i + 1)).take (j + 1))))), some (iN i), b, some (iN x), some (iN y)], by rfl, s_cons (t_if e1 (fun hk => ?_) fun hk => ?_) s_nil, _, rfl⟩
          · rw [hrow, if_pos hk, ← List.append_assoc, prs_app (_ ++ _)]
            have hlen := lenP i ((l.drop (i + 1)).take j) hi' (by rw [List.length_take, List.length_drop, h.len]; omega)
            exact s_cons (t_exp (e_mut (x := .lst true (prs (lawTo g l i ++ rowL g x ((l.drop (i + 1)).take j)))) (by rfl) (by rfl) (by rfl) (a_cons (e_tup (a_cons (e_blt (ws := [iN x, iN y]) (by rfl) (min_iN _ _) (by rfl) (by rfl)) (a_cons (e_blt (ws := [iN x, iN y]) (by rfl) (max_iN _ _) (by rfl) (by rfl)) a_nil)) (by show 2 ≤ lim; decide)) a_nil) (by rfl) (m_app hlen))) s_nil
          · rw [hrow, if_neg (by rw [hk]; decide), List.append_nil]
            exact s_nil
      obtain ⟨ρ', h1, d', rfl⟩ := hin
      rw [List.take_length] at h1
      refine ⟨_, _, by rfl, s_cons (t_for (i_seq (w := .lst true (iL (l.drop (i + 1)))) ?_ (seq_iL _)) h1) s_nil, some (iN i), b, some (iN x), d', by rw [lawTo_succ]⟩
      exact e_slc (x := oW l) (by rfl) (po_so (i := ((i + 1 : Nat) : Int)) (by rfl) (e_binP (x := iN i) (y := iN 1) (by rfl) (by rfl) (b_add _ _) (by rfl) (by rfl))) (po_no (by rfl)) (sl_drop _ _) (by rfl) (by simp only [iso, isoL_ints, Bool.and_self])
  obtain ⟨ρ', h1, a, b, c, d, rfl⟩ := hout
  rw [List.length_zipIdx, lawTo_all] at h1
  refine f_rt (ρ := [some (oW l), some (oW m), some (pW true m), some (.lst true (prs (lawR g l))), a, b, c, d]) (ρ0 := [some (oW l), some (oW m), none, none, none, none, none, none]) rfl (s_cons (ρ1 := [some (oW l), some (oW m), some (pW true m), some (.lst true []), none, none, none, none]) ?_ (s_cons (t_for (i_enum (by rfl)) h1) (s_rt (t_retP ?_ (by rfl)))))
  · exact t_par2 (ρ1 := [some (oW l), some (oW m), none, none, none, none, none, none]) (ρ2 := [some (oW l), some (oW m), none, none, none, none, none, none]) (x := pW true m) (y := .lst true []) z (by rfl) ⟨by decide, by decide, by show 2 < 8; decide, by show 3 < 8; decide, by decide⟩
  · refine e_blt (ws := [.lst false (frzL (prs (lawR g l)))]) (by rfl) ?_ (by rfl) (by simp only [iso, isoL_prs, Bool.and_self])
    rw [frzL_prs]
    exact sort_prs (law_perm h h') (unl_srt _ _ _)
theorem F20 {n lo hi : Nat} {l m : List Nat} (h : Ord n l) (h' : Ord n m) (hn : n ≤ 200) (h1 : lo < hi) (h2 : hi < n) : p20.f [oW l, oW m, iN lo, iN hi] = some (quad (pl l) (pl m) (lo, hi), .non) := by
  rw [e20]
  let f := pl l
  let g := pl m
  have z1 := zip_nd (L := L20) (prot := 0) (i := 5) (j := 6) (k := 0) (own := [("at", 5), ("number", 6)]) (ρ := [some (oW l), some (oW m), some (iN lo), some (iN hi), none, none, none, none, none, none, none, none, none]) (r1 := [some (oW l), some (oW m), some (iN lo), some (iN hi), none, none, none, none, none, none, none, none, none]) h hn (by rfl) (by rfl) rfl fun x y => ⟨_, by rfl, by rfl, by rfl⟩
  have z2 := zip_nd (L := L20) (prot := 0) (i := 5) (j := 6) (k := 1) (own := [("at", 5), ("number", 6)]) (ρ := [some (oW l), some (oW m), some (iN lo), some (iN hi), some (pW true l), none, none, none, none, none, none, none, none]) (r1 := [some (oW l), some (oW m), some (iN lo), some (iN hi), some (pW true l), none, none, none, none, none, none, none, none]) h' hn (by rfl) (by rfl) rfl fun x y => ⟨_, by rfl, by rfl, by rfl⟩
  let bd : Ss := (.cons (.setlc 10 [("end", 11)] (.var 11) (.nm 11) (.seq (.lst (.cons (.var 2) (.cons (.var 3) .nil)))) (.cons (.and (.cmp .Lt (.sub (.var 4) (.var 6)) (.sub (.var 4) (.var 11))) (.cmp .Lt (.sub (.var 7) (.var 6)) (.sub (.var 7) (.var 11)))) .nil))
    (.cons (.setlc 12 [("end", 11)] (.var 11) (.nm 11) (.seq (.lst (.cons (.var 2) (.cons (.var 3) .nil)))) (.cons (.and (.cmp .Gt (.sub (.var 4) (.var 6)) (.sub (.var 4) (.var 11))) (.cmp .Gt (.sub (.var 7) (.var 6)) (.sub (.var 7) (.var 11)))) .nil))
    (.cons (.par2 8 9 (.bin .Add (.var 8) (.blt .int (.cons (.cmp .NotEq (.var 10) (.lst .nil)) .nil))) (.bin .Add (.var 9) (.blt .int (.cons (.cmp .Eq (.var 12) (.lst .nil)) .nil)))) .nil)))
  have hl := for_ixE (enc := iN) (l := List.range' (lo + 1) (hi - (lo + 1))) (ρ := [some (oW l), some (oW m), some (iN lo), some (iN hi), some (pW true l), none, none, some (pW true m), some (iN 0), some (iN 0), none, none, none]) (t := fun w ρ => evG T0 (lk L20) 0 (.nm 6) w ρ) (b := fun ρ => xSs T0 (lk L20) 0 bd ρ)
    (I := fun j ρ => ∃ a b c d, ρ = [some (oW l), some (oW m), some (iN lo), some (iN hi), some (pW true l), none, a, some (pW true m), some (iN (leastTo f g lo hi j)), some (iN (mostTo f g lo hi j)), b, c, d]) ⟨none, none, none, none, rfl⟩ fun j ρ z hz hI => by
      obtain ⟨a, b, c, d, rfl⟩ := hI
      obtain ⟨rfl, hj⟩ := range'_get hz
      generalize hzz : lo + 1 + j = z at *
      have hzn : z < n := by omega
      have c1 : ∀ e b d, e < n → evE T0 (lk L20) 0 (.and (.cmp .Lt (.sub (.var 4) (.var 6)) (.sub (.var 4) (.var 11))) (.cmp .Lt (.sub (.var 7) (.var 6)) (.sub (.var 7) (.var 11)))) [some (oW l), some (oW m), some (iN lo), some (iN hi), some (pW true l), none, some (iN z), some (pW true m), some (iN (leastTo f g lo hi j)), some (iN (mostTo f g lo hi j)), b, some (iN e), d] =
          some (.bl (ahB f g z e), [some (oW l), some (oW m), some (iN lo), some (iN hi), some (pW true l), none, some (iN z), some (pW true m), some (iN (leastTo f g lo hi j)), some (iN (mostTo f g lo hi j)), b, some (iN e), d]) := fun e b d he =>
        e_and (e_cmpP (e_sub (x := pW true l) (by rfl) (by rfl) (by rfl) (pW_sub h hzn) (by rfl)) (e_sub (x := pW true l) (by rfl) (by rfl) (by rfl) (pW_sub h he) (by rfl)) (c_lt _ _) (by rfl)) fun _ => (e_cmpP (e_sub (x := pW true m) (by rfl) (by rfl) (by rfl) (pW_sub h' hzn) (by rfl)) (e_sub (x := pW true m) (by rfl) (by rfl) (by rfl) (pW_sub h' he) (by rfl)) (c_lt _ _) (by rfl))
      have c2 : ∀ e b d, e < n → evE T0 (lk L20) 0 (.and (.cmp .Gt (.sub (.var 4) (.var 6)) (.sub (.var 4) (.var 11))) (.cmp .Gt (.sub (.var 7) (.var 6)) (.sub (.var 7) (.var 11)))) [some (oW l), some (oW m), some (iN lo), some (iN hi), some (pW true l), none, some (iN z), some (pW true m), some (iN (leastTo f g lo hi j)), some (iN (mostTo f g lo hi j)), b, some (iN e), d] =
          some (.bl (beB f g z e), [some (oW l), some (oW m), some (iN lo), some (iN hi), some (pW true l), none, some (iN z), some (pW true m), some (iN (leastTo f g lo hi j)), some (iN (mostTo f g lo hi j)), b, some (iN e), d]) := fun e b d he =>
        e_and (e_cmpP (e_sub (x := pW true l) (by rfl) (by rfl) (by rfl) (pW_sub h hzn) (by rfl)) (e_sub (x := pW true l) (by rfl) (by rfl) (by rfl) (pW_sub h he) (by rfl)) (c_gt _ _) (by rfl)) fun _ => (e_cmpP (e_sub (x := pW true m) (by rfl) (by rfl) (by rfl) (pW_sub h' hzn) (by rfl)) (e_sub (x := pW true m) (by rfl) (by rfl) (by rfl) (pW_sub h' he) (by rfl)) (c_gt _ _) (by rfl))
      have hin : ∀ e ∈ [lo, hi], e < n := fun e he => by
        simp only [List.mem_cons, List.not_mem_nil, or_false] at he
        omega
      have k1 := e_lcE (T := T0) (Φ := lk L20) (prot := 0) (enc := iN) (l := [lo, hi]) (fe := iN) (tb := ahB f g z) (own := [("end", 11)]) (elt := .var 11) (tg := .nm 11) (it := .seq (.lst (.cons (.var 2) (.cons (.var 3) .nil)))) (ifs := .cons (.and (.cmp .Lt (.sub (.var 4) (.var 6)) (.sub (.var 4) (.var 11))) (.cmp .Lt (.sub (.var 7) (.var 6)) (.sub (.var 7) (.var 11)))) .nil)
        (ρ := [some (oW l), some (oW m), some (iN lo), some (iN hi), some (pW true l), none, some (iN z), some (pW true m), some (iN (leastTo f g lo hi j)), some (iN (mostTo f g lo hi j)), b, c, d]) (by rfl) (by rfl) (by show 2 ≤ lim; decide) rfl (fun e he => ⟨_, _, by rfl, ts_one (c1 e b d (hin e he)), fun _ => by rfl, fun _ => ⟨_, by rfl, by rfl⟩⟩) (by rfl) (isoL_ints _)
      have k2 := e_lcE (T := T0) (Φ := lk L20) (prot := 0) (enc := iN) (l := [lo, hi]) (fe := iN) (tb := beB f g z) (own := [("end", 11)]) (elt := .var 11) (tg := .nm 11) (it := .seq (.lst (.cons (.var 2) (.cons (.var 3) .nil)))) (ifs := .cons (.and (.cmp .Gt (.sub (.var 4) (.var 6)) (.sub (.var 4) (.var 11))) (.cmp .Gt (.sub (.var 7) (.var 6)) (.sub (.var 7) (.var 11)))) .nil)
        (ρ := [some (oW l), some (oW m), some (iN lo), some (iN hi), some (pW true l), none, some (iN z), some (pW true m), some (iN (leastTo f g lo hi j)), some (iN (mostTo f g lo hi j)), some (.lst true (iL ([lo, hi].filter (ahB f g z)))), c, d]) (by rfl) (by rfl) (by show 2 ≤ lim; decide) rfl (fun e he => ⟨_, _, by rfl, ts_one (c2 e _ d (hin e he)), fun _ => by rfl, fun _ => ⟨_, by rfl, by rfl⟩⟩) (by rfl) (isoL_ints _)
      refine ⟨_, [some (oW l), some (oW m), some (iN lo), some (iN hi), some (pW true l), none, some (iN z), some (pW true m), some (iN (leastTo f g lo hi (j + 1))), some (iN (mostTo f g lo hi (j + 1))), some (.lst true (iL ([lo, hi].filter (ahB f g z)))), c, some (.lst true (iL ([lo, hi].filter (beB f g z))))], by rfl, ?_, _, _, _, _, rfl⟩
      refine s_cons (ρ1 := [some (oW l), some (oW m), some (iN lo), some (iN hi), some (pW true l), none, some (iN z), some (pW true m), some (iN (leastTo f g lo hi j)), some (iN (mostTo f g lo hi j)), some (.lst true (iL ([lo, hi].filter (ahB f g z)))), c, d]) (t_setlc k1 ⟨by decide, by show 10 < 13; decide⟩) ?_
      refine s_cons (ρ1 := [some (oW l), some (oW m), some (iN lo), some (iN hi), some (pW true l), none, some (iN z), some (pW true m), some (iN (leastTo f g lo hi j)), some (iN (mostTo f g lo hi j)), some (.lst true (iL ([lo, hi].filter (ahB f g z)))), c, some (.lst true (iL ([lo, hi].filter (beB f g z))))]) (t_setlc k2 ⟨by decide, by show 12 < 13; decide⟩) ?_
      rw [leastTo_succ, mostTo_succ, hzz]
      refine s_cons (t_par2 (e_binP (by rfl) (e_blt (a_cons (e_cmp (by rfl) (by rfl) ?_ (by rfl)) a_nil) (int_bl _) (by rfl) (by rfl)) (b_add _ _) (by rfl) (by rfl)) (e_binP (by rfl) (e_blt (a_cons (e_cmp (by rfl) (by rfl) ?_ (by rfl)) a_nil) (int_bl _) (by rfl) (by rfl)) (b_add _ _) (by rfl) (by rfl)) ⟨by decide, by decide, by show 8 < 13; decide, by show 9 < 13; decide, by decide⟩) s_nil
      · simp only [frz, frzL_ints]
        exact (c_neL (o := false) (p := true) _ []).trans (congrArg some (fil2 _ _ _))
      · simp only [frz, frzL_ints]
        exact (c_eqL (o := false) (p := true) _ []).trans (congrArg some (fil2' _ _ _))
  obtain ⟨ρ', k, a, b, c, d, rfl⟩ := hl
  rw [List.length_range'] at k
  exact f_rt (ρ0 := [some (oW l), some (oW m), some (iN lo), some (iN hi), none, none, none, none, none, none, none, none, none]) rfl
    (s_cons (t_set (ρ2 := [some (oW l), some (oW m), some (iN lo), some (iN hi), some (pW true l), none, none, none, none, none, none, none, none]) z1 (by rfl))
    (s_cons (t_set (ρ2 := [some (oW l), some (oW m), some (iN lo), some (iN hi), some (pW true l), none, none, some (pW true m), none, none, none, none, none]) z2 (by rfl))
    (s_cons (t_set (ρ2 := [some (oW l), some (oW m), some (iN lo), some (iN hi), some (pW true l), none, none, some (pW true m), some (iN 0), some (iN 0), none, none, none]) (by rfl) (by rfl))
    (s_cons (t_for (i_rng2 (m := lo + 1) (n := hi) (e_binP (x := iN lo) (y := iN 1) (by rfl) (by rfl) (b_add lo 1) (by rfl) (by rfl)) (by rfl) (by omega) (by omega)) k) (s_rt (t_ret (by rfl)))))))
end K90

set_option Elab.async false
set_option linter.all false
set_option maxRecDepth 100000
set_option maxHeartbeats 4000000
namespace K90
open PySem PySem.Spec PyProof.Rows L2 Ev
theorem setW_ins {K : List Nat} {k : Nat} (h : K.length < lim) : setW (dW K) (iN k) (.bl true) = some (dW (insK K k)) := by
  have h' : (kk K).length < lim := by unfold kk; rw [List.length_map]; exact h
  simp only [setW, keyW, iN, if_pos h', putP_ins]
theorem sorted_dW {o : Bool} {vs : List W} (K : List Nat) : bltW .sorted [.dK o (kk K) vs] = some (.lst true (iL (srt K))) := by
  simp only [bltW, kInts_kk, srt_int]
theorem F21 {n : Nat} {l m : List Nat} (h : Ord n l) (h' : Ord n m) (hn : n ≤ 200) : p21.f [oW l, oW m] = some (.lst true (iL (needL (pl l) (pl m) n)), .non) := by
  rw [e21]
  let f := pl l
  let g := pl m
  have k0 := e_call (T := T0) (Φ := lk L21) (prot := 0) (ρ := [some (oW l), some (oW m), some (dW []), none, none, none, none, none]) (k := 19) (es := .cons (.var 0) (.cons (.var 1) .nil)) (as := [oW l, oW m]) (w := .lst true (prs (unl f g n))) (by rfl) (by rfl) (by rfl) (by rfl) (by simp only [frzL, frz]) (by rfl) (F19 h h' hn) (by rfl) (by simp only [iso, isoL_prs, Bool.and_self])
  let ib : Ss := (.cons (.set (.sub (.var 2) (.var 7)) (.cst (.bl true))) .nil)
  have hl := for_ixE (enc := encP) (l := unl f g n) (ρ := [some (oW l), some (oW m), some (dW []), none, none, none, none, none]) (t := fun w ρ => evG T0 (lk L21) 0 (.tp (.cons (.nm 3) (.cons (.nm 4) .nil))) w ρ) (b := fun ρ => xSs T0 (lk L21) 0 (.cons (.set (.tp (.cons (.nm 3) (.cons (.nm 4) (.cons (.nm 5) (.cons (.nm 6) .nil))))) (.call 20 (.cons (.var 0) (.cons (.var 1) (.cons (.var 3) (.cons (.var 4) .nil)))))) (.cons (.for (.nm 7) (.rng2 (.var 5) (.bin .Add (.var 6) (.cst (.int 1)))) ib) .nil)) ρ)
    (I := fun i ρ => ∃ a b c d e, ρ = [some (oW l), some (oW m), some (dW (keysOf f g ((unl f g n).take i))), a, b, c, d, e]) ⟨none, none, none, none, none, rfl⟩ fun i ρ p hp hI => by
      obtain ⟨a, b, c, d, e, rfl⟩ := hI
      have hpm : p ∈ unl f g n := List.mem_of_getElem? hp
      obtain ⟨q1, q2, _⟩ := mem_unl.mp hpm
      have b1 := least_le (f := f) (g := g) (lo := p.1) (hi := p.2)
      have b2 := most_le (f := f) (g := g) (lo := p.1) (hi := p.2)
      have hK := keys_ok (f := f) (g := g) (n := n) (l := (unl f g n).take i) fun p hp => List.mem_of_mem_take hp
      have hin := for_ixE (enc := iN) (l := ran f g p) (ρ := [some (oW l), some (oW m), some (dW (keysOf f g ((unl f g n).take i))), some (iN p.1), some (iN p.2), some (iN (least f g p.1 p.2)), some (iN (most f g p.1 p.2)), e]) (t := fun w ρ => evG T0 (lk L21) 0 (.nm 7) w ρ) (b := fun ρ => xSs T0 (lk L21) 0 ib ρ)
        (I := fun j ρ => ∃ e, ρ = [some (oW l), some (oW m), some (dW (((ran f g p).take j).foldl insK (keysOf f g ((unl f g n).take i)))), some (iN p.1), some (iN p.2), some (iN (least f g p.1 p.2)), some (iN (most f g p.1 p.2)), e]) ⟨e, rfl⟩ fun j ρ x hx hI => by
          obtain ⟨e, rfl⟩ := hI
          have hnd : (((ran f g p).take j).foldl insK (keysOf f g ((unl f g n).take i))).Nodup := nd_foldK hK.1
          have hlen := hnd.length_le_of_subset (l₂ := List.range n) fun y hy => List.mem_range.mpr (by
            rcases mem_foldK.mp hy with hy | hy
            · exact hK.2 y hy
            · exact ran_lt hpm y (List.mem_of_mem_take hy))
          rw [List.length_range] at hlen
          have e1 : ((ran f g p).take (j + 1)).foldl insK (keysOf f g ((unl f g n).take i)) = insK (((ran f g p).take j).foldl insK (keysOf f g ((unl f g n).take i))) x := by
            rw [List.take_add_one, hx, List.foldl_append]
            rfl
          refine ⟨_, [some (oW l), some (oW m), some (dW (((ran f g p).take (j + 1)).foldl insK (keysOf f g ((unl f g n).take i)))), some (iN p.1), some (iN p.2), some (iN (least f g p.1 p.2)), some (iN (most f g p.1 p.2)), some (iN x)], by rfl, ?_, _, rfl⟩
          rw [e1]
          exact s_cons (t_set (w := .bl true) (ρ1 := [some (oW l), some (oW m), some (dW (((ran f g p).take j).foldl insK (keysOf f g ((unl f g n).take i)))), some (iN p.1), some (iN p.2), some (iN (least f g p.1 p.2)), some (iN (most f g p.1 p.2)), some (iN x)]) (by rfl) (g_sub (k := iN x) (ρ1 := [some (oW l), some (oW m), some (dW (((ran f g p).take j).foldl insK (keysOf f g ((unl f g n).take i)))), some (iN p.1), some (iN p.2), some (iN (least f g p.1 p.2)), some (iN (most f g p.1 p.2)), some (iN x)]) (by rfl) (by rfl) (by rfl) (setW_ins (by unfold lim; omega)))) s_nil
      obtain ⟨ρ', k, e', rfl⟩ := hin
      rw [List.take_length] at k
      refine ⟨[some (oW l), some (oW m), some (dW (keysOf f g ((unl f g n).take i))), some (iN p.1), some (iN p.2), c, d, e], _, by rfl, s_cons (ρ1 := [some (oW l), some (oW m), some (dW (keysOf f g ((unl f g n).take i))), some (iN p.1), some (iN p.2), some (iN (least f g p.1 p.2)), some (iN (most f g p.1 p.2)), e]) (t_set (w := quad f g p) (ρ1 := [some (oW l), some (oW m), some (dW (keysOf f g ((unl f g n).take i))), some (iN p.1), some (iN p.2), c, d, e]) (e_call (as := [oW l, oW m, iN p.1, iN p.2]) (by rfl) (by rfl) (by rfl) (by rfl) (by simp only [frzL, frz, iN]) (by rfl) (F20 h h' hn q1 q2) (by rfl) (by rfl)) (by rfl)) (s_cons (t_for (i_rng2 (m := least f g p.1 p.2) (n := most f g p.1 p.2 + 1) (by rfl) (e_binP (x := iN (most f g p.1 p.2)) (y := iN 1) (by rfl) (by rfl) (b_add _ _) (by rfl) (by rfl)) (by omega) (by omega)) k) s_nil), _, _, _, _, _, by rw [keys_succ hp]; rfl⟩
  obtain ⟨ρ', k, a, b, c, d, e, rfl⟩ := hl
  rw [List.take_length] at k
  exact f_rt (ρ0 := [some (oW l), some (oW m), none, none, none, none, none, none]) rfl (s_cons (t_set (ρ2 := [some (oW l), some (oW m), some (dW []), none, none, none, none, none]) (by rfl) (by rfl)) (s_cons (t_for (i_seq k0 (seq_prs _)) k) (s_rt (t_retP (e_blt (ws := [.dK false (kk (keysOf f g (unl f g n))) (frzL (tt (keysOf f g (unl f g n))))]) (by rfl) (sorted_dW _) (by rfl) (by simp only [iso, isoL_ints, Bool.and_self])) (by rfl)))))
/-! ### orders near another one -/
theorem split_at {m : List Nat} {r : Nat} (h : r + 1 < m.length) : ∃ A a b B, m = A ++ a :: b :: B ∧ A.length = r := by
  refine ⟨m.take r, m[r], m[r + 1], m.drop (r + 2), ?_, by rw [List.length_take]; omega⟩
  have e1 : m.drop r = m[r] :: m.drop (r + 1) := List.drop_eq_getElem_cons (by omega)
  have e2 : m.drop (r + 1) = m[r + 1] :: m.drop (r + 2) := List.drop_eq_getElem_cons h
  rw [← e2, ← e1, List.take_append_drop]
theorem swap_perm (A B : List Nat) (a b : Nat) : (A ++ b :: a :: B).Perm (A ++ a :: b :: B) := List.Perm.append_left A (List.Perm.swap a b B)
theorem b_sub1 {n : Nat} (h : 1 ≤ n) : binW .Sub (iN n) (iN 1) = some (iN (n - 1)) := by
  show some (W.int (((n : Nat) : Int) - 1)) = some (W.int ((n - 1 : Nat) : Int))
  congr 2; omega
theorem F24 {n c s : Nat} {l : List Nat} {gen : W} (h : Ord n l) (hn : n ≤ 200) (hg : Gn c gen) (hs : s ≤ 1000) (hc : c + s < 1000000000) : ∃ (m : List Nat) (gen' : W), Ord n m ∧ Gn (c + s) gen' ∧ p24.f [gen, oW l, iN s] = some (.lst true (iL m), gen') := by
  let bd : Ss := (.cons (.set (.nm 3) (.call 17 (.cons (.var 3) (.cons (.call 13 (.cons (.var 0) (.cons (.bin .Sub (.blt .len (.cons (.var 1) .nil)) (.cst (.int 1))) .nil))) .nil)))) .nil)
  have hset : evE T0 (lk L24) 1 (.blt .list (.cons (.var 1) .nil)) [some gen, some (oW l), some (iN s), none, none] = some (.lst true (iL l), [some gen, some (oW l), some (iN s), none, none]) := by
    refine e_blt (ws := [oW l]) (by rfl) ?_ (by rfl) (by simp only [iso, isoL_ints, Bool.and_self])
    show some (W.lst true (frzL (iL l))) = _
    rw [frzL_ints]
  have hit : evE T0 (lk L24) 1 (.bin .Mult (.var 2) (.blt .int (.cons (.cmp .Gt (.blt .len (.cons (.var 1) .nil)) (.cst (.int 1))) .nil))) [some gen, some (oW l), some (iN s), some (.lst true (iL l)), none] = some (iN (s * (decide (1 < n)).toNat), [some gen, some (oW l), some (iN s), some (.lst true (iL l)), none]) := by
    refine e_binP (x := iN s) (y := iN (decide (1 < n)).toNat) (by rfl) (e_blt (a_cons (e_cmpP (x := iN n) (y := iN 1) (e_blt (ws := [oW l]) (by rfl) (by rw [← h.len]; exact len_iL l) (by rfl) (by rfl)) (by rfl) (c_gt _ _) (by rfl)) a_nil) (int_bl _) (by rfl) (by rfl)) ?_ (by rfl) (by rfl)
    have := mul_ok (i := ((s : Nat) : Int)) (j := (((decide (1 < n)).toNat : Nat) : Int)) (.inl (by omega))
    unfold iN
    rw [this]
    simp
  have hl := for_ixE (enc := iN) (l := List.range (s * (decide (1 < n)).toNat)) (ρ := [some gen, some (oW l), some (iN s), some (.lst true (iL l)), none]) (t := fun w ρ => evG T0 (lk L24) 1 (.nm 4) w ρ) (b := fun ρ => xSs T0 (lk L24) 1 bd ρ)
    (I := fun i ρ => ∃ gen m a, ρ = [some gen, some (oW l), some (iN s), some (.lst true (iL m)), a] ∧ Ord n m ∧ Gn (c + i) gen) ⟨gen, l, none, rfl, h, hg⟩ fun i ρ x hx hI => by
      obtain ⟨gen, m, a, rfl, hm, hG⟩ := hI
      obtain ⟨rfl, hi⟩ := range_get hx
      have h1 : 1 < n := by
        rcases Nat.lt_or_ge 1 n with z | z
        · exact z
        · have : decide (1 < n) = false := decide_eq_false (by omega)
          rw [this] at hi
          simp at hi
      have hxs : x < s := by
        have : decide (1 < n) = true := decide_eq_true h1
        rw [this] at hi
        simpa using hi
      obtain ⟨r, gen', hr, hG', hf⟩ := F13 (bd := n - 1) hG (by omega) (by omega) (by omega)
      obtain ⟨A, p, q, B, rfl, hA⟩ := split_at (m := m) (r := r) (by rw [hm.len]; omega)
      have hlen : (A ++ p :: q :: B).length ≤ 1000 := by rw [hm.len]; omega
      refine ⟨_, [some gen', some (oW l), some (iN s), some (.lst true (iL (A ++ q :: p :: B))), some (iN x)], by rfl, ?_, gen', A ++ q :: p :: B, _, rfl, (swap_perm A B p q).trans hm, hG'⟩
      have k13 := e_callJ (T := T0) (Φ := lk L24) (prot := 1) (k := 13) (i := 0) (es := .cons (.bin .Sub (.blt .len (.cons (.var 1) .nil)) (.cst (.int 1))) .nil) (ρ := [some gen, some (oW l), some (iN s), some (.lst false (frzL (iL (A ++ p :: q :: B)))), some (iN x)]) (x := gen) (ws := [iN (n - 1)])  (as := [gen, iN (n - 1)]) (by rfl) (by rfl) (by rfl) (a_cons (e_binP (x := iN n) (y := iN 1) (e_blt (ws := [oW l]) (by rfl) (by rw [← h.len]; exact len_iL l) (by rfl) (by rfl)) (by rfl) (b_sub1 (by omega)) (by rfl) (by rfl)) a_nil) (by rfl) (by rfl) (by rfl) hf
      rw [← hA] at k13
      refine s_cons (t_set (w := .lst true (iL (A ++ q :: p :: B))) (ρ1 := [some gen', some (oW l), some (iN s), some (.lst false (frzL (iL (A ++ p :: q :: B)))), some (iN x)]) (e_callF (as := [oW (A ++ p :: q :: B), iN A.length]) (by rfl) (by rfl) (a_cons (by rfl) (a_cons k13 a_nil)) (by rfl) (by simp only [frzL, frz, frzL_ints, iN]) (by rfl) (F17 hlen) (by rfl)) (by rfl)) s_nil
  obtain ⟨ρ', k, gen', m, a, rfl, hm, hG⟩ := hl
  rw [List.length_range] at hG
  refine ⟨m, gen', hm, hG.mono ?_, ?_⟩
  · have : s * (decide (1 < n)).toNat ≤ s * 1 := Nat.mul_le_mul_left s (by cases decide (1 < n) <;> decide)
    omega
  · rw [e24]
    refine f_rtI (ρ := [some (oW l), some (iN s), none, a]) (ρ0 := [some gen, some (oW l), some (iN s), none, none]) rfl (s_cons (t_set (ρ2 := [some gen, some (oW l), some (iN s), some (.lst true (iL l)), none]) hset (by rfl)) (s_cons (t_for (i_rng1 hit ?_) k) (s_rt (t_ret (by rfl)))))
    have : s * (decide (1 < n)).toNat ≤ s * 1 := Nat.mul_le_mul_left s (by cases decide (1 < n) <;> decide)
    omega
end K90

set_option Elab.async false
set_option linter.all false
set_option maxRecDepth 100000
set_option maxHeartbeats 4000000
namespace K90
open PySem PySem.Spec PyProof.Rows L2 Ev
/-! ### what repr shows is bounded -/
theorem toPyL_map {α : Type} (h : α → W) (l : List α) : toPyL (l.map h) = l.map fun a => toPy (h a) := by
  induction l with
  | nil => rfl
  | cons a l ih => show toPy (h a) :: toPyL (l.map h) = _; rw [ih]; rfl
theorem shL_map {α : Type} {h : α → W} {l : List α} {n : Nat} (q : ∀ a ∈ l, shW (h a) n = true) : shL (l.map h) n = true := by
  induction l with
  | nil => rfl
  | cons a l ih => show (shW (h a) n && shL (l.map h) n) = true; rw [q a (List.mem_cons_self ..), ih fun b hb => q b (List.mem_cons_of_mem _ hb)]; rfl
theorem sum_le {b : Nat} : ∀ {l : List Nat}, (∀ x ∈ l, x ≤ b) → l.sum ≤ l.length * b
  | [], _ => by simp
  | a :: l, h => by
    have h1 := h a (List.mem_cons_self ..)
    have h2 := sum_le fun x hx => h x (List.mem_cons_of_mem _ hx)
    rw [List.sum_cons, List.length_cons, Nat.succ_mul]
    omega
theorem shown_list {b : Nat} {xs : List PyData} (h : ∀ x ∈ xs, (PyData.shown x).length ≤ b) : (PyData.shown (.list xs)).length ≤ xs.length * (b + 2) + 3 := by
  have h1 := listText_len_le (PyData.shownAll xs)
  have h2 : PyData.shownAll xs = xs.map PyData.shown := shownAll_eq_map xs
  rw [h2, List.map_map, List.length_map] at h1
  have h3 := sum_le (l := xs.map ((·.length) ∘ PyData.shown)) (b := b) fun x hx => by
    obtain ⟨y, hy, rfl⟩ := List.mem_map.mp hx
    exact h y hy
  rw [List.length_map] at h3
  simp only [PyData.shown]
  rw [h2]
  have : xs.length * (b + 2) = xs.length * b + xs.length * 2 := Nat.mul_add ..
  omega
theorem shown_tup {b : Nat} {xs : List PyData} (h : ∀ x ∈ xs, (PyData.shown x).length ≤ b) : (PyData.shown (.tuple xs)).length ≤ xs.length * (b + 2) + 3 := by
  have h1 := tupleText_len_le (PyData.shownAll xs)
  have h2 : PyData.shownAll xs = xs.map PyData.shown := shownAll_eq_map xs
  rw [h2, List.map_map, List.length_map] at h1
  have h3 := sum_le (l := xs.map ((·.length) ∘ PyData.shown)) (b := b) fun x hx => by
    obtain ⟨y, hy, rfl⟩ := List.mem_map.mp hx
    exact h y hy
  rw [List.length_map] at h3
  simp only [PyData.shown]
  rw [h2]
  have : xs.length * (b + 2) = xs.length * b + xs.length * 2 := Nat.mul_add ..
  omega
theorem shown_iN {n : Nat} (h : n ≤ 1000) : (PyData.shown (toPy (iN n))).length ≤ 13 := PyData.shown_int_le2 (by omega) (by omega)
theorem showL_map {α : Type} {h : α → PyData} {l : List α} (q : ∀ a ∈ l, (h a).showable = true) : PyData.showableAll (l.map h) = true := by
  induction l with
  | nil => rfl
  | cons a l ih => show ((h a).showable && PyData.showableAll (l.map h)) = true; rw [q a (List.mem_cons_self ..), ih fun b hb => q b (List.mem_cons_of_mem _ hb)]; rfl
theorem show_iN {n : Nat} (h : n ≤ 1000) : (toPy (iN n)).showable = true := by
  show decide ((((n : Nat) : Int).natAbs).log2 < 1920) = true
  rw [decide_eq_true_eq]
  have : ((n : Nat) : Int).natAbs = n := by simp
  rw [this]
  have h2 : n.log2 ≤ n := Nat.log2_le_self n
  omega
/-- a list of ints, shown -/
def rpI (l : List Nat) : Str := (PyData.list (l.map fun n => toPy (iN n))).shown
def rpQ (f g : Nat → Nat) (n : Nat) : Str := (PyData.list ((unl f g n).map fun p => toPy (quad f g p))).shown
def rpT (l m : List Nat) : Str := (PyData.tuple [.list (l.map fun n => toPy (iN n)), .list (m.map fun n => toPy (iN n))]).shown
theorem list_ok {l : List Nat} (h : ∀ x ∈ l, x ≤ 1000) (hl : l.length ≤ 1000) : (PyData.list (l.map fun n => toPy (iN n))).showable = true ∧ (PyData.shown (.list (l.map fun n => toPy (iN n)))).length ≤ 20000 := by
  refine ⟨showL_map fun a ha => show_iN (h a ha), ?_⟩
  have := shown_list (b := 13) (xs := l.map fun n => toPy (iN n)) fun x hx => by
    obtain ⟨a, ha, rfl⟩ := List.mem_map.mp hx
    exact shown_iN (h a ha)
  rw [List.length_map] at this
  omega
theorem repr_I {o : Bool} {l : List Nat} (h : ∀ x ∈ l, x ≤ 1000) (hl : l.length ≤ 1000) : bltW .repr [.lst o (iL l)] = some (.str (rpI l)) := by
  have e : toPy (.lst o (iL l)) = .list (l.map fun n => toPy (iN n)) := by
    show PyData.list (toPyL (l.map iN)) = _
    rw [toPyL_map]
  obtain ⟨h1, h2⟩ := list_ok h hl
  have hc : (shW (.lst o (iL l)) 59 && ((toPy (.lst o (iL l))).showable && decide ((toPy (.lst o (iL l))).shown.length ≤ limS))) = true := by
    rw [e, h1]
    simp only [shW, shL_ints, Bool.true_and, decide_eq_true_eq]
    unfold limS
    omega
  simp only [bltW]
  rw [if_pos hc, e]
  rfl
theorem repr_Q {o : Bool} {f g : Nat → Nat} {n : Nat} (hn : n ≤ 200) : bltW .repr [.lst o (cntL f g n)] = some (.str (rpQ f g n)) := by
  have e : toPy (.lst o (cntL f g n)) = .list ((unl f g n).map fun p => toPy (quad f g p)) := by
    show PyData.list (toPyL ((unl f g n).map (quad f g))) = _
    rw [toPyL_map]
  have hq : ∀ p ∈ unl f g n, p.1 ≤ 1000 ∧ p.2 ≤ 1000 ∧ least f g p.1 p.2 ≤ 1000 ∧ most f g p.1 p.2 ≤ 1000 := fun p hp => by
    obtain ⟨q1, q2, _⟩ := mem_unl.mp hp
    have b1 := least_le (f := f) (g := g) (lo := p.1) (hi := p.2)
    have b2 := most_le (f := f) (g := g) (lo := p.1) (hi := p.2)
    omega
  have h1 : (PyData.list ((unl f g n).map fun p => toPy (quad f g p))).showable = true := showL_map fun p hp => by
    obtain ⟨a, b, c, d⟩ := hq p hp
    show ((toPy (iN p.1)).showable && ((toPy (iN p.2)).showable && ((toPy (iN (least f g p.1 p.2))).showable && ((toPy (iN (most f g p.1 p.2))).showable && true)))) = true
    rw [show_iN a, show_iN b, show_iN c, show_iN d]
    rfl
  have h2 := shown_list (b := 63) (xs := (unl f g n).map fun p => toPy (quad f g p)) fun x hx => by
    obtain ⟨p, hp, rfl⟩ := List.mem_map.mp hx
    obtain ⟨a, b, c, d⟩ := hq p hp
    exact shown_tup (b := 13) (xs := [toPy (iN p.1), toPy (iN p.2), toPy (iN (least f g p.1 p.2)), toPy (iN (most f g p.1 p.2))]) fun x hx => by
      simp only [List.mem_cons, List.not_mem_nil, or_false] at hx
      rcases hx with rfl | rfl | rfl | rfl
      · exact shown_iN a
      · exact shown_iN b
      · exact shown_iN c
      · exact shown_iN d
  rw [List.length_map] at h2
  have h3 := unl_len (f := f) (g := g) (n := n)
  have h4 : n * n ≤ 200 * 200 := Nat.mul_le_mul hn hn
  have hc : (shW (.lst o (cntL f g n)) 59 && ((toPy (.lst o (cntL f g n))).showable && decide ((toPy (.lst o (cntL f g n))).shown.length ≤ limS))) = true := by
    rw [e, h1]
    have hs : shW (.lst o (cntL f g n)) 59 = true := shL_map fun p _ => by rfl
    rw [hs]
    simp only [Bool.true_and, decide_eq_true_eq]
    unfold limS
    omega
  simp only [bltW]
  rw [if_pos hc, e]
  rfl
theorem repr_T {o p q : Bool} {l m : List Nat} (h : ∀ x ∈ l, x ≤ 1000) (hl : l.length ≤ 1000) (h' : ∀ x ∈ m, x ≤ 1000) (hm : m.length ≤ 1000) : bltW .repr [.tup o [.lst p (iL l), .lst q (iL m)]] = some (.str (rpT l m)) := by
  have e1 : ∀ (o : Bool) (l : List Nat), toPy (.lst o (iL l)) = .list (l.map fun n => toPy (iN n)) := fun o l => by
    show PyData.list (toPyL (l.map iN)) = _
    rw [toPyL_map]
  have e : toPy (.tup o [.lst p (iL l), .lst q (iL m)]) = .tuple [.list (l.map fun n => toPy (iN n)), .list (m.map fun n => toPy (iN n))] := by
    show PyData.tuple [toPy (.lst p (iL l)), toPy (.lst q (iL m))] = _
    rw [e1, e1]
  obtain ⟨a1, a2⟩ := list_ok h hl
  obtain ⟨b1, b2⟩ := list_ok h' hm
  have h2 := shown_tup (b := 20000) (xs := [.list (l.map fun n => toPy (iN n)), .list (m.map fun n => toPy (iN n))]) fun x hx => by
    simp only [List.mem_cons, List.not_mem_nil, or_false] at hx
    rcases hx with rfl | rfl
    · exact a2
    · exact b2
  have hc : (shW (.tup o [.lst p (iL l), .lst q (iL m)]) 59 && ((toPy (.tup o [.lst p (iL l), .lst q (iL m)])).showable && decide ((toPy (.tup o [.lst p (iL l), .lst q (iL m)])).shown.length ≤ limS))) = true := by
    rw [e]
    have hs : shW (.tup o [.lst p (iL l), .lst q (iL m)]) 59 = true := by
      simp only [shW, shL, shL_ints, Bool.and_self]
    have hsh : (PyData.tuple [.list (l.map fun n => toPy (iN n)), .list (m.map fun n => toPy (iN n))]).showable = true := by
      show ((PyData.list _).showable && ((PyData.list _).showable && true)) = true
      rw [a1, b1]
      rfl
    rw [hs, hsh]
    simp only [Bool.true_and, decide_eq_true_eq]
    unfold limS
    simp only [List.length_cons, List.length_nil] at h2
    omega
  simp only [bltW]
  rw [if_pos hc, e]
  rfl
end K90

set_option Elab.async false
set_option linter.all false
set_option maxRecDepth 100000
set_option maxHeartbeats 4000000
namespace K90
open PySem PySem.Spec PyProof.Rows L2 Ev
/-! ### equal data -/
mutual
theorem eqW_refl : ∀ (w : W) {n : Nat}, shW w n = true → eqW w w = true
  | .non, _, _ => rfl
  | .bl b, _, _ => by simp [eqW]
  | .int i, _, _ => by simp [eqW]
  | .str s, _, _ => by simp [eqW]
  | .ty _, _, h => by simp [shW] at h
  | .lst _ xs, n, h => by
    cases n with
    | zero => simp [shW] at h
    | succ n =>
      simp only [eqW]
      exact eqL_refl xs (by simpa [shW] using h)
  | .tup _ xs, n, h => by
    cases n with
    | zero => simp [shW] at h
    | succ n =>
      simp only [eqW]
      exact eqL_refl xs (by simpa [shW] using h)
  | .dK _ _ _, _, h => by simp [shW] at h
  | .dT _ _ _, _, h => by simp [shW] at h
  | .dL _ _ _, _, h => by simp [shW] at h
  | .scr _, _, h => by simp [shW] at h
theorem eqL_refl : ∀ (xs : List W) {n : Nat}, shL xs n = true → eqL xs xs = true
  | [], _, _ => rfl
  | x :: xs, n, h => by
    simp only [shL, Bool.and_eq_true] at h
    simp only [eqL, eqW_refl x h.1, eqL_refl xs h.2, Bool.and_self]
end
theorem sh_cnt {f g : Nat → Nat} {n k : Nat} : shL (cntL f g n) (k + 1) = true := shL_map fun p _ => by rfl
theorem frz_cnt {f g : Nat → Nat} {n : Nat} : frzL (cntL f g n) = cntL f g n := frzL_mapV fun a _ => by rfl
theorem ne_cnt {o p : Bool} {f g : Nat → Nat} {n : Nat} : cmpW .NotEq (.lst o (cntL f g n)) (.lst p (cntL f g n)) = some false := by
  simp only [cmpW, eqqW, shW, sh_cnt, Bool.and_self, if_true, eqW, eqL_refl _ (sh_cnt (k := 0))]
  rfl
theorem eq_cnt {o p : Bool} {f g : Nat → Nat} {n : Nat} : cmpW .Eq (.lst o (cntL f g n)) (.lst p (cntL f g n)) = some true := by
  simp only [cmpW, eqqW, shW, sh_cnt, Bool.and_self, if_true, eqW, eqL_refl _ (sh_cnt (k := 0))]
theorem ne_iL {o p : Bool} {l : List Nat} : cmpW .NotEq (.lst o (iL l)) (.lst p (iL l)) = some false := by
  rw [c_neL]; simp
theorem eq_iL {o p : Bool} {l : List Nat} : cmpW .Eq (.lst o (iL l)) (.lst p (iL l)) = some true := by
  rw [c_eqL]; simp
/-! ### the other way about -/
theorem ahead_sym (f g : Nat → Nat) : ahead f g = ahead g f := by
  funext lo hi z
  unfold ahead ahB
  rw [Bool.and_comm (decide (f z < f lo)), Bool.and_comm (decide (f z < f hi))]
theorem behind_sym (f g : Nat → Nat) : behind f g = behind g f := by
  funext lo hi z
  unfold behind beB
  rw [Bool.and_comm (decide (f lo < f z)), Bool.and_comm (decide (f hi < f z))]
theorem unB_sym (f g : Nat → Nat) : unB f g = unB g f := by
  funext lo hi
  unfold unB
  cases decide (f lo < f hi) <;> cases decide (g lo < g hi) <;> rfl
theorem unl_sym (f g : Nat → Nat) (n : Nat) : unl f g n = unl g f n := by
  unfold unl unlTo rowU
  rw [unB_sym]
theorem least_sym (f g : Nat → Nat) : least f g = least g f := by
  funext lo hi
  unfold least leastTo
  rw [ahead_sym]
theorem most_sym (f g : Nat → Nat) : most f g = most g f := by
  funext lo hi
  unfold most mostTo
  rw [behind_sym]
theorem cnt_sym (f g : Nat → Nat) (n : Nat) : cntL f g n = cntL g f n := by
  unfold cntL
  rw [unl_sym]
  apply List.map_congr_left
  intro p _
  unfold quad
  rw [least_sym, most_sym]
theorem need_sym (f g : Nat → Nat) (n : Nat) : needL f g n = needL g f n := by
  unfold needL
  rw [unl_sym]
  have : stepK f g = stepK g f := by
    funext K p
    unfold stepK ran
    rw [least_sym, most_sym]
  unfold keysOf
  rw [this]
theorem srt_len (K : List Nat) : (srt K).length = K.length := by
  unfold srt
  rw [List.length_map, (isort_perm ltI _).length_eq, List.length_map]
theorem mem_srt {K : List Nat} {x : Nat} : x ∈ srt K ↔ x ∈ K := by
  unfold srt
  rw [List.mem_map]
  constructor
  · rintro ⟨i, hi, rfl⟩
    obtain ⟨k, hk, rfl⟩ := List.mem_map.mp ((isort_perm ltI _).mem_iff.mp hi)
    simpa using hk
  · intro hx
    exact ⟨(x : Nat), (isort_perm ltI _).mem_iff.mpr (List.mem_map.mpr ⟨x, hx, rfl⟩), by simp⟩
theorem need_len (f g : Nat → Nat) (n : Nat) : (needL f g n).length ≤ n := by
  unfold needL
  rw [srt_len]
  exact keys_len fun p hp => hp
theorem need_lt {f g : Nat → Nat} {n : Nat} : ∀ x ∈ needL f g n, x < n := fun x hx => (keys_ok (f := f) (g := g) (n := n) fun p hp => hp).2 x (mem_srt.mp hx)
theorem Ord.rev {n : Nat} {l : List Nat} (h : Ord n l) : Ord n l.reverse := (List.reverse_perm l).trans h
theorem iL_rev (l : List Nat) : (iL l).reverse = iL l.reverse := by simp [iL, List.map_reverse]
/-! ### both orders right -/
abbrev R25 (l m : List Nat) (a b c d e f : Option W) : Rho := [some (.lst true (iL l)), some (oW m), a, b, c, d, e, f]
section
variable {n : Nat} {l m : List Nat} (h : Ord n l) (h' : Ord n m) (hn : n ≤ 200) (a b c d e f : Option W)
include h h' hn
theorem c10 : evE T0 (lk L25) 1 (.call 10 (.cons (.var 0) (.cons (.var 1) .nil))) (R25 l m a b c d e f) = some (.lst true (cntL (pl l) (pl m) n), R25 l m a b c d e f) :=
  e_call (as := [oW l, oW m]) (by rfl) (by rfl) (by rfl) (by rfl) (by simp only [frzL, frz, frzL_ints]) (by rfl) (F10 h h' hn) (by rfl) (by simp only [iso, iso_quad, Bool.and_self])
theorem c10s : evE T0 (lk L25) 1 (.call 10 (.cons (.var 1) (.cons (.var 0) .nil))) (R25 l m a b c d e f) = some (.lst true (cntL (pl l) (pl m) n), R25 l m a b c d e f) := by
  rw [cnt_sym]
  exact e_call (as := [oW m, oW l]) (by rfl) (by rfl) (by rfl) (by rfl) (by simp only [frzL, frz, frzL_ints]) (by rfl) (F10 h' h hn) (by rfl) (by simp only [iso, iso_quad, Bool.and_self])
theorem c10k : evE T0 (lk L25) 1 (.kcall 10 [("other" : Str), ("one" : Str)] [1, 0] (.cons (.var 1) (.cons (.var 0) .nil))) (R25 l m a b c d e f) = some (.lst true (cntL (pl l) (pl m) n), R25 l m a b c d e f) :=
  e_kcall (as := [oW l, oW m]) (by rfl) (by rfl) (by rfl) ⟨rfl, rfl, rfl⟩ (by simp only [List.map, frzL, frz, frzL_ints, List.getD_cons_succ, List.getD_cons_zero]) (F10 h h' hn) (by rfl) (by simp only [iso, iso_quad, Bool.and_self])
theorem c11 : evE T0 (lk L25) 1 (.call 11 (.cons (.var 0) (.cons (.var 1) .nil))) (R25 l m a b c d e f) = some (.lst true (iL (needL (pl l) (pl m) n)), R25 l m a b c d e f) :=
  e_call (as := [oW l, oW m]) (by rfl) (by rfl) (by rfl) (by rfl) (by simp only [frzL, frz, frzL_ints]) (by rfl) (F11 h h' hn) (by rfl) (by simp only [iso, isoL_ints, Bool.and_self])
theorem c11k : evE T0 (lk L25) 1 (.kcall 11 [("other" : Str), ("one" : Str)] [1, 0] (.cons (.var 0) (.cons (.var 1) .nil))) (R25 l m a b c d e f) = some (.lst true (iL (needL (pl l) (pl m) n)), R25 l m a b c d e f) := by
  rw [need_sym]
  exact e_kcall (as := [oW m, oW l]) (by rfl) (by rfl) (by rfl) ⟨rfl, rfl, rfl⟩ (by simp only [List.map, frzL, frz, frzL_ints, List.getD_cons_succ, List.getD_cons_zero]) (F11 h' h hn) (by rfl) (by simp only [iso, isoL_ints, Bool.and_self])
theorem c19 : evE T0 (lk L25) 1 (.call 19 (.cons (.var 0) (.cons (.var 1) .nil))) (R25 l m a b c d e f) = some (.lst true (prs (unl (pl l) (pl m) n)), R25 l m a b c d e f) :=
  e_call (as := [oW l, oW m]) (by rfl) (by rfl) (by rfl) (by rfl) (by simp only [frzL, frz, frzL_ints]) (by rfl) (F19 h h' hn) (by rfl) (by simp only [iso, isoL_prs, Bool.and_self])
theorem c21 : evE T0 (lk L25) 1 (.call 21 (.cons (.var 0) (.cons (.var 1) .nil))) (R25 l m a b c d e f) = some (.lst true (iL (needL (pl l) (pl m) n)), R25 l m a b c d e f) :=
  e_call (as := [oW l, oW m]) (by rfl) (by rfl) (by rfl) (by rfl) (by simp only [frzL, frz, frzL_ints]) (by rfl) (F21 h h' hn) (by rfl) (by simp only [iso, isoL_ints, Bool.and_self])
theorem crep : evE T0 (lk L25) 1 (.blt .repr (.cons (.tup (.cons (.var 0) (.cons (.var 1) .nil))) .nil)) (R25 l m a b c d e f) = some (.str (rpT l m), R25 l m a b c d e f) := by
  refine e_blt (ws := [.tup false [.lst false (frzL (iL l)), oW m]]) (by rfl) ?_ (by rfl) (by rfl)
  rw [frzL_ints]
  exact repr_T (fun x hx => by have := h.mem.mp hx; omega) (by rw [h.len]; omega) (fun x hx => by have := h'.mem.mp hx; omega) (by rw [h'.len]; omega)
end
theorem F25 {n : Nat} {l m : List Nat} (h : Ord n l) (h' : Ord n m) (hn : n ≤ 200) : p25.f [.lst true (iL l), oW m] = some (.bl true, .lst true (iL l)) := by
  have k3 := e_lcE (T := T0) (Φ := lk L25) (prot := 1) (ρ := R25 l m (some (.str (rpT l m))) none none none none none) (enc := encP) (l := unl (pl l) (pl m) n) (fe := quad (pl l) (pl m)) (tb := fun _ => true) (own := [("low", 4), ("high", 5)]) (elt := .call 20 (.cons (.var 0) (.cons (.var 1) (.cons (.var 4) (.cons (.var 5) .nil))))) (tg := .tp (.cons (.nm 4) (.cons (.nm 5) .nil))) (it := .seq (.call 19 (.cons (.var 0) (.cons (.var 1) .nil)))) (ifs := .nil)
    (i_seq (c19 h h' hn _ _ _ _ _ _) (seq_prs _)) (by rfl) (by have := unl_len (f := pl l) (g := pl m) (n := n); have h3 : n * n ≤ 200 * 200 := Nat.mul_le_mul hn hn; unfold lim; omega) rfl (fun p hp => ⟨R25 l m (some (.str (rpT l m))) none (some (iN p.1)) (some (iN p.2)) none none, _, by rfl, by rfl, fun z => (by cases z), fun _ => by
      obtain ⟨q1, q2, _⟩ := mem_unl.mp hp
      exact ⟨R25 l m (some (.str (rpT l m))) none (some (iN p.1)) (some (iN p.2)) none none, e_call (as := [oW l, oW m, iN p.1, iN p.2]) (by rfl) (by rfl) (by rfl) (by rfl) (by simp only [frzL, frz, frzL_ints, iN]) (by rfl) (F20 h h' hn q1 q2) (by rfl) (by rfl), by rfl⟩⟩) (by rfl) (isoL_map fun a _ => by rfl)
  rw [show ((unl (pl l) (pl m) n).filter fun _ => true) = unl (pl l) (pl m) n from by simp] at k3
  have hcl : (cntL (pl l) (pl m) n).length < lim := by
    unfold cntL
    rw [List.length_map]
    have := unl_len (f := pl l) (g := pl m) (n := n)
    have h3 : n * n ≤ 200 * 200 := Nat.mul_le_mul hn hn
    unfold lim
    omega
  have hnl : (iL (needL (pl l) (pl m) n)).length < lim := by
    rw [ints_len]
    have := need_len (pl l) (pl m) n
    unfold lim
    omega
  let due : W := .lst true (cntL (pl l) (pl m) n)
  let kept : Option W := some (.str (rpT l m))
  let told : W := .lst true (cntL (pl l) (pl m) n ++ [.non])
  let cnts : W := .lst true (iL (needL (pl l) (pl m) n) ++ [.non])
  have fd : frz due = .lst false (cntL (pl l) (pl m) n) := by
    show W.lst false (frzL (cntL (pl l) (pl m) n)) = _
    rw [frz_cnt]
  rw [e25]
  refine f_rtI (ρ0 := R25 l m none none none none none none) (ρ := [some (oW m), kept, some due, none, none, some told, some cnts]) rfl ?_
  refine s_cons (ρ1 := R25 l m kept none none none none none) (t_set (crep h h' hn _ _ _ _ _ _) (by rfl)) ?_
  refine s_cons (ρ1 := R25 l m kept (some due) none none none none) (t_setlc k3 ⟨by decide, by show 3 < 8; decide⟩) ?_
  refine s_cons (t_ifF (ρ1 := R25 l m kept (some due) none none none none) (e_orF (e_cmp (c10 h h' hn _ _ _ _ _ _) (by rfl) (by rw [fd]; exact ne_cnt) (by rfl)) (e_orF (e_cmp (c10k h h' hn _ _ _ _ _ _) (by rfl) (by rw [fd]; exact ne_cnt) (by rfl)) (e_cmp (c10s h h' hn _ _ _ _ _ _) (by rfl) (by rw [fd]; exact ne_cnt) (by rfl)))) s_nil) ?_
  refine s_cons (t_ifF (ρ1 := R25 l m kept (some due) none none none none) (e_orF (e_cmpP (c11 h h' hn _ _ _ _ _ _) (c21 h h' hn _ _ _ _ _ _) ne_iL (by rfl)) (e_cmpP (c11k h h' hn _ _ _ _ _ _) (c21 h h' hn _ _ _ _ _ _) ne_iL (by rfl))) s_nil) ?_
  refine s_cons (ρ1 := R25 l m kept (some due) none none (some due) (some (.lst true (iL (needL (pl l) (pl m) n))))) (t_par2 (c10 h h' hn _ _ _ _ _ _) (c11 h h' hn _ _ _ _ _ _) ⟨by decide, by decide, by show 6 < 8; decide, by show 7 < 8; decide, by decide⟩) ?_
  refine s_cons (ρ1 := R25 l m kept (some due) none none (some told) (some (.lst true (iL (needL (pl l) (pl m) n))))) (t_exp (e_mut (x0 := due) (x := due) (y := told) (ws := [.non]) (ρ1 := R25 l m kept (some due) none none (some due) (some (.lst true (iL (needL (pl l) (pl m) n))))) (by rfl) (by rfl) (by rfl) (by rfl) (by rfl) (m_app hcl))) ?_
  refine s_cons (ρ1 := R25 l m kept (some due) none none (some told) (some cnts)) (t_exp (e_mut (x0 := .lst true (iL (needL (pl l) (pl m) n))) (x := .lst true (iL (needL (pl l) (pl m) n))) (y := cnts) (ws := [.non]) (ρ1 := R25 l m kept (some due) none none (some told) (some (.lst true (iL (needL (pl l) (pl m) n))))) (by rfl) (by rfl) (by rfl) (by rfl) (by rfl) (m_app hnl))) ?_
  refine s_cons (ρ1 := R25 l.reverse m kept (some due) none none (some told) (some cnts)) (t_exp (e_mut (w := .non) (x0 := .lst true (iL l)) (x := .lst true (iL l)) (y := .lst true (iL l.reverse)) (ws := []) (ρ1 := R25 l m kept (some due) none none (some told) (some cnts)) (by rfl) (by rfl) (by rfl) (by rfl) (by rfl) (by rw [← iL_rev]; rfl))) ?_
  refine s_cons (t_ifF (ρ1 := R25 l.reverse m kept (some due) none none (some told) (some cnts)) (e_orF (e_cmpP (c11 h.rev h' hn _ _ _ _ _ _) (c21 h.rev h' hn _ _ _ _ _ _) ne_iL (by rfl)) (e_cmpP (x := iN (unl (pl l.reverse) (pl m) n).length) (y := iN (unl (pl l.reverse) (pl m) n).length) (e_blt (a_cons (c10 h.rev h' hn _ _ _ _ _ _) a_nil) ?_ (by rfl) (by rfl)) (e_blt (a_cons (c19 h.rev h' hn _ _ _ _ _ _) a_nil) ?_ (by rfl) (by rfl)) ?_ (by rfl))) s_nil) ?_
  · show some (W.int ((cntL (pl l.reverse) (pl m) n).length : Nat)) = _
    unfold cntL
    rw [List.length_map]
    rfl
  · show some (W.int ((prs (unl (pl l.reverse) (pl m) n)).length : Nat)) = _
    unfold prs
    rw [List.length_map]
    rfl
  · show some (!decide (((unl (pl l.reverse) (pl m) n).length : Int) = ((unl (pl l.reverse) (pl m) n).length : Int))) = _
    simp
  refine s_cons (ρ1 := R25 l m kept (some due) none none (some told) (some cnts)) (t_exp (e_mut (w := .non) (x0 := .lst true (iL l.reverse)) (x := .lst true (iL l.reverse)) (y := .lst true (iL l)) (ws := []) (ρ1 := R25 l.reverse m kept (some due) none none (some told) (some cnts)) (by rfl) (by rfl) (by rfl) (by rfl) (by rfl) ?_)) ?_
  · show some (W.non, W.lst true (iL l.reverse).reverse) = _
    rw [iL_rev, List.reverse_reverse]
  refine s_rt (t_retP (e_and (k := true) (l := true) (e_cmp (c10 h h' hn _ _ _ _ _ _) (by rfl) (by rw [fd]; exact eq_cnt) (by rfl)) fun _ => e_and (k := true) (l := true) (e_cmpP (c11 h h' hn _ _ _ _ _ _) (c21 h h' hn _ _ _ _ _ _) eq_iL (by rfl)) fun _ => e_cmpP (crep h h' hn _ _ _ _ _ _) (by rfl) ?_ (by rfl)) (by rfl))
  show some (decide (rpT l m = rpT l m)) = _
  simp
end K90

set_option Elab.async false
set_option linter.all false
set_option maxRecDepth 100000
set_option maxHeartbeats 4000000
namespace K90
open PySem PySem.Spec PyProof.Rows L2 Ev
theorem list_oW (l : List Nat) : bltW .list [.lst false (frzL (iL l))] = some (.lst true (iL l)) := by
  show some (W.lst true (frzL (frzL (iL l)))) = _
  rw [frzL_ints, frzL_ints]
theorem ord_wrap {n k : Nat} (h : k ≤ n) : Ord n (List.range' k (n - k) ++ List.range k) := by
  unfold Ord
  refine List.perm_append_comm.trans ?_
  rw [List.range_eq_range', List.range_eq_range']
  have := List.range'_append_1 (s := 0) (m := k) (n := n - k)
  rw [Nat.zero_add, show k + (n - k) = n by omega] at this
  rw [this]
theorem ord_turn {n b : Nat} {l : List Nat} (h : Ord n l) : Ord n (l.take b ++ ((l.drop b).take (b + 13 - b)).reverse ++ l.drop (b + 13)) := by
  unfold Ord
  have e : b + 13 - b = 13 := by omega
  rw [e]
  have p1 : (l.take b ++ ((l.drop b).take 13).reverse ++ l.drop (b + 13)).Perm (l.take b ++ (l.drop b).take 13 ++ l.drop (b + 13)) := ((List.reverse_perm _).append_left _).append_right _
  refine p1.trans ?_
  have e2 : l.drop (b + 13) = (l.drop b).drop 13 := by rw [List.drop_drop]
  rw [e2, List.append_assoc, List.take_append_drop, List.take_append_drop]
  exact h
theorem ord_put {n r p : Nat} {l : List Nat} (h : Ord n l) (hr : r < l.length) : Ord n ((l.eraseIdx r).take p ++ [l[r]] ++ (l.eraseIdx r).drop p) := by
  unfold Ord
  have p1 : ((l.eraseIdx r).take p ++ [l[r]] ++ (l.eraseIdx r).drop p).Perm (l[r] :: l.eraseIdx r) := by
    have p2 : ((l.eraseIdx r).take p ++ [l[r]] ++ (l.eraseIdx r).drop p).Perm (([l[r]] ++ (l.eraseIdx r).take p) ++ (l.eraseIdx r).drop p) := List.perm_append_comm.append_right _
    refine p2.trans ?_
    rw [List.append_assoc, List.take_append_drop]
    exact List.Perm.refl _
  exact p1.trans ((erase_perm l r hr).trans h)
/-- a draw, its generator in slot 0 -/
theorem draw {L : List Fun} {c bd : Nat} {gen : W} {ρ : Rho} {es : E} (hg : Gn c gen) (h0 : 0 < bd) (h1 : bd ≤ 1000) (hc : c < 1000000000) (h13 : L[13]? = some p13) (he : evE T0 (lk L) 1 es (some gen :: ρ) = some (iN bd, some gen :: ρ)) :
    ∃ (r : Nat) (gen' : W), r < bd ∧ Gn (c + 1) gen' ∧ evE T0 (lk L) 1 (.call 13 (.cons (.var 0) (.cons es .nil))) (some gen :: ρ) = some (iN r, some gen' :: ρ) := by
  obtain ⟨r, gen', hr, hG, hf⟩ := F13 (bd := bd) hg h0 h1 hc
  have e13 : lk L 13 = p13 := by unfold lk; rw [List.getD_eq_getElem?_getD, h13]; rfl
  refine ⟨r, gen', hr, hG, ?_⟩
  exact e_callJ (T := T0) (Φ := lk L) (prot := 1) (k := 13) (i := 0) (x := gen) (ws := [iN bd]) (as := [gen, iN bd]) (by rfl) (by rw [e13]; rfl) (by rfl) (a_cons he a_nil) (by rfl) (by rfl) (by rw [e13]; rfl) (by rw [e13]; exact hf)
theorem rnd_order {L : List Fun} {c n : Nat} {gen : W} {ρ : Rho} {es : E} (hg : Gn c gen) (hn : n ≤ 1000) (hc : c + n < 1000000000) (h16 : L[16]? = some p16) (he : evE T0 (lk L) 1 es (some gen :: ρ) = some (iN n, some gen :: ρ)) :
    ∃ (l : List Nat) (gen' : W), Ord n l ∧ Gn (c + n) gen' ∧ evE T0 (lk L) 1 (.call 16 (.cons (.var 0) (.cons es .nil))) (some gen :: ρ) = some (.lst true (iL l), some gen' :: ρ) := by
  obtain ⟨l, gen', hO, hG, hf⟩ := F16 hg hn hc
  have e16 : lk L 16 = p16 := by unfold lk; rw [List.getD_eq_getElem?_getD, h16]; rfl
  refine ⟨l, gen', hO, hG, ?_⟩
  exact e_callJ (T := T0) (Φ := lk L) (prot := 1) (k := 16) (i := 0) (x := gen) (ws := [iN n]) (as := [gen, iN n]) (by rfl) (by rw [e16]; rfl) (by rfl) (a_cons he a_nil) (by rfl) (by rfl) (by rw [e16]; rfl) (by rw [e16]; exact hf)
theorem Gn.oF {c : Nat} {gen : W} (hg : Gn c gen) : Ev.oF gen = true := by
  obtain ⟨a, b, k, rfl, _⟩ := hg
  rfl
theorem near_order {L : List Fun} {c n s : Nat} {l : List Nat} {gen gen1 w0 : W} {ρ ρ1 : Rho} {eo es : E} (h : Ord n l) (hn : n ≤ 200) (hg : Gn c gen1) (hs : s ≤ 1000) (hc : c + s < 1000000000) (h24 : L[24]? = some p24)
    (he : evEs T0 (lk L) 1 (.cons eo (.cons es .nil)) (some gen :: ρ) = some ([w0, iN s], some gen1 :: ρ1)) (hw : frz w0 = oW l) (hnp : pureEs (lk L) (.cons eo (.cons es .nil)) = false) :
    ∃ (m : List Nat) (gen' : W), Ord n m ∧ Gn (c + s) gen' ∧ evE T0 (lk L) 1 (.call 24 (.cons (.var 0) (.cons eo (.cons es .nil)))) (some gen :: ρ) = some (.lst true (iL m), some gen' :: ρ1) := by
  obtain ⟨m, gen', hO, hG, hf⟩ := F24 h hn hg hs hc
  have e24 : lk L 24 = p24 := by unfold lk; rw [List.getD_eq_getElem?_getD, h24]; rfl
  refine ⟨m, gen', hO, hG, ?_⟩
  exact e_callI (T := T0) (Φ := lk L) (prot := 1) (k := 24) (i := 0) (x := gen) (y := gen1) (ws := [w0, iN s]) (ρ1 := some gen1 :: ρ1) (as := [gen1, oW l, iN s]) (by rfl) (by rw [e24]; rfl) (by rfl) he (by rfl) (by rfl) (by show gen1 :: frz w0 :: _ = _; rw [hw]; rfl) (by rw [e24]; rfl) (by rw [e24]; exact hf) (b := false) rfl (by rw [hnp]; rfl)
/-- nothing but the generator is touched -/
theorem near_keep {L : List Fun} {c n s : Nat} {l : List Nat} {gen w0 : W} {ρ ρ1 : Rho} {eo es : E} (h : Ord n l) (hn : n ≤ 200) (hg : Gn c gen) (hs : s ≤ 1000) (hc : c + s < 1000000000) (h24 : L[24]? = some p24)
    (he : evEs T0 (lk L) 1 (.cons eo (.cons es .nil)) (some gen :: ρ) = some ([w0, iN s], some gen :: ρ1)) (hw : frz w0 = oW l) (hnp : pureEs (lk L) (.cons eo (.cons es .nil)) = true) :
    ∃ (m : List Nat) (gen' : W), Ord n m ∧ Gn (c + s) gen' ∧ evE T0 (lk L) 1 (.call 24 (.cons (.var 0) (.cons eo (.cons es .nil)))) (some gen :: ρ) = some (.lst true (iL m), some gen' :: ρ) := by
  obtain ⟨m, gen', hO, hG, hf⟩ := F24 h hn hg hs hc
  have e24 : lk L 24 = p24 := by unfold lk; rw [List.getD_eq_getElem?_getD, h24]; rfl
  refine ⟨m, gen', hO, hG, ?_⟩
  exact e_callI (T := T0) (Φ := lk L) (prot := 1) (k := 24) (i := 0) (x := gen) (y := gen) (ws := [w0, iN s]) (ρ1 := some gen :: ρ1) (as := [gen, oW l, iN s]) (by rfl) (by rw [e24]; rfl) (by rfl) he (by rfl) (by rfl) (by show gen :: frz w0 :: _ = _; rw [hw]; rfl) (by rw [e24]; rfl) (by rw [e24]; exact hf) (b := true) rfl (by
    have g1 := Gn.oF hg
    have g2 := Gn.oF hG
    have g3 : iso (.lst true (iL m)) = true := by simp only [iso, isoL_ints, Bool.and_self]
    rw [hnp, g1, g2, g3]
    rfl)
end K90

set_option Elab.async false
set_option linter.all false
set_option maxRecDepth 100000
set_option maxHeartbeats 4000000
namespace K90
open PySem PySem.Spec PyProof.Rows L2 Ev
abbrev R27 (g : W) (n : Nat) (l : List Nat) (h : Option W) (m : List Nat) (a b c d e f p q : Option W) : Rho := [some g, some (iN n), some (.lst true (iL l)), h, some (.lst true (iL m)), a, b, c, d, e, f, p, q]
section
variable {n k : Nat} {l m : List Nat} {gen : W} (h : Ord n l) (h' : Ord n m) (hn : n ≤ 200) (x a b c d e f p q : Option W)
include h h' hn
theorem d10 : evE T0 (lk L27) 1 (.call 10 (.cons (.var 2) (.cons (.var 4) .nil))) (R27 gen k l x m a b c d e f p q) = some (.lst true (cntL (pl l) (pl m) n), R27 gen k l x m a b c d e f p q) :=
  e_call (as := [oW l, oW m]) (by rfl) (by rfl) (by rfl) (by rfl) (by simp only [frzL, frz, frzL_ints]) (by rfl) (F10 h h' hn) (by rfl) (by simp only [iso, iso_quad, Bool.and_self])
theorem d10k : evE T0 (lk L27) 1 (.kcall 10 [("one" : Str), ("other" : Str)] [0, 1] (.cons (.var 4) (.cons (.var 2) .nil))) (R27 gen k l x m a b c d e f p q) = some (.lst true (cntL (pl l) (pl m) n), R27 gen k l x m a b c d e f p q) := by
  rw [cnt_sym]
  exact e_kcall (as := [oW m, oW l]) (by rfl) (by rfl) (by rfl) ⟨rfl, rfl, rfl⟩ (by simp only [List.map, frzL, frz, frzL_ints, List.getD_cons_succ, List.getD_cons_zero]) (F10 h' h hn) (by rfl) (by simp only [iso, iso_quad, Bool.and_self])
theorem d11 : evE T0 (lk L27) 1 (.call 11 (.cons (.var 2) (.cons (.var 4) .nil))) (R27 gen k l x m a b c d e f p q) = some (.lst true (iL (needL (pl l) (pl m) n)), R27 gen k l x m a b c d e f p q) :=
  e_call (as := [oW l, oW m]) (by rfl) (by rfl) (by rfl) (by rfl) (by simp only [frzL, frz, frzL_ints]) (by rfl) (F11 h h' hn) (by rfl) (by simp only [iso, isoL_ints, Bool.and_self])
theorem d11s : evE T0 (lk L27) 1 (.call 11 (.cons (.var 4) (.cons (.var 2) .nil))) (R27 gen k l x m a b c d e f p q) = some (.lst true (iL (needL (pl l) (pl m) n)), R27 gen k l x m a b c d e f p q) := by
  rw [need_sym]
  exact e_call (as := [oW m, oW l]) (by rfl) (by rfl) (by rfl) (by rfl) (by simp only [frzL, frz, frzL_ints]) (by rfl) (F11 h' h hn) (by rfl) (by simp only [iso, isoL_ints, Bool.and_self])
theorem d19 : evE T0 (lk L27) 1 (.call 19 (.cons (.var 2) (.cons (.var 4) .nil))) (R27 gen k l x m a b c d e f p q) = some (.lst true (prs (unl (pl l) (pl m) n)), R27 gen k l x m a b c d e f p q) :=
  e_call (as := [oW l, oW m]) (by rfl) (by rfl) (by rfl) (by rfl) (by simp only [frzL, frz, frzL_ints]) (by rfl) (F19 h h' hn) (by rfl) (by simp only [iso, isoL_prs, Bool.and_self])
theorem d21 : evE T0 (lk L27) 1 (.call 21 (.cons (.var 2) (.cons (.var 4) .nil))) (R27 gen k l x m a b c d e f p q) = some (.lst true (iL (needL (pl l) (pl m) n)), R27 gen k l x m a b c d e f p q) :=
  e_call (as := [oW l, oW m]) (by rfl) (by rfl) (by rfl) (by rfl) (by simp only [frzL, frz, frzL_ints]) (by rfl) (F21 h h' hn) (by rfl) (by simp only [iso, isoL_ints, Bool.and_self])
theorem drep : evE T0 (lk L27) 1 (.blt .repr (.cons (.tup (.cons (.var 2) (.cons (.var 4) .nil))) .nil)) (R27 gen k l x m a b c d e f p q) = some (.str (rpT l m), R27 gen k l x m a b c d e f p q) := by
  refine e_blt (ws := [.tup false [.lst false (frzL (iL l)), .lst false (frzL (iL m))]]) (by rfl) ?_ (by rfl) (by rfl)
  rw [frzL_ints, frzL_ints]
  exact repr_T (fun x hx => by have := h.mem.mp hx; omega) (by rw [h.len]; omega) (fun x hx => by have := h'.mem.mp hx; omega) (by rw [h'.len]; omega)
end
theorem repN (f g : Nat → Nat) {n : Nat} (hn : n ≤ 200) {o : Bool} : bltW .repr [.lst o (iL (needL f g n))] = some (.str (rpI (needL f g n))) :=
  repr_I (fun x hx => by have := need_lt x hx; omega) (by have := need_len f g n; omega)
theorem ne_str (a : Str) : cmpW .NotEq (.str a) (.str a) = some false := by
  show some (!decide (a = a)) = _
  simp
theorem eq_str (a : Str) : cmpW .Eq (.str a) (.str a) = some true := by
  show some (decide (a = a)) = _
  simp
theorem great_end {n k : Nat} {l m : List Nat} {gen : W} (h : Ord n l) (h' : Ord n m) (hn : n ≤ 200) (x a b c : Option W) : ∃ ρ, xSs T0 (lk L27) 1 (.cons (.setlc 8 [("low", 9), ("high", 10)] (.call 20 (.cons (.var 2) (.cons (.var 4) (.cons (.var 9) (.cons (.var 10) .nil))))) (.tp (.cons (.nm 9) (.cons (.nm 10) .nil))) (.seq (.call 19 (.cons (.var 2) (.cons (.var 4) .nil)))) .nil)
    (.cons (.par2 11 12 (.call 21 (.cons (.var 2) (.cons (.var 4) .nil))) (.blt .repr (.cons (.tup (.cons (.var 2) (.cons (.var 4) .nil))) .nil)))
    (.cons (.ite (.or (.cmp .NotEq (.blt .repr (.cons (.call 10 (.cons (.var 2) (.cons (.var 4) .nil))) .nil)) (.blt .repr (.cons (.var 8) .nil))) (.cmp .NotEq (.blt .repr (.cons (.call 11 (.cons (.var 2) (.cons (.var 4) .nil))) .nil)) (.blt .repr (.cons (.var 11) .nil)))) (.cons (.ret (.cst (.bl false)))
    .nil) .nil)
    (.cons (.ret (.and (.cmp .Eq (.blt .repr (.cons (.kcall 10 [("one" : Str), ("other" : Str)] [0, 1] (.cons (.var 4) (.cons (.var 2) .nil))) .nil)) (.blt .repr (.cons (.var 8) .nil))) (.and (.cmp .Eq (.blt .repr (.cons (.call 11 (.cons (.var 4) (.cons (.var 2) .nil))) .nil)) (.blt .repr (.cons (.var 11) .nil))) (.cmp .Eq (.blt .repr (.cons (.tup (.cons (.var 2) (.cons (.var 4) .nil))) .nil)) (.var 12)))))
    .nil)))) (R27 gen k l x m a b c none none none none none) = some (.rt (.bl true) (some gen :: ρ)) := by
  have k3 := e_lcE (T := T0) (Φ := lk L27) (prot := 1) (ρ := R27 gen k l x m a b c none none none none none) (enc := encP) (l := unl (pl l) (pl m) n) (fe := quad (pl l) (pl m)) (tb := fun _ => true) (own := [("low", 9), ("high", 10)]) (elt := .call 20 (.cons (.var 2) (.cons (.var 4) (.cons (.var 9) (.cons (.var 10) .nil))))) (tg := .tp (.cons (.nm 9) (.cons (.nm 10) .nil))) (it := .seq (.call 19 (.cons (.var 2) (.cons (.var 4) .nil)))) (ifs := .nil)
    (i_seq (d19 h h' hn _ _ _ _ _ _ _ _ _) (seq_prs _)) (by rfl) (by have := unl_len (f := pl l) (g := pl m) (n := n); have h3 : n * n ≤ 200 * 200 := Nat.mul_le_mul hn hn; unfold lim; omega) rfl (fun p hp => ⟨R27 gen k l x m a b c none (some (iN p.1)) (some (iN p.2)) none none, _, by rfl, by rfl, fun z => (by cases z), fun _ => by
      obtain ⟨q1, q2, _⟩ := mem_unl.mp hp
      exact ⟨R27 gen k l x m a b c none (some (iN p.1)) (some (iN p.2)) none none, e_call (as := [oW l, oW m, iN p.1, iN p.2]) (by rfl) (by rfl) (by rfl) (by rfl) (by simp only [frzL, frz, frzL_ints, iN]) (by rfl) (F20 h h' hn q1 q2) (by rfl) (by rfl), by rfl⟩⟩) (by rfl) (isoL_map fun a _ => by rfl)
  rw [show ((unl (pl l) (pl m) n).filter fun _ => true) = unl (pl l) (pl m) n from by simp] at k3
  let due : W := .lst true (cntL (pl l) (pl m) n)
  let cn : W := .lst true (iL (needL (pl l) (pl m) n))
  have r8 : ∀ w, evE T0 (lk L27) 1 (.blt .repr (.cons (.var 8) .nil)) (R27 gen k l x m a b c (some due) none none (some cn) w) = some (.str (rpQ (pl l) (pl m) n), R27 gen k l x m a b c (some due) none none (some cn) w) := fun w => by
    refine e_blt (ws := [.lst false (frzL (cntL (pl l) (pl m) n))]) (by rfl) ?_ (by rfl) (by rfl)
    rw [frz_cnt]
    exact repr_Q hn
  have r11 : ∀ w, evE T0 (lk L27) 1 (.blt .repr (.cons (.var 11) .nil)) (R27 gen k l x m a b c (some due) none none (some cn) w) = some (.str (rpI (needL (pl l) (pl m) n)), R27 gen k l x m a b c (some due) none none (some cn) w) := fun w => by
    refine e_blt (ws := [.lst false (frzL (iL (needL (pl l) (pl m) n)))]) (by rfl) ?_ (by rfl) (by rfl)
    rw [frzL_ints]
    exact repN _ _ hn
  refine ⟨[some (iN k), some (.lst true (iL l)), x, some (.lst true (iL m)), a, b, c, some due, none, none, some cn, some (.str (rpT l m))], ?_⟩
  refine s_cons (ρ1 := R27 gen k l x m a b c (some due) none none none none) (t_setlc k3 ⟨by decide, by show 8 < 13; decide⟩) ?_
  refine s_cons (ρ1 := R27 gen k l x m a b c (some due) none none (some cn) (some (.str (rpT l m)))) (t_par2 (d21 h h' hn _ _ _ _ _ _ _ _ _) (drep h h' hn _ _ _ _ _ _ _ _ _) ⟨by decide, by decide, by show 11 < 13; decide, by show 12 < 13; decide, by decide⟩) ?_
  refine s_cons (t_ifF (ρ1 := R27 gen k l x m a b c (some due) none none (some cn) (some (.str (rpT l m)))) (e_orF (e_cmpP (e_blt (a_cons (d10 h h' hn _ _ _ _ _ _ _ _ _) a_nil) (repr_Q hn) (by rfl) (by rfl)) (r8 _) (ne_str _) (by rfl)) (e_cmpP (e_blt (a_cons (d11 h h' hn _ _ _ _ _ _ _ _ _) a_nil) (repN _ _ hn) (by rfl) (by rfl)) (r11 _) (ne_str _) (by rfl))) s_nil) ?_
  exact s_rt (t_retP (e_and (k := true) (l := true) (e_cmpP (e_blt (a_cons (d10k h h' hn _ _ _ _ _ _ _ _ _) a_nil) (repr_Q hn) (by rfl) (by rfl)) (r8 _) (eq_str _) (by rfl)) fun _ => e_and (k := true) (l := true) (e_cmpP (e_blt (a_cons (d11s h h' hn _ _ _ _ _ _ _ _ _) a_nil) (repN _ _ hn) (by rfl) (by rfl)) (r11 _) (eq_str _) (by rfl)) fun _ => e_cmpP (drep h h' hn _ _ _ _ _ _ _ _ _) (by rfl) (eq_str _) (by rfl)) (by rfl))
end K90

set_option Elab.async false
set_option linter.all false
set_option maxRecDepth 100000
set_option maxHeartbeats 4000000
namespace K90
open PySem PySem.Spec PyProof.Rows L2 Ev
theorem eq0 (r : Nat) : cmpW .Eq (iN r) (.int 0) = some (decide (r = 0)) := by
  show some (decide (((r : Nat) : Int) = 0)) = _
  by_cases h : r = 0
  · subst h; rfl
  · have : ¬ ((r : Nat) : Int) = 0 := by omega
    simp [h, this]
theorem m_ins {l : List Nat} {p v : Nat} (hl : l.length ≤ 1000) (hp : p ≤ 1000) : mutW .insert (.lst true (iL l)) [.int (p : Nat), iN v] = some (.non, .lst true (iL (l.take p ++ [v] ++ l.drop p))) := by
  simp only [mutW]
  rw [if_pos ⟨by rw [ints_len]; unfold lim; omega, by omega, by omega⟩]
  simp [iL, List.map_take, List.map_drop]
theorem m_pop {l : List Nat} {r : Nat} (h : r < l.length) (hl : l.length ≤ 1000) : mutW .pop1 (.lst true (iL l)) [iN r] = some (iN l[r], .lst true (iL (l.eraseIdx r))) := by
  simp only [mutW, iN]
  rw [if_pos ⟨by omega, by omega⟩]
  have e1 : (iL l)[r]? = some (iN l[r]) := iL_get (List.getElem?_eq_getElem h)
  have e2 : (iL l).eraseIdx r = iL (l.eraseIdx r) := eraseIdx_iL l r
  simp only [iN] at e1
  simp only [ints_len, ixN_nat h, e1, e2]
theorem F27 {c : Nat} {gen : W} (hg : Gn c gen) (hc : c ≤ 3000) : ∃ gen', p27.f [gen] = some (.bl true, gen') := by
  obtain ⟨r1, g1, hr1, hg1, k1⟩ := draw (L := L27) (bd := 180) (ρ := [none, none, none, none, none, none, none, none, none, none, none, none]) (es := .cst (.int 180)) hg (by decide) (by decide) (by omega) (by rfl) (by rfl)
  generalize hn : 21 + r1 = n
  have hn2 : n ≤ 200 := by omega
  have hn1 : 21 ≤ n := by omega
  obtain ⟨l0, g2, hO0, hg2, k2⟩ := rnd_order (L := L27) (n := n) (ρ := [some (iN n), none, none, none, none, none, none, none, none, none, none, none]) (es := .var 1) hg1 (by omega) (by omega) (by rfl) (by rfl)
  -- which order
  obtain ⟨r3, g3, hr3, hg3, k3⟩ := draw (L := L27) (bd := 2) (ρ := [some (iN n), some (.lst true (iL l0)), none, none, none, none, none, none, none, none, none, none]) (es := .cst (.int 2)) hg2 (by decide) (by decide) (by omega) (by rfl) (by rfl)
  have hif : ∃ (l : List Nat) (g4 : W) (x : Option W), Ord n l ∧ Gn 3500 g4 ∧ xS T0 (lk L27) 1 (.ite (.cmp .Eq (.call 13 (.cons (.var 0) (.cons (.cst (.int 2)) .nil))) (.cst (.int 0))) (.cons (.set (.nm 3) (.call 13 (.cons (.var 0) (.cons (.var 1) .nil)))) (.cons (.set (.nm 2) (.bin .Add (.lrng2 (.var 3) (.var 1)) (.lrng1 (.var 3)))) .nil)) .nil)
      [some g2, some (iN n), some (.lst true (iL l0)), none, none, none, none, none, none, none, none, none, none] = some (.nx [some g4, some (iN n), some (.lst true (iL l)), x, none, none, none, none, none, none, none, none, none]) := by
    have ht := e_cmpI (T := T0) (Φ := lk L27) (prot := 1) (op := .Eq) (a := .call 13 (.cons (.var 0) (.cons (.cst (.int 2)) .nil))) (b := .cst (.int 0)) k3 (by rfl) (eq0 r3) (by rfl)
    by_cases h0 : r3 = 0
    · obtain ⟨r4, g4, hr4, hg4, k4⟩ := draw (L := L27) (bd := n) (ρ := [some (iN n), some (.lst true (iL l0)), none, none, none, none, none, none, none, none, none, none]) (es := .var 1) hg3 (by omega) (by omega) (by omega) (by rfl) (by rfl)
      refine ⟨List.range' r4 (n - r4) ++ List.range r4, g4, some (iN r4), ord_wrap (by omega), hg4.mono (by omega), ?_⟩
      rw [decide_eq_true h0] at ht
      refine t_ifT ht (s_cons (t_set (ρ2 := [some g4, some (iN n), some (.lst true (iL l0)), some (iN r4), none, none, none, none, none, none, none, none, none]) k4 (by rfl)) (s_cons (t_set (w := .lst true (iL (List.range' r4 (n - r4) ++ List.range r4))) (ρ1 := [some g4, some (iN n), some (.lst true (iL l0)), some (iN r4), none, none, none, none, none, none, none, none, none]) ?_ (by rfl)) s_nil))
      exact e_binP (e_lrng2 (m := r4) (n := n) (by rfl) (by rfl) (by omega) (by omega)) (e_lrng1 (n := r4) (by rfl) (by omega)) (cat_iL _ _ (by rw [List.length_range', List.length_range]; unfold lim; omega)) (by rfl) (by simp only [iso, isoL_ints, Bool.and_self])
    · refine ⟨l0, g3, none, hO0, hg3.mono (by omega), ?_⟩
      rw [decide_eq_false h0] at ht
      exact t_ifF ht s_nil
  obtain ⟨l, g4, x, hO, hg4, k5⟩ := hif
  obtain ⟨r6, g6, hr6, hg6, k6⟩ := draw (L := L27) (bd := n) (ρ := [some (iN n), some (.lst true (iL l)), x, none, none, none, none, none, none, none, none, none]) (es := .var 1) hg4 (by omega) (by omega) (by omega) (by rfl) (by rfl)
  obtain ⟨r7, g7, hr7, hg7, k7⟩ := draw (L := L27) (bd := n) (ρ := [some (iN n), some (.lst true (iL l)), x, none, none, none, none, none, none, none, none, none]) (es := .var 1) hg6 (by omega) (by omega) (by omega) (by rfl) (by rfl)
  have kl : evE T0 (lk L27) 1 (.blt .list (.cons (.var 2) .nil)) [some g4, some (iN n), some (.lst true (iL l)), x, none, none, none, none, none, none, none, none, none] = some (.lst true (iL l), [some g4, some (iN n), some (.lst true (iL l)), x, none, none, none, none, none, none, none, none, none]) :=
    e_blt (ws := [.lst false (frzL (iL l))]) (by rfl) (list_oW l) (by rfl) (by simp only [iso, isoL_ints, Bool.and_self])
  -- the turned piece
  let m1 := l.take r7 ++ ((l.drop r7).take (r7 + 13 - r7)).reverse ++ l.drop (r7 + 13)
  have hO1 : Ord n m1 := ord_turn hO
  let ρ7 : Rho := [some g7, some (iN n), some (.lst true (iL l)), x, some (.lst true (iL l)), some (iN r6), some (iN r7), none, none, none, none, none, none]
  have kt : evE T0 (lk L27) 1 (.bin .Add (.bin .Add (.slc (.var 4) (.cst .non) (.var 6)) (.rev (.slc (.var 4) (.var 6) (.bin .Add (.var 6) (.cst (.int 13)))))) (.slc (.var 4) (.bin .Add (.var 6) (.cst (.int 13))) (.cst .non))) ρ7 = some (.lst true (iL m1), ρ7) := by
    have q1 : evE T0 (lk L27) 1 (.slc (.var 4) (.cst .non) (.var 6)) ρ7 = some (.lst true (iL (l.take r7)), ρ7) := e_slc (x := .lst false (frzL (iL l))) (by rfl) (po_no (by rfl)) (po_so (i := (r7 : Nat)) (by rfl) (by rfl)) (by rw [frzL_ints]; exact sl_take _ _) (by rfl) (by simp only [iso, isoL_ints, Bool.and_self])
    have q2 : evE T0 (lk L27) 1 (.slc (.var 4) (.var 6) (.bin .Add (.var 6) (.cst (.int 13)))) ρ7 = some (.lst true (iL ((l.drop r7).take (r7 + 13 - r7))), ρ7) := e_slc (x := .lst false (frzL (iL l))) (by rfl) (po_so (i := (r7 : Nat)) (by rfl) (by rfl)) (po_so (i := ((r7 + 13 : Nat) : Int)) (by rfl) (e_binP (x := iN r7) (y := iN 13) (by rfl) (by rfl) (b_add _ _) (by rfl) (by rfl))) (by rw [frzL_ints]; exact sl_mid _ _ _) (by rfl) (by simp only [iso, isoL_ints, Bool.and_self])
    have q3 : evE T0 (lk L27) 1 (.slc (.var 4) (.bin .Add (.var 6) (.cst (.int 13))) (.cst .non)) ρ7 = some (.lst true (iL (l.drop (r7 + 13))), ρ7) := e_slc (x := .lst false (frzL (iL l))) (by rfl) (po_so (i := ((r7 + 13 : Nat) : Int)) (by rfl) (e_binP (x := iN r7) (y := iN 13) (by rfl) (by rfl) (b_add _ _) (by rfl) (by rfl))) (po_no (by rfl)) (by rw [frzL_ints]; exact sl_drop _ _) (by rfl) (by simp only [iso, isoL_ints, Bool.and_self])
    have hl := hO.len
    refine e_binP (e_binP q1 (e_rev q2 (by rfl)) (cat_iL _ _ ?_) (by rfl) (by simp only [iso, isoL_ints, Bool.and_self])) q3 (cat_iL _ _ ?_) (by rfl) (by simp only [iso, isoL_ints, Bool.and_self])
    · simp only [List.length_take, List.length_reverse, List.length_drop]; unfold lim; omega
    · simp only [List.length_append, List.length_take, List.length_reverse, List.length_drop]; unfold lim; omega
  have hr6' : r6 < m1.length := by rw [hO1.len]; exact hr6
  -- put in again
  let ρ8 : Rho := [some g7, some (iN n), some (.lst true (iL l)), x, some (.lst true (iL m1)), some (iN r6), some (iN r7), none, none, none, none, none, none]
  let ρ9 : Rho := [some g7, some (iN n), some (.lst true (iL l)), x, some (.lst true (iL (m1.eraseIdx r6))), some (iN r6), some (iN r7), some (iN m1[r6]), none, none, none, none, none]
  obtain ⟨r9, g9, hr9, hg9, k9⟩ := draw (L := L27) (bd := 121) (ρ := [some (iN n), some (.lst true (iL l)), x, some (.lst true (iL (m1.eraseIdx r6))), some (iN r6), some (iN r7), some (iN m1[r6]), none, none, none, none, none]) (es := .cst (.int 121)) hg7 (by decide) (by decide) (by omega) (by rfl) (by rfl)
  let ρa : Rho := [some g9, some (iN n), some (.lst true (iL l)), x, some (.lst true (iL (m1.eraseIdx r6))), some (iN r6), some (iN r7), some (iN m1[r6]), none, none, none, none, none]
  have hpos : ∃ p : Nat, p ≤ 1000 ∧ evE T0 (lk L27) 1 (.blt .min (.cons (.bin .Sub (.var 1) (.cst (.int 1))) (.cons (.blt .max (.cons (.cst (.int 0)) (.cons (.bin .Sub (.bin .Add (.var 5) (.call 13 (.cons (.var 0) (.cons (.cst (.int 121)) .nil)))) (.cst (.int 60))) .nil))) .nil))) ρ9 = some (.int (p : Nat), ρa) := by
    refine ⟨min (n - 1) (r6 + r9 - 60), by omega, ?_⟩
    have q1 : evE T0 (lk L27) 1 (.bin .Sub (.bin .Add (.var 5) (.call 13 (.cons (.var 0) (.cons (.cst (.int 121)) .nil)))) (.cst (.int 60))) ρ9 = some (.int (((r6 + r9 : Nat) : Int) - 60), ρa) := e_binF (x := iN (r6 + r9)) (y := .int 60) (e_binF (by rfl) k9 (b_add r6 r9) (by rfl)) (by rfl) (by rfl) (by rfl)
    have q2 : evE T0 (lk L27) 1 (.blt .max (.cons (.cst (.int 0)) (.cons (.bin .Sub (.bin .Add (.var 5) (.call 13 (.cons (.var 0) (.cons (.cst (.int 121)) .nil)))) (.cst (.int 60))) .nil))) ρ9 = some (iN (r6 + r9 - 60), ρa) := by
      refine e_bltF (a_cons (by rfl) (a_cons q1 a_nil)) ?_ (by rfl)
      simp only [bltW, iN]
      congr 2
      split <;> omega
    refine e_bltF (a_cons (w := iN (n - 1)) (ρ1 := ρ9) (e_binP (x := iN n) (y := iN 1) (by rfl) (by rfl) (b_sub1 (by omega)) (by rfl) (by rfl)) (a_cons q2 a_nil)) ?_ (by rfl)
    exact min_iN _ _
  obtain ⟨p, hp, kp⟩ := hpos
  let m2 := (m1.eraseIdx r6).take p ++ [m1[r6]] ++ (m1.eraseIdx r6).drop p
  have hO2 : Ord n m2 := ord_put hO1 hr6'
  have hle : (m1.eraseIdx r6).length ≤ 1000 := by
    rw [List.length_eraseIdx, hO1.len]
    split <;> omega
  -- near it
  let ρb : Rho := [some g9, some (iN n), some (.lst true (iL l)), x, some (.lst true (iL m2)), some (iN r6), some (iN r7), some (iN m1[r6]), none, none, none, none, none]
  obtain ⟨rc, gc, hrc, hgc, kc⟩ := draw (L := L27) (bd := 12) (ρ := [some (iN n), some (.lst true (iL l)), x, some (.lst false (frzL (iL m2))), some (iN r6), some (iN r7), some (iN m1[r6]), none, none, none, none, none]) (es := .cst (.int 12)) hg9 (by decide) (by decide) (by omega) (by rfl) (by rfl)
  obtain ⟨m3, gd, hO3, hgd, kd⟩ := near_order (L := L27) (gen := g9) (w0 := .lst false (frzL (iL m2))) (eo := .var 4) (es := .call 13 (.cons (.var 0) (.cons (.cst (.int 12)) .nil))) (ρ := [some (iN n), some (.lst true (iL l)), x, some (.lst true (iL m2)), some (iN r6), some (iN r7), some (iN m1[r6]), none, none, none, none, none]) (ρ1 := [some (iN n), some (.lst true (iL l)), x, some (.lst false (frzL (iL m2))), some (iN r6), some (iN r7), some (iN m1[r6]), none, none, none, none, none]) hO2 hn2 hgc (s := rc) (by omega) (by omega) (by rfl) (a_cons (by rfl) (a_cons kc a_nil)) (by simp only [frz, frzL_ints]) (by rfl)
  obtain ⟨ρe, ke⟩ := great_end (k := n) (gen := gd) hO hO3 hn2 x (some (iN r6)) (some (iN r7)) (some (iN m1[r6]))
  refine ⟨gd, ?_⟩
  rw [e27]
  refine f_rtI (ρ0 := [some gen, none, none, none, none, none, none, none, none, none, none, none, none]) (ρ := ρe) rfl ?_
  refine s_cons (t_set (ρ2 := [some g1, some (iN n), none, none, none, none, none, none, none, none, none, none, none]) (e_binF (x := iN 21) (z := iN n) (by rfl) k1 (by rw [← hn]; exact b_add 21 r1) (by rfl)) (by rfl)) ?_
  refine s_cons (t_set (ρ2 := [some g2, some (iN n), some (.lst true (iL l0)), none, none, none, none, none, none, none, none, none, none]) k2 (by rfl)) ?_
  refine s_cons k5 ?_
  refine s_cons (t_set (ρ2 := ρ7) (e_tup (a_cons kl (a_cons k6 (a_cons k7 a_nil))) (by show 3 ≤ lim; decide)) (by rfl)) ?_
  refine s_cons (t_set (ρ2 := ρ8) kt (by rfl)) ?_
  refine s_cons (t_set (w := iN m1[r6]) (ρ1 := [some g7, some (iN n), some (.lst true (iL l)), x, some (.lst true (iL (m1.eraseIdx r6))), some (iN r6), some (iN r7), none, none, none, none, none, none]) (ρ2 := ρ9) (e_mut (x0 := .lst true (iL m1)) (x := .lst true (iL m1)) (ws := [iN r6]) (ρ1 := ρ8) (by rfl) (by rfl) (by rfl) (by rfl) (by rfl) (m_pop hr6' (by rw [hO1.len]; omega))) (by rfl)) ?_
  refine s_cons (t_exp (w := .non) (ρ1 := ρb) (e_mut (x0 := .lst true (iL (m1.eraseIdx r6))) (x := .lst true (iL (m1.eraseIdx r6))) (ws := [.int (p : Nat), iN m1[r6]]) (ρ1 := ρa) (by rfl) (by rfl) (by rfl) (a_cons kp (a_cons (by rfl) a_nil)) (by rfl) (m_ins hle hp))) ?_
  refine s_cons (t_set (ρ2 := R27 gd n l x m3 (some (iN r6)) (some (iN r7)) (some (iN m1[r6])) none none none none none) kd (by rfl)) ?_
  exact ke
end K90

set_option Elab.async false
set_option linter.all false
set_option maxRecDepth 100000
set_option maxHeartbeats 4000000
namespace K90
open PySem PySem.Spec PyProof.Rows L2 Ev
/-! ### the orders between two ones -/
def Btw (f g : Nat → Nat) (l : List Nat) : Prop := l.Pairwise fun x y => f x < f y ∨ g x < g y
def inv (h : Nat → Nat) : List Nat → Nat
  | [] => 0
  | a :: T => (T.filter fun b => decide (h b < h a)).length + inv h T
theorem pw_swap {R : Nat → Nat → Prop} {A B : List Nat} {a b : Nat} (h : (A ++ a :: b :: B).Pairwise R) (hr : R b a) : (A ++ b :: a :: B).Pairwise R := by
  rw [List.pairwise_append] at h ⊢
  obtain ⟨h1, h2, h3⟩ := h
  rw [List.pairwise_cons, List.pairwise_cons] at h2
  obtain ⟨h4, h5, h6⟩ := h2
  refine ⟨h1, ?_, fun x hx y hy => h3 x hx y ?_⟩
  · rw [List.pairwise_cons, List.pairwise_cons]
    refine ⟨fun y hy => ?_, fun y hy => h4 y (List.mem_cons_of_mem _ hy), h6⟩
    rcases List.mem_cons.mp hy with rfl | hy
    · exact hr
    · exact h5 y hy
  · simp only [List.mem_cons] at hy ⊢
    rcases hy with hy | hy | hy
    · exact .inr (.inl hy)
    · exact .inl hy
    · exact .inr (.inr hy)
theorem inv_swap {h : Nat → Nat} {a b : Nat} {B : List Nat} (hba : h b < h a) : ∀ A : List Nat, inv h (A ++ b :: a :: B) + 1 = inv h (A ++ a :: b :: B)
  | [] => by
    show inv h (b :: a :: B) + 1 = inv h (a :: b :: B)
    simp only [inv]
    have h1 : decide (h b < h a) = true := decide_eq_true hba
    have h2 : decide (h a < h b) = false := decide_eq_false (by omega)
    simp only [List.filter_cons, h1, h2, if_true, List.length_cons]
    simp only [Bool.false_eq_true, if_false]
    omega
  | x :: A => by
    have ih := inv_swap (B := B) hba A
    show (List.filter _ (A ++ b :: a :: B)).length + inv h (A ++ b :: a :: B) + 1 = (List.filter _ (A ++ a :: b :: B)).length + inv h (A ++ a :: b :: B)
    have p : ((A ++ b :: a :: B).filter fun y => decide (h y < h x)).length = ((A ++ a :: b :: B).filter fun y => decide (h y < h x)).length :=
      ((List.Perm.append_left A (List.Perm.swap a b B)).filter _).length_eq
    rw [p]
    omega
theorem adj_or (h : Nat → Nat) : ∀ t : List Nat, t.Pairwise (fun x y => h x < h y) ∨ ∃ A a b B, t = A ++ a :: b :: B ∧ ¬ h a < h b
  | [] => .inl .nil
  | [a] => .inl (List.pairwise_singleton _ _)
  | a :: b :: T => by
    by_cases hab : h a < h b
    · rcases adj_or h (b :: T) with q | ⟨A, x, y, B, e, q⟩
      · refine .inl (List.pairwise_cons.mpr ⟨fun z hz => ?_, q⟩)
        rcases List.mem_cons.mp hz with rfl | hz
        · exact hab
        · exact Nat.lt_trans hab ((List.pairwise_cons.mp q).1 z hz)
      · exact .inr ⟨a :: A, x, y, B, by rw [e]; rfl, q⟩
    · exact .inr ⟨[], a, b, T, rfl, hab⟩
theorem srt_eq {h : Nat → Nat} : ∀ {t s : List Nat}, t.Perm s → t.Pairwise (fun x y => h x < h y) → s.Pairwise (fun x y => h x < h y) → t = s
  | [], s, p, _, _ => (List.nil_perm.mp p).symm
  | x :: t, [], p, _, _ => absurd (List.perm_nil.mp p) (by simp)
  | x :: t, y :: s, p, h1, h2 => by
    have q1 := List.pairwise_cons.mp h1
    have q2 := List.pairwise_cons.mp h2
    have e : x = y := by
      have m1 : x ∈ y :: s := p.mem_iff.mp (List.mem_cons_self ..)
      have m2 : y ∈ x :: t := p.mem_iff.mpr (List.mem_cons_self ..)
      rcases List.mem_cons.mp m1 with e | m1
      · exact e
      · rcases List.mem_cons.mp m2 with e | m2
        · exact e.symm
        · have := q1.1 y m2
          have := q2.1 x m1
          omega
    subst e
    rw [srt_eq (p.cons_inv) q1.2 q2.2]
theorem pw_of_pl {R : Nat → Nat → Prop} {l : List Nat} (hn : l.Nodup) (h : l.Pairwise R) {x y : Nat} (hx : x ∈ l) (hy : y ∈ l) (hlt : pl l x < pl l y) : R x y := by
  have h1 := List.idxOf_lt_length_iff.mpr hx
  have h2 := List.idxOf_lt_length_iff.mpr hy
  have k := List.pairwise_iff_getElem.mp h (pl l x) (pl l y) h1 h2 hlt
  have e1 : l[pl l x]'h1 = x := List.getElem_idxOf h1
  have e2 : l[pl l y]'h2 = y := List.getElem_idxOf h2
  rwa [e1, e2] at k
/-- all of them are reached by exchanges towards the other one -/
theorem reach {f g : Nat → Nat} {S : List Nat → Prop} (hc : ∀ A a b B, S (A ++ a :: b :: B) → g b < g a → S (A ++ b :: a :: B)) {s : List Nat} (hn : s.Nodup) (hs : Btw f g s) : ∀ (k : Nat) (t : List Nat), inv (pl s) t = k → S t → t.Perm s → t.Pairwise (fun x y => f x < f y ∨ pl s x < pl s y) → S s := by
  intro k
  induction k with
  | zero =>
    intro t hk hS hp ht
    rcases adj_or (pl s) t with q | ⟨A, a, b, B, rfl, q⟩
    · rw [← srt_eq hp q (pw_pl hn)]
      exact hS
    · have ma : a ∈ s := hp.mem_iff.mp (by simp)
      have mb : b ∈ s := hp.mem_iff.mp (by simp)
      have hab : a ≠ b := by
        have := (List.nodup_append.mp (hp.nodup_iff.mpr hn)).2.1
        have := (List.nodup_cons.mp this).1
        intro e
        exact this (by rw [e]; exact List.mem_cons_self ..)
      have hlt : pl s b < pl s a := by
        rcases Nat.lt_or_ge (pl s b) (pl s a) with z | z
        · exact z
        · exfalso
          have e : pl s a = pl s b := by omega
          have e1 := List.getElem_idxOf (List.idxOf_lt_length_iff.mpr ma)
          have e2 := List.getElem_idxOf (List.idxOf_lt_length_iff.mpr mb)
          unfold pl at e
          apply hab
          rw [← e1, ← e2]
          congr 1
      have := inv_swap (B := B) hlt A
      omega
  | succ k ih =>
    intro t hk hS hp ht
    rcases adj_or (pl s) t with q | ⟨A, a, b, B, rfl, q⟩
    · rw [← srt_eq hp q (pw_pl hn)]
      exact hS
    · have ma : a ∈ s := hp.mem_iff.mp (by simp)
      have mb : b ∈ s := hp.mem_iff.mp (by simp)
      have hab : a ≠ b := by
        have := (List.nodup_append.mp (hp.nodup_iff.mpr hn)).2.1
        have := (List.nodup_cons.mp this).1
        intro e
        exact this (by rw [e]; exact List.mem_cons_self ..)
      have hlt : pl s b < pl s a := by
        rcases Nat.lt_or_ge (pl s b) (pl s a) with z | z
        · exact z
        · exfalso
          have e : pl s a = pl s b := by omega
          have e1 := List.getElem_idxOf (List.idxOf_lt_length_iff.mpr ma)
          have e2 := List.getElem_idxOf (List.idxOf_lt_length_iff.mpr mb)
          unfold pl at e
          apply hab
          rw [← e1, ← e2]
          congr 1
      have hfab : f a < f b := by
        have h2 := (List.pairwise_append.mp ht).2.1
        rcases (List.pairwise_cons.mp h2).1 b (List.mem_cons_self ..) with z | z
        · exact z
        · omega
      have hg : g b < g a := by
        rcases pw_of_pl hn hs mb ma hlt with z | z
        · omega
        · exact z
      have hi := inv_swap (B := B) hlt A
      exact ih (A ++ b :: a :: B) (by omega) (hc A a b B hS hg) ((List.Perm.append_left A (List.Perm.swap a b B)).trans hp) (pw_swap ht (.inr hlt))
theorem reach_all {f g : Nat → Nat} {S : List Nat → Prop} {l s : List Nat} (hc : ∀ A a b B, S (A ++ a :: b :: B) → g b < g a → S (A ++ b :: a :: B)) (hl : S l) (hf : l.Pairwise fun x y => f x < f y) (hp : s.Perm l) (hn : l.Nodup) (hs : Btw f g s) : S s :=
  reach hc (hp.nodup_iff.mpr hn) hs _ l rfl hl hp.symm (hf.imp fun h => .inl h)
/-! ### the counts of a pair -/
def bwB (lo hi z : Nat) : Bool := decide (lo < z) && decide (z < hi)
def cntB (lo hi : Nat) (A : List Nat) : Nat := (A.filter (bwB lo hi)).length
theorem lcnt_eq (A : List Nat) (a b : Nat) : lcnt A a b = cntB (min a b) (max a b) A := rfl
theorem nd_len {p q : List Nat} (hp : p.Nodup) (hq : q.Nodup) (h : ∀ x, x ∈ p ↔ x ∈ q) : p.length = q.length := ((List.perm_ext_iff_of_nodup hp hq).mpr h).length_eq
section
variable {f g : Nat → Nat} {n a b : Nat} {l : List Nat}
abbrev bf (f g : Nat → Nat) (x y : Nat) : Prop := f x < f y ∧ g x < g y
theorem ahead_iff {lo hi z : Nat} : ahead f g lo hi z = true ↔ bf f g z lo ∨ bf f g z hi := by
  simp [ahead, ahB]
theorem behind_iff {lo hi z : Nat} : behind f g lo hi z = true ↔ bf f g lo z ∨ bf f g hi z := by
  simp [behind, beB]
theorem ahead_mm {z : Nat} : ahead f g (min a b) (max a b) z = true ↔ bf f g z a ∨ bf f g z b := by
  rw [ahead_iff]
  rcases Nat.le_total a b with h | h
  · rw [Nat.min_eq_left h, Nat.max_eq_right h]
  · rw [Nat.min_eq_right h, Nat.max_eq_left h]; exact or_comm
theorem behind_mm {z : Nat} : behind f g (min a b) (max a b) z = true ↔ bf f g a z ∨ bf f g b z := by
  rw [behind_iff]
  rcases Nat.le_total a b with h | h
  · rw [Nat.min_eq_left h, Nat.max_eq_right h]
  · rw [Nat.min_eq_right h, Nat.max_eq_left h]; exact or_comm
theorem mem_bw {lo hi z : Nat} : z ∈ List.range' (lo + 1) (hi - (lo + 1)) ↔ lo < z ∧ z < hi := by
  rw [List.mem_range'_1]; omega
/-- whatever the order, the count lies between -/
theorem cnt_between {A B : List Nat} (hO : Ord n (A ++ a :: b :: B)) (hs : Btw f g (A ++ a :: b :: B)) : least f g (min a b) (max a b) ≤ lcnt A a b ∧ lcnt A a b ≤ most f g (min a b) (max a b) := by
  have hnd := hO.nd
  have hA := (List.nodup_append.mp hnd).1
  have hpw := List.pairwise_append.mp hs
  have h2 := List.pairwise_cons.mp hpw.2.1
  have h3 := List.pairwise_cons.mp h2.2
  have han : a < n := hO.mem.mp (by simp)
  have hbn : b < n := hO.mem.mp (by simp)
  rw [lcnt_eq]
  unfold cntB least leastTo most mostTo
  constructor
  · refine List.Nodup.length_le_of_subset ((List.Pairwise.filter _ List.nodup_range')) fun z hz => ?_
    obtain ⟨z1, z2⟩ := List.mem_filter.mp hz
    have zb := mem_bw.mp z1
    have zn : z < n := by omega
    have zm := hO.mem.mpr zn
    rw [ahead_mm] at z2
    refine List.mem_filter.mpr ⟨?_, by simp [bwB, zb.1, zb.2]⟩
    rcases List.mem_append.mp zm with zm | zm
    · exact zm
    · exfalso
      rcases List.mem_cons.mp zm with e | zm
      · subst e; omega
      · rcases List.mem_cons.mp zm with e | zm
        · subst e; omega
        · have r1 := h2.1 z (List.mem_cons_of_mem _ zm)
          have r2 := h3.1 z zm
          rcases z2 with z2 | z2
          · have := z2.1; have := z2.2; omega
          · have := z2.1; have := z2.2; omega
  · refine List.Nodup.length_le_of_subset (hA.filter _) fun z hz => ?_
    obtain ⟨z1, z2⟩ := List.mem_filter.mp hz
    simp only [bwB, Bool.and_eq_true, decide_eq_true_eq] at z2
    refine List.mem_filter.mpr ⟨mem_bw.mpr z2, ?_⟩
    have r1 := hpw.2.2 z z1 a (List.mem_cons_self ..)
    have r2 := hpw.2.2 z z1 b (List.mem_cons_of_mem _ (List.mem_cons_self ..))
    rw [Bool.not_eq_true', Bool.eq_false_iff, Ne, behind_mm]
    rintro (z3 | z3)
    · have := z3.1; have := z3.2; omega
    · have := z3.1; have := z3.2; omega
theorem take_cnt {p : Nat → Bool} : ∀ {M : List Nat} {t : Nat}, t ≤ (M.filter p).length → ∃ k, ((M.take k).filter p).length = t
  | [], t, h => ⟨0, by simp at h; simp [h]⟩
  | x :: M, t, h => by
    cases t with
    | zero => exact ⟨0, by simp⟩
    | succ t =>
      cases hx : p x with
      | true =>
        rw [List.filter_cons, hx] at h
        simp only [if_true, List.length_cons] at h
        obtain ⟨k, hk⟩ := take_cnt (p := p) (M := M) (t := t) (by omega)
        refine ⟨k + 1, ?_⟩
        rw [List.take_succ_cons, List.filter_cons, hx]
        simp only [if_true, List.length_cons, hk]
      | false =>
        rw [List.filter_cons, hx] at h
        simp only [Bool.false_eq_true, if_false] at h
        obtain ⟨k, hk⟩ := take_cnt (p := p) (M := M) (t := t + 1) h
        refine ⟨k + 1, ?_⟩
        rw [List.take_succ_cons, List.filter_cons, hx]
        simpa using hk
theorem filt_cnt (p : Nat → Bool) (A B : List Nat) : ((A ++ B).filter p).length = (A.filter p).length + (B.filter p).length := by
  rw [List.filter_append, List.length_append]
open Classical in
/-- each count between comes -/
theorem cnt_all (hO : Ord n l) (hf : ∀ x y, x < n → y < n → f x = f y → x = y) (hg : ∀ x y, x < n → y < n → g x = g y → x = y) (hl : l.Pairwise fun x y => f x < f y) (ha : a < n) (hb : b < n) (h1 : f a < f b) (h2 : g b < g a) {c : Nat}
    (hc : least f g (min a b) (max a b) ≤ c ∧ c ≤ most f g (min a b) (max a b)) : ∃ A B, Ord n (A ++ a :: b :: B) ∧ Btw f g (A ++ a :: b :: B) ∧ lcnt A a b = c := by
  let dn : Nat → Bool := fun z => decide (bf f g z a ∨ bf f g z b)
  let up : Nat → Bool := fun z => decide (bf f g a z ∨ bf f g b z)
  let md : Nat → Bool := fun z => decide (z ≠ a ∧ z ≠ b ∧ ¬ (bf f g z a ∨ bf f g z b) ∧ ¬ (bf f g a z ∨ bf f g b z))
  let D := l.filter dn
  let M := l.filter md
  let U := l.filter up
  have mD : ∀ z, z ∈ D ↔ z < n ∧ (bf f g z a ∨ bf f g z b) := fun z => by simp only [D, dn, List.mem_filter, decide_eq_true_eq, hO.mem]
  have mU : ∀ z, z ∈ U ↔ z < n ∧ (bf f g a z ∨ bf f g b z) := fun z => by simp only [U, up, List.mem_filter, decide_eq_true_eq, hO.mem]
  have mM : ∀ z, z ∈ M ↔ z < n ∧ (z ≠ a ∧ z ≠ b ∧ ¬ (bf f g z a ∨ bf f g z b) ∧ ¬ (bf f g a z ∨ bf f g b z)) := fun z => by simp only [M, md, List.mem_filter, decide_eq_true_eq, hO.mem]
  have pD : D.Pairwise fun x y => f x < f y := hl.filter _
  have pM : M.Pairwise fun x y => f x < f y := hl.filter _
  have pU : U.Pairwise fun x y => f x < f y := hl.filter _
  -- not ordered so: ordered the other way
  have opp : ∀ {x y : Nat}, x < n → y < n → x ≠ y → ¬ (f x < f y ∨ g x < g y) → bf f g y x := fun {x y} hx hy hne h => by
    have e1 : f x ≠ f y := fun e => hne (hf x y hx hy e)
    have e2 : g x ≠ g y := fun e => hne (hg x y hx hy e)
    constructor <;> omega
  have hab : a ≠ b := fun e => by subst e; omega
  have r : ∀ {x y : Nat}, x < n → y < n → x ≠ y → ¬ bf f g y x → (f x < f y ∨ g x < g y) := fun {x y} hx hy hne h => Classical.byContradiction fun q => h (opp hx hy hne q)
  -- the pairs of parts
  have DM : ∀ x ∈ D, ∀ y ∈ M, f x < f y ∨ g x < g y := fun x hx y hy => by
    obtain ⟨x1, x2⟩ := (mD x).mp hx
    obtain ⟨y1, y2, y3, y4, y5⟩ := (mM y).mp hy
    refine r x1 y1 (fun e => by subst e; exact y4 x2) fun q => y4 ?_
    obtain ⟨q1, q2⟩ := q
    rcases x2 with ⟨z1, z2⟩ | ⟨z1, z2⟩
    · exact .inl ⟨by omega, by omega⟩
    · exact .inr ⟨by omega, by omega⟩
  have DU : ∀ x ∈ D, ∀ y ∈ U, f x < f y ∨ g x < g y := fun x hx y hy => by
    obtain ⟨x1, x2⟩ := (mD x).mp hx
    obtain ⟨y1, y2⟩ := (mU y).mp hy
    apply Classical.byContradiction
    intro q
    rcases x2 with ⟨z1, z2⟩ | ⟨z1, z2⟩ <;> rcases y2 with ⟨w1, w2⟩ | ⟨w1, w2⟩ <;> omega
  have MU : ∀ x ∈ M, ∀ y ∈ U, f x < f y ∨ g x < g y := fun x hx y hy => by
    obtain ⟨x1, x2, x3, x4, x5⟩ := (mM x).mp hx
    obtain ⟨y1, y2⟩ := (mU y).mp hy
    refine r x1 y1 (fun e => by subst e; exact x5 y2) fun q => x5 ?_
    obtain ⟨q1, q2⟩ := q
    rcases y2 with ⟨z1, z2⟩ | ⟨z1, z2⟩
    · exact .inl ⟨by omega, by omega⟩
    · exact .inr ⟨by omega, by omega⟩
  have Dab : ∀ x ∈ D, (f x < f a ∨ g x < g a) ∧ (f x < f b ∨ g x < g b) := fun x hx => by
    obtain ⟨x1, x2⟩ := (mD x).mp hx
    rcases x2 with ⟨z1, z2⟩ | ⟨z1, z2⟩ <;> constructor <;> omega
  have Mab : ∀ x ∈ M, (f x < f a ∨ g x < g a) ∧ (f x < f b ∨ g x < g b) := fun x hx => by
    obtain ⟨x1, x2, x3, x4, x5⟩ := (mM x).mp hx
    exact ⟨r x1 ha x2 fun q => x5 (.inl q), r x1 hb x3 fun q => x5 (.inr q)⟩
  have abM : ∀ y ∈ M, (f a < f y ∨ g a < g y) ∧ (f b < f y ∨ g b < g y) := fun y hy => by
    obtain ⟨x1, x2, x3, x4, x5⟩ := (mM y).mp hy
    exact ⟨r ha x1 (fun e => x2 e.symm) fun q => x4 (.inl q), r hb x1 (fun e => x3 e.symm) fun q => x4 (.inr q)⟩
  have abU : ∀ y ∈ U, (f a < f y ∨ g a < g y) ∧ (f b < f y ∨ g b < g y) := fun y hy => by
    obtain ⟨x1, x2⟩ := (mU y).mp hy
    rcases x2 with ⟨z1, z2⟩ | ⟨z1, z2⟩ <;> constructor <;> omega
  -- the order with k of the free ones ahead
  have build : ∀ k, Btw f g ((D ++ M.take k) ++ a :: b :: (M.drop k ++ U)) := fun k => by
    have tM : ∀ x ∈ M.take k, x ∈ M := fun x hx => List.mem_of_mem_take hx
    have dM : ∀ x ∈ M.drop k, x ∈ M := fun x hx => List.mem_of_mem_drop hx
    have pt : (M.take k ++ M.drop k).Pairwise fun x y => f x < f y := by rw [List.take_append_drop]; exact pM
    have pt' := List.pairwise_append.mp pt
    unfold Btw
    refine List.pairwise_append.mpr ⟨List.pairwise_append.mpr ⟨pD.imp fun h => .inl h, pt'.1.imp fun h => .inl h, fun x hx y hy => DM x hx y (tM y hy)⟩, ?_, ?_⟩
    · refine List.pairwise_cons.mpr ⟨fun y hy => ?_, List.pairwise_cons.mpr ⟨fun y hy => ?_, List.pairwise_append.mpr ⟨pt'.2.1.imp fun h => .inl h, pU.imp fun h => .inl h, fun x hx y hy => MU x (dM x hx) y hy⟩⟩⟩
      · rcases List.mem_cons.mp hy with e | hy
        · subst e; exact .inl h1
        · rcases List.mem_append.mp hy with hy | hy
          · exact (abM y (dM y hy)).1
          · exact (abU y hy).1
      · rcases List.mem_append.mp hy with hy | hy
        · exact (abM y (dM y hy)).2
        · exact (abU y hy).2
    · intro x hx y hy
      rcases List.mem_append.mp hx with hx | hx
      · rcases List.mem_cons.mp hy with e | hy
        · subst e; exact (Dab x hx).1
        · rcases List.mem_cons.mp hy with e | hy
          · subst e; exact (Dab x hx).2
          · rcases List.mem_append.mp hy with hy | hy
            · exact DM x hx y (dM y hy)
            · exact DU x hx y hy
      · rcases List.mem_cons.mp hy with e | hy
        · subst e; exact (Mab x (tM x hx)).1
        · rcases List.mem_cons.mp hy with e | hy
          · subst e; exact (Mab x (tM x hx)).2
          · rcases List.mem_append.mp hy with hy | hy
            · exact .inl (pt'.2.2 x hx y hy)
            · exact MU x (tM x hx) y hy
  have perm : ∀ k, Ord n ((D ++ M.take k) ++ a :: b :: (M.drop k ++ U)) := fun k => by
    have hnd : ((D ++ M.take k) ++ a :: b :: (M.drop k ++ U)).Nodup := (build k).imp fun {x y} h e => by subst e; omega
    refine (List.perm_ext_iff_of_nodup hnd List.nodup_range).mpr fun z => ?_
    rw [List.mem_range]
    have hM : z ∈ M ↔ z ∈ M.take k ∨ z ∈ M.drop k := by rw [← List.mem_append, List.take_append_drop]
    simp only [List.mem_append, List.mem_cons]
    constructor
    · rintro ((h | h) | h | h | h | h)
      · exact ((mD z).mp h).1
      · exact ((mM z).mp (hM.mpr (.inl h))).1
      · omega
      · omega
      · exact ((mM z).mp (hM.mpr (.inr h))).1
      · exact ((mU z).mp h).1
    · intro hz
      by_cases z1 : z = a
      · exact .inr (.inl z1)
      · by_cases z2 : z = b
        · exact .inr (.inr (.inl z2))
        · by_cases z3 : bf f g z a ∨ bf f g z b
          · exact .inl (.inl ((mD z).mpr ⟨hz, z3⟩))
          · by_cases z4 : bf f g a z ∨ bf f g b z
            · exact .inr (.inr (.inr (.inr ((mU z).mpr ⟨hz, z4⟩))))
            · rcases hM.mp ((mM z).mpr ⟨hz, z1, z2, z3, z4⟩) with h | h
              · exact .inl (.inr h)
              · exact .inr (.inr (.inr (.inl h)))
  -- the counts
  have hmx : min a b < n ∧ max a b < n := by omega
  have eL : least f g (min a b) (max a b) = (D.filter (bwB (min a b) (max a b))).length := by
    unfold least leastTo
    refine nd_len ((List.Pairwise.filter _ List.nodup_range')) ((hO.nd.filter _).filter _) fun z => ?_
    rw [List.mem_filter, List.mem_filter, mem_bw, ahead_mm, mD]
    simp only [bwB, Bool.and_eq_true, decide_eq_true_eq]
    constructor
    · rintro ⟨⟨z1, z2⟩, z3⟩
      exact ⟨⟨by omega, z3⟩, z1, z2⟩
    · rintro ⟨⟨z1, z2⟩, z3, z4⟩
      exact ⟨⟨z3, z4⟩, z2⟩
  have eM : most f g (min a b) (max a b) = (D.filter (bwB (min a b) (max a b))).length + (M.filter (bwB (min a b) (max a b))).length := by
    unfold most mostTo
    rw [← filt_cnt]
    have hnd : (D ++ M).Nodup := List.nodup_append.mpr ⟨hO.nd.filter _, hO.nd.filter _, fun x hx y hy e => by
      subst e
      exact ((mM x).mp hy).2.2.2.1 ((mD x).mp hx).2⟩
    refine nd_len ((List.Pairwise.filter _ List.nodup_range')) (hnd.filter _) fun z => ?_
    rw [List.mem_filter, List.mem_filter, mem_bw, List.mem_append, mD, mM]
    simp only [bwB, Bool.and_eq_true, decide_eq_true_eq, Bool.not_eq_true', Bool.eq_false_iff, Ne, behind_mm]
    constructor
    · rintro ⟨⟨z1, z2⟩, z3⟩
      refine ⟨?_, z1, z2⟩
      by_cases z4 : bf f g z a ∨ bf f g z b
      · exact .inl ⟨by omega, z4⟩
      · exact .inr ⟨by omega, fun e => by subst e; omega, fun e => by subst e; omega, z4, z3⟩
    · rintro ⟨z1 | z1, z3, z4⟩
      · refine ⟨⟨z3, z4⟩, fun z5 => ?_⟩
        obtain ⟨_, z1⟩ := z1
        rcases z1 with ⟨q1, q2⟩ | ⟨q1, q2⟩ <;> rcases z5 with ⟨q3, q4⟩ | ⟨q3, q4⟩ <;> omega
      · exact ⟨⟨z3, z4⟩, z1.2.2.2.2⟩
  obtain ⟨k, hk⟩ := take_cnt (p := bwB (min a b) (max a b)) (M := M) (t := c - (D.filter (bwB (min a b) (max a b))).length) (by omega)
  refine ⟨D ++ M.take k, M.drop k ++ U, perm k, build k, ?_⟩
  rw [lcnt_eq]
  unfold cntB
  rw [filt_cnt, hk]
  omega
end
end K90

set_option Elab.async false
set_option linter.all false
set_option maxRecDepth 100000
set_option maxHeartbeats 4000000
namespace K90
open PySem PySem.Spec PyProof.Rows L2 Ev
/-! ### dicts by keys of any form -/
theorem posK_none {α κ : Type} [DecidableEq κ] {k : α → κ} (inj : ∀ x y, k x = k y → x = y) : ∀ {l : List α} {x : α}, x ∉ l → posK (l.map k) (k x) = none
  | [], _, _ => rfl
  | a :: l, x, h => by
    have h1 : ¬ k a = k x := fun e => h (by rw [inj a x e]; exact List.mem_cons_self ..)
    show (if k a = k x then some 0 else match posK (l.map k) (k x) with | some n => some (n + 1) | none => none) = none
    rw [if_neg h1, posK_none inj fun z => h (List.mem_cons_of_mem _ z)]
theorem posK_some {α κ : Type} [DecidableEq κ] {k : α → κ} (inj : ∀ x y, k x = k y → x = y) : ∀ {l : List α} {x : α}, x ∈ l → ∃ j, posK (l.map k) (k x) = some j ∧ l[j]? = some x
  | [], _, h => by cases h
  | a :: l, x, h => by
    show ∃ j, (if k a = k x then some 0 else match posK (l.map k) (k x) with | some n => some (n + 1) | none => none) = some j ∧ _
    by_cases e : k a = k x
    · rw [if_pos e]
      exact ⟨0, rfl, by rw [inj a x e]; rfl⟩
    · have hx : x ∈ l := by
        rcases List.mem_cons.mp h with z | z
        · exact absurd (by rw [z]) e
        · exact z
      obtain ⟨j, h1, h2⟩ := posK_some inj hx
      rw [if_neg e, h1]
      exact ⟨j + 1, rfl, by simpa using h2⟩
theorem putP_at {κ : Type} [DecidableEq κ] {k : κ} {w : W} : ∀ {ks : List κ} {vs : List W} {j : Nat}, ks.length = vs.length → posK ks k = some j → putP ks vs k w = (ks, vs.set j w)
  | [], _, _, _, h => by cases h
  | a :: ks, [], _, h, _ => by cases h
  | a :: ks, v :: vs, j, hl, h => by
    have h' : (if a = k then some 0 else match posK ks k with | some n => some (n + 1) | none => none) = some j := h
    unfold putP
    by_cases e : a = k
    · rw [if_pos e] at h'
      cases h'
      rw [if_pos e]
      rfl
    · rw [if_neg e] at h'
      cases q : posK ks k with
      | none => rw [q] at h'; cases h'
      | some i =>
        rw [q] at h'
        cases h'
        rw [if_neg e, putP_at (by simpa using hl) q]
        rfl
/-! ### what has been seen -/
abbrev P2 := Nat × Nat
def pk (p : P2) : List Key := [Sum.inl ((p.1 : Nat) : Int), Sum.inl ((p.2 : Nat) : Int)]
theorem pk_inj : ∀ x y : P2, pk x = pk y → x = y := by
  intro x y e
  simp only [pk, List.cons.injEq, Sum.inl.injEq, and_true] at e
  have h1 : x.1 = y.1 := by omega
  have h2 : x.2 = y.2 := by omega
  exact Prod.ext h1 h2
def rk (r : List Nat) : List Key := r.map fun x => Sum.inl ((x : Nat) : Int)
theorem rk_inj : ∀ x y : List Nat, rk x = rk y → x = y
  | [], [], _ => rfl
  | [], _ :: _, e => by cases e
  | _ :: _, [], e => by cases e
  | a :: x, b :: y, e => by
    have e' : (Sum.inl ((a : Nat) : Int) : Key) :: rk x = Sum.inl ((b : Nat) : Int) :: rk y := e
    simp only [List.cons.injEq, Sum.inl.injEq] at e'
    rw [rk_inj x y e'.2]
    have : a = b := by omega
    rw [this]
abbrev TT := List (P2 × (Bool × List Nat))
def vW (e : Bool × List Nat) : W := .lst e.1 (iL e.2)
def foundW (T : TT) : W := .dT true (T.map fun e => pk e.1) (T.map fun e => vW e.2)
def rowsW (R : List (Bool × List Nat)) : W := .lst true (R.map vW)
def knownW (rl : List (List Nat)) : W := .dT true (rl.map rk) (rl.map fun _ => W.bl true)
theorem tk_pair (a b : Nat) {o : Bool} : tkW (.tup o [iN a, iN b]) = some (pk (a, b)) := rfl
theorem keysW_iL : ∀ r : List Nat, keysW (iL r) = some (rk r)
  | [] => rfl
  | a :: r => by
    have e : iL (a :: r) = iN a :: iL r := rfl
    rw [e]
    unfold keysW
    rw [keysW_iL r]
    rfl
theorem tk_row (r : List Nat) {o : Bool} : tkW (.tup o (iL r)) = some (rk r) := keysW_iL r
structure TS (Q : P2 → Nat → Prop) (T : TT) : Prop where
  nk : (T.map (·.1)).Nodup
  kb : ∀ e ∈ T, e.1.1 < 7 ∧ e.1.2 < 7
  nl : ∀ e ∈ T, e.2.2.Nodup ∧ e.2.2 ≠ [] ∧ ∀ c ∈ e.2.2, c < 8
  ok : ∀ p c, (∃ e ∈ T, e.1 = p ∧ c ∈ e.2.2) ↔ Q p c
theorem TS.len {Q : P2 → Nat → Prop} {T : TT} (h : TS Q T) : T.length ≤ 49 := by
  have nd : ((T.map (·.1)).map fun p : P2 => p.1 * 7 + p.2).Nodup := by
    unfold List.Nodup
    rw [List.pairwise_map]
    refine List.Pairwise.imp_of_mem ?_ h.nk
    intro a b ha hb hne e
    obtain ⟨x, hx, rfl⟩ := List.mem_map.mp ha
    obtain ⟨y, hy, rfl⟩ := List.mem_map.mp hb
    have h1 := h.kb x hx
    have h2 := h.kb y hy
    apply hne
    exact Prod.ext (by omega) (by omega)
  have k := List.Nodup.length_le_of_subset (l₂ := List.range 49) nd fun z hz => by
    obtain ⟨p, hp, rfl⟩ := List.mem_map.mp hz
    obtain ⟨x, hx, rfl⟩ := List.mem_map.mp hp
    have h1 := h.kb x hx
    exact List.mem_range.mpr (by omega)
  simpa using k
/-- one more count of a pair that is there -/
theorem TS.at {Q : P2 → Nat → Prop} {T : TT} (h : TS Q T) {j : Nat} {p : P2} {c : Nat} {fl fl' : Bool} {L L' : List Nat} (e : T[j]? = some (p, (fl, L))) (hL : ∀ x, x ∈ L' ↔ x ∈ L ∨ x = c) (hn : L'.Nodup) (hc : c < 8) : TS (fun q d => Q q d ∨ (q = p ∧ d = c)) (T.set j (p, (fl', L'))) := by
  have hj : j < T.length := (List.getElem?_eq_some_iff.mp e).1
  have ej : T[j] = (p, (fl, L)) := (List.getElem?_eq_some_iff.mp e).2
  have mem : (p, (fl, L)) ∈ T := List.mem_of_getElem? e
  have keys : (T.set j (p, (fl', L'))).map (·.1) = T.map (·.1) := by
    rw [List.map_set]
    have e2 : (T.map (·.1))[j]'(by simpa using hj) = p := by simp [ej]
    have := List.set_getElem_self (as := T.map (·.1)) (i := j) (by simpa using hj)
    rwa [e2] at this
  have ms : ∀ x, x ∈ T.set j (p, (fl', L')) → x ∈ T ∨ x = (p, (fl', L')) := fun x hx => by
    rcases List.mem_or_eq_of_mem_set hx with z | z
    · exact .inl z
    · exact .inr z
  -- an entry with this key is the one at j
  have uniq : ∀ x ∈ T, x.1 = p → x = (p, (fl, L)) := fun x hx hp => by
    obtain ⟨i, hi, ei⟩ := List.getElem_of_mem hx
    have hij : i = j := by
      have k := (List.pairwise_iff_getElem.mp h.nk)
      rcases Nat.lt_trichotomy i j with z | z | z
      · exact absurd (by rw [List.getElem_map, List.getElem_map, ei, ej, hp]) (k i j (by simpa using hi) (by simpa using hj) z)
      · exact z
      · exact absurd (by rw [List.getElem_map, List.getElem_map, ei, ej, hp]) (k j i (by simpa using hj) (by simpa using hi) z)
    subst hij
    rw [← ei, ej]
  have new : (p, (fl', L')) ∈ T.set j (p, (fl', L')) := List.mem_set hj _
  have old : ∀ x ∈ T, x.1 ≠ p → x ∈ T.set j (p, (fl', L')) := fun x hx hne => by
    obtain ⟨i, hi, ei⟩ := List.getElem_of_mem hx
    have hij : j ≠ i := fun z => by subst z; rw [ej] at ei; exact hne (by rw [← ei])
    refine List.mem_iff_getElem?.mpr ⟨i, ?_⟩
    rw [List.getElem?_set_ne hij, List.getElem?_eq_getElem hi, ei]
  refine ⟨by rw [keys]; exact h.nk, fun x hx => ?_, fun x hx => ?_, fun q d => ?_⟩
  · rcases ms x hx with z | z
    · exact h.kb x z
    · rw [z]; exact (h.kb (p, (fl, L)) mem : p.1 < 7 ∧ p.2 < 7)
  · rcases ms x hx with z | z
    · exact h.nl x z
    · rw [z]
      refine ⟨hn, fun z => ?_, fun d hd => ?_⟩
      · have := (hL c).mpr (.inr rfl)
        rw [show L' = [] from z] at this
        cases this
      · rcases (hL d).mp hd with z | z
        · exact (h.nl _ mem).2.2 d z
        · omega
  · constructor
    · rintro ⟨x, hx, e1, e2⟩
      rcases ms x hx with z | z
      · exact .inl ((h.ok q d).mp ⟨x, z, e1, e2⟩)
      · rw [z] at e1 e2
        rcases (hL d).mp e2 with z2 | z2
        · exact .inl ((h.ok q d).mp ⟨_, mem, e1, z2⟩)
        · exact .inr ⟨e1.symm, z2⟩
    · rintro (hq | ⟨rfl, rfl⟩)
      · obtain ⟨x, hx, e1, e2⟩ := (h.ok q d).mpr hq
        by_cases hp : x.1 = p
        · have := uniq x hx hp
          rw [this] at e1 e2
          exact ⟨_, new, e1, (hL d).mpr (.inl e2)⟩
        · exact ⟨x, old x hx hp, e1, e2⟩
      · exact ⟨_, new, rfl, (hL _).mpr (.inr rfl)⟩
theorem TS.new {Q : P2 → Nat → Prop} {T : TT} (h : TS Q T) {p : P2} {c : Nat} {fl : Bool} (hp : p ∉ T.map (·.1)) (hb : p.1 < 7 ∧ p.2 < 7) (hc : c < 8) : TS (fun q d => Q q d ∨ (q = p ∧ d = c)) (T ++ [(p, (fl, [c]))]) := by
  refine ⟨?_, fun x hx => ?_, fun x hx => ?_, fun q d => ?_⟩
  · rw [List.map_append]
    exact List.nodup_append.mpr ⟨h.nk, List.pairwise_singleton _ _, fun a ha b hb e => hp (by
      have : b = p := by simpa using hb
      rw [← this, ← e]; exact ha)⟩
  · rcases List.mem_append.mp hx with z | z
    · exact h.kb x z
    · rw [List.mem_singleton.mp z]; exact hb
  · rcases List.mem_append.mp hx with z | z
    · exact h.nl x z
    · rw [List.mem_singleton.mp z]
      exact ⟨List.pairwise_singleton _ _, by simp, fun d hd => by rw [List.mem_singleton.mp hd]; exact hc⟩
  · constructor
    · rintro ⟨x, hx, e1, e2⟩
      rcases List.mem_append.mp hx with z | z
      · exact .inl ((h.ok q d).mp ⟨x, z, e1, e2⟩)
      · rw [List.mem_singleton.mp z] at e1 e2
        exact .inr ⟨e1.symm, List.mem_singleton.mp e2⟩
    · rintro (hq | ⟨rfl, rfl⟩)
      · obtain ⟨x, hx, e1, e2⟩ := (h.ok q d).mpr hq
        exact ⟨x, List.mem_append_left _ hx, e1, e2⟩
      · exact ⟨_, List.mem_append_right _ (List.mem_singleton.mpr rfl), rfl, List.mem_singleton.mpr rfl⟩
/-! ### how many rows there can be -/
def allL : Nat → List (List Nat)
  | 0 => [[]]
  | k + 1 => (List.range 7).flatMap fun x => (allL k).map (x :: ·)
theorem allL_len : ∀ k, (allL k).length = 7 ^ k
  | 0 => rfl
  | k + 1 => by
    unfold allL
    simp only [List.length_flatMap, List.length_map, allL_len k]
    simp [List.range_succ]
    rw [Nat.pow_succ]
    omega
theorem mem_allL : ∀ {r : List Nat}, (∀ x ∈ r, x < 7) → r ∈ allL r.length
  | [], _ => by simp [allL]
  | a :: r, h => by
    show _ ∈ (List.range 7).flatMap fun x => (allL r.length).map (x :: ·)
    rw [List.mem_flatMap]
    exact ⟨a, List.mem_range.mpr (h a (List.mem_cons_self ..)), List.mem_map.mpr ⟨r, mem_allL fun x hx => h x (List.mem_cons_of_mem _ hx), rfl⟩⟩
theorem rows_len {n : Nat} {rl : List (List Nat)} (hn : n ≤ 6) (h : rl.Nodup) (hO : ∀ r ∈ rl, Ord n r) : rl.length ≤ 117649 := by
  have k := List.Nodup.length_le_of_subset (l₂ := allL n) h fun r hr => by
    have e := (hO r hr).len
    have := mem_allL (r := r) fun x hx => by have := (hO r hr).mem.mp hx; omega
    rwa [e] at this
  rw [allL_len] at k
  have : 7 ^ n ≤ 7 ^ 6 := Nat.pow_le_pow_right (by decide) hn
  omega
/-! ### the walk's parts -/
theorem F22' {n : Nat} {l m : List Nat} (h : Ord n l) (h' : Ord n m) (hn : n ≤ 200) : p22.f [oW l, oW m] = some (.lst true (iL (stepsN l (pl m))), .non) := by
  by_cases h1 : 1 ≤ n
  · exact F22 h h' h1 hn
  · have e : n = 0 := by omega
    subst e
    have e1 : l = [] := List.length_eq_zero_iff.mp h.len
    have e2 : m = [] := List.length_eq_zero_iff.mp h'.len
    subst e1 e2
    rfl
theorem sort2 {o : Bool} (a b : Nat) : bltW .sorted [.lst o (iL [a, b])] = some (.lst true (iL [min a b, max a b])) := by
  show some (W.lst true ((isort ltI [((a : Nat) : Int), ((b : Nat) : Int)]).map W.int)) = _
  have e : isort ltI [((a : Nat) : Int), ((b : Nat) : Int)] = [((min a b : Nat) : Int), ((max a b : Nat) : Int)] := by
    show ins1 ltI ((a : Nat) : Int) [((b : Nat) : Int)] = _
    unfold ins1
    cases h : ltI ((b : Nat) : Int) ((a : Nat) : Int) with
    | true =>
      have h' := of_decide_eq_true h
      show [((b : Nat) : Int), ((a : Nat) : Int)] = _
      rw [Nat.min_eq_right (by omega), Nat.max_eq_left (by omega)]
    | false =>
      have h' := of_decide_eq_false h
      show [((a : Nat) : Int), ((b : Nat) : Int)] = _
      rw [Nat.min_eq_left (by omega), Nat.max_eq_right (by omega)]
  rw [e]
  rfl
theorem rows_get {R : List (Bool × List Nat)} {i : Nat} {e : Bool × List Nat} (h : R[i]? = some e) : subW (rowsW R) (iN i) = some (vW e) ∧ posW (rowsW R) (iN i) = some i := by
  have hi : i < R.length := (List.getElem?_eq_some_iff.mp h).1
  constructor
  · simp only [rowsW, subW, posW, iN, List.length_map, ixN_nat hi, kids]
    rw [List.getElem?_map, h]
    rfl
  · simp only [rowsW, posW, iN, List.length_map, ixN_nat hi]
section
variable {T : Tab} {Φ : Nat → Fun} {prot : Nat} {ρ ρ1 : Rho}
theorem sub_row {R : List (Bool × List Nat)} {i s : Nat} {e : E} {fl : Bool} {r : List Nat} (h1 : ρ[s]? = some (some (rowsW R))) (he : evE T Φ prot e ρ = some (iN i, ρ)) (hr : R[i]? = some (fl, r)) : ∃ X, evE T Φ prot (.sub (.var s) e) ρ = some (oW r, ρ.set s (some X)) := by
  obtain ⟨g1, g2⟩ := rows_get hr
  cases fl with
  | false =>
    refine ⟨rowsW R, ?_⟩
    have es : ρ.set s (some (rowsW R)) = ρ := by
      have hs : s < ρ.length := (List.getElem?_eq_some_iff.mp h1).1
      have e3 : ρ[s] = some (rowsW R) := (List.getElem?_eq_some_iff.mp h1).2
      rw [← e3]
      exact List.set_getElem_self hs
    rw [es]
    exact e_sub h1 he h1 g1 (by rfl)
  | true =>
    refine ⟨setKid (rowsW R) i (frz (vW (true, r))), ?_⟩
    have hv : isV (vW (true, r)) = false := rfl
    have hf : frz (vW (true, r)) = oW r := by
      show W.lst false (frzL (iL r)) = _
      rw [frzL_ints]
    simp only [evE, h1, he, g1, hv, g2]
    rw [hf]
theorem getP_found {T' : TT} {p : P2} {k : W} {j : Nat} (hk : tkW k = some (pk p)) (hj : posK ((T'.map (·.1)).map pk) (pk p) = some j) : getP (foundW T') k = some (some j) := by
  have e : T'.map (fun e => pk e.1) = (T'.map (·.1)).map pk := by rw [List.map_map]; rfl
  simp only [foundW, getP, hk, e, hj]
theorem getP_none {T' : TT} {p : P2} {k : W} (hk : tkW k = some (pk p)) (hj : posK ((T'.map (·.1)).map pk) (pk p) = none) : getP (foundW T') k = some none := by
  have e : T'.map (fun e => pk e.1) = (T'.map (·.1)).map pk := by rw [List.map_map]; rfl
  simp only [foundW, getP, hk, e, hj]
theorem get_here {T' : TT} {s j : Nat} {es : Es} {k z : W} {p : P2} {fl : Bool} {L : List Nat} (h0 : ∃ x0, ρ[s]? = some (some x0) ∧ tyM .get2 x0 = true) (he : evEs T Φ prot es ρ = some ([k, z], ρ1)) (h1 : ρ1[s]? = some (some (foundW T'))) (hk : tkW k = some (pk p)) (hj : posK ((T'.map (·.1)).map pk) (pk p) = some j) (e : T'[j]? = some (p, (fl, L))) :
    evE T Φ prot (.mth .get2 (.var s) es) ρ = some (oW L, ρ1.set s (some (foundW (T'.set j (p, (false, L)))))) := by
  obtain ⟨x0, h0, ht⟩ := h0
  have hkid : (kids (foundW T'))[j]? = some (vW (fl, L)) := by
    simp only [foundW, kids]
    rw [List.getElem?_map, e]
    rfl
  have hm : isMut .get2 = false := rfl
  cases fl with
  | false =>
    have es' : ρ1.set s (some (foundW (T'.set j (p, (false, L))))) = ρ1 := by
      have hj' : j < T'.length := (List.getElem?_eq_some_iff.mp e).1
      have e4 : T'[j] = (p, (false, L)) := (List.getElem?_eq_some_iff.mp e).2
      have e5 : T'.set j (p, (false, L)) = T' := by rw [← e4]; exact List.set_getElem_self hj'
      rw [e5]
      have hs : s < ρ1.length := (List.getElem?_eq_some_iff.mp h1).1
      have e3 : ρ1[s] = some (foundW T') := (List.getElem?_eq_some_iff.mp h1).2
      rw [← e3]
      exact List.set_getElem_self hs
    have hv : isV (vW (false, L)) = true := rfl
    simp only [evE, hm, h0, ht, he, h1, getP_found hk hj, hkid, hv]
    rw [es']
    rfl
  | true =>
    have hv : isV (vW (true, L)) = false := rfl
    have hf : frz (vW (true, L)) = oW L := by
      show W.lst false (frzL (iL L)) = _
      rw [frzL_ints]
    have hset : setKid (foundW T') j (oW L) = foundW (T'.set j (p, (false, L))) := by
      have hj' : j < T'.length := (List.getElem?_eq_some_iff.mp e).1
      have e4 : T'[j] = (p, (true, L)) := (List.getElem?_eq_some_iff.mp e).2
      simp only [foundW, setKid]
      rw [List.map_set, List.map_set]
      have e6 : (T'.map fun e => pk e.1).set j (pk p) = T'.map fun e => pk e.1 := by
        have := List.set_getElem_self (as := T'.map fun e => pk e.1) (i := j) (by simpa using hj')
        simpa [e4] using this
      rw [e6]
      rfl
    simp only [evE, hm, h0, ht, he, h1, getP_found hk hj, hkid, hv, hf, hset]
theorem get_not {T' : TT} {s : Nat} {es : Es} {k z : W} {p : P2} (h0 : ∃ x0, ρ[s]? = some (some x0) ∧ tyM .get2 x0 = true) (he : evEs T Φ prot es ρ = some ([k, z], ρ1)) (h1 : ρ1[s]? = some (some (foundW T'))) (hk : tkW k = some (pk p)) (hj : posK ((T'.map (·.1)).map pk) (pk p) = none) :
    evE T Φ prot (.mth .get2 (.var s) es) ρ = some (z, ρ1) := by
  obtain ⟨x0, h0, ht⟩ := h0
  have hm : isMut .get2 = false := rfl
  simp only [evE, hm, h0, ht, he, h1, getP_none hk hj]
end
theorem set_here {T' : TT} {p : P2} {k : W} {j : Nat} {fl fl' : Bool} {L L' : List Nat} (hk : tkW k = some (pk p)) (hj : posK ((T'.map (·.1)).map pk) (pk p) = some j) (e : T'[j]? = some (p, (fl, L))) (hl : T'.length < lim) : setW (foundW T') k (vW (fl', L')) = some (foundW (T'.set j (p, (fl', L')))) := by
  have e1 : T'.map (fun e => pk e.1) = (T'.map (·.1)).map pk := by rw [List.map_map]; rfl
  have hl' : (T'.map fun e => pk e.1).length < lim := by rw [List.length_map]; exact hl
  have hj' : posK (T'.map fun e => pk e.1) (pk p) = some j := by rw [e1]; exact hj
  have hj2 : j < T'.length := (List.getElem?_eq_some_iff.mp e).1
  have e4 : T'[j] = (p, (fl, L)) := (List.getElem?_eq_some_iff.mp e).2
  simp only [foundW, setW, hk, if_pos hl', putP_at (ks := T'.map fun e => pk e.1) (vs := T'.map fun e => vW e.2) (by simp) hj']
  rw [List.map_set, List.map_set]
  have e6 : (T'.map fun e => pk e.1).set j (pk p) = T'.map fun e => pk e.1 := by
    have := List.set_getElem_self (as := T'.map fun e => pk e.1) (i := j) (by simpa using hj2)
    simpa [e4] using this
  rw [e6]
theorem set_new {T' : TT} {p : P2} {k : W} {fl : Bool} {L : List Nat} (hk : tkW k = some (pk p)) (hp : p ∉ T'.map (·.1)) (hl : T'.length < lim) : setW (foundW T') k (vW (fl, L)) = some (foundW (T' ++ [(p, (fl, L))])) := by
  have e1 : T'.map (fun e => pk e.1) = (T'.map (·.1)).map pk := by rw [List.map_map]; rfl
  have hl' : (T'.map fun e => pk e.1).length < lim := by rw [List.length_map]; exact hl
  have hn : pk p ∉ T'.map fun e => pk e.1 := by
    rw [e1]
    intro h
    obtain ⟨q, hq, e⟩ := List.mem_map.mp h
    rw [pk_inj _ _ e] at hq
    exact hp hq
  simp only [foundW, setW, hk, if_pos hl', putP_new (ks := T'.map fun e => pk e.1) (vs := T'.map fun e => vW e.2) (by simp) hn]
  rw [List.map_append, List.map_append]
  rfl
theorem mem_known {rl : List (List Nat)} {r : List Nat} {o : Bool} {ks : List (List Key)} {vs : List W} (hks : ks = rl.map rk) : memW (.tup o (iL r)) (.dT false ks vs) = some (decide (r ∈ rl)) := by
  subst hks
  simp only [memW, tk_row]
  by_cases h : r ∈ rl
  · obtain ⟨j, h1, _⟩ := posK_some rk_inj h
    rw [h1]; simp [h]
  · rw [posK_none rk_inj h]; simp [h]
theorem set_known {rl : List (List Nat)} {r : List Nat} {o : Bool} (h : r ∉ rl) (hl : rl.length < lim) : setW (knownW rl) (.tup o (iL r)) (.bl true) = some (knownW (rl ++ [r])) := by
  have hl' : (rl.map rk).length < lim := by rw [List.length_map]; exact hl
  have hn : rk r ∉ rl.map rk := fun z => by
    obtain ⟨q, hq, e⟩ := List.mem_map.mp z
    rw [rk_inj _ _ e] at hq
    exact h hq
  simp only [knownW, setW, tk_row, if_pos hl', putP_new (ks := rl.map rk) (vs := rl.map fun _ => W.bl true) (by simp) hn]
  rw [List.map_append, List.map_append]
  rfl
end K90

set_option Elab.async false
set_option linter.all false
set_option maxRecDepth 100000
set_option maxHeartbeats 4000000
namespace K90
open PySem PySem.Spec PyProof.Rows L2 Ev
/-! ### one exchange that is seen -/
abbrev R23 (l m : List Nat) (T : TT) (R : List (Bool × List Nat)) (at' : Nat) (p lo hi c k fr : Option W) : Rho :=
  [some (oW l), some (oW m), some (foundW T), some (rowsW R), some (knownW (R.map (·.2))), some (iN at'), p, lo, hi, c, k, fr]
def Step (g : Nat → Nat) (r A : List Nat) (a b : Nat) (B : List Nat) : Prop := r = A ++ a :: b :: B ∧ g b < g a
theorem frz_oW {o : Bool} (l : List Nat) : frz (.lst o (iL l)) = oW l := by
  cases o with
  | false => rfl
  | true => show W.lst false (frzL (iL l)) = _; rw [frzL_ints]
theorem var_L {ρ : Rho} {T : Tab} {Φ : Nat → Fun} {prot s : Nat} {o : Bool} {l : List Nat} (h : ρ[s]? = some (some (.lst o (iL l)))) : ∃ ρ', evE T Φ prot (.var s) ρ = some (oW l, ρ') ∧ ρ' = ρ.set s (some (oW l)) := by
  refine ⟨_, ?_, rfl⟩
  simp only [evE, h]
  cases o with
  | false =>
    have hs : s < ρ.length := (List.getElem?_eq_some_iff.mp h).1
    have e3 : ρ[s] = some (oW l) := (List.getElem?_eq_some_iff.mp h).2
    have : ρ.set s (some (oW l)) = ρ := by rw [← e3]; exact List.set_getElem_self hs
    rw [this]
    rfl
  | true =>
    rw [frz_oW]
    rfl
theorem memW_iL {o : Bool} {l : List Nat} {c : Nat} : memW (iN c) (.lst o (iL l)) = some (decide (c ∈ l)) := by
  have h1 : (iL l).all flatW = true := by
    rw [List.all_eq_true]
    intro x hx
    obtain ⟨y, _, rfl⟩ := List.mem_map.mp hx
    rfl
  have h2 : (iL l).any (fun z => eqW z (iN c)) = decide (c ∈ l) := by
    rw [Bool.eq_iff_iff, List.any_eq_true, decide_eq_true_eq]
    constructor
    · rintro ⟨x, hx, e⟩
      obtain ⟨y, hy, rfl⟩ := List.mem_map.mp hx
      have e : (((y : Nat) : Int) == ((c : Nat) : Int)) = true := e
      have : y = c := by have e2 := of_decide_eq_true (p := ((y : Nat) : Int) = ((c : Nat) : Int)) (by simpa using e); omega
      rw [← this]; exact hy
    · intro h
      refine ⟨iN c, List.mem_map.mpr ⟨c, h, rfl⟩, ?_⟩
      show (((c : Nat) : Int) == ((c : Nat) : Int)) = true
      simp
  have h3 : flatW (iN c) = true := rfl
  simp only [memW, h1, h2, h3, Bool.and_self, if_true]
/-- what the body does: the counts -/
theorem step_found {n : Nat} {l m A B : List Nat} {a b : Nat} {T : TT} {R : List (Bool × List Nat)} {at' : Nat} {lo hi c k fr : Option W} {Q : P2 → Nat → Prop} {fl : Bool} {rest : Ss}
    (hT : TS Q T) (hO : Ord n (A ++ a :: b :: B)) (hn : n ≤ 6) (hr : R[at']? = some (fl, A ++ a :: b :: B)) :
    ∃ T' lo' hi' c' k', TS (fun q d => Q q d ∨ (q = (min a b, max a b) ∧ d = lcnt A a b)) T' ∧ xSs T0 (lk L23) 0 (.cons (.set (.tp (.cons (.nm 7) (.cons (.nm 8) .nil))) (.blt .sorted (.cons (.slc (.sub (.var 3) (.var 5)) (.var 6) (.bin .Add (.var 6) (.cst (.int 2)))) .nil)))
    (.cons (.set (.nm 9) (.mth .get2 (.var 2) (.cons (.tup (.cons (.var 7) (.cons (.var 8) .nil))) (.cons (.lst .nil) .nil))))
    (.cons (.set (.nm 10) (.call 18 (.cons (.sub (.var 3) (.var 5)) (.cons (.var 6) .nil))))
    (.cons (.set (.sub (.var 2) (.tup (.cons (.var 7) (.cons (.var 8) .nil)))) (.ite (.cmp .In (.var 10) (.var 9)) (.var 9) (.bin .Add (.var 9) (.lst (.cons (.var 10) .nil))))) rest)))) (R23 l m T R at' (some (iN A.length)) lo hi c k fr) = xSs T0 (lk L23) 0 rest (R23 l m T' R at' (some (iN A.length)) lo' hi' c' k' fr) := by
  have hlen : (A ++ a :: b :: B).length = n := hO.len
  have hA : A.length + 2 ≤ n := by rw [← hlen]; simp
  have han : a < n := hO.mem.mp (by simp)
  have hbn : b < n := hO.mem.mp (by simp)
  have hcl : lcnt A a b < 8 := by
    have : lcnt A a b ≤ A.length := List.length_filter_le ..
    omega
  have hpb : ((min a b, max a b) : P2).1 < 7 ∧ ((min a b, max a b) : P2).2 < 7 := by
    show min a b < 7 ∧ max a b < 7
    omega
  have hTl := hT.len
  -- low, high
  obtain ⟨X, hX⟩ := sub_row (T := T0) (Φ := lk L23) (prot := 0) (s := 3) (i := at') (e := .var 5) (ρ := R23 l m T R at' (some (iN A.length)) lo hi c k fr) (R := R) (fl := fl) (r := A ++ a :: b :: B) (by rfl) (by rfl) hr
  have hs1 : evE T0 (lk L23) 0 (.slc (.sub (.var 3) (.var 5)) (.var 6) (.bin .Add (.var 6) (.cst (.int 2)))) (R23 l m T R at' (some (iN A.length)) lo hi c k fr) = some (.lst true (iL [a, b]), R23 l m T R at' (some (iN A.length)) lo hi c k fr) := by
    refine e_slc (l := some ((A.length : Nat) : Int)) (h := some ((A.length + 2 : Nat) : Int)) hX (po_so (by rfl) (by rfl)) (po_so (by rfl) (by rfl)) ?_ (by rfl) (by rfl)
    rw [sl_mid]
    have e1 : (A ++ a :: b :: B).drop A.length = a :: b :: B := by simp
    have e2 : A.length + 2 - A.length = 2 := by omega
    rw [e1, e2]
    rfl
  have g1 : ∀ {rs : Ss} {out : Option Out}, xSs T0 (lk L23) 0 rs (R23 l m T R at' (some (iN A.length)) (some (iN (min a b))) (some (iN (max a b))) c k fr) = out → xSs T0 (lk L23) 0 (.cons (.set (.tp (.cons (.nm 7) (.cons (.nm 8) .nil))) (.blt .sorted (.cons (.slc (.sub (.var 3) (.var 5)) (.var 6) (.bin .Add (.var 6) (.cst (.int 2)))) .nil))) rs) (R23 l m T R at' (some (iN A.length)) lo hi c k fr) = out := fun z => s_cons (t_set (ρ2 := R23 l m T R at' (some (iN A.length)) (some (iN (min a b))) (some (iN (max a b))) c k fr) (e_blt (a_cons hs1 a_nil) (sort2 a b) (by rfl) (by rfl)) (by rfl)) z
  have hk2 : tkW (.tup false [iN (min a b), iN (max a b)]) = some (pk (min a b, max a b)) := rfl
  have inj := pk_inj
  -- count
  have h18 : ∀ T' cc, evE T0 (lk L23) 0 (.call 18 (.cons (.sub (.var 3) (.var 5)) (.cons (.var 6) .nil))) (R23 l m T' R at' (some (iN A.length)) (some (iN (min a b))) (some (iN (max a b))) cc k fr) = some (iN (lcnt A a b), R23 l m T' R at' (some (iN A.length)) (some (iN (min a b))) (some (iN (max a b))) cc k fr) := fun T' cc => by
    obtain ⟨X', hX'⟩ := sub_row (T := T0) (Φ := lk L23) (prot := 0) (s := 3) (i := at') (e := .var 5) (ρ := R23 l m T' R at' (some (iN A.length)) (some (iN (min a b))) (some (iN (max a b))) cc k fr) (R := R) (fl := fl) (r := A ++ a :: b :: B) (by rfl) (by rfl) hr
    exact e_call (as := [oW (A ++ a :: b :: B), iN A.length]) (by rfl) (by rfl) (a_cons hX' (a_cons (w := iN A.length) (by rfl) a_nil)) (by rfl) (by simp only [frzL, frz]; rfl) (by rfl) (F18 (by omega)) (by rfl) (by rfl)
  by_cases hp : (min a b, max a b) ∈ T.map (·.1)
  · obtain ⟨j, hj, ej⟩ := posK_some inj hp
    obtain ⟨fl2, L, eT⟩ : ∃ fl2 L, T[j]? = some ((min a b, max a b), (fl2, L)) := by
      rw [List.getElem?_map] at ej
      cases q : T[j]? with
      | none => rw [q] at ej; cases ej
      | some x =>
        rw [q] at ej
        obtain ⟨x1, x2, x3⟩ := x
        have : x1 = (min a b, max a b) := by simpa using ej
        exact ⟨x2, x3, by rw [this]⟩
    have memT := List.mem_of_getElem? eT
    obtain ⟨nd, ne, cb⟩ := hT.nl _ memT
    have hj2 : j < T.length := (List.getElem?_eq_some_iff.mp eT).1
    have hT2 : (T.set j ((min a b, max a b), (false, L)))[j]? = some ((min a b, max a b), (false, L)) := List.getElem?_set_self hj2
    have keys2 : (T.set j ((min a b, max a b), (false, L))).map (·.1) = T.map (·.1) := by
      rw [List.map_set]
      refine List.ext_getElem? fun i => ?_
      by_cases hi : j = i
      · subst hi
        rw [List.getElem?_set_self (by simpa using hj2), List.getElem?_map, eT]; rfl
      · rw [List.getElem?_set_ne hi]
    have hget := get_here (T := T0) (Φ := lk L23) (prot := 0) (ρ := R23 l m T R at' (some (iN A.length)) (some (iN (min a b))) (some (iN (max a b))) c k fr) (ρ1 := R23 l m T R at' (some (iN A.length)) (some (iN (min a b))) (some (iN (max a b))) c k fr) (s := 2) (es := .cons (.tup (.cons (.var 7) (.cons (.var 8) .nil))) (.cons (.lst .nil) .nil)) (k := .tup false [iN (min a b), iN (max a b)]) (z := .lst true []) ⟨_, by rfl, by rfl⟩ (by rfl) (by rfl) hk2 hj eT
    have g2 := t_set (t := .nm 9) (ρ2 := R23 l m (T.set j ((min a b, max a b), (false, L))) R at' (some (iN A.length)) (some (iN (min a b))) (some (iN (max a b))) (some (oW L)) k fr) hget (by rfl)
    have g3 := t_set (t := .nm 10) (ρ2 := R23 l m (T.set j ((min a b, max a b), (false, L))) R at' (some (iN A.length)) (some (iN (min a b))) (some (iN (max a b))) (some (oW L)) (some (iN (lcnt A a b))) fr) (h18 (T.set j ((min a b, max a b), (false, L))) (some (oW L))) (by rfl)
    have hcmp : evE T0 (lk L23) 0 (.cmp .In (.var 10) (.var 9)) (R23 l m (T.set j ((min a b, max a b), (false, L))) R at' (some (iN A.length)) (some (iN (min a b))) (some (iN (max a b))) (some (oW L)) (some (iN (lcnt A a b))) fr) = some (.bl (decide (lcnt A a b ∈ L)), R23 l m (T.set j ((min a b, max a b), (false, L))) R at' (some (iN A.length)) (some (iN (min a b))) (some (iN (max a b))) (some (oW L)) (some (iN (lcnt A a b))) fr) :=
      e_cmpP (x := iN (lcnt A a b)) (y := oW L) (by rfl) (by rfl) (memW_iL (o := false)) (by rfl)
    have key : ∀ fl' L', (∀ x, x ∈ L' ↔ x ∈ L ∨ x = lcnt A a b) → L'.Nodup → TS (fun q d => Q q d ∨ (q = (min a b, max a b) ∧ d = lcnt A a b)) ((T.set j ((min a b, max a b), (false, L))).set j ((min a b, max a b), (fl', L'))) := fun fl' L' h1 h2 => by
      rw [List.set_set]
      exact hT.at eT h1 h2 hcl
    have hset : ∀ fl' L', setW (foundW (T.set j ((min a b, max a b), (false, L)))) (.tup false [iN (min a b), iN (max a b)]) (vW (fl', L')) = some (foundW ((T.set j ((min a b, max a b), (false, L))).set j ((min a b, max a b), (fl', L')))) := fun fl' L' =>
      set_here hk2 (by rw [keys2]; exact hj) hT2 (by rw [List.length_set]; unfold lim; omega)
    by_cases hin : lcnt A a b ∈ L
    · have hE := e_iteT (T := T0) (Φ := lk L23) (prot := 0) (a := .var 9) (b := .bin .Add (.var 9) (.lst (.cons (.var 10) .nil))) (by rw [hcmp, decide_eq_true hin]) (by rfl)
      exact ⟨_, _, _, _, _, key false L (fun x => ⟨.inl, fun z => z.elim id fun z => by rw [z]; exact hin⟩) nd, g1 (s_cons g2 (s_cons g3 (s_cons (t_set hE (g_sub (s := 2) (x0 := foundW (T.set j ((min a b, max a b), (false, L)))) (by rfl) (k := .tup false [iN (min a b), iN (max a b)]) (by rfl) (by rfl) (hset false L))) rfl)))⟩
    · have hE := e_iteF (T := T0) (Φ := lk L23) (prot := 0) (a := .var 9) (b := .bin .Add (.var 9) (.lst (.cons (.var 10) .nil))) (by rw [hcmp, decide_eq_false hin]) (e_bin (x := oW L) (y := .lst true (iL [lcnt A a b])) (by rfl) (by rfl) (cat_iL L [lcnt A a b] (by
        have := List.Nodup.length_le_of_subset (l₂ := List.range 8) nd fun z hz => List.mem_range.mpr (cb z hz)
        simp at this ⊢; unfold lim; omega)) (by rfl) (by simp only [iso, isoL_ints, Bool.and_self]))
      exact ⟨_, _, _, _, _, key true (L ++ [lcnt A a b]) (fun x => by simp) (List.nodup_append.mpr ⟨nd, List.pairwise_singleton _ _, fun x hx y hy e => by
        rw [List.mem_singleton.mp hy] at e
        exact hin (by rw [← e]; exact hx)⟩), g1 (s_cons g2 (s_cons g3 (s_cons (t_set hE (g_sub (s := 2) (x0 := foundW (T.set j ((min a b, max a b), (false, L)))) (by rfl) (k := .tup false [iN (min a b), iN (max a b)]) (by rfl) (by rfl) (hset true (L ++ [lcnt A a b])))) rfl)))⟩
  · have hj := posK_none inj hp
    have hget := get_not (T := T0) (Φ := lk L23) (prot := 0) (ρ := R23 l m T R at' (some (iN A.length)) (some (iN (min a b))) (some (iN (max a b))) c k fr) (ρ1 := R23 l m T R at' (some (iN A.length)) (some (iN (min a b))) (some (iN (max a b))) c k fr) (s := 2) (es := .cons (.tup (.cons (.var 7) (.cons (.var 8) .nil))) (.cons (.lst .nil) .nil)) (k := .tup false [iN (min a b), iN (max a b)]) (z := .lst true []) ⟨_, by rfl, by rfl⟩ (by rfl) (by rfl) hk2 hj
    have g2 := t_set (t := .nm 9) (ρ2 := R23 l m T R at' (some (iN A.length)) (some (iN (min a b))) (some (iN (max a b))) (some (.lst true [])) k fr) hget (by rfl)
    have g3 := t_set (t := .nm 10) (ρ2 := R23 l m T R at' (some (iN A.length)) (some (iN (min a b))) (some (iN (max a b))) (some (.lst true [])) (some (iN (lcnt A a b))) fr) (h18 T (some (.lst true []))) (by rfl)
    have hE : evE T0 (lk L23) 0 (.ite (.cmp .In (.var 10) (.var 9)) (.var 9) (.bin .Add (.var 9) (.lst (.cons (.var 10) .nil)))) (R23 l m T R at' (some (iN A.length)) (some (iN (min a b))) (some (iN (max a b))) (some (.lst true [])) (some (iN (lcnt A a b))) fr) = some (vW (true, [lcnt A a b]), R23 l m T R at' (some (iN A.length)) (some (iN (min a b))) (some (iN (max a b))) (some (.lst true [])) (some (iN (lcnt A a b))) fr) := by rfl
    exact ⟨_, _, _, _, _, hT.new (fl := true) hp hpb hcl, g1 (s_cons g2 (s_cons g3 (s_cons (t_set hE (g_sub (s := 2) (x0 := foundW T) (by rfl) (k := .tup false [iN (min a b), iN (max a b)]) (by rfl) (by rfl) (set_new (fl := true) (L := [lcnt A a b]) hk2 hp (by unfold lim; omega)))) rfl)))⟩
end K90

set_option Elab.async false
set_option linter.all false
set_option maxRecDepth 100000
set_option maxHeartbeats 4000000
namespace K90
open PySem PySem.Spec PyProof.Rows L2 Ev
theorem tup_iL {o : Bool} (l : List Nat) : bltW .tuple [.lst o (iL l)] = some (.tup false (iL l)) := by
  show some (W.tup false (frzL (iL l))) = _
  rw [frzL_ints]
theorem isoT_iL (l : List Nat) : iso (.tup false (iL l)) = true := by simp only [iso, isoL_ints, Bool.and_self]
theorem frz_known (rl : List (List Nat)) : frz (knownW rl) = .dT false (rl.map rk) (rl.map fun _ => W.bl true) := by
  show W.dT false (rl.map rk) (frzL (rl.map fun _ => W.bl true)) = _
  rw [frzL_map, List.map_map]
  rfl
theorem rows_snoc (R : List (Bool × List Nat)) (fr : List Nat) : rowsW (R ++ [(false, fr)]) = .lst true (R.map vW ++ [oW fr]) := by
  show W.lst true _ = _
  rw [List.map_append]
  rfl
/-- what the body does: the rows -/
theorem step_rows {n : Nat} {l m A B : List Nat} {a b : Nat} {T : TT} {R : List (Bool × List Nat)} {at' : Nat} {lo hi c k fr : Option W} {fl : Bool}
    (hO : Ord n (A ++ a :: b :: B)) (hn : n ≤ 6) (hr : R[at']? = some (fl, A ++ a :: b :: B)) (hR : R.length ≤ 117649) :
    ∃ fr' ex, ((A ++ b :: a :: B ∈ R.map (·.2) ∧ ex = []) ∨ (A ++ b :: a :: B ∉ R.map (·.2) ∧ ex = [(false, A ++ b :: a :: B)])) ∧
    xSs T0 (lk L23) 0 (.cons (.set (.nm 11) (.call 17 (.cons (.sub (.var 3) (.var 5)) (.cons (.var 6) .nil))))
    (.cons (.ite (.cmp .NotIn (.blt .tuple (.cons (.var 11) .nil)) (.var 4)) (.cons (.set (.sub (.var 4) (.blt .tuple (.cons (.var 11) .nil))) (.cst (.bl true)))
    (.cons (.exp (.mth .append (.var 3) (.cons (.var 11) .nil)))
    .nil)) .nil)
    .nil)) (R23 l m T R at' (some (iN A.length)) lo hi c k fr) = some (.nx (R23 l m T (R ++ ex) at' (some (iN A.length)) lo hi c k fr')) := by
  have hlen : (A ++ a :: b :: B).length = n := hO.len
  obtain ⟨X, hX⟩ := sub_row (T := T0) (Φ := lk L23) (prot := 0) (s := 3) (i := at') (e := .var 5) (ρ := R23 l m T R at' (some (iN A.length)) lo hi c k fr) (R := R) (fl := fl) (r := A ++ a :: b :: B) (by rfl) (by rfl) hr
  have h17 : evE T0 (lk L23) 0 (.call 17 (.cons (.sub (.var 3) (.var 5)) (.cons (.var 6) .nil))) (R23 l m T R at' (some (iN A.length)) lo hi c k fr) = some (.lst true (iL (A ++ b :: a :: B)), R23 l m T R at' (some (iN A.length)) lo hi c k fr) :=
    e_call (as := [oW (A ++ a :: b :: B), iN A.length]) (by rfl) (by rfl) (a_cons hX (a_cons (w := iN A.length) (by rfl) a_nil)) (by rfl) (by simp only [frzL, frz]; rfl) (by rfl) (F17 (by omega)) (by rfl) (by simp only [iso, isoL_ints, Bool.and_self])
  have g1 := t_set (t := .nm 11) (ρ2 := R23 l m T R at' (some (iN A.length)) lo hi c k (some (.lst true (iL (A ++ b :: a :: B))))) h17 (by rfl)
  generalize hf : A ++ b :: a :: B = fs at *
  obtain ⟨ρ', hv, _⟩ := var_L (T := T0) (Φ := lk L23) (prot := 0) (s := 11) (o := true) (l := fs) (ρ := R23 l m T R at' (some (iN A.length)) lo hi c k (some (.lst true (iL fs)))) (by rfl)
  have ht : evE T0 (lk L23) 0 (.blt .tuple (.cons (.var 11) .nil)) (R23 l m T R at' (some (iN A.length)) lo hi c k (some (.lst true (iL fs)))) = some (.tup false (iL fs), R23 l m T R at' (some (iN A.length)) lo hi c k (some (.lst true (iL fs)))) :=
    e_blt (a_cons hv a_nil) (tup_iL fs) (by rfl) (isoT_iL fs)
  have h4 : ∃ ρ', evE T0 (lk L23) 0 (.var 4) (R23 l m T R at' (some (iN A.length)) lo hi c k (some (.lst true (iL fs)))) = some (frz (knownW (R.map (·.2))), ρ') := ⟨_, by rfl⟩
  obtain ⟨ρ4, h4⟩ := h4
  have hc : evE T0 (lk L23) 0 (.cmp .NotIn (.blt .tuple (.cons (.var 11) .nil)) (.var 4)) (R23 l m T R at' (some (iN A.length)) lo hi c k (some (.lst true (iL fs)))) = some (.bl (!decide (fs ∈ R.map (·.2))), R23 l m T R at' (some (iN A.length)) lo hi c k (some (.lst true (iL fs)))) :=
    e_cmp ht h4 (by
      rw [frz_known]
      have e := mem_known (o := false) (rl := R.map (·.2)) (r := fs) (ks := (R.map (·.2)).map rk) (vs := (R.map (·.2)).map fun _ => W.bl true) rfl
      simp only [cmpW, e]) (by rfl)
  by_cases hin : fs ∈ R.map (·.2)
  · rw [decide_eq_true hin] at hc
    exact ⟨_, [], .inl ⟨hin, rfl⟩, by rw [List.append_nil]; exact s_cons g1 (s_cons (t_ifF hc s_nil) s_nil)⟩
  · rw [decide_eq_false hin] at hc
    have hset := set_known (o := false) hin (by rw [List.length_map]; unfold lim; omega)
    have e2 : R.map (·.2) ++ [fs] = (R ++ [(false, fs)]).map (·.2) := by rw [List.map_append]; rfl
    rw [e2] at hset
    have g := g_sub (T := T0) (Φ := lk L23) (prot := 0) (s := 4) (w := .bl true) (ρ := R23 l m T R at' (some (iN A.length)) lo hi c k (some (.lst true (iL fs)))) (x0 := knownW (R.map (·.2))) (x := knownW (R.map (·.2))) (by rfl) ht (by rfl) hset
    have s1 : xS T0 (lk L23) 0 (.set (.sub (.var 4) (.blt .tuple (.cons (.var 11) .nil))) (.cst (.bl true))) (R23 l m T R at' (some (iN A.length)) lo hi c k (some (.lst true (iL fs)))) = some (.nx [some (oW l), some (oW m), some (foundW T), some (rowsW R), some (knownW ((R ++ [(false, fs)]).map (·.2))), some (iN at'), some (iN A.length), lo, hi, c, k, some (.lst true (iL fs))]) := t_set (by rfl) g
    obtain ⟨ρ5, hv5, e5⟩ := var_L (T := T0) (Φ := lk L23) (prot := 0) (s := 11) (o := true) (l := fs) (ρ := [some (oW l), some (oW m), some (foundW T), some (rowsW R), some (knownW ((R ++ [(false, fs)]).map (·.2))), some (iN at'), some (iN A.length), lo, hi, c, k, some (.lst true (iL fs))]) (by rfl)
    have e5 : ρ5 = [some (oW l), some (oW m), some (foundW T), some (rowsW R), some (knownW ((R ++ [(false, fs)]).map (·.2))), some (iN at'), some (iN A.length), lo, hi, c, k, some (oW fs)] := e5
    subst e5
    have s2 : xS T0 (lk L23) 0 (.exp (.mth .append (.var 3) (.cons (.var 11) .nil))) [some (oW l), some (oW m), some (foundW T), some (rowsW R), some (knownW ((R ++ [(false, fs)]).map (·.2))), some (iN at'), some (iN A.length), lo, hi, c, k, some (.lst true (iL fs))] = some (.nx (R23 l m T (R ++ [(false, fs)]) at' (some (iN A.length)) lo hi c k (some (oW fs)))) := by
      unfold R23
      rw [rows_snoc]
      exact t_exp (e_mut (by rfl) (x0 := rowsW R) (by rfl) (by rfl) (a_cons hv5 a_nil) (by rfl) (m_app (xs := R.map vW) (y := oW fs) (by rw [List.length_map]; unfold lim; omega)))
    exact ⟨_, _, .inr ⟨hin, rfl⟩, s_cons g1 (s_cons (t_ifT hc (s_cons s1 (s_cons s2 s_nil))) s_nil)⟩
end K90

set_option Elab.async false
set_option linter.all false
set_option maxRecDepth 100000
set_option maxHeartbeats 4000000
namespace K90
open PySem PySem.Spec PyProof.Rows L2 Ev
theorem e_dict1 {T : Tab} {Φ : Nat → Fun} {prot : Nat} {ρ ρ1 ρ2 : Rho} {a b : E} {k v : W} {ks : List Key} (ha : evE T Φ prot a ρ = some (k, ρ1)) (hb : evE T Φ prot b ρ1 = some (v, ρ2)) (hk : tkW k = some ks) : evE T Φ prot (.dict1 a b) ρ = some (.dT true [ks] [v], ρ2) := by simp only [evE, ha, hb, hk]
theorem split2 {r : List Nat} {x : Nat} (h : x + 1 < r.length) : ∃ A a b B, r = A ++ a :: b :: B ∧ A.length = x := by
  refine ⟨r.take x, r[x], r[x + 1], r.drop (x + 2), ?_, by simp; omega⟩
  rw [← List.drop_eq_getElem_cons (by omega), ← List.drop_eq_getElem_cons (by omega), List.take_append_drop]
theorem getD_at (A B : List Nat) (a b : Nat) : (A ++ a :: b :: B).getD A.length 0 = a ∧ (A ++ a :: b :: B).getD (A.length + 1) 0 = b := by
  constructor
  · simp [List.getD_eq_getElem?_getD]
  · rw [List.getD_eq_getElem?_getD, List.getElem?_append_right (by omega)]
    simp
theorem step_of {g : Nat → Nat} {r : List Nat} {x : Nat} (h : x ∈ stepsN r g) : ∃ A a b B, Step g r A a b B ∧ A.length = x := by
  obtain ⟨h1, h2⟩ := List.mem_filter.mp h
  have h1 := List.mem_range.mp h1
  obtain ⟨A, a, b, B, e, ex⟩ := split2 (r := r) (x := x) (by omega)
  refine ⟨A, a, b, B, ⟨e, ?_⟩, ex⟩
  have h2 := of_decide_eq_true h2
  rw [e, ← ex, (getD_at A B a b).1, (getD_at A B a b).2] at h2
  exact h2
theorem step_mem {g : Nat → Nat} {r A B : List Nat} {a b : Nat} (h : Step g r A a b B) : A.length ∈ stepsN r g := by
  obtain ⟨rfl, h2⟩ := h
  refine List.mem_filter.mpr ⟨List.mem_range.mpr (by simp), ?_⟩
  rw [(getD_at A B a b).1, (getD_at A B a b).2]
  exact decide_eq_true h2
theorem step_uniq {g : Nat → Nat} {r A A' B B' : List Nat} {a b a' b' : Nat} (h : Step g r A a b B) (h' : Step g r A' a' b' B') (e : A.length = A'.length) : A = A' ∧ a = a' ∧ b = b' ∧ B = B' := by
  have k := List.append_inj (h.1.symm.trans h'.1) e
  simp only [List.cons.injEq] at k
  exact k
def SQ (n : Nat) (f g : Nat → Nat) (p : P2) (c : Nat) : Prop := ∃ A a b B, Ord n (A ++ a :: b :: B) ∧ Btw f g (A ++ a :: b :: B) ∧ g b < g a ∧ p = (min a b, max a b) ∧ c = lcnt A a b
structure SI (n : Nat) (l : List Nat) (f g : Nat → Nat) (rl : List (List Nat)) (T : TT) (Q : P2 → Nat → Prop) : Prop where
  ts : TS Q T
  nd : rl.Nodup
  ok : ∀ r ∈ rl, Ord n r ∧ Btw f g r
  first : l ∈ rl
  snd : ∀ p c, Q p c → SQ n f g p c
def Dn' (g : Nat → Nat) (rl : List (List Nat)) (Q : P2 → Nat → Prop) (r : List Nat) (ok : Nat → Prop) : Prop := ∀ A a b B, Step g r A a b B → ok A.length → Q (min a b, max a b) (lcnt A a b) ∧ A ++ b :: a :: B ∈ rl
theorem Dn'.mono {g : Nat → Nat} {rl rl' : List (List Nat)} {Q Q' : P2 → Nat → Prop} {r : List Nat} {ok : Nat → Prop} (h : Dn' g rl Q r ok) (h1 : ∀ x ∈ rl, x ∈ rl') (h2 : ∀ p c, Q p c → Q' p c) : Dn' g rl' Q' r ok := fun A a b B hs ho => ⟨h2 _ _ (h A a b B hs ho).1, h1 _ (h A a b B hs ho).2⟩
theorem F23 {n : Nat} {l m : List Nat} (h : Ord n l) (h' : Ord n m) (hn : n ≤ 6) : ∃ T, TS (SQ n (pl l) (pl m)) T ∧ p23.f [oW l, oW m] = some (foundW T, .non) := by
  rw [e23]
  have hw := while_inv (c := fun ρ => evB T0 (lk L23) 0 (.cmp .Lt (.var 5) (.blt .len (.cons (.var 3) .nil))) ρ) (b := fun ρ => xSs T0 (lk L23) 0 (.cons (.for (.nm 6) (.seq (.call 22 (.cons (.sub (.var 3) (.var 5)) (.cons (.var 1) .nil)))) (.cons (.set (.tp (.cons (.nm 7) (.cons (.nm 8) .nil))) (.blt .sorted (.cons (.slc (.sub (.var 3) (.var 5)) (.var 6) (.bin .Add (.var 6) (.cst (.int 2)))) .nil)))
    (.cons (.set (.nm 9) (.mth .get2 (.var 2) (.cons (.tup (.cons (.var 7) (.cons (.var 8) .nil))) (.cons (.lst .nil) .nil))))
    (.cons (.set (.nm 10) (.call 18 (.cons (.sub (.var 3) (.var 5)) (.cons (.var 6) .nil))))
    (.cons (.set (.sub (.var 2) (.tup (.cons (.var 7) (.cons (.var 8) .nil)))) (.ite (.cmp .In (.var 10) (.var 9)) (.var 9) (.bin .Add (.var 9) (.lst (.cons (.var 10) .nil)))))
    (.cons (.set (.nm 11) (.call 17 (.cons (.sub (.var 3) (.var 5)) (.cons (.var 6) .nil))))
    (.cons (.ite (.cmp .NotIn (.blt .tuple (.cons (.var 11) .nil)) (.var 4)) (.cons (.set (.sub (.var 4) (.blt .tuple (.cons (.var 11) .nil))) (.cst (.bl true)))
    (.cons (.exp (.mth .append (.var 3) (.cons (.var 11) .nil)))
    .nil)) .nil)
    .nil)))))))
    (.cons (.set (.nm 5) (.bin .Add (.var 5) (.cst (.int 1))))
    .nil)) ρ)
    (I := fun k' ρ => ∃ T R at' p lo hi c k fr Q, ρ = R23 l m T R at' p lo hi c k fr ∧ SI n l (pl l) (pl m) (R.map (·.2)) T Q ∧ at' ≤ R.length ∧ k' + at' = 117650 ∧ ∀ i r, i < at' → (R.map (·.2))[i]? = some r → Dn' (pl m) (R.map (·.2)) Q r fun _ => True)
    (J := fun ρ => ∃ T R at' p lo hi c k fr Q, ρ = R23 l m T R at' p lo hi c k fr ∧ SI n l (pl l) (pl m) (R.map (·.2)) T Q ∧ ∀ r ∈ R.map (·.2), Dn' (pl m) (R.map (·.2)) Q r fun _ => True)
    (n := 117650) (m := lim) (ρ := R23 l m [] [(true, l)] 0 none none none none none none) (by unfold lim; omega)
    ⟨[], [(true, l)], 0, none, none, none, none, none, none, fun _ _ => False, rfl, ⟨⟨by simp, by simp, by simp, by simp⟩, by simp, fun r hr => by
      have e : r = l := by simpa using hr
      rw [e]; exact ⟨h, (pw_pl h.nd).imp fun z => .inl z⟩, by simp, fun _ _ z => z.elim⟩, by simp, rfl, fun i r hi => absurd hi (by omega)⟩ fun k' ρ hI => by
      obtain ⟨T, R, at', p, lo, hi, c, k, fr, Q, rfl, hS, hat, hk, hD⟩ := hI
      have hRl : R.length ≤ 117649 := by
        have := rows_len hn hS.nd fun r hr => (hS.ok r hr).1
        simpa using this
      have hcond : evE T0 (lk L23) 0 (.cmp .Lt (.var 5) (.blt .len (.cons (.var 3) .nil))) (R23 l m T R at' p lo hi c k fr) = some (.bl (decide (at' < R.length)), R23 l m T R at' p lo hi c k fr) := by
        have hf : frz (rowsW R) = .lst false (frzL (R.map vW)) := rfl
        refine e_cmpP (x := iN at') (y := iN R.length) (by rfl) (e_blt (ws := [.lst false (frzL (R.map vW))]) (a_cons (by rfl) a_nil) ?_ (by rfl) (by rfl)) (c_lt _ _) (by rfl)
        show some (W.int (((frzL (R.map vW)).length : Nat) : Int)) = _
        rw [frzL_map, List.length_map, List.length_map]
        rfl
      by_cases hlt : at' < R.length
      · right
        obtain ⟨⟨fl, r⟩, er⟩ : ∃ e, R[at']? = some e := ⟨R[at'], List.getElem?_eq_getElem hlt⟩
        have hrm : r ∈ R.map (·.2) := List.mem_map.mpr ⟨_, List.mem_of_getElem? er, rfl⟩
        have hrO := (hS.ok r hrm).1
        obtain ⟨X, hX⟩ := sub_row (T := T0) (Φ := lk L23) (prot := 0) (s := 3) (i := at') (e := .var 5) (ρ := R23 l m T R at' p lo hi c k fr) (R := R) (fl := fl) (r := r) (by rfl) (by rfl) er
        have hit : evI T0 (lk L23) 0 (.seq (.call 22 (.cons (.sub (.var 3) (.var 5)) (.cons (.var 1) .nil)))) (R23 l m T R at' p lo hi c k fr) = some ((stepsN r (pl m)).map iN, R23 l m T R at' p lo hi c k fr) :=
          i_seq (e_call (as := [oW r, oW m]) (by rfl) (by rfl) (a_cons hX (a_cons (w := oW m) (by rfl) a_nil)) (by rfl) (by simp only [frzL, frz]) (by rfl) (F22' hrO h' (by omega)) (by rfl) (by simp only [iso, isoL_ints, Bool.and_self])) (seq_iL _)
        obtain ⟨ρ', hfor, hJ⟩ := for_ixE (l := stepsN r (pl m)) (enc := iN) (t := fun w ρ => evG T0 (lk L23) 0 (.nm 6) w ρ) (b := fun ρ => xSs T0 (lk L23) 0 (.cons (.set (.tp (.cons (.nm 7) (.cons (.nm 8) .nil))) (.blt .sorted (.cons (.slc (.sub (.var 3) (.var 5)) (.var 6) (.bin .Add (.var 6) (.cst (.int 2)))) .nil)))
                        (.cons (.set (.nm 9) (.mth .get2 (.var 2) (.cons (.tup (.cons (.var 7) (.cons (.var 8) .nil))) (.cons (.lst .nil) .nil))))
                        (.cons (.set (.nm 10) (.call 18 (.cons (.sub (.var 3) (.var 5)) (.cons (.var 6) .nil))))
                        (.cons (.set (.sub (.var 2) (.tup (.cons (.var 7) (.cons (.var 8) .nil)))) (.ite (.cmp .In (.var 10) (.var 9)) (.var 9) (.bin .Add (.var 9) (.lst (.cons (.var 10) .nil)))))
                        (.cons (.set (.nm 11) (.call 17 (.cons (.sub (.var 3) (.var 5)) (.cons (.var 6) .nil))))
                        (.cons (.ite (.cmp .NotIn (.blt .tuple (.cons (.var 11) .nil)) (.var 4)) (.cons (.set (.sub (.var 4) (.blt .tuple (.cons (.var 11) .nil))) (.cst (.bl true)))
                        (.cons (.exp (.mth .append (.var 3) (.cons (.var 11) .nil)))
                        .nil)) .nil)
                        .nil)))))) ρ)
          (I := fun j ρ => ∃ T R' ex p lo hi c k fr Q, ρ = R23 l m T R' at' p lo hi c k fr ∧ R' = R ++ ex ∧ SI n l (pl l) (pl m) (R'.map (·.2)) T Q ∧ (∀ i r, i < at' → (R.map (·.2))[i]? = some r → Dn' (pl m) (R'.map (·.2)) Q r fun _ => True) ∧ Dn' (pl m) (R'.map (·.2)) Q r fun x => x ∈ (stepsN r (pl m)).take j)
          (ρ := R23 l m T R at' p lo hi c k fr)
          ⟨T, R, [], p, lo, hi, c, k, fr, Q, rfl, (List.append_nil _).symm, hS, hD, fun _ _ _ _ _ z => by simp at z⟩ fun j ρ x hx hI => by
            obtain ⟨T1, R1, ex, p1, lo1, hi1, c1, k1, fr1, Q1, rfl, eR, hS1, hD1, hE1⟩ := hI
            obtain ⟨A, a, b, B, hst, hAx⟩ := step_of (List.mem_of_getElem? hx)
            have er1 : R1[at']? = some (fl, A ++ a :: b :: B) := by rw [eR, List.getElem?_append_left hlt, er, hst.1]
            have hO := hrO
            rw [hst.1] at hO
            have hB := (hS.ok r hrm).2
            rw [hst.1] at hB
            have hRl1 : R1.length ≤ 117649 := by
              have := rows_len hn hS1.nd fun r hr => (hS1.ok r hr).1
              simpa using this
            have hnew : Ord n (A ++ b :: a :: B) := (List.Perm.append_left A (List.Perm.swap a b B)).trans hO
            have hnewB : Btw (pl l) (pl m) (A ++ b :: a :: B) := pw_swap hB (.inr hst.2)
            have hsnd : ∀ p c, (Q1 p c ∨ (p = (min a b, max a b) ∧ c = lcnt A a b)) → SQ n (pl l) (pl m) p c := fun p c z => by
              rcases z with z | ⟨z1, z2⟩
              · exact hS1.snd p c z
              · exact ⟨A, a, b, B, hO, hB, hst.2, z1, z2⟩
            have take_s : (stepsN r (pl m)).take (j + 1) = (stepsN r (pl m)).take j ++ [x] := by
              rw [List.take_add_one, hx]; rfl
            have hE : ∀ rl : List (List Nat), (∀ y ∈ R1.map (·.2), y ∈ rl) → A ++ b :: a :: B ∈ rl → Dn' (pl m) rl (fun p c => Q1 p c ∨ (p = (min a b, max a b) ∧ c = lcnt A a b)) r fun x => x ∈ (stepsN r (pl m)).take (j + 1) := fun rl h1 h2 A' a' b' B' hs ho => by
              rw [take_s] at ho
              rcases List.mem_append.mp ho with ho | ho
              · exact ⟨.inl (hE1 A' a' b' B' hs ho).1, h1 _ (hE1 A' a' b' B' hs ho).2⟩
              · obtain ⟨q1, q2, q3, q4⟩ := step_uniq hs hst (by rw [List.mem_singleton.mp ho, hAx])
                subst q1 q2 q3 q4
                exact ⟨.inr ⟨rfl, rfl⟩, h2⟩
            refine ⟨R23 l m T1 R1 at' (some (iN A.length)) lo1 hi1 c1 k1 fr1, ?_⟩
            suffices hs : ∃ ρ2, xSs T0 (lk L23) 0 (.cons (.set (.tp (.cons (.nm 7) (.cons (.nm 8) .nil))) (.blt .sorted (.cons (.slc (.sub (.var 3) (.var 5)) (.var 6) (.bin .Add (.var 6) (.cst (.int 2)))) .nil)))
                        (.cons (.set (.nm 9) (.mth .get2 (.var 2) (.cons (.tup (.cons (.var 7) (.cons (.var 8) .nil))) (.cons (.lst .nil) .nil))))
                        (.cons (.set (.nm 10) (.call 18 (.cons (.sub (.var 3) (.var 5)) (.cons (.var 6) .nil))))
                        (.cons (.set (.sub (.var 2) (.tup (.cons (.var 7) (.cons (.var 8) .nil)))) (.ite (.cmp .In (.var 10) (.var 9)) (.var 9) (.bin .Add (.var 9) (.lst (.cons (.var 10) .nil)))))
                        (.cons (.set (.nm 11) (.call 17 (.cons (.sub (.var 3) (.var 5)) (.cons (.var 6) .nil))))
                        (.cons (.ite (.cmp .NotIn (.blt .tuple (.cons (.var 11) .nil)) (.var 4)) (.cons (.set (.sub (.var 4) (.blt .tuple (.cons (.var 11) .nil))) (.cst (.bl true)))
                        (.cons (.exp (.mth .append (.var 3) (.cons (.var 11) .nil)))
                        .nil)) .nil)
                        .nil)))))) (R23 l m T1 R1 at' (some (iN A.length)) lo1 hi1 c1 k1 fr1) = some (.nx ρ2) ∧ ∃ T R' ex p lo hi c k fr Q, ρ2 = R23 l m T R' at' p lo hi c k fr ∧ R' = R ++ ex ∧ SI n l (pl l) (pl m) (R'.map (·.2)) T Q ∧ (∀ i r, i < at' → (R.map (·.2))[i]? = some r → Dn' (pl m) (R'.map (·.2)) Q r fun _ => True) ∧ Dn' (pl m) (R'.map (·.2)) Q r fun x => x ∈ (stepsN r (pl m)).take (j + 1) by
              obtain ⟨ρ2, q1, q2⟩ := hs
              exact ⟨ρ2, by rw [← hAx]; rfl, q1, q2⟩
            obtain ⟨T2, lo2, hi2, c2, k2, hT2, hx1⟩ := step_found (l := l) (m := m) (lo := lo1) (hi := hi1) (c := c1) (k := k1) (fr := fr1) (rest := (.cons (.set (.nm 11) (.call 17 (.cons (.sub (.var 3) (.var 5)) (.cons (.var 6) .nil))))
                        (.cons (.ite (.cmp .NotIn (.blt .tuple (.cons (.var 11) .nil)) (.var 4)) (.cons (.set (.sub (.var 4) (.blt .tuple (.cons (.var 11) .nil))) (.cst (.bl true)))
                        (.cons (.exp (.mth .append (.var 3) (.cons (.var 11) .nil)))
                        .nil)) .nil)
                        .nil))) hS1.ts hO hn er1
            obtain ⟨fr2, ex2, hex, hx2⟩ := step_rows (l := l) (m := m) (T := T2) (lo := lo2) (hi := hi2) (c := c2) (k := k2) (fr := fr1) hO hn er1 hRl1
            refine ⟨_, hx1.trans hx2, T2, R1 ++ ex2, ex ++ ex2, _, lo2, hi2, c2, k2, fr2, (fun q d => Q1 q d ∨ (q = (min a b, max a b) ∧ d = lcnt A a b)), rfl, by rw [eR, List.append_assoc], ?_, ?_, ?_⟩
            · rcases hex with ⟨hin, rfl⟩ | ⟨hin, rfl⟩
              · rw [List.append_nil]
                exact ⟨hT2, hS1.nd, hS1.ok, hS1.first, hsnd⟩
              · rw [List.map_append]
                refine ⟨hT2, List.nodup_append.mpr ⟨hS1.nd, List.pairwise_singleton _ _, fun y hy z hz e => ?_⟩, fun y hy => ?_, List.mem_append_left _ hS1.first, hsnd⟩
                · have e2 : z = A ++ b :: a :: B := by simpa using hz
                  exact hin (by rw [← e2, ← e]; exact hy)
                · rcases List.mem_append.mp hy with hy | hy
                  · exact hS1.ok y hy
                  · have e2 : y = A ++ b :: a :: B := by simpa using hy
                    rw [e2]
                    exact ⟨hnew, hnewB⟩
            · intro i r' hi hr'
              exact (hD1 i r' hi hr').mono (fun y hy => by rw [List.map_append]; exact List.mem_append_left _ hy) fun p c z => .inl z
            · refine hE _ (fun y hy => by rw [List.map_append]; exact List.mem_append_left _ hy) ?_
              rcases hex with ⟨hin, rfl⟩ | ⟨hin, rfl⟩
              · rw [List.append_nil]; exact hin
              · rw [List.map_append]; exact List.mem_append_right _ (by simp)
        obtain ⟨T1, R1, ex, p1, lo1, hi1, c1, k1, fr1, Q1, rfl, eR, hS1, hD1, hE1⟩ := hJ
        have hit' : xS T0 (lk L23) 0 _ (R23 l m T R at' p lo hi c k fr) = _ := t_for hit hfor
        refine ⟨_, _, 117650 - (at' + 1), by show evB T0 (lk L23) 0 _ _ = _; unfold evB; rw [hcond, decide_eq_true hlt], s_cons hit' (s_cons (t_set (w := iN (at' + 1)) (ρ1 := R23 l m T1 R1 at' p1 lo1 hi1 c1 k1 fr1) (ρ2 := R23 l m T1 R1 (at' + 1) p1 lo1 hi1 c1 k1 fr1) (e_binP (x := iN at') (y := iN 1) (by rfl) (by rfl) (b_add _ _) (by rfl) (by rfl)) (by rfl)) s_nil), by omega, T1, R1, at' + 1, p1, lo1, hi1, c1, k1, fr1, Q1, rfl, hS1, ?_, by omega, fun i r' hi hr' => ?_⟩
        · rw [eR, List.length_append]; omega
        · rw [eR, List.map_append, List.getElem?_append_left (by rw [List.length_map]; omega)] at hr'
          by_cases hi2 : i < at'
          · exact hD1 i r' hi2 hr'
          · have e3 : i = at' := by omega
            subst e3
            rw [List.getElem?_map, er] at hr'
            have e4 : r' = r := by simpa using hr'.symm
            rw [e4]
            intro A a b B hs _
            exact hE1 A a b B hs (by rw [List.take_length]; exact step_mem hs)
      · left
        refine ⟨_, by show evB T0 (lk L23) 0 _ _ = _; unfold evB; rw [hcond, decide_eq_false hlt], T, R, at', p, lo, hi, c, k, fr, Q, rfl, hS, fun r hr => ?_⟩
        obtain ⟨i, hi, ei⟩ := List.getElem_of_mem hr
        have hi' : i < at' := by rw [List.length_map] at hi; omega
        exact hD i r hi' (by rw [List.getElem?_eq_getElem hi, ei])
  obtain ⟨ρ', hwh, T, R, at', p, lo, hi, c, k, fr, Q, rfl, hS, hD⟩ := hw
  have hQ : ∀ p c, Q p c ↔ SQ n (pl l) (pl m) p c := fun p c => by
    refine ⟨hS.snd p c, fun z => ?_⟩
    obtain ⟨A, a, b, B, hO, hB, hg, rfl, rfl⟩ := z
    have hr : A ++ a :: b :: B ∈ R.map (·.2) := reach_all (f := pl l) (g := pl m) (S := fun r => r ∈ R.map (·.2)) (fun A' a' b' B' hS' hg' => (hD _ hS' A' a' b' B' ⟨rfl, hg'⟩ trivial).2) hS.first (pw_pl h.nd) (hO.trans h.symm) h.nd hB
    exact (hD _ hr A a b B ⟨rfl, hg⟩ trivial).1
  refine ⟨T, ⟨hS.ts.nk, hS.ts.kb, hS.ts.nl, fun p c => (hS.ts.ok p c).trans (hQ p c)⟩, ?_⟩
  refine f_rt (ρ0 := [some (oW l), some (oW m), none, none, none, none, none, none, none, none, none, none]) rfl (s_cons (s := .set (.tp (.cons (.nm 2) (.cons (.nm 3) (.cons (.nm 4) (.cons (.nm 5) .nil))))) (.tup (.cons (.dict0 true) (.cons (.lst (.cons (.blt .list (.cons (.var 0) .nil)) .nil)) (.cons (.dict1 (.blt .tuple (.cons (.var 0) .nil)) (.cst (.bl true))) (.cons (.cst (.int 0)) .nil)))))) (ρ1 := R23 l m [] [(true, l)] 0 none none none none none none) ?_ (s_cons (t_while hwh) (s_rt (t_ret (by rfl)))))
  have h1 : evE T0 (lk L23) 0 (.blt .list (.cons (.var 0) .nil)) [some (oW l), some (oW m), none, none, none, none, none, none, none, none, none, none] = some (.lst true (iL l), [some (oW l), some (oW m), none, none, none, none, none, none, none, none, none, none]) :=
    e_blt (ws := [oW l]) (a_cons (by rfl) a_nil) (by
      show some (W.lst true (frzL (iL l))) = _
      rw [frzL_ints]) (by rfl) (by simp only [iso, isoL_ints, Bool.and_self])
  have h2 : evE T0 (lk L23) 0 (.blt .tuple (.cons (.var 0) .nil)) [some (oW l), some (oW m), none, none, none, none, none, none, none, none, none, none] = some (.tup false (iL l), [some (oW l), some (oW m), none, none, none, none, none, none, none, none, none, none]) :=
    e_blt (ws := [oW l]) (a_cons (by rfl) a_nil) (tup_iL l) (by rfl) (isoT_iL l)
  have h3 : evE T0 (lk L23) 0 (.dict1 (.blt .tuple (.cons (.var 0) .nil)) (.cst (.bl true))) [some (oW l), some (oW m), none, none, none, none, none, none, none, none, none, none] = some (knownW [l], [some (oW l), some (oW m), none, none, none, none, none, none, none, none, none, none]) :=
    e_dict1 h2 (by rfl) (tk_row l)
  exact t_set (e_tup (a_cons (w := .dT true [] []) (by rfl) (a_cons (e_lst (a_cons h1 a_nil) (by show 1 ≤ 1000000; decide)) (a_cons h3 (a_cons (w := iN 0) (by rfl) a_nil)))) (by show 4 ≤ 1000000; decide)) (by rfl)
end K90

set_option Elab.async false
set_option linter.all false
set_option maxRecDepth 100000
set_option maxHeartbeats 4000000
namespace K90
open PySem PySem.Spec PyProof.Rows L2 Ev
theorem minL_ok : ∀ (xs : List Int) (m : Int), (minL m xs = m ∨ minL m xs ∈ xs) ∧ minL m xs ≤ m ∧ ∀ x ∈ xs, minL m xs ≤ x
  | [], m => ⟨.inl rfl, Int.le_refl _, fun x hx => by cases hx⟩
  | x :: xs, m => by
    obtain ⟨h1, h2, h3⟩ := minL_ok xs (if x < m then x else m)
    have e : minL m (x :: xs) = minL (if x < m then x else m) xs := rfl
    rw [e]
    by_cases h : x < m
    · rw [if_pos h] at h1 h2 h3 ⊢
      refine ⟨?_, by omega, fun y hy => ?_⟩
      · rcases h1 with h1 | h1
        · right; rw [h1]; exact List.mem_cons_self ..
        · exact .inr (List.mem_cons_of_mem _ h1)
      · rcases List.mem_cons.mp hy with q | q
        · rw [q]; exact h2
        · exact h3 y q
    · rw [if_neg h] at h1 h2 h3 ⊢
      refine ⟨h1.imp_right (List.mem_cons_of_mem _), h2, fun y hy => ?_⟩
      rcases List.mem_cons.mp hy with q | q
      · rw [q]; omega
      · exact h3 y q
theorem maxL_ok : ∀ (xs : List Int) (m : Int), (maxL m xs = m ∨ maxL m xs ∈ xs) ∧ m ≤ maxL m xs ∧ ∀ x ∈ xs, x ≤ maxL m xs
  | [], m => ⟨.inl rfl, Int.le_refl _, fun x hx => by cases hx⟩
  | x :: xs, m => by
    obtain ⟨h1, h2, h3⟩ := maxL_ok xs (if m < x then x else m)
    have e : maxL m (x :: xs) = maxL (if m < x then x else m) xs := rfl
    rw [e]
    by_cases h : m < x
    · rw [if_pos h] at h1 h2 h3 ⊢
      refine ⟨?_, by omega, fun y hy => ?_⟩
      · rcases h1 with h1 | h1
        · right; rw [h1]; exact List.mem_cons_self ..
        · exact .inr (List.mem_cons_of_mem _ h1)
      · rcases List.mem_cons.mp hy with q | q
        · rw [q]; exact h2
        · exact h3 y q
    · rw [if_neg h] at h1 h2 h3 ⊢
      refine ⟨h1.imp_right (List.mem_cons_of_mem _), h2, fun y hy => ?_⟩
      rcases List.mem_cons.mp hy with q | q
      · rw [q]; omega
      · exact h3 y q
/-- the counts of a pair: all from the least to the most -/
structure Rg (L : List Nat) (lo hi : Nat) : Prop where
  ne : L ≠ []
  nd : L.Nodup
  ok : ∀ c, c ∈ L ↔ lo ≤ c ∧ c ≤ hi
theorem Rg.le {L : List Nat} {lo hi : Nat} (h : Rg L lo hi) : lo ≤ hi := by
  cases L with
  | nil => exact absurd rfl h.ne
  | cons a L => have := (h.ok a).mp (List.mem_cons_self ..); omega
theorem Rg.min {o : Bool} {L : List Nat} {lo hi : Nat} (h : Rg L lo hi) : bltW .min [.lst o (iL L)] = some (iN lo) := by
  have hle := h.le
  cases L with
  | nil => exact absurd rfl h.ne
  | cons a L =>
    obtain ⟨h1, h2, h3⟩ := minL_ok (L.map fun n => ((n : Nat) : Int)) (a : Nat)
    have e : bltW .min [.lst o (iL (a :: L))] = some (W.int (minL ((a : Nat) : Int) (L.map fun n => ((n : Nat) : Int)))) := by
      simp only [bltW, intsW_ints]
      rfl
    rw [e]
    have mlo := (h.ok lo).mpr ⟨Nat.le_refl _, hle⟩
    have low : ∀ x ∈ a :: L, lo ≤ x := fun x hx => ((h.ok x).mp hx).1
    have up : minL ((a : Nat) : Int) (L.map fun n => ((n : Nat) : Int)) ≤ ((lo : Nat) : Int) := by
      rcases List.mem_cons.mp mlo with q | q
      · rw [q]; exact h2
      · exact h3 _ (List.mem_map.mpr ⟨lo, q, rfl⟩)
    have dn : ((lo : Nat) : Int) ≤ minL ((a : Nat) : Int) (L.map fun n => ((n : Nat) : Int)) := by
      rcases h1 with h1 | h1
      · rw [h1]; have := low a (List.mem_cons_self ..); omega
      · obtain ⟨x, hx, ex⟩ := List.mem_map.mp h1
        rw [← ex]; have := low x (List.mem_cons_of_mem _ hx); omega
    show some (W.int _) = some (W.int _)
    congr 2; omega
theorem Rg.max {o : Bool} {L : List Nat} {lo hi : Nat} (h : Rg L lo hi) : bltW .max [.lst o (iL L)] = some (iN hi) := by
  have hle := h.le
  cases L with
  | nil => exact absurd rfl h.ne
  | cons a L =>
    obtain ⟨h1, h2, h3⟩ := maxL_ok (L.map fun n => ((n : Nat) : Int)) (a : Nat)
    have e : bltW .max [.lst o (iL (a :: L))] = some (W.int (maxL ((a : Nat) : Int) (L.map fun n => ((n : Nat) : Int)))) := by
      simp only [bltW, intsW_ints]
      rfl
    rw [e]
    have mhi := (h.ok hi).mpr ⟨hle, Nat.le_refl _⟩
    have high : ∀ x ∈ a :: L, x ≤ hi := fun x hx => ((h.ok x).mp hx).2
    have up : ((hi : Nat) : Int) ≤ maxL ((a : Nat) : Int) (L.map fun n => ((n : Nat) : Int)) := by
      rcases List.mem_cons.mp mhi with q | q
      · rw [q]; exact h2
      · exact h3 _ (List.mem_map.mpr ⟨hi, q, rfl⟩)
    have dn : maxL ((a : Nat) : Int) (L.map fun n => ((n : Nat) : Int)) ≤ ((hi : Nat) : Int) := by
      rcases h1 with h1 | h1
      · rw [h1]; have := high a (List.mem_cons_self ..); omega
      · obtain ⟨x, hx, ex⟩ := List.mem_map.mp h1
        rw [← ex]; have := high x (List.mem_cons_of_mem _ hx); omega
    show some (W.int _) = some (W.int _)
    congr 2; omega
theorem Rg.sorted {o : Bool} {L : List Nat} {lo hi : Nat} (h : Rg L lo hi) : bltW .sorted [.lst o (iL L)] = some (.lst true (iL (List.range' lo (hi + 1 - lo)))) := by
  have hp : (List.range' lo (hi + 1 - lo)).Perm L := (List.perm_ext_iff_of_nodup List.nodup_range' h.nd).mpr fun c => by
    rw [List.mem_range'_1, h.ok]; omega
  have e := isort_uniq tot_int (hp.map fun n => ((n : Nat) : Int)) (by
    rw [List.pairwise_map]
    refine (List.pairwise_lt_range' (s := lo) (n := hi + 1 - lo)).imp ?_
    intro a b hab
    simp only [ltI, decide_eq_false_iff_not]
    omega)
  simp only [bltW, intsW_ints, ← e, List.map_map]
  rfl
theorem least_most {f g : Nat → Nat} {lo hi : Nat} (h : unB f g lo hi = true) : least f g lo hi ≤ most f g lo hi := by
  unfold least most leastTo mostTo
  refine List.Nodup.length_le_of_subset (List.Pairwise.filter _ List.nodup_range') fun z hz => ?_
  obtain ⟨z1, z2⟩ := List.mem_filter.mp hz
  refine List.mem_filter.mpr ⟨z1, ?_⟩
  rw [Bool.not_eq_true']
  rw [Bool.eq_false_iff]
  intro z3
  unfold ahead ahB at z2
  unfold behind beB at z3
  unfold unB at h
  simp only [Bool.or_eq_true, Bool.and_eq_true, decide_eq_true_eq] at z2 z3
  have h : ¬ (decide (f lo < f hi) = decide (g lo < g hi)) := by simpa using h
  apply h
  rcases z2 with z2 | z2 <;> rcases z3 with z3 | z3
  · omega
  · rw [decide_eq_false (by omega), decide_eq_false (by omega)]
  · rw [decide_eq_true (by omega), decide_eq_true (by omega)]
  · omega
/-! ### what has been seen is what is due -/
section
variable {n : Nat} {l m : List Nat}
theorem sq_iff (h : Ord n l) (h' : Ord n m) {p : P2} {c : Nat} : SQ n (pl l) (pl m) p c ↔ p ∈ unl (pl l) (pl m) n ∧ least (pl l) (pl m) p.1 p.2 ≤ c ∧ c ≤ most (pl l) (pl m) p.1 p.2 := by
  have fi : ∀ x y, x < n → y < n → pl l x = pl l y → x = y := fun x y hx hy e => pl_inj h hx hy e
  have gi : ∀ x y, x < n → y < n → pl m x = pl m y → x = y := fun x y hx hy e => pl_inj h' hx hy e
  constructor
  · rintro ⟨A, a, b, B, hO, hB, hg, rfl, rfl⟩
    have han : a < n := hO.mem.mp (by simp)
    have hbn : b < n := hO.mem.mp (by simp)
    have hf : pl l a < pl l b := by
      have h2 := (List.pairwise_append.mp hB).2.1
      rcases (List.pairwise_cons.mp h2).1 b (List.mem_cons_self ..) with z | z
      · exact z
      · omega
    refine ⟨mem_unl.mpr ⟨?_, ?_, ?_⟩, cnt_between hO hB⟩
    · show min a b < max a b
      have : a ≠ b := fun e => by rw [e] at hf; omega
      omega
    · show max a b < n
      omega
    · show unB (pl l) (pl m) (min a b) (max a b) = true
      unfold unB
      rcases Nat.le_total a b with z | z
      · rw [Nat.min_eq_left z, Nat.max_eq_right z, decide_eq_true hf, decide_eq_false (by omega)]
        rfl
      · rw [Nat.min_eq_right z, Nat.max_eq_left z, decide_eq_false (by omega), decide_eq_true hg]
        rfl
  · rintro ⟨hu, hc⟩
    obtain ⟨p1, p2, p3⟩ := mem_unl.mp hu
    obtain ⟨lo, hi⟩ := p
    have p1 : lo < hi := p1
    have p2 : hi < n := p2
    have p3 : (decide (pl l lo < pl l hi) != decide (pl m lo < pl m hi)) = true := p3
    have hc : least (pl l) (pl m) lo hi ≤ c ∧ c ≤ most (pl l) (pl m) lo hi := hc
    by_cases hf : pl l lo < pl l hi
    · rw [decide_eq_true hf] at p3
      have hg : ¬ pl m lo < pl m hi := fun z => by rw [decide_eq_true z] at p3; cases p3
      have hg2 : pl m hi < pl m lo := by
        rcases Nat.lt_or_ge (pl m hi) (pl m lo) with z | z
        · exact z
        · have := gi lo hi (by omega) p2 (by omega); omega
      obtain ⟨A, B, hO, hB, hl⟩ := cnt_all (a := lo) (b := hi) h fi gi (pw_pl h.nd) (by omega) p2 hf hg2 (c := c) (by rw [Nat.min_eq_left (by omega), Nat.max_eq_right (by omega)]; exact hc)
      exact ⟨A, lo, hi, B, hO, hB, hg2, by rw [Nat.min_eq_left (by omega), Nat.max_eq_right (by omega)], hl.symm⟩
    · rw [decide_eq_false hf] at p3
      have hg : pl m lo < pl m hi := by
        by_cases z : pl m lo < pl m hi
        · exact z
        · rw [decide_eq_false z] at p3; cases p3
      have hf2 : pl l hi < pl l lo := by
        rcases Nat.lt_or_ge (pl l hi) (pl l lo) with z | z
        · exact z
        · have := fi lo hi (by omega) p2 (by omega); omega
      obtain ⟨A, B, hO, hB, hl⟩ := cnt_all (a := hi) (b := lo) h fi gi (pw_pl h.nd) p2 (by omega) hf2 hg (c := c) (by rw [Nat.min_eq_right (by omega), Nat.max_eq_left (by omega)]; exact hc)
      exact ⟨A, hi, lo, B, hO, hB, hg, by rw [Nat.min_eq_right (by omega), Nat.max_eq_left (by omega)], hl.symm⟩
variable {T : TT}
theorem ts_keys (h : Ord n l) (h' : Ord n m) (hT : TS (SQ n (pl l) (pl m)) T) : (unl (pl l) (pl m) n).Perm (T.map (·.1)) := by
  refine (List.perm_ext_iff_of_nodup (unl_nd _ _ _) hT.nk).mpr fun p => ?_
  constructor
  · intro hp
    have hc := (hT.ok p (least (pl l) (pl m) p.1 p.2))
    have hle : least (pl l) (pl m) p.1 p.2 ≤ most (pl l) (pl m) p.1 p.2 := by
      obtain ⟨p1, p2, p3⟩ := mem_unl.mp hp
      exact least_most p3
    obtain ⟨e, he, e1, _⟩ := hc.mpr ((sq_iff h h').mpr ⟨hp, Nat.le_refl _, hle⟩)
    exact List.mem_map.mpr ⟨e, he, e1⟩
  · intro hp
    obtain ⟨e, he, rfl⟩ := List.mem_map.mp hp
    obtain ⟨_, ne, _⟩ := hT.nl e he
    obtain ⟨c, hc⟩ : ∃ c, c ∈ e.2.2 := by
      cases q : e.2.2 with
      | nil => exact absurd q ne
      | cons a L => exact ⟨a, List.mem_cons_self ..⟩
    exact ((sq_iff h h').mp ((hT.ok e.1 c).mp ⟨e, he, rfl, hc⟩)).1
theorem ts_rg (h : Ord n l) (h' : Ord n m) (hT : TS (SQ n (pl l) (pl m)) T) {p : P2} {fl : Bool} {L : List Nat} (hm : (p, (fl, L)) ∈ T) : Rg L (least (pl l) (pl m) p.1 p.2) (most (pl l) (pl m) p.1 p.2) := by
  obtain ⟨nd, ne, _⟩ := hT.nl _ hm
  have key : ∀ c, c ∈ L ↔ SQ n (pl l) (pl m) p c := fun c => by
    rw [← hT.ok]
    constructor
    · intro hc; exact ⟨_, hm, rfl, hc⟩
    · rintro ⟨e, he, e1, e2⟩
      have : e = (p, (fl, L)) := by
        obtain ⟨i, hi, ei⟩ := List.getElem_of_mem he
        obtain ⟨j, hj, ej⟩ := List.getElem_of_mem hm
        have hij : i = j := by
          have k := (List.pairwise_iff_getElem.mp hT.nk)
          rcases Nat.lt_trichotomy i j with z | z | z
          · exact absurd (by rw [List.getElem_map, List.getElem_map, ei, ej, e1]) (k i j (by simpa using hi) (by simpa using hj) z)
          · exact z
          · exact absurd (by rw [List.getElem_map, List.getElem_map, ei, ej, e1]) (k j i (by simpa using hj) (by simpa using hi) z)
        subst hij
        rw [← ei, ej]
      rw [this] at e2
      exact e2
  have hu : p ∈ unl (pl l) (pl m) n := (ts_keys h h' hT).mem_iff.mpr (List.mem_map.mpr ⟨_, hm, rfl⟩)
  exact ⟨ne, nd, fun c => by rw [key, sq_iff h h']; exact ⟨fun z => z.2, fun z => ⟨hu, z⟩⟩⟩
end
theorem kTups_pk : ∀ T : TT, kTups (T.map fun e => pk e.1) = some ((T.map (·.1)).map fun p => (((p.1 : Nat) : Int), ((p.2 : Nat) : Int)))
  | [] => rfl
  | e :: T => by
    show (match pk e.1, kTups (T.map fun e => pk e.1) with | [.inl i, .inl j], some is => some ((i, j) :: is) | _, _ => none) = _
    rw [kTups_pk T]
    rfl
theorem sort_found {o : Bool} {T : TT} {vs : List W} {U : List P2} (hp : U.Perm (T.map (·.1))) (hs : U.Pairwise lexN) : bltW .sorted [.dT o (T.map fun e => pk e.1) vs] = some (.lst true (prs U)) := by
  have e : isort SrtO.lexB ((T.map (·.1)).map fun p => (((p.1 : Nat) : Int), ((p.2 : Nat) : Int))) = U.map fun p => (((p.1 : Nat) : Int), ((p.2 : Nat) : Int)) := by
    refine (isort_uniq tot_lex (hp.map _) ?_).symm
    rw [List.pairwise_map]
    refine hs.imp ?_
    intro a b hab
    have hab : a.1 < b.1 ∨ a.1 = b.1 ∧ a.2 < b.2 := hab
    rw [Bool.eq_false_iff]
    intro z
    have z := SrtO.lexB_iff.mp z
    simp only at z
    omega
  simp only [bltW, kTups_pk, e]
  simp only [prs, List.map_map]
  rfl
section
variable {T : Tab} {Φ : Nat → Fun} {prot : Nat} {ρ ρ1 : Rho}
theorem sub_found {T' : TT} {s : Nat} {e : E} {k : W} {p : P2} {fl : Bool} {L : List Nat} (h1 : ρ[s]? = some (some (foundW T'))) (he : evE T Φ prot e ρ = some (k, ρ)) (hk : tkW k = some (pk p)) (hm : (p, (fl, L)) ∈ T') (hn : (T'.map (·.1)).Nodup) :
    ∃ ρ', evE T Φ prot (.sub (.var s) e) ρ = some (oW L, ρ') := by
  obtain ⟨j, hj, ej⟩ := posK_some pk_inj (List.mem_map.mpr ⟨_, hm, rfl⟩)
  obtain ⟨x, hx, ex⟩ : ∃ x, T'[j]? = some x ∧ x.1 = p := by
    rw [List.getElem?_map] at ej
    cases q : T'[j]? with
    | none => rw [q] at ej; cases ej
    | some x => rw [q] at ej; exact ⟨x, rfl, by simpa using ej⟩
  have hxe : x = (p, (fl, L)) := by
    obtain ⟨i, hi, ei⟩ := List.getElem_of_mem hm
    have hj2 : j < T'.length := (List.getElem?_eq_some_iff.mp hx).1
    have e2 : T'[j] = x := (List.getElem?_eq_some_iff.mp hx).2
    have hij : i = j := by
      have k := (List.pairwise_iff_getElem.mp hn)
      rcases Nat.lt_trichotomy i j with z | z | z
      · exact absurd (by rw [List.getElem_map, List.getElem_map, ei, e2, ex]) (k i j (by simpa using hi) (by simpa using hj2) z)
      · exact z
      · exact absurd (by rw [List.getElem_map, List.getElem_map, ei, e2, ex]) (k j i (by simpa using hj2) (by simpa using hi) z)
    subst hij
    rw [← e2, ei]
  rw [hxe] at hx
  have e3 : T'.map (fun e => pk e.1) = (T'.map (·.1)).map pk := by rw [List.map_map]; rfl
  have g2 : posW (foundW T') k = some j := by simp only [foundW, posW, hk, e3, hj]
  have g1 : subW (foundW T') k = some (vW (fl, L)) := by
    have : subW (foundW T') k = (match posW (foundW T') k with | some j => (kids (foundW T'))[j]? | none => none) := rfl
    rw [this, g2]
    show (T'.map fun e => vW e.2)[j]? = _
    rw [List.getElem?_map, hx]
    rfl
  cases fl with
  | false => exact ⟨ρ, e_sub h1 he h1 g1 (by rfl)⟩
  | true =>
    refine ⟨ρ.set s (some (setKid (foundW T') j (frz (vW (true, L))))), ?_⟩
    have hv : isV (vW (true, L)) = false := rfl
    have hf : frz (vW (true, L)) = oW L := frz_oW L
    simp only [evE, h1, he, g1, hv, g2]
    rw [hf]
/-- the same at a dict that is read through -/
theorem sub_lock {T' : TT} {s : Nat} {e : E} {k : W} {p : P2} {fl : Bool} {L : List Nat} (h1 : ρ[s]? = some (some (.dL false (T'.map fun e => pk e.1) (frzL (T'.map fun e => vW e.2))))) (he : evE T Φ prot e ρ = some (k, ρ)) (hk : tkW k = some (pk p)) {j : Nat} (hj : posK ((T'.map (·.1)).map pk) (pk p) = some j) (hm : T'[j]? = some (p, (fl, L))) :
    evE T Φ prot (.sub (.var s) e) ρ = some (oW L, ρ) := by
  have e3 : T'.map (fun e => pk e.1) = (T'.map (·.1)).map pk := by rw [List.map_map]; rfl
  refine e_sub h1 he h1 ?_ (by rfl)
  have g2 : posW (.dL false (T'.map fun e => pk e.1) (frzL (T'.map fun e => vW e.2))) k = some j := by simp only [posW, hk, e3, hj]
  have : subW (.dL false (T'.map fun e => pk e.1) (frzL (T'.map fun e => vW e.2))) k = (match posW (.dL false (T'.map fun e => pk e.1) (frzL (T'.map fun e => vW e.2))) k with | some j => (frzL (T'.map fun e => vW e.2))[j]? | none => none) := rfl
  rw [this, g2]
  show (frzL (T'.map fun e => vW e.2))[j]? = _
  rw [frzL_map, List.map_map, List.getElem?_map, hm]
  show some (frz (W.lst fl (iL L))) = _
  rw [frz_oW]
/-- a dict's keys, the dict locked: none kept -/
theorem e_lock0 {own : List (Str × Nat)} {elt : E} {tg : Tg} {i : Nat} {ifs : Es} {ks : List (List Key)} {vs : List W} (h1 : ρ[i]? = some (some (.dT true ks vs))) (hc : (tgIn (own.map (·.2)) tg && (decide (ks.length ≤ lim) && (pureEs Φ ifs && pureE Φ elt))) = true)
    {r0 : Rho} (h0 : wipeR (ρ.set i (some (.dL false ks (frzL vs)))) (own.map (·.2)) = r0)
    (ht : ∀ k ∈ ks, ∃ ρ1 ρ2, evG T Φ prot tg (.tup false (k.map wKey)) r0 = some ρ1 ∧ evTs T Φ prot ifs ρ1 = some (false, ρ2) ∧ wipeR ρ2 (own.map (·.2)) = r0) :
    evE T Φ prot (.lock own elt tg (.var i) ifs) ρ = some (.lst true [], ρ) := by
  obtain ⟨ρ', h2, _⟩ := lcGo_mapE (α := List Key) (enc := fun k => W.tup false (k.map wKey)) (tb := fun _ => false) (fe := fun _ => W.non) (l := ks) (vs := own.map (·.2)) (t := fun w ρ => evG T Φ prot tg w ρ) (c := fun ρ => evTs T Φ prot ifs ρ) (e := fun ρ => evE T Φ prot elt ρ) h0 fun k hk => by
    obtain ⟨ρ1, ρ2, q1, q2, q3⟩ := ht k hk
    exact ⟨ρ1, ρ2, q1, q2, fun _ => q3, fun z => (by cases z)⟩
  rw [show (ks.filter fun _ => false) = [] from by simp] at h2
  simp only [evE, h1, if_pos hc, h2]
  rfl
end
end K90

set_option Elab.async false
set_option linter.all false
set_option maxRecDepth 100000
set_option maxHeartbeats 4000000
namespace K90
open PySem PySem.Spec PyProof.Rows L2 Ev
theorem oF_iL (l : List Nat) : oF (.lst true (iL l)) = true := by
  show (true && (iL l).all flatW) = true
  rw [Bool.true_and, List.all_eq_true]
  intro x hx
  obtain ⟨y, _, rfl⟩ := List.mem_map.mp hx
  rfl
theorem find_at {T : TT} {p : P2} {fl : Bool} {L : List Nat} (hm : (p, (fl, L)) ∈ T) (hn : (T.map (·.1)).Nodup) : ∃ j, posK ((T.map (·.1)).map pk) (pk p) = some j ∧ T[j]? = some (p, (fl, L)) := by
  obtain ⟨j, hj, ej⟩ := posK_some pk_inj (List.mem_map.mpr ⟨_, hm, rfl⟩)
  refine ⟨j, hj, ?_⟩
  obtain ⟨x, hx, ex⟩ : ∃ x, T[j]? = some x ∧ x.1 = p := by
    rw [List.getElem?_map] at ej
    cases q : T[j]? with
    | none => rw [q] at ej; cases ej
    | some x => rw [q] at ej; exact ⟨x, rfl, by simpa using ej⟩
  have hxe : x = (p, (fl, L)) := by
    obtain ⟨i, hi, ei⟩ := List.getElem_of_mem hm
    have hj2 : j < T.length := (List.getElem?_eq_some_iff.mp hx).1
    have e2 : T[j] = x := (List.getElem?_eq_some_iff.mp hx).2
    have hij : i = j := by
      have k := (List.pairwise_iff_getElem.mp hn)
      rcases Nat.lt_trichotomy i j with z | z | z
      · exact absurd (by rw [List.getElem_map, List.getElem_map, ei, e2, ex]) (k i j (by simpa using hi) (by simpa using hj2) z)
      · exact z
      · exact absurd (by rw [List.getElem_map, List.getElem_map, ei, e2, ex]) (k j i (by simpa using hj2) (by simpa using hi) z)
    subst hij
    rw [← e2, ei]
  rw [hx, hxe]
theorem e_callG {T : Tab} {Φ : Nat → Fun} {prot : Nat} {ρ ρ1 : Rho} {w : W} {ws : List W} {k : Nat} {es : Es} {d : FnI} {w' : W} {as : List W} (hd : T.fns[k]? = some d) (hio : (Φ k).io = false) (h : evEs T Φ prot es ρ = some (ws, ρ1)) (hds : d.dv es.len = []) (ha : frzL ws = as) (hl : as.length = (Φ k).n) (hf : (Φ k).f as = some (w, w')) :
    ∃ ρ', (ρ' = ρ ∨ ρ' = ρ1) ∧ evE T Φ prot (.call k es) ρ = some (w, ρ') := by
  cases hp : pureEs Φ es with
  | true =>
    cases hi : iso w with
    | true => exact ⟨ρ, .inl rfl, e_call hd hio h hds ha hl hf hp hi⟩
    | false => exact ⟨ρ1, .inr rfl, e_callF hd hio h hds ha hl hf (by rw [hi, Bool.and_false])⟩
  | false => exact ⟨ρ1, .inr rfl, e_callF hd hio h hds ha hl hf (by rw [hp]; rfl)⟩
abbrev R26 (g : W) (n : Nat) (o : Bool) (l m : List Nat) (a b c d e f : Option W) : Rho := [some g, some (iN n), some (.lst o (iL l)), some (.lst o (iL m)), a, b, c, d, e, f]
section
variable {n : Nat} {l m : List Nat} {gen : W}
theorem g10 (h : Ord n l) (h' : Ord n m) (hn : n ≤ 200) (o : Bool) (a b c d e f : Option W) : evE T0 (lk L26) 1 (.call 10 (.cons (.var 2) (.cons (.var 3) .nil))) (R26 gen n o l m a b c d e f) = some (.lst true (cntL (pl l) (pl m) n), R26 gen n o l m a b c d e f) := by
  obtain ⟨ρ1, v1, e1⟩ := var_L (T := T0) (Φ := lk L26) (prot := 1) (s := 2) (o := o) (l := l) (ρ := R26 gen n o l m a b c d e f) (by rfl)
  obtain ⟨ρ2, v2, e2⟩ := var_L (T := T0) (Φ := lk L26) (prot := 1) (s := 3) (o := o) (l := m) (ρ := ρ1) (by rw [e1]; rfl)
  exact e_call (as := [oW l, oW m]) (by rfl) (by rfl) (a_cons v1 (a_cons v2 a_nil)) (by rfl) (by simp only [frzL, frz]) (by rfl) (F10 h h' hn) (by rfl) (by simp only [iso, iso_quad, Bool.and_self])
variable {T : TT}
/-- the table that is drawn from what has been seen -/
theorem g_tab (h : Ord n l) (h' : Ord n m) (hn : n ≤ 6) (o : Bool) (hT : TS (SQ n (pl l) (pl m)) T) : evE T0 (lk L26) 1 (.lc [("low", 5), ("high", 6)] (.tup (.cons (.var 5) (.cons (.var 6) (.cons (.blt .min (.cons (.sub (.var 4) (.tup (.cons (.var 5) (.cons (.var 6) .nil)))) .nil)) (.cons (.blt .max (.cons (.sub (.var 4) (.tup (.cons (.var 5) (.cons (.var 6) .nil)))) .nil)) .nil))))) (.tp (.cons (.nm 5) (.cons (.nm 6) .nil))) (.seq (.blt .sorted (.cons (.var 4) .nil))) .nil)
    (R26 gen n o l m (some (foundW T)) none none none none none) = some (.lst true (cntL (pl l) (pl m) n), R26 gen n o l m (some (foundW T)) none none none none none) := by
  have k3 := e_lcE (T := T0) (Φ := lk L26) (prot := 1) (ρ := R26 gen n o l m (some (foundW T)) none none none none none) (enc := encP) (l := unl (pl l) (pl m) n) (fe := quad (pl l) (pl m)) (tb := fun _ => true) (own := [("low", 5), ("high", 6)]) (elt := (.tup (.cons (.var 5) (.cons (.var 6) (.cons (.blt .min (.cons (.sub (.var 4) (.tup (.cons (.var 5) (.cons (.var 6) .nil)))) .nil)) (.cons (.blt .max (.cons (.sub (.var 4) (.tup (.cons (.var 5) (.cons (.var 6) .nil)))) .nil)) .nil)))))) (tg := .tp (.cons (.nm 5) (.cons (.nm 6) .nil))) (it := .seq (.blt .sorted (.cons (.var 4) .nil))) (ifs := .nil)
    (i_seq (w := .lst true (prs (unl (pl l) (pl m) n))) (e_blt (ws := [.dT false (T.map fun e => pk e.1) (frzL (T.map fun e => vW e.2))]) (a_cons (by rfl) a_nil) (sort_found (ts_keys h h' hT) (unl_srt _ _ _)) (by rfl) (by simp only [iso, isoL_prs, Bool.and_self])) (seq_prs _)) (by rfl) (by have := unl_len (f := pl l) (g := pl m) (n := n); have h3 : n * n ≤ 6 * 6 := Nat.mul_le_mul hn hn; unfold lim; omega) rfl (fun p hp => ⟨R26 gen n o l m (some (foundW T)) (some (iN p.1)) (some (iN p.2)) none none none, _, by rfl, by rfl, fun z => (by cases z), fun _ => by
      obtain ⟨e, he, ep⟩ := List.mem_map.mp ((ts_keys h h' hT).mem_iff.mp hp)
      obtain ⟨p', fl, L⟩ := e
      have ep : p' = p := ep
      subst ep
      have rg := ts_rg h h' hT he
      obtain ⟨ρs, hs⟩ := sub_found (T := T0) (Φ := lk L26) (prot := 1) (s := 4) (e := .tup (.cons (.var 5) (.cons (.var 6) .nil))) (k := .tup false [iN p'.1, iN p'.2]) (ρ := R26 gen n o l m (some (foundW T)) (some (iN p'.1)) (some (iN p'.2)) none none none) (by rfl) (by rfl) rfl he hT.nk
      exact ⟨R26 gen n o l m (some (foundW T)) (some (iN p'.1)) (some (iN p'.2)) none none none, e_tup (a_cons (w := iN p'.1) (by rfl) (a_cons (w := iN p'.2) (by rfl) (a_cons (e_blt (a_cons hs a_nil) rg.min (by rfl) (by rfl)) (a_cons (e_blt (a_cons hs a_nil) rg.max (by rfl) (by rfl)) a_nil)))) (by show 4 ≤ 1000000; decide), by rfl⟩⟩) (by rfl) (isoL_map fun a _ => by rfl)
  rw [show ((unl (pl l) (pl m) n).filter fun _ => true) = unl (pl l) (pl m) n from by simp] at k3
  exact k3
/-- no gaps -/
theorem g_gap (h : Ord n l) (h' : Ord n m) (hn : n ≤ 6) (o : Bool) (hT : TS (SQ n (pl l) (pl m)) T) : evE T0 (lk L26) 1 (.lock [("pair", 7)] (.var 7) (.nm 7) (.var 4) (.cons (.cmp .NotEq (.blt .sorted (.cons (.sub (.var 4) (.var 7)) .nil)) (.lrng2 (.blt .min (.cons (.sub (.var 4) (.var 7)) .nil)) (.bin .Add (.blt .max (.cons (.sub (.var 4) (.var 7)) .nil)) (.cst (.int 1))))) .nil))
    (R26 gen n o l m (some (foundW T)) none none none none none) = some (.lst true [], R26 gen n o l m (some (foundW T)) none none none none none) := by
  refine e_lock0 (i := 4) (ks := T.map fun e => pk e.1) (vs := T.map fun e => vW e.2) (r0 := R26 gen n o l m (some (.dL false (T.map fun e => pk e.1) (frzL (T.map fun e => vW e.2)))) none none none none none) (by rfl) ?_ (by rfl) fun k hk => ?_
  · have hl : (T.map fun e => pk e.1).length ≤ lim := by
      have := hT.len
      rw [List.length_map]
      unfold lim
      omega
    rw [decide_eq_true hl]
    rfl
  · obtain ⟨e, he, rfl⟩ := List.mem_map.mp hk
    obtain ⟨p, fl, L⟩ := e
    have rg := ts_rg h h' hT he
    obtain ⟨j, hj, ej⟩ := find_at he hT.nk
    obtain ⟨u1, u2, _⟩ := mem_unl.mp ((ts_keys h h' hT).mem_iff.mpr (List.mem_map.mpr ⟨_, he, rfl⟩))
    have u1 : p.1 < p.2 := u1
    have u2 : p.2 < n := u2
    have hmost := most_le (f := pl l) (g := pl m) (lo := p.1) (hi := p.2)
    have hle := rg.le
    have hs := sub_lock (T := T0) (Φ := lk L26) (prot := 1) (s := 4) (e := .var 7) (k := .tup false [iN p.1, iN p.2]) (ρ := R26 gen n o l m (some (.dL false (T.map fun e => pk e.1) (frzL (T.map fun e => vW e.2)))) none none (some (.tup false [iN p.1, iN p.2])) none none) (by rfl) (by rfl) rfl hj ej
    refine ⟨R26 gen n o l m (some (.dL false (T.map fun e => pk e.1) (frzL (T.map fun e => vW e.2)))) none none (some (.tup false [iN p.1, iN p.2])) none none, _, by rfl, ts_one (e_cmpP (e_blt (a_cons hs a_nil) rg.sorted (by rfl) (by simp only [iso, isoL_ints, Bool.and_self])) (e_lrng2 (e_blt (a_cons hs a_nil) rg.min (by rfl) (by rfl)) (e_binP (y := iN 1) (e_blt (a_cons hs a_nil) rg.max (by rfl) (by rfl)) (by rfl) (b_add _ _) (by rfl) (by rfl)) (by omega) (by omega)) ne_iL (by rfl)), by rfl⟩
end
theorem F26 {c : Nat} {gen : W} (hg : Gn c gen) (hc : c ≤ 3000) : ∃ gen', p26.f [gen] = some (.bl true, gen') := by
  obtain ⟨n, g1, hn, hg1, k1⟩ := draw (L := L26) (bd := 7) (ρ := [none, none, none, none, none, none, none, none, none]) (es := .cst (.int 7)) hg (by decide) (by decide) (by omega) (by rfl) (by rfl)
  obtain ⟨l, g2, hO, hg2, k2⟩ := rnd_order (L := L26) (n := n) (ρ := [some (iN n), none, none, none, none, none, none, none, none]) (es := .var 1) hg1 (by omega) (by omega) (by rfl) (by rfl)
  obtain ⟨r3, g3, hr3, hg3, k3⟩ := draw (L := L26) (bd := 2) (ρ := [some (iN n), some (.lst true (iL l)), none, none, none, none, none, none, none]) (es := .cst (.int 2)) hg2 (by decide) (by decide) (by omega) (by rfl) (by rfl)
  have hif : ∃ (m : List Nat) (g4 : W), Ord n m ∧ Gn 3500 g4 ∧ evE T0 (lk L26) 1 (.ite (.cmp .Eq (.call 13 (.cons (.var 0) (.cons (.cst (.int 2)) .nil))) (.cst (.int 0))) (.call 16 (.cons (.var 0) (.cons (.var 1) .nil))) (.call 24 (.cons (.var 0) (.cons (.var 2) (.cons (.cst (.int 6)) .nil)))))
      [some g2, some (iN n), some (.lst true (iL l)), none, none, none, none, none, none, none] = some (.lst true (iL m), [some g4, some (iN n), some (.lst true (iL l)), none, none, none, none, none, none, none]) := by
    have ht := e_cmpI (T := T0) (Φ := lk L26) (prot := 1) (op := .Eq) (a := .call 13 (.cons (.var 0) (.cons (.cst (.int 2)) .nil))) (b := .cst (.int 0)) k3 (by rfl) (eq0 r3) (by rfl)
    by_cases h0 : r3 = 0
    · obtain ⟨m, g4, hO4, hg4, k4⟩ := rnd_order (L := L26) (n := n) (ρ := [some (iN n), some (.lst true (iL l)), none, none, none, none, none, none, none]) (es := .var 1) hg3 (by omega) (by omega) (by rfl) (by rfl)
      rw [decide_eq_true h0] at ht
      exact ⟨m, g4, hO4, hg4.mono (by omega), e_iteT ht k4⟩
    · obtain ⟨m, g4, hO4, hg4, k4⟩ := near_keep (L := L26) (gen := g3) (w0 := .lst false (frzL (iL l))) (eo := .var 2) (es := .cst (.int 6)) (s := 6) (ρ := [some (iN n), some (.lst true (iL l)), none, none, none, none, none, none, none]) (ρ1 := [some (iN n), some (.lst false (frzL (iL l))), none, none, none, none, none, none, none]) hO (by omega) hg3 (by decide) (by omega) (by rfl) (a_cons (by rfl) (a_cons (by rfl) a_nil)) (by simp only [frz, frzL_ints]) (by rfl)
      rw [decide_eq_false h0] at ht
      exact ⟨m, g4, hO4, hg4.mono (by omega), e_iteF ht k4⟩
  obtain ⟨m, g4, hO', hg4, k4⟩ := hif
  have k5 : evE T0 (lk L26) 1 (.call 25 (.cons (.var 2) (.cons (.var 3) .nil))) (R26 g4 n true l m none none none none none none) = some (.bl true, R26 g4 n true l m none none none none none none) :=
    e_callI (x := .lst true (iL l)) (y := .lst true (iL l)) (ws := [.lst false (frzL (iL m))]) (as := [.lst true (iL l), oW m]) (w := .bl true) (w1 := .lst true (iL l)) (ρ1 := [some g4, some (iN n), some (.lst true (iL l)), some (.lst false (frzL (iL m))), none, none, none, none, none, none]) (by rfl) (by rfl) (by rfl) (a_cons (by rfl) a_nil) (by rfl) (by rfl) (by simp only [frzL, frz, frzL_ints]) (by rfl) (F25 hO hO' (by omega)) (b := true) (by rfl) (by rw [oF_iL]; rfl)
  obtain ⟨T, hT, hf23⟩ := F23 hO hO' (by omega)
  obtain ⟨ρ6, hρ6, k6⟩ := e_callG (T := T0) (Φ := lk L26) (prot := 1) (k := 23) (es := .cons (.var 2) (.cons (.var 3) .nil)) (ρ := R26 g4 n true l m none none none none none none) (ws := [.lst false (frzL (iL l)), .lst false (frzL (iL m))]) (ρ1 := [some g4, some (iN n), some (.lst false (frzL (iL l))), some (.lst false (frzL (iL m))), none, none, none, none, none, none]) (as := [oW l, oW m]) (by rfl) (by rfl) (a_cons (by rfl) (a_cons (by rfl) a_nil)) (by rfl) (by simp only [frzL, frz, frzL_ints]) (by rfl) hf23
  have hρ7 : ∃ o, ρ6 = R26 g4 n o l m none none none none none none := by
    rcases hρ6 with z | z
    · exact ⟨true, z⟩
    · rw [frzL_ints, frzL_ints] at z
      exact ⟨false, z⟩
  obtain ⟨o, rfl⟩ := hρ7
  have k7 : evE T0 (lk L26) 1 (.cmp .NotEq (.lc [("low", 5), ("high", 6)] (.tup (.cons (.var 5) (.cons (.var 6) (.cons (.blt .min (.cons (.sub (.var 4) (.tup (.cons (.var 5) (.cons (.var 6) .nil)))) .nil)) (.cons (.blt .max (.cons (.sub (.var 4) (.tup (.cons (.var 5) (.cons (.var 6) .nil)))) .nil)) .nil))))) (.tp (.cons (.nm 5) (.cons (.nm 6) .nil))) (.seq (.blt .sorted (.cons (.var 4) .nil))) .nil) (.call 10 (.cons (.var 2) (.cons (.var 3) .nil)))) (R26 g4 n o l m (some (foundW T)) none none none none none) = some (.bl false, R26 g4 n o l m (some (foundW T)) none none none none none) :=
    e_cmpP (g_tab hO hO' (by omega) o hT) (g10 hO hO' (by omega) o _ _ _ _ _ _) ne_cnt (by rfl)
  have k8 : evE T0 (lk L26) 1 (.cmp .NotEq (.lock [("pair", 7)] (.var 7) (.nm 7) (.var 4) (.cons (.cmp .NotEq (.blt .sorted (.cons (.sub (.var 4) (.var 7)) .nil)) (.lrng2 (.blt .min (.cons (.sub (.var 4) (.var 7)) .nil)) (.bin .Add (.blt .max (.cons (.sub (.var 4) (.var 7)) .nil)) (.cst (.int 1))))) .nil)) (.lst .nil)) (R26 g4 n o l m (some (foundW T)) none none none none none) = some (.bl false, R26 g4 n o l m (some (foundW T)) none none none none none) :=
    e_cmpI (y := .lst true []) (g_gap hO hO' (by omega) o hT) (by rfl) (by rfl) (by rfl)
  obtain ⟨r9, g9, hr9, hg9, k9⟩ := draw (L := L26) (bd := 14) (ρ := [some (iN n), some (.lst o (iL l)), some (.lst o (iL m)), some (foundW T), none, none, none, none, none]) (es := .cst (.int 14)) hg4 (by decide) (by decide) (by omega) (by rfl) (by rfl)
  generalize hq : 7 + r9 = q
  have hq2 : q ≤ 200 := by omega
  obtain ⟨lg, ga, hOa, hga, ka⟩ := rnd_order (L := L26) (n := q) (ρ := [some (iN n), some (.lst o (iL l)), some (.lst o (iL m)), some (foundW T), none, none, none, some (iN q), none]) (es := .var 8) hg9 (by omega) (by omega) (by rfl) (by rfl)
  obtain ⟨mb, gb, hOb, hgb, kb⟩ := near_keep (L := L26) (gen := ga) (w0 := .lst false (frzL (iL lg))) (eo := .var 9) (es := .cst (.int 200)) (s := 200) (ρ := [some (iN n), some (.lst o (iL l)), some (.lst o (iL m)), some (foundW T), none, none, none, some (iN q), some (.lst true (iL lg))]) (ρ1 := [some (iN n), some (.lst o (iL l)), some (.lst o (iL m)), some (foundW T), none, none, none, some (iN q), some (.lst false (frzL (iL lg)))]) hOa hq2 hga (by decide) (by omega) (by rfl) (a_cons (by rfl) (a_cons (by rfl) a_nil)) (by simp only [frz, frzL_ints]) (by rfl)
  obtain ⟨mc, gc, hOc, hgc, kc⟩ := rnd_order (L := L26) (n := q) (ρ := [some (iN n), some (.lst o (iL l)), some (.lst o (iL m)), some (foundW T), none, none, none, some (iN q), some (.lst true (iL lg))]) (es := .var 8) hgb (by omega) (by omega) (by rfl) (by rfl)
  have kd : evE T0 (lk L26) 1 (.call 25 (.cons (.var 9) (.cons (.call 24 (.cons (.var 0) (.cons (.var 9) (.cons (.cst (.int 200)) .nil)))) .nil))) [some ga, some (iN n), some (.lst o (iL l)), some (.lst o (iL m)), some (foundW T), none, none, none, some (iN q), some (.lst true (iL lg))] = some (.bl true, [some gb, some (iN n), some (.lst o (iL l)), some (.lst o (iL m)), some (foundW T), none, none, none, some (iN q), some (.lst true (iL lg))]) :=
    e_callI (x := .lst true (iL lg)) (y := .lst true (iL lg)) (ws := [.lst true (iL mb)]) (as := [.lst true (iL lg), oW mb]) (w := .bl true) (w1 := .lst true (iL lg)) (by rfl) (by rfl) (by rfl) (a_cons kb a_nil) (by rfl) (by rfl) (by simp only [frzL, frz, frzL_ints]) (by rfl) (F25 hOa hOb hq2) (b := false) (by rfl) (by rfl)
  have ke : evE T0 (lk L26) 1 (.call 25 (.cons (.var 9) (.cons (.call 16 (.cons (.var 0) (.cons (.var 8) .nil))) .nil))) [some gb, some (iN n), some (.lst o (iL l)), some (.lst o (iL m)), some (foundW T), none, none, none, some (iN q), some (.lst true (iL lg))] = some (.bl true, [some gc, some (iN n), some (.lst o (iL l)), some (.lst o (iL m)), some (foundW T), none, none, none, some (iN q), some (.lst true (iL lg))]) :=
    e_callI (x := .lst true (iL lg)) (y := .lst true (iL lg)) (ws := [.lst true (iL mc)]) (as := [.lst true (iL lg), oW mc]) (w := .bl true) (w1 := .lst true (iL lg)) (by rfl) (by rfl) (by rfl) (a_cons kc a_nil) (by rfl) (by rfl) (by simp only [frzL, frz, frzL_ints]) (by rfl) (F25 hOa hOc hq2) (b := false) (by rfl) (by rfl)
  refine ⟨gc, ?_⟩
  rw [e26]
  refine f_rtI (ρ0 := [some gen, none, none, none, none, none, none, none, none, none]) (ρ := [some (iN n), some (.lst o (iL l)), some (.lst o (iL m)), some (foundW T), none, none, none, some (iN q), some (.lst true (iL lg))]) rfl ?_
  refine s_cons (t_set (ρ2 := [some g1, some (iN n), none, none, none, none, none, none, none, none]) k1 (by rfl)) ?_
  refine s_cons (t_set (ρ2 := [some g2, some (iN n), some (.lst true (iL l)), none, none, none, none, none, none, none]) k2 (by rfl)) ?_
  refine s_cons (t_set (ρ2 := R26 g4 n true l m none none none none none none) k4 (by rfl)) ?_
  refine s_cons (t_ifF (e_not k5) s_nil) ?_
  refine s_cons (t_set (ρ2 := R26 g4 n o l m (some (foundW T)) none none none none none) k6 (by rfl)) ?_
  refine s_cons (t_ifF k7 s_nil) ?_
  refine s_cons (t_ifF k8 s_nil) ?_
  refine s_cons (t_set (w := iN q) (ρ2 := R26 g9 n o l m (some (foundW T)) none none none (some (iN q)) none) (e_binF (x := iN 7) (z := iN q) (by rfl) k9 (by rw [← hq]; exact b_add 7 r9) (by rfl)) (by rfl)) ?_
  refine s_cons (t_set (ρ2 := R26 ga n o l m (some (foundW T)) none none none (some (iN q)) (some (.lst true (iL lg)))) ka (by rfl)) ?_
  exact s_rt (t_ret ((evR_plain (by rfl)).trans (e_andT kd ke)))
end K90

set_option Elab.async false
set_option linter.all false
set_option maxRecDepth 100000
set_option maxHeartbeats 4000000
namespace K90
open PySem PySem.Spec PyProof.Rows L2 Ev
theorem e_callT {T : Tab} {Φ : Nat → Fun} {prot : Nat} {ρ ρ1 ρ2 : Rho} {w x w' : W} {ws : List W} {k k2 : Nat} {es es2 : Es} {d : FnI} {as : List W} (hd : T.fns[k]? = some d) (hio : (Φ k).io = true) (hx : evE T Φ prot (.call k2 es2) ρ = some (x, ρ1)) (h : evEs T Φ prot es ρ1 = some (ws, ρ2)) (hds : d.dv (es.len + 1) = []) (ha : x :: frzL ws = as) (hl : as.length = (Φ k).n) (hf : (Φ k).f as = some (w, w')) :
    evE T Φ prot (.call k (.cons (.call k2 es2) es)) ρ = some (w, ρ2) := by
  subst ha
  have e : frzL ws ++ ([] : List W) = frzL ws := List.append_nil _
  unfold evE
  simp only [hd, hio, hx, h, hds, cWs, e, if_pos hl, hf]
theorem unl_same (f : Nat → Nat) (n : Nat) : unl f f n = [] := by
  refine List.eq_nil_iff_forall_not_mem.mpr fun p hp => ?_
  obtain ⟨_, _, h⟩ := mem_unl.mp hp
  unfold unB at h
  simp at h
theorem need_same (f : Nat → Nat) (n : Nat) : needL f f n = [] := by
  unfold needL
  rw [unl_same]
  rfl
def hiL : List Nat := List.range' 1 60 ++ [0, 61]
def hiM : List Nat := hiL.take 60 ++ [61, 0]
theorem ord_dec {n : Nat} {l : List Nat} (h : decide (l.Perm (List.range n)) = true) : Ord n l := of_decide_eq_true (p := l.Perm (List.range n)) h
theorem hiL_ok : Ord 62 hiL := ord_dec (by decide +kernel)
theorem hiM_ok : Ord 62 hiM := ord_dec (by decide +kernel)
theorem need_hi : needL (pl hiL) (pl hiM) 62 = [60] := by decide +kernel
theorem need_4 : needL (pl [0, 1, 2, 3]) (pl [3, 2, 1, 0]) 4 = [0, 1, 2] := by decide +kernel
theorem unl_40 : (unl (pl (List.range 40)) (pl (List.range 40).reverse) 40).length = 780 := by decide +kernel
abbrev R28 (ns : List Int) (a b c d : Option W) : Rho := [some (.scr (ns.map W.int)), a, b, c, d]
theorem g15 (ns : List Int) (j : Nat) (hj : j < 4) {e : E} {a b c d : Option W} (he : evE T0 (lk L28) 0 e (R28 ns a b c d) = some (iN j, R28 ns a b c d)) (hp : pureE (lk L28) e = true) : ∃ gen, Gn 3000 gen ∧ evE T0 (lk L28) 0 (.call 15 (.cons (.var 0) (.cons e .nil))) (R28 ns a b c d) = some (gen, R28 ns a b c d) := by
  obtain ⟨gen, hG, hf⟩ := F15 ns j hj
  refine ⟨gen, hG, e_call (as := [.scr (ns.map W.int), iN j]) (by rfl) (by rfl) (a_cons (by rfl) (a_cons he a_nil)) (by rfl) (by rfl) (by rfl) hf ?_ ?_⟩
  · simp only [pureEs, hp, pureE, Bool.and_self]
  · obtain ⟨a, b, k, rfl, _⟩ := hG
    rfl
theorem plain (ns : List Int) : p28.f [.scr (ns.map W.int)] = some (.bl true, .non) := by
  rw [e28]
  obtain ⟨g3, hG3, k3⟩ := g15 ns 3 (by decide) (e := .cst (.int 3)) (a := none) (b := none) (c := none) (d := none) (by rfl) (by rfl)
  obtain ⟨g3', hf3⟩ := F27 hG3 (by decide)
  have c1 : evE T0 (lk L28) 0 (.call 27 (.cons (.call 15 (.cons (.var 0) (.cons (.cst (.int 3)) .nil))) .nil)) (R28 ns none none none none) = some (.bl true, R28 ns none none none none) := e_callT (by rfl) (by rfl) k3 a_nil (by rfl) (by rfl) (by rfl) hf3
  obtain ⟨ρ2, c2, x2, rfl⟩ := for_ixE (l := List.range 3) (enc := iN) (t := fun w ρ => evG T0 (lk L28) 0 (.nm 1) w ρ) (b := fun ρ => xSs T0 (lk L28) 0 (.cons (.ite (.not (.call 26 (.cons (.call 15 (.cons (.var 0) (.cons (.var 1) .nil))) .nil))) (.cons (.ret (.cst (.bl false))) .nil) .nil) .nil) ρ)
    (I := fun _ ρ => ∃ x, ρ = R28 ns x none none none) (ρ := R28 ns none none none none) ⟨none, rfl⟩ fun i ρ j hj hI => by
      obtain ⟨x, rfl⟩ := hI
      obtain ⟨rfl, hi⟩ := range_get hj
      obtain ⟨g, hG, k⟩ := g15 ns j (by omega) (e := .var 1) (a := some (iN j)) (b := none) (c := none) (d := none) (by rfl) (by rfl)
      obtain ⟨g', hf⟩ := F26 hG (by decide)
      have c : evE T0 (lk L28) 0 (.call 26 (.cons (.call 15 (.cons (.var 0) (.cons (.var 1) .nil))) .nil)) (R28 ns (some (iN j)) none none none) = some (.bl true, R28 ns (some (iN j)) none none none) := e_callT (by rfl) (by rfl) k a_nil (by rfl) (by rfl) (by rfl) hf
      exact ⟨R28 ns (some (iN j)) none none none, R28 ns (some (iN j)) none none none, by rfl, s_cons (t_ifF (e_not c) s_nil) s_nil, _, rfl⟩
  have nn : ∀ {a b : Nat} {x y : List Nat}, cmpW .NotEq (.lst true (iL x)) (.lst true (iL x)) = some false := fun {_ _ x _} => ne_iL
  have d10 : evE T0 (lk L28) 0 (.call 10 (.cons (.lst (.cons (.cst (.int 3)) (.cons (.cst (.int 4)) (.cons (.cst (.int 0)) (.cons (.cst (.int 1)) (.cons (.cst (.int 2)) .nil)))))) (.cons (.lst (.cons (.cst (.int 3)) (.cons (.cst (.int 0)) (.cons (.cst (.int 1)) (.cons (.cst (.int 2)) (.cons (.cst (.int 4)) .nil)))))) .nil))) (R28 ns x2 none none none) = some (.lst true (cntL (pl [3, 4, 0, 1, 2]) (pl [3, 0, 1, 2, 4]) 5), R28 ns x2 none none none) :=
    e_call (ws := [.lst true (iL [3, 4, 0, 1, 2]), .lst true (iL [3, 0, 1, 2, 4])]) (as := [oW [3, 4, 0, 1, 2], oW [3, 0, 1, 2, 4]]) (by rfl) (by rfl) (by rfl) (by rfl) (by rfl) (by rfl) (F10 (n := 5) (ord_dec (by decide +kernel)) (ord_dec (by decide +kernel)) (by decide)) (by rfl) (by simp only [iso, iso_quad, Bool.and_self])
  have d11 : evE T0 (lk L28) 0 (.call 11 (.cons (.lst .nil) (.cons (.lst .nil) .nil))) (R28 ns x2 none none none) = some (.lst true (iL []), R28 ns x2 none none none) :=
    e_call (ws := [.lst true (iL []), .lst true (iL [])]) (as := [oW [], oW []]) (by rfl) (by rfl) (by rfl) (by rfl) (by rfl) (by rfl) (by rw [← need_same (pl []) 0]; exact F11 (n := 0) (ord_dec (by decide +kernel)) (ord_dec (by decide +kernel)) (by decide)) (by rfl) (by rfl)
  have t3 := e_or (l := false) (e_cmpP (k := false) d10 (b := (.lst (.cons (.tup (.cons (.cst (.int 0)) (.cons (.cst (.int 4)) (.cons (.cst (.int 1)) (.cons (.cst (.int 1)) .nil))))) (.cons (.tup (.cons (.cst (.int 1)) (.cons (.cst (.int 4)) (.cons (.cst (.int 1)) (.cons (.cst (.int 1)) .nil))))) (.cons (.tup (.cons (.cst (.int 2)) (.cons (.cst (.int 4)) (.cons (.cst (.int 1)) (.cons (.cst (.int 1)) .nil))))) .nil))))) (y := .lst true [.tup false [.int 0, .int 4, .int 1, .int 1], .tup false [.int 1, .int 4, .int 1, .int 1], .tup false [.int 2, .int 4, .int 1, .int 1]]) (by rfl) (op := .NotEq) (by decide +kernel) (by rfl)) fun _ => e_cmpP (k := false) d11 (b := .lst .nil) (y := .lst true (iL [])) (by rfl) (op := .NotEq) ne_iL (by rfl)
  have c4 : evE T0 (lk L28) 0 (.bin .Add (.lrng2 (.cst (.int 1)) (.cst (.int 61))) (.lst (.cons (.cst (.int 0)) (.cons (.cst (.int 61)) .nil)))) (R28 ns x2 none none none) = some (.lst true (iL hiL), R28 ns x2 none none none) :=
    e_binP (e_lrng2 (m := 1) (n := 61) (by rfl) (by rfl) (by decide) (by decide)) (y := .lst true (iL [0, 61])) (by rfl) (cat_iL (List.range' 1 (61 - 1)) [0, 61] (by rw [List.length_range']; unfold lim; decide)) (by rfl) (by simp only [iso, isoL_ints, Bool.and_self])
  obtain ⟨ρa, va, ea⟩ := var_L (T := T0) (Φ := lk L28) (prot := 0) (s := 2) (o := true) (l := hiL) (ρ := R28 ns x2 (some (.lst true (iL hiL))) none none) (by rfl)
  have ea : ρa = R28 ns x2 (some (oW hiL)) none none := ea
  have vs : evE T0 (lk L28) 0 (.bin .Add (.slc (.var 2) (.cst .non) (.cst (.int 60))) (.lst (.cons (.cst (.int 61)) (.cons (.cst (.int 0)) .nil)))) ρa = some (.lst true (iL hiM), ρa) := by
    rw [ea]
    exact e_binP (e_slc (x := oW hiL) (z := .lst true (iL (hiL.take 60))) (by rfl) (po_no (by rfl)) (po_so (i := ((60 : Nat) : Int)) (by rfl) (by rfl)) (sl_take hiL 60) (by rfl) (by simp only [iso, isoL_ints, Bool.and_self])) (y := .lst true (iL [61, 0])) (by rfl) (cat_iL (hiL.take 60) [61, 0] (by rw [List.length_take]; simp; unfold lim; omega)) (by rfl) (by simp only [iso, isoL_ints, Bool.and_self])
  have h11 : evE T0 (lk L28) 0 (.call 11 (.cons (.var 2) (.cons (.bin .Add (.slc (.var 2) (.cst .non) (.cst (.int 60))) (.lst (.cons (.cst (.int 61)) (.cons (.cst (.int 0)) .nil)))) .nil))) (R28 ns x2 (some (.lst true (iL hiL))) none none) = some (.lst true (iL [60]), R28 ns x2 (some (.lst true (iL hiL))) none none) :=
    e_call (as := [oW hiL, oW hiM]) (by rfl) (by rfl) (a_cons va (a_cons vs a_nil)) (by rfl) (by simp only [frzL, frz, frzL_ints]) (by rfl) (by rw [← need_hi]; exact F11 hiL_ok hiM_ok (by decide)) (by rfl) (by rfl)
  have h4 : evE T0 (lk L28) 0 (.call 11 (.cons (.lst (.cons (.cst (.int 0)) (.cons (.cst (.int 1)) (.cons (.cst (.int 2)) (.cons (.cst (.int 3)) .nil))))) (.cons (.lst (.cons (.cst (.int 3)) (.cons (.cst (.int 2)) (.cons (.cst (.int 1)) (.cons (.cst (.int 0)) .nil))))) .nil))) (R28 ns x2 (some (.lst true (iL hiL))) none none) = some (.lst true (iL [0, 1, 2]), R28 ns x2 (some (.lst true (iL hiL))) none none) :=
    e_call (ws := [.lst true (iL [0, 1, 2, 3]), .lst true (iL [3, 2, 1, 0])]) (as := [oW [0, 1, 2, 3], oW [3, 2, 1, 0]]) (by rfl) (by rfl) (by rfl) (by rfl) (by rfl) (by rfl) (by rw [← need_4]; exact F11 (n := 4) (ord_dec (by decide +kernel)) (ord_dec (by decide +kernel)) (by decide)) (by rfl) (by rfl)
  have t5 := e_or (l := false) (e_cmpP (k := false) h11 (b := .lst (.cons (.cst (.int 60)) .nil)) (y := .lst true (iL [60])) (by rfl) (op := .NotEq) ne_iL (by rfl)) fun _ => e_cmpP (k := false) h4 (b := .lst (.cons (.cst (.int 0)) (.cons (.cst (.int 1)) (.cons (.cst (.int 2)) .nil)))) (y := .lst true (iL [0, 1, 2])) (by rfl) (op := .NotEq) ne_iL (by rfl)
  let ρe : Rho := R28 ns x2 (some (.lst true (iL hiL))) (some (.lst true (iL (List.range 200)))) (some (.lst true (iL (List.range 40))))
  obtain ⟨ρf, vf, ef⟩ := var_L (T := T0) (Φ := lk L28) (prot := 0) (s := 3) (o := true) (l := List.range 200) (ρ := ρe) (by rfl)
  obtain ⟨ρg, vg, eg⟩ := var_L (T := T0) (Φ := lk L28) (prot := 0) (s := 3) (o := false) (l := List.range 200) (ρ := ρf) (by rw [ef]; rfl)
  have f11 : evE T0 (lk L28) 0 (.call 11 (.cons (.var 3) (.cons (.var 3) .nil))) ρe = some (.lst true (iL []), ρe) :=
    e_call (as := [oW (List.range 200), oW (List.range 200)]) (by rfl) (by rfl) (a_cons vf (a_cons vg a_nil)) (by rfl) (by simp only [frzL, frz]) (by rfl) (by rw [← need_same (pl (List.range 200)) 200]; exact F11 (n := 200) (List.Perm.refl _) (List.Perm.refl _) (by decide)) (by rfl) (by rfl)
  obtain ⟨ρh, vh, eh⟩ := var_L (T := T0) (Φ := lk L28) (prot := 0) (s := 4) (o := true) (l := List.range 40) (ρ := ρe) (by rfl)
  obtain ⟨ρi, vi, ei⟩ := var_L (T := T0) (Φ := lk L28) (prot := 0) (s := 4) (o := false) (l := List.range 40) (ρ := ρh) (by rw [eh]; rfl)
  have f10 : evE T0 (lk L28) 0 (.call 10 (.cons (.var 4) (.cons (.rev (.var 4)) .nil))) ρe = some (.lst true (cntL (pl (List.range 40)) (pl (List.range 40).reverse) 40), ρe) :=
    e_call (as := [oW (List.range 40), oW (List.range 40).reverse]) (by rfl) (by rfl) (a_cons vh (a_cons (e_rev vi (by rfl)) a_nil)) (by rfl) (by simp only [frzL, frz, frzL_ints]) (by rfl) (F10 (n := 40) (List.Perm.refl _) (List.reverse_perm _) (by decide)) (by rfl) (by simp only [iso, iso_quad, Bool.and_self])
  have fl : evE T0 (lk L28) 0 (.blt .len (.cons (.call 10 (.cons (.var 4) (.cons (.rev (.var 4)) .nil))) .nil)) ρe = some (.int 780, ρe) := by
    refine e_blt (a_cons f10 a_nil) ?_ (by rfl) (by rfl)
    show some (W.int (((cntL (pl (List.range 40)) (pl (List.range 40).reverse) 40).length : Nat) : Int)) = _
    unfold cntL
    rw [List.length_map, unl_40]
    rfl
  have f1 : evE T0 (lk L28) 0 (.call 11 (.cons (.lst (.cons (.cst (.int 0)) .nil)) (.cons (.lst (.cons (.cst (.int 0)) .nil)) .nil))) ρe = some (.lst true (iL []), ρe) :=
    e_call (ws := [.lst true (iL [0]), .lst true (iL [0])]) (as := [oW [0], oW [0]]) (by rfl) (by rfl) (by rfl) (by rfl) (by rfl) (by rfl) (by rw [← need_same (pl [0]) 1]; exact F11 (n := 1) (List.Perm.refl _) (List.Perm.refl _) (by decide)) (by rfl) (by rfl)
  have t7 := e_and (l := true) (e_cmpP (k := true) f11 (b := .lst .nil) (y := .lst true (iL [])) (by rfl) (op := .Eq) eq_iL (by rfl)) fun _ => e_and (l := true) (e_cmpP (k := true) fl (b := .cst (.int 780)) (y := .int 780) (by rfl) (op := .Eq) (by rfl) (by rfl)) fun _ => e_cmpP (k := true) f1 (b := .lst .nil) (y := .lst true (iL [])) (by rfl) (op := .Eq) eq_iL (by rfl)
  refine f_rt (ρ := ρe) (ρ0 := R28 ns none none none none) rfl ?_
  refine s_cons (t_ifF (e_not c1) s_nil) ?_
  refine s_cons (t_for (i_rng1 (n := 3) (by rfl) (by decide)) c2) ?_
  refine s_cons (t_ifF t3 s_nil) ?_
  refine s_cons (t_set (ρ2 := R28 ns x2 (some (.lst true (iL hiL))) none none) c4 (by rfl)) ?_
  refine s_cons (t_ifF t5 s_nil) ?_
  refine s_cons (t_par2 (e_lrng1 (n := 200) (by rfl) (by decide)) (e_lrng1 (n := 40) (by rfl) (by decide)) ⟨by decide, by decide, by show 3 < 5; decide, by show 4 < 5; decide, by decide⟩) ?_
  exact s_rt (t_retP t7 (by rfl))
end K90

set_option Elab.async false
set_option linter.all false
set_option maxRecDepth 100000
set_option maxHeartbeats 0
namespace K90
open PySem PySem.Spec PyProof.Rows L2 Ev
def hd0 : He.DefD := ⟨("is_whole", none), D0.name, D0.name, D0.params, D0.body, D0.scope, [], []⟩
def hd1 : He.DefD := ⟨("is_between", none), D1.name, D1.name, D1.params, D1.body, D1.scope, [], []⟩
def hd2 : He.DefD := ⟨("is_order_list", none), D2.name, D2.name, D2.params, D2.body, D2.scope, [], []⟩
def hd3 : He.DefD := ⟨("check_order", none), D3.name, D3.name, D3.params, D3.body, D3.scope, [], []⟩
def hd4 : He.DefD := ⟨("places_from", none), D4.name, D4.name, D4.params, D4.body, D4.scope, [], []⟩
def hd5 : He.DefD := ⟨("check_two_orders", none), D5.name, D5.name, D5.params, D5.body, D5.scope, [], []⟩
def hd6 : He.DefD := ⟨("unlike_pairs", none), D6.name, D6.name, D6.params, D6.body, D6.scope, [], []⟩
def hd7 : He.DefD := ⟨("counted", none), D7.name, D7.name, D7.params, D7.body, D7.scope, [], []⟩
def hd8 : He.DefD := ⟨("counts_of", none), D8.name, D8.name, D8.params, D8.body, D8.scope, [], []⟩
def hd9 : He.DefD := ⟨("needs_of", none), D9.name, D9.name, D9.params, D9.body, D9.scope, [], []⟩
def hd10 : He.DefD := ⟨("pair_counts", none), D10.name, D10.name, D10.params, D10.body, D10.scope, [], []⟩
def hd11 : He.DefD := ⟨("needed", none), D11.name, D11.name, D11.params, D11.body, D11.scope, [], []⟩
def hd12 : He.DefD := ⟨("_law_hash", none), D12.name, D12.name, D12.params, D12.body, D12.scope, [], []⟩
def hd13 : He.DefD := ⟨("_law_random", none), D13.name, D13.name, D13.params, D13.body, D13.scope, [], []⟩
def hd14 : He.DefD := ⟨("_law_cell", none), D14.name, D14.name, D14.params, D14.body, D14.scope, [], []⟩
def hd15 : He.DefD := ⟨("_law_generator", none), D15.name, D15.name, D15.params, D15.body, D15.scope, [], []⟩
def hd16 : He.DefD := ⟨("_law_order", none), D16.name, D16.name, D16.params, D16.body, D16.scope, [], []⟩
def hd17 : He.DefD := ⟨("_law_exchanged", none), D17.name, D17.name, D17.params, D17.body, D17.scope, [], []⟩
def hd18 : He.DefD := ⟨("_law_left", none), D18.name, D18.name, D18.params, D18.body, D18.scope, [], []⟩
def hd19 : He.DefD := ⟨("_law_unlike", none), D19.name, D19.name, D19.params, D19.body, D19.scope, [], []⟩
def hd20 : He.DefD := ⟨("_law_low_high", none), D20.name, D20.name, D20.params, D20.body, D20.scope, [], []⟩
def hd21 : He.DefD := ⟨("_law_needs", none), D21.name, D21.name, D21.params, D21.body, D21.scope, [], []⟩
def hd22 : He.DefD := ⟨("_law_steps", none), D22.name, D22.name, D22.params, D22.body, D22.scope, [], []⟩
def hd23 : He.DefD := ⟨("_law_seen", none), D23.name, D23.name, D23.params, D23.body, D23.scope, [], []⟩
def hd24 : He.DefD := ⟨("_law_near", none), D24.name, D24.name, D24.params, D24.body, D24.scope, [], []⟩
def hd25 : He.DefD := ⟨("_law_two_right", none), D25.name, D25.name, D25.params, D25.body, D25.scope, [], []⟩
def hd26 : He.DefD := ⟨("_law_right", none), D26.name, D26.name, D26.params, D26.body, D26.scope, [], []⟩
def hd27 : He.DefD := ⟨("_law_great_right", none), D27.name, D27.name, D27.params, D27.body, D27.scope, [], []⟩
def hd28 : He.DefD := ⟨("law", none), D28.name, D28.name, D28.params, D28.body, D28.scope, [], []⟩
def hfn : List He.DefD := [hd0, hd1, hd2, hd3, hd4, hd5, hd6, hd7, hd8, hd9, hd10, hd11, hd12, hd13, hd14, hd15, hd16, hd17, hd18, hd19, hd20, hd21, hd22, hd23, hd24, hd25, hd26, hd27, hd28]
def hfa : List He.Fa := [.glo "is_whole", .glo "is_between", .glo "is_order_list", .glo "check_order", .glo "places_from", .glo "check_two_orders", .glo "unlike_pairs", .glo "counted", .glo "counts_of", .glo "needs_of", .glo "pair_counts", .glo "needed", .glo "_law_hash", .glo "_law_random", .glo "_law_cell", .glo "_law_generator", .glo "_law_order", .glo "_law_exchanged", .glo "_law_left", .glo "_law_unlike", .glo "_law_low_high", .glo "_law_needs", .glo "_law_steps", .glo "_law_seen", .glo "_law_near", .glo "_law_two_right", .glo "_law_right", .glo "_law_great_right", .glo "law", .free "isinstance", .free "bool", .free "int", .free "sorted", .free "list", .free "range", .free "len", .free "enumerate", .free "sum", .free "max", .free "min", .free "dict", .free "tuple", .free "repr", .int "MOST_LENGTH" 200]
abbrev R : PySem.W.OpenRow := PySem.W.OpenLaw.row PySem.Challenge.rw_voicerows_k90_whole_counts_that_pairs_ne
abbrev hk : PySem.W.Hook := He.hookD 6 hfa hfn
def ob (s : PySem.W.SharedT) : He.AlD := He.obsDG 6 hfa hfn (HandSHeadRun.getT s)
theorem ob_eq (s : PySem.W.SharedT) : ob s = hk.obs s.abs := He.obsDG_eq (HandSHeadRun.getT_eq s)
def names0 : List PySem.Str := [("GapError" : PySem.Str), ("InvalidOrder" : PySem.Str), ("Unlike" : PySem.Str), ("MOST_LENGTH" : PySem.Str), ("is_whole" : PySem.Str), ("is_between" : PySem.Str), ("is_order_list" : PySem.Str), ("check_order" : PySem.Str), ("places_from" : PySem.Str), ("check_two_orders" : PySem.Str), ("unlike_pairs" : PySem.Str), ("counted" : PySem.Str), ("counts_of" : PySem.Str), ("needs_of" : PySem.Str), ("pair_counts" : PySem.Str), ("needed" : PySem.Str), ("_law_hash" : PySem.Str), ("_law_random" : PySem.Str), ("_law_cell" : PySem.Str), ("_law_generator" : PySem.Str), ("_law_order" : PySem.Str), ("_law_exchanged" : PySem.Str), ("_law_left" : PySem.Str), ("_law_unlike" : PySem.Str), ("_law_low_high" : PySem.Str), ("_law_needs" : PySem.Str), ("_law_steps" : PySem.Str), ("_law_seen" : PySem.Str), ("_law_near" : PySem.Str), ("_law_two_right" : PySem.Str), ("_law_right" : PySem.Str), ("_law_great_right" : PySem.Str)]
abbrev names : List PySem.Str := names0
theorem run (w : World) : HandSHeadRun.RunEq R (PySem.W.view R.prog [36]) hk ob 20000 names w := by
  intro os
  kernel_rfl
section
variable {K : PySem.W.Frag} {h : Heap} {mg : Str → Option Value}
theorem at0 (X : K.In h) (G : h.Ns mainGlobals mg) (c : He.SaysD hfa hfn K) : ∃ fd, DfnAt K mg D0 (He.fAd K ("is_whole", none)) fd := by
  obtain ⟨fd, F⟩ := c.def_ 0 (d := hd0) rfl
  exact ⟨fd, DfnAt.of F (He.glo_ok X G (c.fact 0 (f := .glo "is_whole") rfl)) rfl (fun _ _ _ _ _ _ us hl => match us, hl with | [_], _ => rfl) (fun q hq => (by cases hq))⟩
theorem at1 (X : K.In h) (G : h.Ns mainGlobals mg) (c : He.SaysD hfa hfn K) : ∃ fd, DfnAt K mg D1 (He.fAd K ("is_between", none)) fd := by
  obtain ⟨fd, F⟩ := c.def_ 1 (d := hd1) rfl
  exact ⟨fd, DfnAt.of F (He.glo_ok X G (c.fact 1 (f := .glo "is_between") rfl)) rfl (fun _ _ _ _ _ _ us hl => match us, hl with | [_, _, _], _ => rfl) (fun q hq => (by cases hq))⟩
theorem at2 (X : K.In h) (G : h.Ns mainGlobals mg) (c : He.SaysD hfa hfn K) : ∃ fd, DfnAt K mg D2 (He.fAd K ("is_order_list", none)) fd := by
  obtain ⟨fd, F⟩ := c.def_ 2 (d := hd2) rfl
  exact ⟨fd, DfnAt.of F (He.glo_ok X G (c.fact 2 (f := .glo "is_order_list") rfl)) rfl (fun _ _ _ _ _ _ us hl => match us, hl with | [_], _ => rfl) (fun q hq => (by cases hq))⟩
theorem at3 (X : K.In h) (G : h.Ns mainGlobals mg) (c : He.SaysD hfa hfn K) : ∃ fd, DfnAt K mg D3 (He.fAd K ("check_order", none)) fd := by
  obtain ⟨fd, F⟩ := c.def_ 3 (d := hd3) rfl
  exact ⟨fd, DfnAt.of F (He.glo_ok X G (c.fact 3 (f := .glo "check_order") rfl)) rfl (fun _ _ _ _ _ _ us hl => match us, hl with | [_], _ => rfl) (fun q hq => (by cases hq))⟩
theorem at4 (X : K.In h) (G : h.Ns mainGlobals mg) (c : He.SaysD hfa hfn K) : ∃ fd, DfnAt K mg D4 (He.fAd K ("places_from", none)) fd := by
  obtain ⟨fd, F⟩ := c.def_ 4 (d := hd4) rfl
  exact ⟨fd, DfnAt.of F (He.glo_ok X G (c.fact 4 (f := .glo "places_from") rfl)) rfl (fun _ _ _ _ _ _ us hl => match us, hl with | [_], _ => rfl) (fun q hq => (by cases hq))⟩
theorem at5 (X : K.In h) (G : h.Ns mainGlobals mg) (c : He.SaysD hfa hfn K) : ∃ fd, DfnAt K mg D5 (He.fAd K ("check_two_orders", none)) fd := by
  obtain ⟨fd, F⟩ := c.def_ 5 (d := hd5) rfl
  exact ⟨fd, DfnAt.of F (He.glo_ok X G (c.fact 5 (f := .glo "check_two_orders") rfl)) rfl (fun _ _ _ _ _ _ us hl => match us, hl with | [_, _], _ => rfl) (fun q hq => (by cases hq))⟩
theorem at6 (X : K.In h) (G : h.Ns mainGlobals mg) (c : He.SaysD hfa hfn K) : ∃ fd, DfnAt K mg D6 (He.fAd K ("unlike_pairs", none)) fd := by
  obtain ⟨fd, F⟩ := c.def_ 6 (d := hd6) rfl
  exact ⟨fd, DfnAt.of F (He.glo_ok X G (c.fact 6 (f := .glo "unlike_pairs") rfl)) rfl (fun _ _ _ _ _ _ us hl => match us, hl with | [_, _], _ => rfl) (fun q hq => (by cases hq))⟩
theorem at7 (X : K.In h) (G : h.Ns mainGlobals mg) (c : He.SaysD hfa hfn K) : ∃ fd, DfnAt K mg D7 (He.fAd K ("counted", none)) fd := by
  obtain ⟨fd, F⟩ := c.def_ 7 (d := hd7) rfl
  exact ⟨fd, DfnAt.of F (He.glo_ok X G (c.fact 7 (f := .glo "counted") rfl)) rfl (fun _ _ _ _ _ _ us hl => match us, hl with | [_, _, _, _], _ => rfl) (fun q hq => (by cases hq))⟩
theorem at8 (X : K.In h) (G : h.Ns mainGlobals mg) (c : He.SaysD hfa hfn K) : ∃ fd, DfnAt K mg D8 (He.fAd K ("counts_of", none)) fd := by
  obtain ⟨fd, F⟩ := c.def_ 8 (d := hd8) rfl
  exact ⟨fd, DfnAt.of F (He.glo_ok X G (c.fact 8 (f := .glo "counts_of") rfl)) rfl (fun _ _ _ _ _ _ us hl => match us, hl with | [_, _], _ => rfl) (fun q hq => (by cases hq))⟩
theorem at9 (X : K.In h) (G : h.Ns mainGlobals mg) (c : He.SaysD hfa hfn K) : ∃ fd, DfnAt K mg D9 (He.fAd K ("needs_of", none)) fd := by
  obtain ⟨fd, F⟩ := c.def_ 9 (d := hd9) rfl
  exact ⟨fd, DfnAt.of F (He.glo_ok X G (c.fact 9 (f := .glo "needs_of") rfl)) rfl (fun _ _ _ _ _ _ us hl => match us, hl with | [_, _], _ => rfl) (fun q hq => (by cases hq))⟩
theorem at10 (X : K.In h) (G : h.Ns mainGlobals mg) (c : He.SaysD hfa hfn K) : ∃ fd, DfnAt K mg D10 (He.fAd K ("pair_counts", none)) fd := by
  obtain ⟨fd, F⟩ := c.def_ 10 (d := hd10) rfl
  exact ⟨fd, DfnAt.of F (He.glo_ok X G (c.fact 10 (f := .glo "pair_counts") rfl)) rfl (fun _ _ _ _ _ _ us hl => match us, hl with | [_, _], _ => rfl) (fun q hq => by
    simp only [D10, List.mem_cons, List.not_mem_nil, or_false] at hq
    rcases hq with rfl | rfl
    · exact fun _ _ _ _ _ _ ws hl => match ws, hl with | [_, _], _ => rfl
    · exact fun _ _ _ _ _ _ ws hl => match ws, hl with | [_, _], _ => rfl)⟩
theorem at11 (X : K.In h) (G : h.Ns mainGlobals mg) (c : He.SaysD hfa hfn K) : ∃ fd, DfnAt K mg D11 (He.fAd K ("needed", none)) fd := by
  obtain ⟨fd, F⟩ := c.def_ 11 (d := hd11) rfl
  exact ⟨fd, DfnAt.of F (He.glo_ok X G (c.fact 11 (f := .glo "needed") rfl)) rfl (fun _ _ _ _ _ _ us hl => match us, hl with | [_, _], _ => rfl) (fun q hq => by
    simp only [D11, List.mem_cons, List.not_mem_nil, or_false] at hq
    subst hq
    exact fun _ _ _ _ _ _ ws hl => match ws, hl with | [_, _], _ => rfl)⟩
theorem at12 (X : K.In h) (G : h.Ns mainGlobals mg) (c : He.SaysD hfa hfn K) : ∃ fd, DfnAt K mg D12 (He.fAd K ("_law_hash", none)) fd := by
  obtain ⟨fd, F⟩ := c.def_ 12 (d := hd12) rfl
  exact ⟨fd, DfnAt.of F (He.glo_ok X G (c.fact 12 (f := .glo "_law_hash") rfl)) rfl (fun _ _ _ _ _ _ us hl => match us, hl with | [_, _], _ => rfl) (fun q hq => (by cases hq))⟩
theorem at13 (X : K.In h) (G : h.Ns mainGlobals mg) (c : He.SaysD hfa hfn K) : ∃ fd, DfnAt K mg D13 (He.fAd K ("_law_random", none)) fd := by
  obtain ⟨fd, F⟩ := c.def_ 13 (d := hd13) rfl
  exact ⟨fd, DfnAt.of F (He.glo_ok X G (c.fact 13 (f := .glo "_law_random") rfl)) rfl (fun _ _ _ _ _ _ us hl => match us, hl with | [_, _], _ => rfl) (fun q hq => (by cases hq))⟩
theorem at14 (X : K.In h) (G : h.Ns mainGlobals mg) (c : He.SaysD hfa hfn K) : ∃ fd, DfnAt K mg D14 (He.fAd K ("_law_cell", none)) fd := by
  obtain ⟨fd, F⟩ := c.def_ 14 (d := hd14) rfl
  exact ⟨fd, DfnAt.of F (He.glo_ok X G (c.fact 14 (f := .glo "_law_cell") rfl)) rfl (fun _ _ _ _ _ _ us hl => match us, hl with | [_, _], _ => rfl) (fun q hq => (by cases hq))⟩
theorem at15 (X : K.In h) (G : h.Ns mainGlobals mg) (c : He.SaysD hfa hfn K) : ∃ fd, DfnAt K mg D15 (He.fAd K ("_law_generator", none)) fd := by
  obtain ⟨fd, F⟩ := c.def_ 15 (d := hd15) rfl
  exact ⟨fd, DfnAt.of F (He.glo_ok X G (c.fact 15 (f := .glo "_law_generator") rfl)) rfl (fun _ _ _ _ _ _ us hl => match us, hl with | [_, _], _ => rfl) (fun q hq => (by cases hq))⟩
theorem at16 (X : K.In h) (G : h.Ns mainGlobals mg) (c : He.SaysD hfa hfn K) : ∃ fd, DfnAt K mg D16 (He.fAd K ("_law_order", none)) fd := by
  obtain ⟨fd, F⟩ := c.def_ 16 (d := hd16) rfl
  exact ⟨fd, DfnAt.of F (He.glo_ok X G (c.fact 16 (f := .glo "_law_order") rfl)) rfl (fun _ _ _ _ _ _ us hl => match us, hl with | [_, _], _ => rfl) (fun q hq => (by cases hq))⟩
theorem at17 (X : K.In h) (G : h.Ns mainGlobals mg) (c : He.SaysD hfa hfn K) : ∃ fd, DfnAt K mg D17 (He.fAd K ("_law_exchanged", none)) fd := by
  obtain ⟨fd, F⟩ := c.def_ 17 (d := hd17) rfl
  exact ⟨fd, DfnAt.of F (He.glo_ok X G (c.fact 17 (f := .glo "_law_exchanged") rfl)) rfl (fun _ _ _ _ _ _ us hl => match us, hl with | [_, _], _ => rfl) (fun q hq => (by cases hq))⟩
theorem at18 (X : K.In h) (G : h.Ns mainGlobals mg) (c : He.SaysD hfa hfn K) : ∃ fd, DfnAt K mg D18 (He.fAd K ("_law_left", none)) fd := by
  obtain ⟨fd, F⟩ := c.def_ 18 (d := hd18) rfl
  exact ⟨fd, DfnAt.of F (He.glo_ok X G (c.fact 18 (f := .glo "_law_left") rfl)) rfl (fun _ _ _ _ _ _ us hl => match us, hl with | [_, _], _ => rfl) (fun q hq => (by cases hq))⟩
theorem at19 (X : K.In h) (G : h.Ns mainGlobals mg) (c : He.SaysD hfa hfn K) : ∃ fd, DfnAt K mg D19 (He.fAd K ("_law_unlike", none)) fd := by
  obtain ⟨fd, F⟩ := c.def_ 19 (d := hd19) rfl
  exact ⟨fd, DfnAt.of F (He.glo_ok X G (c.fact 19 (f := .glo "_law_unlike") rfl)) rfl (fun _ _ _ _ _ _ us hl => match us, hl with | [_, _], _ => rfl) (fun q hq => (by cases hq))⟩
theorem at20 (X : K.In h) (G : h.Ns mainGlobals mg) (c : He.SaysD hfa hfn K) : ∃ fd, DfnAt K mg D20 (He.fAd K ("_law_low_high", none)) fd := by
  obtain ⟨fd, F⟩ := c.def_ 20 (d := hd20) rfl
  exact ⟨fd, DfnAt.of F (He.glo_ok X G (c.fact 20 (f := .glo "_law_low_high") rfl)) rfl (fun _ _ _ _ _ _ us hl => match us, hl with | [_, _, _, _], _ => rfl) (fun q hq => (by cases hq))⟩
theorem at21 (X : K.In h) (G : h.Ns mainGlobals mg) (c : He.SaysD hfa hfn K) : ∃ fd, DfnAt K mg D21 (He.fAd K ("_law_needs", none)) fd := by
  obtain ⟨fd, F⟩ := c.def_ 21 (d := hd21) rfl
  exact ⟨fd, DfnAt.of F (He.glo_ok X G (c.fact 21 (f := .glo "_law_needs") rfl)) rfl (fun _ _ _ _ _ _ us hl => match us, hl with | [_, _], _ => rfl) (fun q hq => (by cases hq))⟩
theorem at22 (X : K.In h) (G : h.Ns mainGlobals mg) (c : He.SaysD hfa hfn K) : ∃ fd, DfnAt K mg D22 (He.fAd K ("_law_steps", none)) fd := by
  obtain ⟨fd, F⟩ := c.def_ 22 (d := hd22) rfl
  exact ⟨fd, DfnAt.of F (He.glo_ok X G (c.fact 22 (f := .glo "_law_steps") rfl)) rfl (fun _ _ _ _ _ _ us hl => match us, hl with | [_, _], _ => rfl) (fun q hq => (by cases hq))⟩
theorem at23 (X : K.In h) (G : h.Ns mainGlobals mg) (c : He.SaysD hfa hfn K) : ∃ fd, DfnAt K mg D23 (He.fAd K ("_law_seen", none)) fd := by
  obtain ⟨fd, F⟩ := c.def_ 23 (d := hd23) rfl
  exact ⟨fd, DfnAt.of F (He.glo_ok X G (c.fact 23 (f := .glo "_law_seen") rfl)) rfl (fun _ _ _ _ _ _ us hl => match us, hl with | [_, _], _ => rfl) (fun q hq => (by cases hq))⟩
theorem at24 (X : K.In h) (G : h.Ns mainGlobals mg) (c : He.SaysD hfa hfn K) : ∃ fd, DfnAt K mg D24 (He.fAd K ("_law_near", none)) fd := by
  obtain ⟨fd, F⟩ := c.def_ 24 (d := hd24) rfl
  exact ⟨fd, DfnAt.of F (He.glo_ok X G (c.fact 24 (f := .glo "_law_near") rfl)) rfl (fun _ _ _ _ _ _ us hl => match us, hl with | [_, _, _], _ => rfl) (fun q hq => (by cases hq))⟩
theorem at25 (X : K.In h) (G : h.Ns mainGlobals mg) (c : He.SaysD hfa hfn K) : ∃ fd, DfnAt K mg D25 (He.fAd K ("_law_two_right", none)) fd := by
  obtain ⟨fd, F⟩ := c.def_ 25 (d := hd25) rfl
  exact ⟨fd, DfnAt.of F (He.glo_ok X G (c.fact 25 (f := .glo "_law_two_right") rfl)) rfl (fun _ _ _ _ _ _ us hl => match us, hl with | [_, _], _ => rfl) (fun q hq => (by cases hq))⟩
theorem at26 (X : K.In h) (G : h.Ns mainGlobals mg) (c : He.SaysD hfa hfn K) : ∃ fd, DfnAt K mg D26 (He.fAd K ("_law_right", none)) fd := by
  obtain ⟨fd, F⟩ := c.def_ 26 (d := hd26) rfl
  exact ⟨fd, DfnAt.of F (He.glo_ok X G (c.fact 26 (f := .glo "_law_right") rfl)) rfl (fun _ _ _ _ _ _ us hl => match us, hl with | [_], _ => rfl) (fun q hq => (by cases hq))⟩
theorem at27 (X : K.In h) (G : h.Ns mainGlobals mg) (c : He.SaysD hfa hfn K) : ∃ fd, DfnAt K mg D27 (He.fAd K ("_law_great_right", none)) fd := by
  obtain ⟨fd, F⟩ := c.def_ 27 (d := hd27) rfl
  exact ⟨fd, DfnAt.of F (He.glo_ok X G (c.fact 27 (f := .glo "_law_great_right") rfl)) rfl (fun _ _ _ _ _ _ us hl => match us, hl with | [_], _ => rfl) (fun q hq => (by cases hq))⟩
theorem at28 (X : K.In h) (G : h.Ns mainGlobals mg) (c : He.SaysD hfa hfn K) : ∃ fd, DfnAt K mg D28 (He.fAd K ("law", none)) fd := by
  obtain ⟨fd, F⟩ := c.def_ 28 (d := hd28) rfl
  exact ⟨fd, DfnAt.of F (He.glo_ok X G (c.fact 28 (f := .glo "law") rfl)) rfl (fun _ _ _ _ _ _ us hl => match us, hl with | [_], _ => rfl) (fun q hq => (by cases hq))⟩
theorem facts (P : Program) (w : World) {f : Addr} (X : K.In h) (G : h.Ns mainGlobals mg) (hfa : mg ("law" : Str) = some (.ref f)) (c : He.SaysD K90.hfa hfn K) :
    ∃ fd : FuncData, (∀ (s : Shared) (v : Value), BindsTo s fd ⟨[v], []⟩ [("script", v)]) ∧ ∀ base : Heap, K.In base → base.Ns mainGlobals mg → FnG P w K mg base CX0 30 f fd ["script"] (spF K p28) := by
  obtain ⟨fd0, A0⟩ := at0 X G c
  obtain ⟨fd1, A1⟩ := at1 X G c
  obtain ⟨fd2, A2⟩ := at2 X G c
  obtain ⟨fd3, A3⟩ := at3 X G c
  obtain ⟨fd4, A4⟩ := at4 X G c
  obtain ⟨fd5, A5⟩ := at5 X G c
  obtain ⟨fd6, A6⟩ := at6 X G c
  obtain ⟨fd7, A7⟩ := at7 X G c
  obtain ⟨fd8, A8⟩ := at8 X G c
  obtain ⟨fd9, A9⟩ := at9 X G c
  obtain ⟨fd10, A10⟩ := at10 X G c
  obtain ⟨fd11, A11⟩ := at11 X G c
  obtain ⟨fd12, A12⟩ := at12 X G c
  obtain ⟨fd13, A13⟩ := at13 X G c
  obtain ⟨fd14, A14⟩ := at14 X G c
  obtain ⟨fd15, A15⟩ := at15 X G c
  obtain ⟨fd16, A16⟩ := at16 X G c
  obtain ⟨fd17, A17⟩ := at17 X G c
  obtain ⟨fd18, A18⟩ := at18 X G c
  obtain ⟨fd19, A19⟩ := at19 X G c
  obtain ⟨fd20, A20⟩ := at20 X G c
  obtain ⟨fd21, A21⟩ := at21 X G c
  obtain ⟨fd22, A22⟩ := at22 X G c
  obtain ⟨fd23, A23⟩ := at23 X G c
  obtain ⟨fd24, A24⟩ := at24 X G c
  obtain ⟨fd25, A25⟩ := at25 X G c
  obtain ⟨fd26, A26⟩ := at26 X G c
  obtain ⟨fd27, A27⟩ := at27 X G c
  obtain ⟨fd28, A28⟩ := at28 X G c
  have all : AllAt K mg ds [(He.fAd K ("is_whole", none), fd0), (He.fAd K ("is_between", none), fd1), (He.fAd K ("is_order_list", none), fd2), (He.fAd K ("check_order", none), fd3), (He.fAd K ("places_from", none), fd4), (He.fAd K ("check_two_orders", none), fd5), (He.fAd K ("unlike_pairs", none), fd6), (He.fAd K ("counted", none), fd7), (He.fAd K ("counts_of", none), fd8), (He.fAd K ("needs_of", none), fd9), (He.fAd K ("pair_counts", none), fd10), (He.fAd K ("needed", none), fd11), (He.fAd K ("_law_hash", none), fd12), (He.fAd K ("_law_random", none), fd13), (He.fAd K ("_law_cell", none), fd14), (He.fAd K ("_law_generator", none), fd15), (He.fAd K ("_law_order", none), fd16), (He.fAd K ("_law_exchanged", none), fd17), (He.fAd K ("_law_left", none), fd18), (He.fAd K ("_law_unlike", none), fd19), (He.fAd K ("_law_low_high", none), fd20), (He.fAd K ("_law_needs", none), fd21), (He.fAd K ("_law_steps", none), fd22), (He.fAd K ("_law_seen", none), fd23), (He.fAd K ("_law_near", none), fd24), (He.fAd K ("_law_two_right", none), fd25), (He.fAd K ("_law_right", none), fd26), (He.fAd K ("_law_great_right", none), fd27), (He.fAd K ("law", none), fd28)] := AllAt.cons A0 (AllAt.cons A1 (AllAt.cons A2 (AllAt.cons A3 (AllAt.cons A4 (AllAt.cons A5 (AllAt.cons A6 (AllAt.cons A7 (AllAt.cons A8 (AllAt.cons A9 (AllAt.cons A10 (AllAt.cons A11 (AllAt.cons A12 (AllAt.cons A13 (AllAt.cons A14 (AllAt.cons A15 (AllAt.cons A16 (AllAt.cons A17 (AllAt.cons A18 (AllAt.cons A19 (AllAt.cons A20 (AllAt.cons A21 (AllAt.cons A22 (AllAt.cons A23 (AllAt.cons A24 (AllAt.cons A25 (AllAt.cons A26 (AllAt.cons A27 (AllAt.cons A28 (AllAt.nil)))))))))))))))))))))))))))))
  have hc : ∀ p ∈ cst, ∃ u, mg p.1 = some u ∧ RelV p.2 u := by
    intro p hp
    simp only [cst, List.mem_cons, List.not_mem_nil, or_false] at hp
    subst hp
    obtain ⟨t, e⟩ := He.int_ok X G (c.fact 43 (f := .int "MOST_LENGTH" 200) rfl)
    exact ⟨_, e, t, rfl⟩
  have hf : ∀ x ∈ fre, mg x = none := by
    intro x hx
    simp only [fre, List.mem_cons, List.not_mem_nil, or_false] at hx
    rcases hx with rfl | rfl | rfl | rfl | rfl | rfl | rfl | rfl | rfl | rfl | rfl | rfl | rfl | rfl
    · exact He.free_ok X G (c.fact 29 (f := .free "isinstance") rfl)
    · exact He.free_ok X G (c.fact 30 (f := .free "bool") rfl)
    · exact He.free_ok X G (c.fact 31 (f := .free "int") rfl)
    · exact He.free_ok X G (c.fact 32 (f := .free "sorted") rfl)
    · exact He.free_ok X G (c.fact 33 (f := .free "list") rfl)
    · exact He.free_ok X G (c.fact 34 (f := .free "range") rfl)
    · exact He.free_ok X G (c.fact 35 (f := .free "len") rfl)
    · exact He.free_ok X G (c.fact 36 (f := .free "enumerate") rfl)
    · exact He.free_ok X G (c.fact 37 (f := .free "sum") rfl)
    · exact He.free_ok X G (c.fact 38 (f := .free "max") rfl)
    · exact He.free_ok X G (c.fact 39 (f := .free "min") rfl)
    · exact He.free_ok X G (c.fact 40 (f := .free "dict") rfl)
    · exact He.free_ok X G (c.fact 41 (f := .free "tuple") rfl)
    · exact He.free_ok X G (c.fact 42 (f := .free "repr") rfl)
  have e := hfa.symm.trans A28.at_
  cases e
  have b := FunD.bindsA (ps := ["script"]) A28.F fun _ _ _ _ _ _ us hl => match us, hl with | [_], _ => rfl
  refine ⟨fd28, fun s v => b s [v] rfl, fun base _ _ => ?_⟩
  exact AllOk.get (k29 all hc hf) 28 D28 _ _ (by rfl) (by rfl) (by rfl)
end
end K90
open PySem PySem.W PySem.Calls PyProof.Rows
theorem PySem.Challenge.cw_voicerows_k90_whole_counts_that_pairs_ne_holds_of (plain : ∀ ns : List Int, ns.length ≤ 63 → K90.p28.f [.scr (ns.map Ev.W.int)] = some (.bl true, .non)) : PySem.Challenge.rw_voicerows_k90_whole_counts_that_pairs_ne.Holds := by
  w_on; o_law
  refine HandSHeadRun.head_any (r := OpenLaw.row PySem.Challenge.rw_voicerows_k90_whole_counts_that_pairs_ne) (q := view (OpenLaw.row PySem.Challenge.rw_voicerows_k90_whole_counts_that_pairs_ne).prog [36]) (H := K90.hk) (ob := K90.ob) (M := 20000) (loose := K90.names) (d := HandSHeadRun.topDef (OpenLaw.row PySem.Challenge.rw_voicerows_k90_whole_counts_that_pairs_ne).prog 36) (kwd := []) K90.ob_eq
    (by kernel_rfl) (fun s => by kernel_rfl) K90.run (by kernel_rfl) (by kernel_rfl) (by kernel_rfl) (by rfl) (by first | assumption | decide +kernel) (by decide +kernel) ⟨rfl, rfl, rfl, rfl, rfl, by decide +kernel⟩ ?hw ?hc
  case hw => w_witness2
  case hc =>
    refine Ev.walk_G (l := PySem.Challenge.rw_voicerows_k90_whole_counts_that_pairs_ne) (n := 63) (k := 30) (x := "script") (CX := L2.CX0) rfl (by decide) (by kernel_rfl) ⟨rfl, by decide, by decide⟩ ?F (fun _ _ _ _ z => z)
    intro w mg fa h Y G hmg0
    obtain ⟨K, KX, c⟩ := Y
    have hmg : mg ("law" : PySem.Str) = some (.ref fa) := by
      have e : (HandSHeadRun.topDef (OpenLaw.row PySem.Challenge.rw_voicerows_k90_whole_counts_that_pairs_ne).prog 36).name = ("law" : PySem.Str) := by kernel_rfl
      rw [← e]
      exact hmg0
    obtain ⟨fd, hb, hF⟩ := K90.facts (PySem.Challenge.rw_voicerows_k90_whole_counts_that_pairs_ne).prog w KX G hmg c
    exact ⟨K, fd, Ev.spF K K90.p28, KX, hb, fun H a ns hl hO hS => Ev.law_sp hO hS rfl rfl (plain ns hl), hF⟩

theorem PySem.Challenge.cw_voicerows_k90_whole_counts_that_pairs_ne_holds : PySem.Challenge.rw_voicerows_k90_whole_counts_that_pairs_ne.Holds := by
  exact PySem.Challenge.cw_voicerows_k90_whole_counts_that_pairs_ne_holds_of fun ns _ => K90.plain ns

