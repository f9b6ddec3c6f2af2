import PyProof.Rows.All
import Wide.All
import OpenK.AllK
import Wide.FinOn
import HandS.ForMost
import HandS.IsInst
import HandS.StrMore
import PyProof.ReprBulk
import PySem.Challenge.RW_strandclasses_k01_words_and_places_told
set_option Elab.async false
set_option linter.all false
set_option maxRecDepth 100000
set_option maxHeartbeats 4000000
/-! own layer, part 0: defs that run while nothing is being shown (guards known), data of any depth, repr over it -/
namespace Y
open PySem PySem.Spec PyProof.Rows L2

/-! ### a def's promise where the guards are known to be none -/
structure FnG (P : Program) (w : World) (K : PySem.W.Frag)
    (mg : Str → Option Value) (base : Heap) (CX : CXT) (k : Nat)
    (f : Addr) (fd : FuncData) (ps : List Str) (sp : Sp) : Prop where
  len : ∀ vs H Q E, sp vs H Q E → vs.length = ps.length
  go : ∀ (A : Around) (outer : List Env) (s : Shared) (H : Hp) (args : Args) (us : List Value) (vs : List V) (Q : VK) (E : XK),
    A.guards = some [] → Room k A → Env0 P w K mg base A outer s H → BindsTo s fd args (ps.zip us) → Vals vs us → sp vs H Q E →
    codeAny (model P w) A (.call (.ref f) args) (CR CX outer P w H s Q E) s
section
variable {P : Program} {w : World} {K : PySem.W.Frag} {mg : Str → Option Value} {base : Heap} {CX : CXT}
theorem FnG.of {k : Nat} {f : Addr} {fd : FuncData} {ps : List Str} {sp : Sp}
    (F : FnOk P w K mg base CX k f fd ps sp) : FnG P w K mg base CX k f fd ps sp :=
  ⟨F.len, fun A outer s H args us vs Q E _ hr he hb hv hs => F.run A outer s H args us vs Q E hr he hb hv hs⟩
theorem FnG.mono {j k : Nat} {f : Addr} {fd : FuncData} {ps : List Str} {sp : Sp}
    (F : FnG P w K mg base CX j f fd ps sp) (h : j ≤ k) : FnG P w K mg base CX k f fd ps sp :=
  ⟨F.len, fun A outer s H args us vs Q E hg hr => F.go A outer s H args us vs Q E hg (hr.mono h)⟩
theorem fnG_of {k : Nat} {f : Addr} {name qual : Str} {params : Arguments} {body : List Stmt} {scope : Scope}
    {dV kV doc pm cdv ct oc : Value} {an od : Option Addr} {osl : Array (Option Value)} {N ps : List Str} {sp : Sp}
    (lk : K.lookup f = some ⟨oc, od, .func (PySem.W.fnOf name qual params body scope dV kV doc pm an cdv ct), osl⟩)
    (hcd : PySem.W.codeIn K cdv qual = true) (S : FnScope N ps scope)
    (len : ∀ vs H Q E, sp vs H Q E → vs.length = ps.length)
    (hbody : ∀ (A : Around) (outer : List Env) (s : Shared) (H : Hp) (vs : List V) (Q : VK) (E : XK), A.guards = some [] →
      Room k (A.deeper (envOfC qual scope s.heap.objs.size f cdv)) → sp vs H Q E →
      ∃ t, PSs (cxOf CX P w K mg base N qual scope f cdv A outer s H E) body t ∧
        t { nx := fun _ H' => Q .non H', rt := Q } (start N vs) H) :
    FnG P w K mg base CX (k + 1) f (PySem.W.fnOf name qual params body scope dV kV doc pm an cdv ct) ps sp := by
  refine ⟨len, fun A outer s H args us vs Q E hgd hr env0 hbind rel hsp => ?_⟩
  have hlen := len _ _ _ _ hsp
  have KH : K.In s.heap := env0.mod.kin.keeps fun b o e => (env0.bs b o e).1
  have limit : s.heap.NoLimit := env0.mod.nolimit.keeps fun b o e => (env0.bs b o e).1
  have kinds : ∀ y ∈ ps.zip us, scope.names.lookup y.1 = some .local ∨
      (scope.names.lookup y.1 = some .cell ∧ ((cellsFrom (s.heap.objs.size + 1) scope.names []).lookup y.1).isSome = true) := by
    rintro ⟨n, v⟩ hy
    cases S.par n (List.of_mem_zip hy).1 with
    | inl q => exact Or.inl q
    | inr q => exact Or.inr ⟨q, PySem.W.cellsFrom_some _ _ _ (.inl q)⟩
  refine codeAny_call_function hr.depth (KH _ _ lk) rfl S.co S.gen rfl
    (PySem.W.codeRec_of KH hcd) (hbind _ _ _ _ ?_)
  refine wpAny_newFunctionEnv_cells S.kind kinds fun env henv s1 x => ?_
  subst henv
  refine ⟨limit.keeps x.toInCall.keep, codeAny_func ?_⟩
  obtain ⟨t, ht, hq⟩ := hbody A outer s H vs Q E hgd (hr.deeper _) hsp
  have II : Inv (cxOf CX P w K mg base N qual scope f cdv A outer s H E) [] (start N vs) H s1 :=
    inv_start S hr.hd env0 hlen rel x
  refine wpAny_mono (ht.run [] s1 (start N vs) H _ II hq) (fun fl s' hs => ?_) fun e s' hs => hs
  cases fl with
  | ret u =>
    obtain ⟨v, σ', H', J, rv, q⟩ := hs
    exact ⟨v, H', J.os, J.bare, J.base, J.hok, rv, q⟩
  | next =>
    obtain ⟨σ', H', J, q⟩ := hs
    exact ⟨V.non, H', J.os, J.bare, J.base, J.hok, rfl, q⟩
  | brk => exact hs.elim fun _ z => z.elim fun _ y => False.elim y.2
  | cont => exact hs.elim fun _ z => z.elim fun _ y => False.elim y.2
theorem okG {x qual : Str} {st : Stmt} {f : Addr} {fd : FuncData} {N ps : List Str} {k : Nat} {sp : Sp}
    (F : Fun K x qual st f fd) (S : FnScope N ps (defScope st)) (len : ∀ vs H Q E, sp vs H Q E → vs.length = ps.length)
    (hbody : ∀ (cdv : Value) (A : Around) (outer : List Env) (s : Shared) (H : Hp) (vs : List V) (Q : VK) (E : XK),
      A.guards = some [] → Room k (A.deeper (envOfC qual (defScope st) s.heap.objs.size f cdv)) → sp vs H Q E →
      ∃ t, PSs (cxOf CX0 P w K mg base N qual (defScope st) f cdv A outer s H E).nox (defBody st) t ∧
        t { nx := fun _ H' => Q .non H', rt := Q } (start N vs) H) : FnG P w K mg base CX0 (k + 1) f fd ps sp := by
  obtain ⟨oc, od, kV, doc, pm, an, cdv, ct, osl, rfl, lk, hcd⟩ := F.ex
  exact fnG_of lk hcd S len fun A outer s H vs Q E hgd hr hsp =>
    let ⟨t, h, q⟩ := hbody cdv A outer s H vs Q E hgd hr hsp
    ⟨t, h.nox, q⟩
end
section
variable {X : Cx} {CX : CXT} {k : Nat} {f : Addr} {fd : FuncData} {ps : List Str} {sp : Sp} {dvs : List V} {ds : List Value}
  {E : XK} {x : Str} {p pos : Pos} {e : Expr} {es : List Expr} {t : TA}
theorem run_fnG {pins : List (Addr × Obj)} {σ : L2.St} {H : Hp} {s : Shared} {Q : VK} {us : List Value} {vs : List V}
    (F : FnG X.prog X.w X.K X.mg X.base CX k f fd ps sp) (hG : X.A.guards = some []) (hr : Room k X.A)
    (hb : Binds X.K fd ps ds) (hd : Vals dvs ds) (hx : Passes CX X E)
    (I : Inv X pins σ H s) (r : Vals vs us) (h : sp (vs ++ dvs) H Q E) :
    wpAny (model X.prog X.w) X.A (call (.ref f) us) (EP X pins σ Q) X.xe s := by
  have r2 : Vals (vs ++ dvs) (us ++ ds) := Vals.append r hd
  have hl : (us ++ ds).length = ps.length := (r2.length).symm.trans (F.len _ _ _ _ h)
  have step := F.go X.A X.stack s H ⟨us, []⟩ (us ++ ds) (vs ++ dvs) Q E hG hr I.env0 (hb s us I.kIn hl) r2 h
  refine wpAny_call (codeAny_mono step fun r s' hq => ?_)
  match r, hq with
  | .error e, hq => exact hx pins σ H s e s' I hq
  | .ok (.ret u), hq => exact I.after hq
theorem pe_callG (F : FnG X.prog X.w X.K X.mg X.base CX k f fd ps sp) (hG : X.A.guards = some []) (hr : Room k X.A)
    (hg : Gl X x) (hm : X.mg x = some (.ref f)) (hk : PySem.W.keepIn X.K (.ref f) = true)
    (hb : Binds X.K fd ps ds) (hd : Vals dvs ds) (hx : Passes CX X E) (ha : PA X (e :: es) t)
    (hdb : (x == ("__debug__" : Str)) = false := by decide)
    (he : starEach (e :: es) X.env = (false, eval e X.env) :: starEach es X.env := by rfl)
    (hpl : (backTo pos (starEach es X.env)).any (·.1) = false := by rfl) :
    PE X (.Call (.Name x p) (e :: es) [] pos) (tCall sp dvs E t) := by
  constructor
  intro pins s σ H Q I h
  refine wpAny_Call_Name_kw (ld_glob I hg hm (PySem.W.callWith_K (h₀ := X.base) I.ok.mod.kin hk ?_ he hpl) hdb)
  exact thn (ha.run pos pins s σ H _ I h) fun us s1 ⟨vs, H1, I1, r, q⟩ =>
    ⟨I1.kIn, run_fnG F hG hr hb hd hx I1 r q⟩
end

/-! ### the law's end by such a promise -/
section
theorem lawG {P : Program} {w : World} {K : PySem.W.Frag} {mg mb : Str → Option Value} {CX : CXT} {k : Nat}
    {fa a : Addr} {fd : FuncData} {x : Str} {sp : Sp} {s₁ : Shared} {vs : List Value} {ns : List Int}
    (KX : K.In s₁.heap) (hns : s₁.heap.Ns mainGlobals mg) (hb : s₁.heap.Ns builtinsNs mb)
    (hbb : ∀ x : Str, x ≠ "__name__" → mb x = bootBuiltins x) (hlim : s₁.heap.NoLimit) (hg : s₁.gens = #[])
    (ha : s₁.heap.get? a = some { cls := .type "list", data := .seq vs.toArray })
    (hi : IntsAre vs ns) (hl : ns.length ≤ sizeLine) (hr : Room k callerA)
    (hsy : s₁.heap.NoSeer) (F : ∀ base : Heap, K.In base → base.Ns mainGlobals mg → (∃ o, base.get? sysModules = some o) → FnG P w K mg base CX k fa fd [x] sp)
    (hbind : ∀ (s : Shared) (u : Value), BindsTo s fd ⟨[u], []⟩ [(x, u)])
    (hsp : ∀ H : Hp, Only H → SqL K H a (ns.map V.int) → sp [.ref a] H (fun v _ => v = .bl true) fun _ _ _ => False)
    (hCX : ∀ H e s', CX [] H s₁ (fun _ _ _ => False) e s' → False) :
    codeAny (model P w) callerA (.call (.ref fa) ⟨[.ref a], []⟩)
      (fun r s' => r = .ok (.ret (.bool true)) ∧ OldK s₁.heap s'.heap ∧ s'.os = s₁.os ∧ AllBare s'.gens) s₁ := by
  have rv := vals_ints hi
  have lenV := hi.length
  have core : ∀ H : Hp, Only H → SqL K H a (ns.map V.int) → HOk P w H s₁.heap → (∀ b, H b ≠ none → b = a) →
      (H a ≠ none → K.lookup a = none) → codeAny (model P w) callerA (.call (.ref fa) ⟨[.ref a], []⟩)
      (fun r s' => r = .ok (.ret (.bool true)) ∧ OldK s₁.heap s'.heap ∧ s'.os = s₁.os ∧ AllBare s'.gens) s₁ := by
    intro H hO hS hok hA hK
    have back : ∀ {b : Addr} {o : Obj}, s₁.heap.get? b = some o → H b = none →
        (hidT s₁.heap H).get? b = some o := fun e n => hidT_get e n
    have isA : ∀ b u, H b = some u → b = a := fun b u q => hA b (by rw [q]; exact Option.some_ne_none u)
    have notDict : ∀ {b : Addr} {o : Obj} {es : Array DictEntry} {ep : Nat},
        s₁.heap.get? b = some o → o.data = .dict es ep → H b = none := by
      intro b o es ep e d
      cases q : H b with
      | none => rfl
      | some u =>
        cases isA b u q
        rw [ha] at e
        cases e
        exact absurd (show Data.seq vs.toArray _ = Data.dict es ep from d) (fun z => nomatch z)
    have nsB : ∀ {b : Addr} {m : Str → Option Value}, s₁.heap.Ns b m → (hidT s₁.heap H).Ns b m :=
      fun {b m} ⟨o, es, ep, e, d, r⟩ => ⟨o, es, ep, back e (notDict e d), d, r⟩
    have KB : K.In (hidT s₁.heap H) := by
      intro b o e
      refine back (KX b o e) ?_
      cases q : H b with
      | none => rfl
      | some u =>
        cases isA b u q
        rw [hK (by rw [q]; exact Option.some_ne_none u)] at e
        cases e
    have hM : Mod K mg (hidT s₁.heap H) :=
      ⟨KB, nsB hns, ⟨mb, nsB hb, hbb⟩, let ⟨mc, h1, h2⟩ := hlim; ⟨mc, nsB h1, h2⟩⟩
    have e0 : Env0 P w K mg (hidT s₁.heap H) callerA [] s₁ H :=
      ⟨rfl, hM, fun b o e => of_hidT e, Nat.le_of_eq (hidT_size _ _), trivial,
        fun b hb => absurd (show b ∈ ([] : List Addr) from hb) (by simp), hok, .of_eq hg⟩
    have hsb : ∃ o, (hidT s₁.heap H).get? sysModules = some o := by
      obtain ⟨mm, ⟨o, es, ep, e, d, _⟩, _⟩ := hsy.mods
      exact ⟨o, back e (notDict e d)⟩
    have run := (F _ KB (nsB hns) hsb).go callerA [] s₁ H ⟨[.ref a], []⟩ [.ref a] [.ref a] _ _ rfl hr e0
      (hbind s₁ (.ref a)) (.cons rfl .nil) (hsp H hO hS)
    refine codeAny_mono run fun r s' h => ?_
    match r, h with
    | .error e, h => exact (hCX H e s' h).elim
    | .ok (.ret u), h =>
      obtain ⟨v, H', os, bare, un, hok', r', q⟩ := h
      cases (show v = .bl true from q)
      cases (show u = Value.bool true from r')
      refine ⟨rfl, OldK.of_keep fun b o e => ?_, os, bare⟩
      cases q : H b with
      | none =>
        exact un.keep b o e q (fun z => absurd (show b ∈ ([] : List Addr) from z) (by simp)) (by simp)
      | some u =>
        rcases hO b with z | ⟨ob, xs, z⟩
        · rw [q] at z; cases z
        · have z2 := un.frzs b ob _ z
          obtain ⟨e1, _⟩ := hok b _ z
          obtain ⟨e2, _⟩ := hok' b _ z2
          rw [e] at e1
          cases e1
          exact e2
  cases hk : K.lookup a with
  | some o =>
    have e := KX a o hk
    rw [ha] at e
    cases e
    exact core (fun _ => none) (fun _ => .inl rfl)
      (.inr ⟨_, vs.toArray, _, hk, rfl, rfl, rfl, by rw [List.size_toArray, lenV]; exact hl, by simpa using rv⟩)
      (fun b u z => nomatch (show (none : Option HO) = some u from z)) (fun b z => absurd rfl z) fun z => absurd rfl z
  | none =>
    refine core (fun b => if b = a then some (.frz { cls := .type "list", data := .seq vs.toArray } (.lst (ns.map V.int))) else none)
      (fun b => ?_) (.inl (.inr ⟨{ cls := .type "list", data := .seq vs.toArray }, if_pos rfl⟩)) (fun b u z => ?_) (fun b z => ?_) fun _ => hk
    · by_cases hb : b = a
      · exact .inr ⟨_, _, if_pos hb⟩
      · exact .inl (if_neg hb)
    · by_cases hb : b = a
      · have z' := (if_pos hb).symm.trans z
        cases z'
        subst hb
        exact ⟨ha, by rw [List.length_map]; exact hl, vs, _, rv, ha⟩
      · have z' := (if_neg hb).symm.trans z
        cases z'
    · by_cases hb : b = a
      · exact hb
      · exact absurd (if_neg hb) z
theorem walkG {l : PySem.W.OpenLaw} {n k : Nat} {q : Program} {loose : List Str} {XP : (Str → Option Value) → Heap → Prop}
    {YP : World → Heap → Prop} {d : DefRec} {K : Params → PySem.W.Frag} {CX : CXT} {sp : PySem.W.Frag → Sp} {x : Str}
    (hn : l.most = some n) (hn2 : n ≤ sizeLine) (hdf : d.params.defaults = []) (hr : Room k callerA) (hq : importsNone q = true)
    (hY : ∀ (w : World) (h : Heap), YP w h → (K w.params).In h)
    (F : ∀ (w : World) (mg : Str → Option Value) (fa : Addr) (h : Heap), (K w.params).In h → h.Ns mainGlobals mg → mg d.name = some (.ref fa) →
      ∃ fd : FuncData, (∀ (s : Shared) (u : Value), BindsTo s fd ⟨[u], []⟩ [(x, u)]) ∧
        ∀ base : Heap, (K w.params).In base → base.Ns mainGlobals mg → (∃ o, base.get? sysModules = some o) → FnG l.prog w (K w.params) mg base CX k fa fd [x] (sp (K w.params)))
    (hsp : ∀ (K : PySem.W.Frag) (H : Hp) (a : Addr) (ns : List Int), ns.length ≤ n → Only H → SqL K H a (ns.map V.int) →
      sp K [.ref a] H (fun v _ => v = .bl true) fun _ _ _ => False)
    (hCX : ∀ (H : Hp) (s : Shared) (e : Value) (s' : Shared), CX [] H s (fun _ _ _ => False) e s' → False) :
    PySem.W.WalkO q loose XP YP l.row.toRowW d [] (fun f vs => PySem.call f vs) := by
  refine Att.attach_call hn hdf fun w s₀ s₁ mg mb fa o pm cd doc a vs ns G Y ho hd hcd hmg hobj hints hlen hg => ?_
  have KX := hY w _ Y
  obtain ⟨fd, hbd, hF⟩ := F w mg fa _ KX G.T.g hmg
  exact lawG KX G.T.g G.T.b G.T.builtins G.T.nolimit hg hobj hints (Nat.le_trans hlen hn2) hr (G.T.seer hq) hF hbd
    (fun H hO hS => hsp (K w.params) H a ns hlen hO hS) fun H e s' => hCX H s₁ e s'
end

/-! ### data of any depth in the abstract heap; N: the addresses that may still change -/
structure Ext (N : Addr → Prop) (H H' : Hp) : Prop where
  keep : ∀ c o, ¬ N c → H c = some o → H' c = some o
  live : ∀ c o, H c = some o → ∃ o', H' c = some o'
theorem Ext.refl {N : Addr → Prop} {H : Hp} : Ext N H H := ⟨fun _ _ _ e => e, fun _ o e => ⟨o, e⟩⟩
theorem Ext.trans {N : Addr → Prop} {H H1 H2 : Hp} (a : Ext N H H1) (b : Ext N H1 H2) : Ext N H H2 :=
  ⟨fun c o n e => b.keep c o n (a.keep c o n e), fun c o e => let ⟨u, h⟩ := a.live c o e; b.live c u h⟩
theorem Ext.new {N : Addr → Prop} {H : Hp} {p : Addr} {o : HO} (h : H p = none) : Ext N H (upd H p o) :=
  ⟨fun c u _ e => by rw [upd_ne (ne_of_none e h)]; exact e, fun c u e => ⟨u, by rw [upd_ne (ne_of_none e h)]; exact e⟩⟩
theorem Ext.put {N : Addr → Prop} {H : Hp} {p : Addr} {o : HO} (h : N p) : Ext N H (upd H p o) :=
  ⟨fun c u n e => by
    rw [upd_ne (fun z => n (by rw [z]; exact h))]
    exact e, fun c u e => by
    by_cases hc : c = p
    · exact ⟨o, by rw [hc, upd_same]⟩
    · exact ⟨u, by rw [upd_ne hc]; exact e⟩⟩
theorem Ext.more {N N' : Addr → Prop} {H H' : Hp} (a : Ext N H H') (h : ∀ c, N c → N' c) : Ext N' H H' :=
  ⟨fun c o n e => a.keep c o (fun z => n (h c z)) e, a.live⟩
theorem Ext.same {N : Addr → Prop} {H H' : Hp} (a : Same H H') : Ext N H H' := ⟨fun c o _ e => a c o e, fun c o e => ⟨o, a c o e⟩⟩
theorem Ext.none {N : Addr → Prop} {H H' : Hp} {p : Addr} (a : Ext N H H') (h : H' p = Option.none) : H p = Option.none := by
  cases e : H p with
  | none => rfl
  | some o => obtain ⟨u, q⟩ := a.live p o e; rw [h] at q; cases q
/-- nothing changes -/
abbrev No : Addr → Prop := fun _ => False
theorem Ext.any {N : Addr → Prop} {H H' : Hp} (a : Ext No H H') : Ext N H H' := a.more fun _ z => z.elim
/-- what may change stands -/
def Live (N : Addr → Prop) (H : Hp) : Prop := ∀ c, N c → ∃ o, H c = some o
theorem Live.ext {N N' : Addr → Prop} {H H' : Hp} (l : Live N H) (e : Ext N' H H') : Live N H' := fun c h => let ⟨o, q⟩ := l c h; e.live c o q
theorem Live.not {N : Addr → Prop} {H : Hp} {p : Addr} (l : Live N H) (h : H p = Option.none) : ¬ N p := fun n => by
  obtain ⟨o, q⟩ := l p n
  rw [h] at q
  cases q
mutual
inductive Dq (N : Addr → Prop) (H : Hp) : V → PyData → Prop
  | non : Dq N H .non .none
  | bl (b : Bool) : Dq N H (.bl b) (.bool b)
  | int (i : Int) : Dq N H (.int i) (.int i)
  | str (x : Str) : Dq N H (.str x) (.str x)
  | lst {a : Addr} {xs : List V} {ds : List PyData} : H a = some (.lst xs) → ¬ N a → DqAll N H xs ds → Dq N H (.ref a) (.list ds)
  | tup {a : Addr} {xs : List V} {ds : List PyData} : H a = some (.tup xs) → ¬ N a → DqAll N H xs ds → Dq N H (.ref a) (.tuple ds)
  | dct {a : Addr} {kvs : List (Key × V)} {ps : List (PyData × PyData)} : H a = some (.dK kvs) → ¬ N a →
      DqAll N H (kvs.map fun p => kV p.1) (ps.map fun p => p.1) → DqAll N H (kvs.map fun p => p.2) (ps.map fun p => p.2) → Dq N H (.ref a) (.dict ps)
inductive DqAll (N : Addr → Prop) (H : Hp) : List V → List PyData → Prop
  | nil : DqAll N H [] []
  | cons {v : V} {vs : List V} {d : PyData} {ds : List PyData} : Dq N H v d → DqAll N H vs ds → DqAll N H (v :: vs) (d :: ds)
end
mutual
theorem Dq.mono {N N' : Addr → Prop} {H H' : Hp} (e : Ext N H H') (hn : ∀ a, N' a → N a) : ∀ {v : V} {d : PyData}, Dq N H v d → Dq N' H' v d
  | _, _, .non => .non
  | _, _, .bl b => .bl b
  | _, _, .int i => .int i
  | _, _, .str x => .str x
  | _, _, .lst h n a => .lst (e.keep _ _ n h) (fun z => n (hn _ z)) (DqAll.mono e hn a)
  | _, _, .tup h n a => .tup (e.keep _ _ n h) (fun z => n (hn _ z)) (DqAll.mono e hn a)
  | _, _, .dct h n a b => .dct (e.keep _ _ n h) (fun z => n (hn _ z)) (DqAll.mono e hn a) (DqAll.mono e hn b)
theorem DqAll.mono {N N' : Addr → Prop} {H H' : Hp} (e : Ext N H H') (hn : ∀ a, N' a → N a) : ∀ {vs : List V} {ds : List PyData}, DqAll N H vs ds → DqAll N' H' vs ds
  | _, _, .nil => .nil
  | _, _, .cons h t => .cons (Dq.mono e hn h) (DqAll.mono e hn t)
end
theorem Dq.ext {N : Addr → Prop} {H H' : Hp} {v : V} {d : PyData} (h : Dq N H v d) (e : Ext N H H') : Dq N H' v d := h.mono e fun _ z => z
theorem DqAll.ext {N : Addr → Prop} {H H' : Hp} {vs : List V} {ds : List PyData} (h : DqAll N H vs ds) (e : Ext N H H') : DqAll N H' vs ds := h.mono e fun _ z => z
theorem DqAll.append {N : Addr → Prop} {H : Hp} : ∀ {vs ws : List V} {ds es : List PyData}, DqAll N H vs ds → DqAll N H ws es → DqAll N H (vs ++ ws) (ds ++ es)
  | _, _, _, _, .nil, h => h
  | _, _, _, _, .cons a b, h => .cons a (DqAll.append b h)
theorem DqAll.get {N : Addr → Prop} {H : Hp} : ∀ {vs : List V} {ds : List PyData} {i : Nat} {v : V}, DqAll N H vs ds → vs[i]? = some v → ∃ d, ds[i]? = some d ∧ Dq N H v d
  | _, _, 0, _, .cons a _, h => by simp at h; subst h; exact ⟨_, rfl, a⟩
  | _, _, i + 1, _, .cons _ b, h => by
    obtain ⟨d, e, q⟩ := DqAll.get (i := i) b (by simpa using h)
    exact ⟨d, by simpa using e, q⟩
theorem DqAll.length {N : Addr → Prop} {H : Hp} : ∀ {vs : List V} {ds : List PyData}, DqAll N H vs ds → vs.length = ds.length
  | _, _, .nil => rfl
  | _, _, .cons _ b => by simp [b.length]

/-- the lists and dicts that were met on the way are tracked -/
def Trk (H : Hp) (as : List Addr) : Prop := ∀ b ∈ as, ∃ o, H b = some o
theorem Trk.app {H : Hp} {as bs : List Addr} (a : Trk H as) (b : Trk H bs) : Trk H (as ++ bs) :=
  fun c hc => (List.mem_append.mp hc).elim (a c) (b c)
theorem keyRead {h : Heap} {k : Key} {v : Value} {d : PyData} {N : Addr → Prop} {H : Hp} (hk : keyIs k v = true) (q : Dq N H (kV k) d) : Reads h v d [] := by
  rcases keyIs_shape hk with ⟨i, t, rfl, rfl⟩ | ⟨x, t, rfl, rfl⟩
  · cases q; exact .int i t
  · cases q; exact .str x t
theorem keysRead {h : Heap} {N : Addr → Prop} {H : Hp} {prog : Program} {w : World} : ∀ {es : List DictEntry} {vs : List (Key × Value)} {kvs : List (Key × V)} {ks : List PyData},
    PySem.Pairs (mixKind prog w) es vs → KV kvs vs → DqAll N H (kvs.map fun p => kV p.1) ks → ReadsAll h (es.map (·.key)) ks []
  | _, _, _, _, .nil, .nil, .nil => .nil
  | _, _, _, _, .cons (e := e) (kv := kv) h1 h2 t, .cons r r', .cons q q' => by
    have q0 := q
    simp only [r.1] at q0
    exact ReadsAll.cons (as := []) (bs := []) (keyRead h1 q0) (keysRead t r' q')
theorem kv_vals : ∀ {kvs : List (Key × V)} {vs : List (Key × Value)}, KV kvs vs → Vals (kvs.map fun p => p.2) (vs.map fun p => p.2)
  | _, _, .nil => .nil
  | _, _, .cons r t => .cons r.2 (kv_vals t)
theorem pairs_val {prog : Program} {w : World} : ∀ {es : List DictEntry} {vs : List (Key × Value)}, PySem.Pairs (mixKind prog w) es vs → es.map (·.val) = vs.map fun p => p.2
  | _, _, .nil => rfl
  | _, _, .cons _ h2 t => by rw [List.map_cons, List.map_cons, pairs_val t, h2]
section
variable {X : Cx} {pins : List (Addr × Obj)} {σ : L2.St} {H : Hp} {s : Shared} {N : Addr → Prop}
mutual
theorem Dq.reads (I : Inv X pins σ H s) : ∀ {v : V} {d : PyData} {u : Value}, Dq N H v d → RelV v u → ∃ as, Reads s.heap u d as ∧ Trk H as
  | _, _, _, .non, r => by cases (show _ = Value.none from r); exact ⟨_, .none, fun _ z => nomatch z⟩
  | _, _, _, .bl b, r => by cases (show _ = Value.bool b from r); exact ⟨_, .bool b, fun _ z => nomatch z⟩
  | _, _, _, .int i, r => by obtain ⟨t, rfl⟩ := (show ∃ t, _ = Value.int i t from r); exact ⟨_, .int i t, fun _ z => nomatch z⟩
  | _, _, _, .str x, r => by obtain ⟨t, rfl⟩ := (show ∃ t, _ = Value.str x t from r); exact ⟨_, .str x t, fun _ z => nomatch z⟩
  | _, _, _, .lst (a := a) (xs := xs) h n q, r => by
    cases (show _ = Value.ref a from r)
    obtain ⟨_, its, m, rv, e⟩ := (show ObjOk X.prog X.w H s.heap a (.lst xs) from I.hok a _ h)
    obtain ⟨as, q1, q2⟩ := DqAll.reads I q rv
    exact ⟨_, .list e rfl rfl q1, fun b hb => (List.mem_cons.mp hb).elim (fun z => z ▸ ⟨_, h⟩) (q2 b)⟩
  | _, _, _, .tup (a := a) (xs := xs) h n q, r => by
    cases (show _ = Value.ref a from r)
    obtain ⟨_, its, rv, o, e, c, m, hd⟩ := (show ObjOk X.prog X.w H s.heap a (.tup xs) from I.hok a _ h)
    obtain ⟨as, q1, q2⟩ := DqAll.reads I q rv
    exact ⟨as, .tuple e c hd q1, q2⟩
  | _, _, _, .dct (a := a) (kvs := kvs) h n qk qv, r => by
    cases (show _ = Value.ref a from r)
    obtain ⟨_, _, vs, rv, o, es, ep, e, ex, hd, _, hp, _⟩ := (show ObjOk X.prog X.w H s.heap a (.dK kvs) from I.hok a _ h)
    have k1 := keysRead (h := s.heap) hp rv qk
    have hv := pairs_val hp
    obtain ⟨bs, q1, q2⟩ := DqAll.reads I qv (kv_vals rv)
    rw [← hv] at q1
    exact ⟨_, .dict e ex.1 hd k1 q1, fun b hb => by
      rcases List.mem_append.mp hb with z | z
      · rw [List.mem_singleton.mp z]
        exact ⟨_, h⟩
      · exact q2 b z⟩
theorem DqAll.reads (I : Inv X pins σ H s) : ∀ {vs : List V} {ds : List PyData} {us : List Value}, DqAll N H vs ds → Vals vs us → ∃ as, ReadsAll s.heap us ds as ∧ Trk H as
  | _, _, _, .nil, .nil => ⟨_, .nil, fun _ z => nomatch z⟩
  | _, _, _, .cons q q', .cons r r' => by
    obtain ⟨as, a1, a2⟩ := Dq.reads I q r
    obtain ⟨bs, b1, b2⟩ := DqAll.reads I q' r'
    exact ⟨_, .cons a1 b1, a2.app b2⟩
end

/-! all signs are signs -/
mutual
def cpOk : PyData → Bool
  | .none | .bool _ | .int _ => true
  | .str x => PyData.strOk x
  | .list xs | .tuple xs => cpAll xs
  | .dict kvs => cpKv kvs
def cpAll : List PyData → Bool
  | [] => true
  | x :: xs => cpOk x && cpAll xs
def cpKv : List (PyData × PyData) → Bool
  | [] => true
  | (a, b) :: r => cpOk a && cpOk b && cpKv r
end
/-- small data: what repr may write -/
structure Fine (n k : Nat) (d : PyData) : Prop where
  sh : d.showable = true
  lf : d.leavesShort 64 = true
  bk : d.bulk ≤ n
  dp : d.depth ≤ k
  cp : cpOk d = true
theorem Fine.fits {n k : Nat} {d : PyData} (f : Fine n k d) (h : n ≤ 200000) : d.shown.length ≤ sizeLine := by
  have e := PyData.shown_le_bulk 64 (by decide) d f.lf
  have b := f.bk
  rw [sizeLine_eq]
  omega
def rRepr : List V → Hp → VK → Prop := fun xs H Q => ∃ (N : Addr → Prop) (v : V) (d : PyData), xs = [v] ∧ Dq N H v d ∧ Fine 200000 60 d ∧ Q (.str d.shown) H
theorem call_reprD (hG : X.A.guards = some []) (hu : X.A.units + 64 < cLine) (hs : ∃ o, X.base.get? sysModules = some o) : CallR X (.builtin "repr") rRepr := by
  intro pins s σ H xs us Q I r h
  obtain ⟨N, v, d, rfl, q, f, hq⟩ := h
  obtain ⟨u, rfl, rv⟩ := vals1 r
  have fit := f.fits (Nat.le_refl _)
  cases v with
  | non => cases q; cases (show _ = Value.none from rv); exact PySem.P.repr_of_none ⟨.str _, H, I.tok _, ⟨_, rfl⟩, hq⟩
  | bl b => cases q; cases (show _ = Value.bool b from rv); exact PySem.P.repr_of_bool ⟨.str _, H, I.tok _, ⟨_, rfl⟩, by cases b <;> exact hq⟩
  | int i =>
    cases q
    obtain ⟨t, rfl⟩ := (show ∃ t, _ = Value.int i t from rv)
    have hz : i.natAbs.log2 < 1920 := by simpa [PyData.showable] using f.sh
    exact PySem.P.repr_of_int hz ⟨.str _, H, I.tok _, ⟨_, rfl⟩, hq⟩
  | str x =>
    cases q
    obtain ⟨t, rfl⟩ := (show ∃ t, _ = Value.str x t from rv)
    exact PySem.P.repr_of_str ⟨.str _, H, I.tok _, ⟨_, rfl⟩, hq⟩ fit
  | ref a =>
    obtain ⟨as, rd, tr⟩ := Dq.reads I q rv
    cases (show _ = Value.ref a from rv)
    obtain ⟨o, ho⟩ := hs
    have hno : H sysModules = none := (I.bs _ _ ho).2
    have hsm : d.hasDict = true → sysModules ∉ as := fun _ z => by
      obtain ⟨o', e⟩ := tr _ z
      rw [hno] at e
      cases e
    have hd := f.dp
    exact repr_of_reads' rd f.sh hsm hG (by omega) (fun _ _ e => e)
      (fun h' u tk hk => ⟨.str _, H, I.kept hk, ⟨_, rfl⟩, hq⟩) fit
  | byt b => cases q
  | flt b => cases q
  | ty n => cases q
end
end Y
set_option Elab.async false
set_option linter.all false
set_option maxRecDepth 100000
set_option maxHeartbeats 4000000
/-! own layer, part 1: defs by name, the box from which a law draws, small rules -/
namespace Y
open PySem PySem.Spec PyProof.Rows L2 TL

/-! ### a def of the text by its name alone -/
def Def (K : PySem.W.Frag) (mg : Str → Option Value) (x : Str) (st : Stmt) (ps : List Str) : Prop :=
  ∃ (f : Addr) (fd : FuncData), Fun K x x st f fd ∧ mg x = some (.ref f) ∧ Binds K fd ps []
def Has (P : Program) (w : World) (K : PySem.W.Frag) (mg : Str → Option Value) (base : Heap) (x : Str) (ps : List Str) (k : Nat) (sp : Sp) : Prop :=
  ∃ (f : Addr) (fd : FuncData), mg x = some (.ref f) ∧ PySem.W.keepIn K (.ref f) = true ∧ Binds K fd ps [] ∧ FnOk P w K mg base CX0 k f fd ps sp
def HasG (P : Program) (w : World) (K : PySem.W.Frag) (mg : Str → Option Value) (base : Heap) (x : Str) (ps : List Str) (k : Nat) (sp : Sp) : Prop :=
  ∃ (f : Addr) (fd : FuncData), mg x = some (.ref f) ∧ PySem.W.keepIn K (.ref f) = true ∧ Binds K fd ps [] ∧ FnG P w K mg base CX0 k f fd ps sp
section
variable {P : Program} {w : World} {K : PySem.W.Frag} {mg : Str → Option Value} {base : Heap}
theorem Def.has {x : Str} {st : Stmt} {N ps : List Str} {k : Nat} {sp : Sp} (D : Def K mg x st ps) (S : FnScope N ps (defScope st)) (len : ∀ vs H Q E, sp vs H Q E → vs.length = ps.length)
    (hbody : ∀ (f : Addr) (cdv : Value) (A : Around) (outer : List Env) (s : Shared) (H : Hp) (vs : List V) (Q : VK) (E : XK),
      Room k (A.deeper (envOfC x (defScope st) s.heap.objs.size f cdv)) → sp vs H Q E →
      ∃ t, PSs (cxOf CX0 P w K mg base N x (defScope st) f cdv A outer s H E).nox (defBody st) t ∧ t { nx := fun _ H' => Q .non H', rt := Q } (start N vs) H) :
    Has P w K mg base x ps (k + 1) sp := by
  obtain ⟨f, fd, F, hm, hb⟩ := D
  exact ⟨f, fd, hm, F.kp, hb, F.ok S len fun cdv A outer s H vs Q E hr h => hbody f cdv A outer s H vs Q E hr h⟩
theorem Def.hasG {x : Str} {st : Stmt} {N ps : List Str} {k : Nat} {sp : Sp} (D : Def K mg x st ps) (S : FnScope N ps (defScope st)) (len : ∀ vs H Q E, sp vs H Q E → vs.length = ps.length)
    (hbody : ∀ (f : Addr) (cdv : Value) (A : Around) (outer : List Env) (s : Shared) (H : Hp) (vs : List V) (Q : VK) (E : XK), A.guards = some [] →
      Room k (A.deeper (envOfC x (defScope st) s.heap.objs.size f cdv)) → sp vs H Q E →
      ∃ t, PSs (cxOf CX0 P w K mg base N x (defScope st) f cdv A outer s H E).nox (defBody st) t ∧ t { nx := fun _ H' => Q .non H', rt := Q } (start N vs) H) :
    HasG P w K mg base x ps (k + 1) sp := by
  obtain ⟨f, fd, F, hm, hb⟩ := D
  exact ⟨f, fd, hm, F.kp, hb, okG F S len fun cdv A outer s H vs Q E hg hr h => hbody f cdv A outer s H vs Q E hg hr h⟩
end
section
variable {X : Cx} {k : Nat} {ps : List Str} {sp : Sp} {x : Str} {p pos : Pos} {e : Expr} {es : List Expr} {t : TA}
theorem pe_callH (h : Has X.prog X.w X.K X.mg X.base x ps k sp) (hr : Room k X.A) (hg : Gl X x) (ha : PA X (e :: es) t)
    (hdb : (x == ("__debug__" : Str)) = false := by decide) (he : starEach (e :: es) X.env = (false, eval e X.env) :: starEach es X.env := by rfl)
    (hpl : (backTo pos (starEach es X.env)).any (·.1) = false := by rfl) : PE X (.Call (.Name x p) (e :: es) [] pos) (tCall sp [] E0 t) := by
  obtain ⟨f, fd, hm, hk, hb, F⟩ := h
  exact pe_call F hr hg hm hk hb .nil pass0 ha hdb he hpl
theorem pe_callH0 (h : Has X.prog X.w X.K X.mg X.base x ps k sp) (hr : Room k X.A) (hg : Gl X x)
    (hdb : (x == ("__debug__" : Str)) = false := by decide) : PE X (.Call (.Name x p) [] [] pos) (tCall sp [] E0 tNil) := by
  obtain ⟨f, fd, hm, hk, hb, F⟩ := h
  exact pe_call0 F hr hg hm hk hb .nil pass0 hdb
theorem pe_callHG (h : HasG X.prog X.w X.K X.mg X.base x ps k sp) (hG : X.A.guards = some []) (hr : Room k X.A) (hg : Gl X x) (ha : PA X (e :: es) t)
    (hdb : (x == ("__debug__" : Str)) = false := by decide) (he : starEach (e :: es) X.env = (false, eval e X.env) :: starEach es X.env := by rfl)
    (hpl : (backTo pos (starEach es X.env)).any (·.1) = false := by rfl) : PE X (.Call (.Name x p) (e :: es) [] pos) (tCall sp [] E0 t) := by
  obtain ⟨f, fd, hm, hk, hb, F⟩ := h
  exact pe_callG F hG hr hg hm hk hb .nil pass0 ha hdb he hpl
end

/-! ### rules by values -/
section
variable {X : Cx}
theorem op_mulSI : OpR X (binaryOp .Mult) (fun x y H Q => ∃ (z : Str) (k : Int), x = .str z ∧ y = .int k ∧ 2 ≤ k ∧ k ≤ 100000 ∧ (z.length : Int) * k ≤ 1000000 ∧ Q (.str (Txt.mul z k)) H) := by
  intro pins s σ H x y v u Q I rx ry h
  obtain ⟨z, k, rfl, rfl, h1, h2, h3, q⟩ := h
  obtain ⟨t, rfl⟩ := (show ∃ t, v = Value.str z t from rx)
  obtain ⟨t', rfl⟩ := (show ∃ t, u = Value.int k t from ry)
  have hz : (z.length : Int) ≤ 1000000 := by
    have h5 : (z.length : Int) * 1 ≤ (z.length : Int) * k := Int.mul_le_mul_of_nonneg_left (by omega) (by omega)
    omega
  refine SB.mul ⟨?_, fun _ _ => ?_, fun _ _ => ?_⟩ fun t2 tk => ⟨.str _, H, I.tok tk, ⟨t2, rfl⟩, q⟩
  · have a1 : ¬ k < -(2 ^ 63 : Int) := by omega
    have a2 : ¬ k ≥ 2 ^ 63 := by omega
    rw [decide_eq_false a1, decide_eq_false a2]
    rfl
  · have a3 : (1000000 : Int) * k ≤ 2 ^ 63 - 1 := by omega
    have a4 : (1000000 : Int) ≤ (2 ^ 63 - 1) / k := (Int.le_ediv_iff_mul_le (by omega)).mpr a3
    omega
  · have a5 : ((z.length * k.toNat : Nat) : Int) = (z.length : Int) * k := by
      rw [Int.natCast_mul, Int.toNat_of_nonneg (by omega)]
    have a6 : ¬ z.length * k.toNat > 2 ^ 24 := by omega
    simpa [Builtin.Str.tooLong, sizeLine] using a6

/-- a datum's own type -/
def tyD : PyData → String
  | .none => "NoneType"
  | .bool _ => "bool"
  | .int _ => "int"
  | .str _ => "str"
  | .list _ => "list"
  | .tuple _ => "tuple"
  | .dict _ => "dict"
theorem call_isiQ : CallR X (.builtin "isinstance") (fun xs H Q => ∃ (N : Addr → Prop) (v : V) (d : PyData) (T : String) (b : Bool), xs = [v, .ty T] ∧ Dq N H v d ∧ kitB (tyD d) T = some b ∧ Q (.bl b) H) := by
  intro pins s σ H xs us Q I r h
  obtain ⟨N, v, d, T, b, rfl, q, hk, hq⟩ := h
  refine call_isi pins s σ H _ us Q I r ⟨v, .ty T, .type (tyD d), .type T, b, rfl, .ty T, .base ?_, kit_ty hk, hq⟩
  cases q with
  | non => exact .non
  | bl b => exact .bl b
  | int i => exact .int i
  | str x => exact .str x
  | lst h _ _ => exact .lst h
  | tup h _ _ => exact .tup h
  | dct h _ _ _ => exact .dK h
def isi_int : PyData → Bool
  | .none => false
  | .bool _ => true
  | .int _ => true
  | .str _ => false
  | .list _ => false
  | .tuple _ => false
  | .dict _ => false
theorem kit_int : ∀ d : PyData, kitB (tyD d) "int" = some (isi_int d)
  | .none => (by decide +kernel : kitB "NoneType" "int" = some false)
  | .bool _ => (by decide +kernel : kitB "bool" "int" = some true)
  | .int _ => (by decide +kernel : kitB "int" "int" = some true)
  | .str _ => (by decide +kernel : kitB "str" "int" = some false)
  | .list _ => (by decide +kernel : kitB "list" "int" = some false)
  | .tuple _ => (by decide +kernel : kitB "tuple" "int" = some false)
  | .dict _ => (by decide +kernel : kitB "dict" "int" = some false)
def isi_bool : PyData → Bool
  | .none => false
  | .bool _ => true
  | .int _ => false
  | .str _ => false
  | .list _ => false
  | .tuple _ => false
  | .dict _ => false
theorem kit_bool : ∀ d : PyData, kitB (tyD d) "bool" = some (isi_bool d)
  | .none => (by decide +kernel : kitB "NoneType" "bool" = some false)
  | .bool _ => (by decide +kernel : kitB "bool" "bool" = some true)
  | .int _ => (by decide +kernel : kitB "int" "bool" = some false)
  | .str _ => (by decide +kernel : kitB "str" "bool" = some false)
  | .list _ => (by decide +kernel : kitB "list" "bool" = some false)
  | .tuple _ => (by decide +kernel : kitB "tuple" "bool" = some false)
  | .dict _ => (by decide +kernel : kitB "dict" "bool" = some false)
def isi_str : PyData → Bool
  | .none => false
  | .bool _ => false
  | .int _ => false
  | .str _ => true
  | .list _ => false
  | .tuple _ => false
  | .dict _ => false
theorem kit_str : ∀ d : PyData, kitB (tyD d) "str" = some (isi_str d)
  | .none => (by decide +kernel : kitB "NoneType" "str" = some false)
  | .bool _ => (by decide +kernel : kitB "bool" "str" = some false)
  | .int _ => (by decide +kernel : kitB "int" "str" = some false)
  | .str _ => (by decide +kernel : kitB "str" "str" = some true)
  | .list _ => (by decide +kernel : kitB "list" "str" = some false)
  | .tuple _ => (by decide +kernel : kitB "tuple" "str" = some false)
  | .dict _ => (by decide +kernel : kitB "dict" "str" = some false)
def isi_tuple : PyData → Bool
  | .none => false
  | .bool _ => false
  | .int _ => false
  | .str _ => false
  | .list _ => false
  | .tuple _ => true
  | .dict _ => false
theorem kit_tuple : ∀ d : PyData, kitB (tyD d) "tuple" = some (isi_tuple d)
  | .none => (by decide +kernel : kitB "NoneType" "tuple" = some false)
  | .bool _ => (by decide +kernel : kitB "bool" "tuple" = some false)
  | .int _ => (by decide +kernel : kitB "int" "tuple" = some false)
  | .str _ => (by decide +kernel : kitB "str" "tuple" = some false)
  | .list _ => (by decide +kernel : kitB "list" "tuple" = some false)
  | .tuple _ => (by decide +kernel : kitB "tuple" "tuple" = some true)
  | .dict _ => (by decide +kernel : kitB "dict" "tuple" = some false)
def isi_list : PyData → Bool
  | .none => false
  | .bool _ => false
  | .int _ => false
  | .str _ => false
  | .list _ => true
  | .tuple _ => false
  | .dict _ => false
theorem kit_list : ∀ d : PyData, kitB (tyD d) "list" = some (isi_list d)
  | .none => (by decide +kernel : kitB "NoneType" "list" = some false)
  | .bool _ => (by decide +kernel : kitB "bool" "list" = some false)
  | .int _ => (by decide +kernel : kitB "int" "list" = some false)
  | .str _ => (by decide +kernel : kitB "str" "list" = some false)
  | .list _ => (by decide +kernel : kitB "list" "list" = some true)
  | .tuple _ => (by decide +kernel : kitB "tuple" "list" = some false)
  | .dict _ => (by decide +kernel : kitB "dict" "list" = some false)
def isi_dict : PyData → Bool
  | .none => false
  | .bool _ => false
  | .int _ => false
  | .str _ => false
  | .list _ => false
  | .tuple _ => false
  | .dict _ => true
theorem kit_dict : ∀ d : PyData, kitB (tyD d) "dict" = some (isi_dict d)
  | .none => (by decide +kernel : kitB "NoneType" "dict" = some false)
  | .bool _ => (by decide +kernel : kitB "bool" "dict" = some false)
  | .int _ => (by decide +kernel : kitB "int" "dict" = some false)
  | .str _ => (by decide +kernel : kitB "str" "dict" = some false)
  | .list _ => (by decide +kernel : kitB "list" "dict" = some false)
  | .tuple _ => (by decide +kernel : kitB "tuple" "dict" = some false)
  | .dict _ => (by decide +kernel : kitB "dict" "dict" = some true)
/-- == and != over data -/
def rEqQ (neg : Bool) : R2 := fun x y H Q => ∃ (N : Addr → Prop) (d e : PyData), Dq N H x d ∧ Dq N H y e ∧ SeqAt.shaped d = true ∧ SeqAt.shaped e = true ∧ Q (.bl (if neg then !PyData.eqv d e else PyData.eqv d e)) H
theorem op_eqQ (hu : X.A.units + 64 < cLine) : OpR X (compareOp .Eq) (rEqQ false) := by
  intro pins s σ H x y v u Q I rx ry h
  obtain ⟨N, d, e, hd, he, sd, se, q⟩ := h
  obtain ⟨as, r1, _⟩ := Dq.reads I hd rx
  obtain ⟨bs, r2, _⟩ := Dq.reads I he ry
  exact SeqAt.compareEq_shaped r1 r2 sd se hu ⟨.bl _, H, I, rfl, q⟩
theorem op_neQ (hu : X.A.units + 64 < cLine) : OpR X (compareOp .NotEq) (rEqQ true) := by
  intro pins s σ H x y v u Q I rx ry h
  obtain ⟨N, d, e, hd, he, sd, se, q⟩ := h
  obtain ⟨as, r1, _⟩ := Dq.reads I hd rx
  obtain ⟨bs, r2, _⟩ := Dq.reads I he ry
  exact SeqAt.compareNe_shaped r1 r2 sd se hu ⟨.bl _, H, I, rfl, q⟩
end

/-! ### the box -/
def Box (H : Hp) (b : Addr) (n : Nat) : Prop := ∃ x y z : Int, H b = some (.lst [.int x, .int y, .int z]) ∧ 0 ≤ x ∧ 0 ≤ y ∧ y < 2147483629 ∧ 0 ≤ z ∧ z ≤ n
theorem Box.mono {H : Hp} {b : Addr} {n m : Nat} (h : Box H b n) (l : n ≤ m) : Box H b m := by
  obtain ⟨x, y, z, h1, h2, h3, h4, h5, h6⟩ := h
  exact ⟨x, y, z, h1, h2, h3, h4, h5, by omega⟩
theorem Box.ext {N : Addr → Prop} {H H' : Hp} {b : Addr} {n : Nat} (h : Box H b n) (e : Ext N H H') (hb : ¬ N b) : Box H' b n := by
  obtain ⟨x, y, z, h1, r⟩ := h
  exact ⟨x, y, z, e.keep _ _ hb h1, r⟩
theorem Box.new {H : Hp} {b p : Addr} {n : Nat} {o : HO} (h : Box H b n) (hp : H p = none) : Box (upd H p o) b n := by
  obtain ⟨x, y, z, h1, r⟩ := h
  exact ⟨x, y, z, by rw [upd_ne (ne_of_none h1 hp)]; exact h1, r⟩
theorem Box.ne {H : Hp} {b p : Addr} {n : Nat} (h : Box H b n) (hp : H p = none) : b ≠ p := by
  obtain ⟨x, y, z, h1, r⟩ := h
  exact ne_of_none h1 hp
abbrev At (b : Addr) : Addr → Prop := fun c => c = b
theorem Box.live {H : Hp} {b : Addr} {n : Nat} (h : Box H b n) : Live (At b) H := fun c e => by
  obtain ⟨x, y, z, h1, r⟩ := h
  rw [show c = b from e]
  exact ⟨_, h1⟩
/-- a draw below m -/
def spTake : Sp := fun vs H Q _ => ∃ (b : Addr) (m : Int) (n : Nat), vs = [.ref b, .int m] ∧ Box H b n ∧ n ≤ 1000000 ∧ 0 < m ∧ m < 1073741824 ∧
  ∀ (k : Int) (H' : Hp), 0 ≤ k → k < m → Box H' b (n + 1) → Ext (At b) H H' → Q (.int k) H'
def spCell (K : PySem.W.Frag) : Sp := fun vs H Q _ => ∃ (a : Addr) (ns : List Int) (k : Int), vs = [.ref a, .int k] ∧ SqL K H a (ns.map V.int) ∧ ns.length ≤ 100 ∧ 0 ≤ k ∧ k ≤ 1000 ∧ ∀ c : Int, Q (.int c) H
def spBox : Sp := fun vs H Q _ => ∃ c : Int, vs = [.int c] ∧ ∀ (b : Addr) (H' : Hp), H b = none → Same H H' → Box H' b 0 → Q (.ref b) H'
/-- digits below the arity -/
def Digs (ar : Int) (z : Str) : Prop := ∀ c ∈ z.cps.toList, 48 ≤ c ∧ (c : Int) < 48 + ar
def spWord : Sp := fun vs H Q _ => ∃ (b : Addr) (ar m : Int) (n : Nat), vs = [.ref b, .int ar, .int m] ∧ Box H b n ∧ n ≤ 100000 ∧ 2 ≤ ar ∧ ar ≤ 4 ∧ 0 ≤ m ∧ m ≤ 1000 ∧
  ∀ (z : Str) (H' : Hp) (n' : Nat), Digs ar z → (z.length : Int) ≤ m → n' ≤ n + m.toNat + 1 → Box H' b n' → Ext (At b) H H' → Q (.str z) H'

/-! ### expressions that make data -/
def Nice (N : Addr → Prop) (w k : Nat) (H : Hp) (v : V) : Prop := ∃ d, Dq N H v d ∧ Fine w k d
structure FineAll (w k : Nat) (ds : List PyData) : Prop where
  sh : PyData.showableAll ds = true
  lf : PyData.leavesShortAll 64 ds = true
  bk : PyData.bulkAll ds ≤ w
  dp : PyData.depthAll ds ≤ k
  cp : cpAll ds = true
theorem Nice.ext {N : Addr → Prop} {w k : Nat} {H H' : Hp} {v : V} (h : Nice N w k H v) (e : Ext N H H') : Nice N w k H' v :=
  let ⟨d, q, f⟩ := h; ⟨d, q.ext e, f⟩
theorem Fine.mono {w w' k k' : Nat} {d : PyData} (f : Fine w k d) (hw : w ≤ w') (hk : k ≤ k') : Fine w' k' d := ⟨f.sh, f.lf, Nat.le_trans f.bk hw, Nat.le_trans f.dp hk, f.cp⟩
theorem Nice.mono {N : Addr → Prop} {w w' k k' : Nat} {H : Hp} {v : V} (h : Nice N w k H v) (hw : w ≤ w') (hk : k ≤ k') : Nice N w' k' H v :=
  let ⟨d, q, f⟩ := h; ⟨d, q, f.mono hw hk⟩
theorem bulk_len : ∀ ds : List PyData, ds.length ≤ PyData.bulkAll ds
  | [] => Nat.le_refl _
  | d :: ds => by have h := bulk_len ds; simp only [PyData.bulkAll, List.length_cons]; omega
theorem fine_none {w k : Nat} : Fine w k .none := ⟨rfl, rfl, Nat.zero_le _, Nat.zero_le _, rfl⟩
theorem fine_bool {w k : Nat} (b : Bool) : Fine w k (.bool b) := ⟨rfl, rfl, Nat.zero_le _, Nat.zero_le _, rfl⟩
theorem int_short {i : Int} (h : i.natAbs < 10 ^ 40) : i.natAbs.log2 < 1920 ∧ (PyData.shown (.int i)).length ≤ 64 := by
  refine ⟨?_, ?_⟩
  · have h2 : i.natAbs < 2 ^ 140 := Nat.lt_of_lt_of_le h (by decide)
    by_cases h0 : i.natAbs = 0
    · rw [h0]; decide
    · have := (Nat.log2_lt h0).mpr h2
      omega
  · have e := int_text_length_le10 (k := 40) (by decide) h
    show (Str.ofString (toString i)).length ≤ 64
    rw [PySem.ofString_length]
    omega
theorem fine_int {w k : Nat} {i : Int} (h : i.natAbs < 10 ^ 40) : Fine w k (.int i) := by
  obtain ⟨a, b⟩ := int_short h
  exact ⟨by simpa [PyData.showable] using a, by simpa [PyData.leavesShort] using b, Nat.zero_le _, Nat.zero_le _, rfl⟩
theorem fine_str {w k : Nat} {x : Str} (hc : ∀ c ∈ x.cps.toList, c < 1114112) (h : x.length ≤ w) : Fine w k (.str x) :=
  ⟨rfl, (List.all_eq_true.mpr fun c h => decide_eq_true (Nat.lt_trans (hc c h) (by decide)) : (x.cps.toList.all fun c => decide (c < 16 ^ 8)) = true), h, Nat.zero_le _,
    (by show PyData.strOk x = true; unfold PyData.strOk; rw [← Array.all_toList]; exact List.all_eq_true.mpr fun c h => decide_eq_true (hc c h))⟩
theorem fine_tuple {w k : Nat} {ds : List PyData} (f : FineAll w k ds) : Fine w (k + 1) (.tuple ds) :=
  ⟨by simpa [PyData.showable] using f.sh, by simpa [PyData.leavesShort] using f.lf, f.bk, Nat.succ_le_succ f.dp, by simpa [cpOk] using f.cp⟩
theorem fine_list {w k : Nat} {ds : List PyData} (f : FineAll w k ds) : Fine w (k + 1) (.list ds) :=
  ⟨by simpa [PyData.showable] using f.sh, by simpa [PyData.leavesShort] using f.lf, f.bk, Nat.succ_le_succ f.dp, by simpa [cpOk] using f.cp⟩
theorem fineAll_nil {w k : Nat} : FineAll w k [] := ⟨rfl, rfl, Nat.zero_le _, Nat.zero_le _, rfl⟩
theorem fineAll_cons {w1 w2 k : Nat} {d : PyData} {ds : List PyData} (f : Fine w1 k d) (g : FineAll w2 k ds) : FineAll (w1 + 1 + w2) k (d :: ds) := by
  refine ⟨?_, ?_, ?_, ?_, by simp only [cpAll, f.cp, g.cp, Bool.and_self]⟩
  · simp only [PyData.showableAll, f.sh, g.sh, Bool.and_self]
  · simp only [PyData.leavesShortAll, f.lf, g.lf, Bool.and_self]
  · have := f.bk; have := g.bk; simp only [PyData.bulkAll]; omega
  · have := f.dp; have := g.dp; simp only [PyData.depthAll]; omega
theorem fineAll_of {w k : Nat} : ∀ {ds : List PyData} {d : PyData}, FineAll w k ds → d ∈ ds → Fine w k d
  | x :: xs, d, f, h => by
    have h1 : x.showable = true ∧ PyData.showableAll xs = true := by simpa only [PyData.showableAll, Bool.and_eq_true] using f.sh
    have h2 : x.leavesShort 64 = true ∧ PyData.leavesShortAll 64 xs = true := by simpa only [PyData.leavesShortAll, Bool.and_eq_true] using f.lf
    have h3 := f.bk
    have h4 := f.dp
    have h5 : cpOk x = true ∧ cpAll xs = true := by simpa only [cpAll, Bool.and_eq_true] using f.cp
    simp only [PyData.bulkAll] at h3
    simp only [PyData.depthAll] at h4
    rcases List.mem_cons.mp h with e | e
    · subst e; exact ⟨h1.1, h2.1, by omega, by omega, h5.1⟩
    · exact fineAll_of ⟨h1.2, h2.2, by omega, by omega, h5.2⟩ e
theorem fine_items {w k : Nat} {ds : List PyData} (f : Fine w (k + 1) (.tuple ds)) : FineAll w k ds :=
  ⟨by simpa [PyData.showable] using f.sh, by simpa [PyData.leavesShort] using f.lf, f.bk, Nat.le_of_succ_le_succ f.dp, by simpa [cpOk] using f.cp⟩
theorem fine_itemsL {w k : Nat} {ds : List PyData} (f : Fine w (k + 1) (.list ds)) : FineAll w k ds :=
  ⟨by simpa [PyData.showable] using f.sh, by simpa [PyData.leavesShort] using f.lf, f.bk, Nat.le_of_succ_le_succ f.dp, by simpa [cpOk] using f.cp⟩
def EvD (N : Addr → Prop) (te : TE) (σ : L2.St) (H : Hp) (w k : Nat) : Prop :=
  ∀ H1, Ext N H H1 → ∀ Q : VK, (∀ v H2, Ext No H1 H2 → Nice N w k H2 v → Q v H2) → te σ H1 Q
def EvDs (N : Addr → Prop) (ta : TA) (σ : L2.St) (H : Hp) (n w k : Nat) : Prop :=
  ∀ H1, Ext N H H1 → ∀ Q : List V → Hp → Prop, (∀ vs H2, Ext No H1 H2 → vs.length = n → (∃ ds, DqAll N H2 vs ds ∧ FineAll w k ds) → Q vs H2) → ta σ H1 Q
/-- an int that is reckoned -/
def EvI (te : TE) (σ : L2.St) (i : Int) : Prop := ∀ H (Q : VK), Q (.int i) H → te σ H Q
section
variable {N : Addr → Prop} {σ : L2.St} {H : Hp} {w w1 w2 k : Nat} {te : TE} {ta : TA}
theorem evi_c (i : Int) : EvI (tC (.int i)) σ i := fun _ _ q => q
theorem evi_neg {i : Int} (h : EvI te σ i) : EvI (tUn (rU fun i => .int (-i)) te) σ (-i) := fun H Q q => h H _ ⟨i, rfl, q⟩
theorem evi_pow {tb : TE} {i j : Int} (h : EvI te σ i) (g : EvI tb σ j) (c : CPow i j) : EvI (tOp (rI CPow fun i j => .int (i ^ j.toNat)) te tb) σ (i ^ j.toNat) :=
  fun H Q q => h H _ (g H _ ⟨i, j, rfl, rfl, c, q⟩)
theorem evd_i {i : Int} (h : EvI te σ i) (hi : i.natAbs < 10 ^ 40) : EvD N te σ H 0 k := fun H1 e Q q => h H1 _ (q _ _ .refl ⟨_, .int i, fine_int hi⟩)
theorem evd_int {i : Int} (hi : i.natAbs < 10 ^ 40) : EvD N (tC (.int i)) σ H 0 k := evd_i (evi_c i) hi
theorem evd_str {x : Str} (hc : ∀ c ∈ x.cps.toList, c < 1114112) (h : x.length ≤ w) : EvD N (tC (.str x)) σ H w k := fun H1 e Q q => q _ _ .refl ⟨_, .str x, fine_str hc h⟩
theorem evd_bl {b : Bool} : EvD N (tC (.bl b)) σ H 0 k := fun H1 e Q q => q _ _ .refl ⟨_, .bl b, fine_bool b⟩
theorem evd_non : EvD N (tC .non) σ H 0 k := fun H1 e Q q => q _ _ .refl ⟨_, .non, fine_none⟩
theorem evd_var {i : Nat} {v : V} (h : σ[i]? = some (some v)) (n : Nice N w 0 H v) : EvD N (tVar i) σ H w k := fun H1 e Q q => ⟨v, h, q _ _ .refl ((n.ext e).mono (Nat.le_refl _) (Nat.zero_le _))⟩
theorem evds_nil : EvDs N tNil σ H 0 0 k := fun H1 e Q q => q _ _ .refl rfl ⟨[], .nil, fineAll_nil⟩
theorem evds_cons (h : EvD N te σ H w1 k) {n : Nat} (g : EvDs N ta σ H n w2 k) : EvDs N (tCons te ta) σ H (n + 1) (w1 + 1 + w2) k := fun H1 e Q q =>
  h H1 e _ fun v H2 e2 ⟨d, qd, f⟩ => g H2 (e.trans e2.any) _ fun vs H3 e3 hn ⟨ds, qs, fs⟩ => q _ _ (e2.trans e3) (congrArg Nat.succ hn) ⟨d :: ds, .cons (qd.ext e3.any) qs, fineAll_cons f fs⟩
theorem evds_len {vs : List V} (hw : w ≤ 200000) (h : ∃ ds, DqAll N H vs ds ∧ FineAll w k ds) : vs.length ≤ sizeLine := by
  obtain ⟨ds, q, f⟩ := h
  have h1 := q.length
  have h2 := bulk_len ds
  have h3 := f.bk
  rw [sizeLine_eq]
  omega
theorem evd_tup (L : Live N H) (hw : w ≤ 200000) {n : Nat} (g : EvDs N ta σ H n w k) : EvD N (tTup ta) σ H w (k + 1) := fun H1 e Q q =>
  g H1 e _ fun vs H2 e2 _ h => ⟨evds_len hw h, fun p hp => q _ _ (e2.trans (.new hp)) (by
    obtain ⟨ds, qs, fs⟩ := h
    exact ⟨.tuple ds, .tup upd_same ((L.ext (e.trans e2.any)).not hp) (qs.ext (.new hp)), fine_tuple fs⟩)⟩
theorem evd_lst (L : Live N H) (hw : w ≤ 200000) {n : Nat} (g : EvDs N ta σ H n w k) : EvD N (tLst ta) σ H w (k + 1) := fun H1 e Q q =>
  g H1 e _ fun vs H2 e2 _ h => ⟨evds_len hw h, fun p hp => q _ _ (e2.trans (.new hp)) (by
    obtain ⟨ds, qs, fs⟩ := h
    exact ⟨.list ds, .lst upd_same ((L.ext (e.trans e2.any)).not hp) (qs.ext (.new hp)), fine_list fs⟩)⟩
theorem evd_dnew (L : Live N H) : EvD N tDNewK σ H 0 (k + 1) := fun H1 e Q q p hp => q _ _ (.new hp) ⟨.dict [], .dct upd_same ((L.ext e).not hp) .nil .nil, ⟨rfl, rfl, Nat.le_refl _, Nat.zero_lt_succ _, rfl⟩⟩
end
theorem atI_in {α : Type} {xs : List α} {k : Int} (h0 : 0 ≤ k) (h1 : k < xs.length) : ∃ v, atI xs k = some v ∧ v ∈ xs := by
  have hj : k.toNat < xs.length := by omega
  refine ⟨xs[k.toNat], ?_, List.getElem_mem hj⟩
  have := atI_nat (xs := xs) (j := k.toNat) (v := xs[k.toNat]) (List.getElem?_eq_getElem hj)
  rwa [Int.toNat_of_nonneg h0] at this
theorem DqAll.mem {N : Addr → Prop} {H : Hp} {w k : Nat} {v : V} : ∀ {vs : List V} {ds : List PyData}, DqAll N H vs ds → FineAll w k ds → v ∈ vs → Nice N w k H v
  | _, _, .cons a b, f, h => by
    rcases List.mem_cons.mp h with e | e
    · subst e; exact ⟨_, a, fineAll_of f (List.mem_cons_self ..)⟩
    · obtain ⟨d, q, g⟩ := DqAll.mem (w := w) (k := k) b (by
        have h1 := f.sh; have h2 := f.lf; have h3 := f.bk; have h4 := f.dp; have h5 := f.cp
        simp only [cpAll, Bool.and_eq_true] at h5
        simp only [PyData.showableAll, Bool.and_eq_true] at h1
        simp only [PyData.leavesShortAll, Bool.and_eq_true] at h2
        simp only [PyData.bulkAll] at h3
        simp only [PyData.depthAll] at h4
        exact ⟨h1.2, h2.2, by omega, by omega, h5.2⟩) e
      exact ⟨d, q, g⟩
theorem drawn31 (i t : Int) (h0 : 0 ≤ t) (h1 : t ≤ 1000000000000) : (i.fmod 2147483647 + t).natAbs < 2 ^ 64 := by
  rw [Int.fmod_eq_emod_of_nonneg _ (by decide)]
  have a1 := Int.emod_nonneg i (b := 2147483647) (by decide)
  have a2 := Int.emod_lt_of_pos i (b := 2147483647) (by decide)
  omega
/-! ### signs -/
abbrev sg (c : Nat) : Str := ⟨#[c]⟩
theorem joinL_signs : ∀ zs : List Nat, joinL [] (zs.map fun c => [c]) = zs
  | [] => rfl
  | [_] => rfl
  | a :: b :: r => by
    show [a] ++ ([] ++ joinL [] ((b :: r).map fun c => [c])) = a :: b :: r
    rw [joinL_signs (b :: r)]
    rfl
theorem tl_empty : tl ("" : Str) = [] := rfl
theorem join_signs (zs : List Nat) : tl (Txt.join "" (zs.map sg)) = zs := by
  rw [join_eq, tl_join, tl_empty, List.map_map]
  exact joinL_signs zs
theorem sum_signs (zs : List Nat) : ((zs.map sg).map (·.length)).sum = zs.length := by
  induction zs with
  | nil => rfl
  | cons c r ih => rw [List.map_cons, List.map_cons, List.sum_cons, ih, List.length_cons]; show 1 + r.length = _; omega
theorem digit_at {k : Int} (h0 : 0 ≤ k) (h1 : k < 4) : atI (tl ("0123" : Str)) k = some (48 + k.toNat) := by
  have h : k = 0 ∨ k = 1 ∨ k = 2 ∨ k = 3 := by omega
  rcases h with rfl | rfl | rfl | rfl <;> decide +kernel
/-! ### a written text a number of times; a dict of one pair -/
section
variable {N : Addr → Prop} {σ : L2.St} {H : Hp} {w k : Nat} {te : TE}
abbrev rMulSI : R2 := fun x y H Q => ∃ (z : Str) (k : Int), x = .str z ∧ y = .int k ∧ 2 ≤ k ∧ k ≤ 100000 ∧ (z.length : Int) * k ≤ 1000000 ∧ Q (.str (Txt.mul z k)) H
theorem evd_mul {z : Str} {i : Int} (h1 : 2 ≤ i) (h2 : i ≤ 100000) (h3 : (z.length : Int) * i ≤ 1000000) (hc : ∀ c ∈ (Txt.mul z i).cps.toList, c < 1114112) (hl : (Txt.mul z i).length ≤ w) :
    EvD N (tOp rMulSI (tC (.str z)) (tC (.int i))) σ H w k := fun H1 e Q q => ⟨z, i, rfl, rfl, h1, h2, h3, q _ _ .refl ⟨_, .str _, fine_str hc hl⟩⟩
theorem fine_dict1 {w k : Nat} {x : Str} {d : PyData} (hc : ∀ c ∈ x.cps.toList, c < 1114112) (f : Fine w k d) : Fine (x.length + w + 2) (k + 1) (.dict [(.str x, d)]) := by
  have hx : PyData.strOk x = true := by simpa only [cpOk] using (fine_str (w := x.length) (k := 0) hc (Nat.le_refl _)).cp
  refine ⟨?_, ?_, ?_, ?_, by simp only [cpOk, cpKv, f.cp, hx, Bool.and_self]⟩
  · simp only [PyData.showable, PyData.showableKv, f.sh, Bool.and_self]
  · have h1 : PyData.leavesShort 64 (.str x) = true := (fine_str (w := x.length) (k := 0) hc (Nat.le_refl _)).lf
    simp only [PyData.leavesShort] at h1
    simp only [PyData.leavesShort, PyData.leavesShortKv, f.lf, h1, Bool.and_self]
  · have := f.bk
    have h2 : x.length = x.cps.size := rfl
    simp only [PyData.bulk, PyData.bulkKv]
    omega
  · have := f.dp
    simp only [PyData.depth, PyData.depthKv]
    omega
theorem evd_disp1 (L : Live N H) {x : Str} {i : Int} (hc : ∀ c ∈ x.cps.toList, c < 1114112) (hi : i.natAbs < 10 ^ 40) : EvD N (tDisp [(tC (.str x), tC (.int i))]) σ H (x.length + 0 + 2) (k + 1) := fun H1 e Q q p hp => by
  refine ⟨upd_same, [(Sum.inr x, .int i)], rfl, Nat.le_add_left 1 14, ?_⟩
  rw [upd_upd]
  exact q _ _ (.new hp) ⟨.dict [(.str x, .int i)], .dct upd_same ((L.ext e).not hp) (.cons (.str x) .nil) (.cons (.int i) .nil), fine_dict1 (w := 0) (k := k) hc (fine_int hi)⟩
/-- {x: [i]} -/
theorem evd_disp1L (L : Live N H) {x : Str} {i : Int} (hc : ∀ c ∈ x.cps.toList, c < 1114112) (hi : i.natAbs < 10 ^ 40) : EvD N (tDisp [(tC (.str x), tLst (tCons (tC (.int i)) tNil))]) σ H (x.length + (0 + 1 + 0) + 2) (k + 2) := fun H1 e Q q p hp => by
  refine ⟨(by decide : 1 ≤ sizeLine), fun r hr => ?_⟩
  have hpr : p ≠ r := fun z => by rw [z, upd_same] at hr; cases hr
  have h1r : H1 r = none := by rw [upd_ne (Ne.symm hpr)] at hr; exact hr
  refine ⟨by rw [upd_ne hpr, upd_same], [(Sum.inr x, .ref r)], rfl, Nat.le_add_left 1 14, ?_⟩
  have e3 : Ext No H1 (upd (upd (upd H1 p (.dK [])) r (.lst [.int i])) p (.dK (mergeK [] [(Sum.inr x, .ref r)]))) :=
    ⟨fun c o n ec => by rw [upd_ne (ne_of_none ec hp), upd_ne (ne_of_none ec h1r), upd_ne (ne_of_none ec hp)]; exact ec,
      fun c o ec => ⟨o, by rw [upd_ne (ne_of_none ec hp), upd_ne (ne_of_none ec h1r), upd_ne (ne_of_none ec hp)]; exact ec⟩⟩
  refine q _ _ e3 ⟨.dict [(.str x, .list [.int i])], .dct upd_same ((L.ext e).not hp) (.cons (.str x) .nil) (.cons (.lst ?_ ((L.ext e).not h1r) (.cons (.int i) .nil)) .nil), fine_dict1 hc (fine_list (fineAll_cons (w1 := 0) (w2 := 0) (fine_int hi) fineAll_nil))⟩
  rw [upd_ne (Ne.symm hpr), upd_same]
end
/-! ### comprehensions over a text; lists of signs -/
theorem lc_text {x : Str} {g : TG} {tt : TT} {te : TE} {vs : List Nat} {σ : L2.St} {H1 : Hp} {D : Addr} {Qd : Hp → Prop} (Pv : Nat → Hp → Prop) (h0 : Pv 0 (upd H1 D (.lst [])))
    (hs : ∀ i c H, x.cps[i]? = some c → Pv i H → g (.str (sg c)) (wipe σ vs) H fun σ2 H2 => wipe σ2 vs = wipe σ vs ∧ tt σ2 H2 fun b H3 =>
      if b = true then te σ2 H3 fun y H4 => ∃ acc, H4 D = some (.lst acc) ∧ acc.length < sizeLine ∧ Pv (i + 1) (upd H4 D (.lst (acc ++ [y]))) else Pv (i + 1) H3)
    (hd : ∀ H, Pv x.cps.size H → Qd H) :
    ∃ W : Nat → Nat → Hp → Prop, (∃ m, W 0 m (upd H1 D (.lst []))) ∧ ∀ i m H, W i m H →
      ((Its x).stop i H ∧ Qd H) ∨ ((Its x).go i H ∧ ∃ Nx : Hp → Prop, (∀ H', Nx H' → ∃ m', m' < m ∧ W (i + 1) m' H') ∧
        ∀ y H', (Its x).yld i H y H' → g y (wipe σ vs) H' fun σ2 H2 => wipe σ2 vs = wipe σ vs ∧ tt σ2 H2 fun b H3 =>
        if b = true then te σ2 H3 fun y H4 => ∃ acc, H4 D = some (.lst acc) ∧ acc.length < sizeLine ∧ Nx (upd H4 D (.lst (acc ++ [y]))) else Nx H3) := by
  refine ⟨fun i m H => m = x.cps.size - i ∧ i ≤ x.cps.size ∧ Pv i H, ⟨x.cps.size, by simp, Nat.zero_le _, h0⟩, ?_⟩
  rintro i m H ⟨rfl, hi, p⟩
  by_cases hlt : i < x.cps.size
  · refine .inr ⟨hlt, Pv (i + 1), fun H' p' => ⟨x.cps.size - (i + 1), by omega, rfl, hlt, p'⟩, fun y H' hy => ?_⟩
    obtain ⟨rfl, c, hc, rfl⟩ := hy
    exact hs i c _ hc p
  · have e : i = x.cps.size := by omega
    subst e
    exact .inl ⟨Nat.le_refl _, hd H p⟩
theorem shaped_signs (l : List Nat) (h : ∀ c ∈ l, c < 1114112) : SeqAt.shaped (.list (l.map fun c => .str (sg c))) = true := by
  have h1 : PyData.canLayAll0 (l.map fun c => .str (sg c)) = true := by
    induction l with
    | nil => rfl
    | cons c r ih =>
      rw [List.map_cons]
      simp only [PyData.canLayAll0, Bool.and_eq_true]
      refine ⟨?_, ih fun d hd => h d (List.mem_cons_of_mem _ hd)⟩
      have := h c List.mem_cons_self
      simp [PyData.canLay0, PyData.strOk, this]
  have h2 : ∀ r : List Nat, PyData.depthAll (r.map fun c => .str (sg c)) = 0 := fun r => by
    induction r with
    | nil => rfl
    | cons c r ih => simp only [List.map_cons, PyData.depthAll, ih, PyData.depth, Nat.max_self]
  unfold SeqAt.shaped
  simp only [PyData.canLay0, h1, PyData.depth, h2, Bool.true_and]
  decide
theorem eqvAll_nil : ∀ ds : List PyData, PyData.eqvAll ds [] = ds.isEmpty
  | [] => rfl
  | _ :: _ => rfl
theorem filter_none {p : Nat → Bool} : ∀ (l : List Nat), ((l.filter fun c => !p c).map fun c => PyData.str (sg c)).isEmpty = l.all p
  | [] => rfl
  | c :: r => by
    rw [List.filter_cons, List.all_cons]
    cases h : p c with
    | true => simpa using filter_none r
    | false => simp
theorem cutS_mem {z : Str} {lo hi : Option Int} {c : Nat} (h : c ∈ tl (cutS z lo hi)) : c ∈ tl z := by
  have h1 : c ∈ (((tl z).drop (HT.sIx z.length 0 lo)).take (HT.sIx z.length z.length hi - HT.sIx z.length 0 lo)) := h
  exact List.mem_of_mem_drop (List.mem_of_mem_take h1)
theorem fine_cps {w k : Nat} {x : Str} (f : Fine w k (.str x)) : ∀ c ∈ tl x, c < 1114112 := fun c hc => by
  have h : PyData.strOk x = true := by simpa only [cpOk] using f.cp
  unfold PyData.strOk at h
  rw [← Array.all_toList] at h
  exact of_decide_eq_true (List.all_eq_true.mp h c hc)
theorem lst_use {N : Addr → Prop} {ta : TA} {σ : L2.St} {H : Hp} {n w k : Nat} {Q : VK} (L : Live N H) (h : EvDs N ta σ H n w k) (hw : w ≤ 200000)
    (f : ∀ (xs : List V) (ds : List PyData) (p : Addr) (H' : Hp), xs.length = n → DqAll N H' xs ds → FineAll w k ds → H' p = some (.lst xs) → ¬ N p → Ext No H H' → Q (.ref p) H') : tLst ta σ H Q :=
  h H .refl _ fun xs H' e hn ⟨ds, q, g⟩ => ⟨evds_len hw ⟨ds, q, g⟩, fun p hp => f xs ds p _ hn (q.ext (.new hp)) g upd_same ((L.ext e.any (N' := N)).not hp) (e.trans (.new hp))⟩
theorem fineAll_append {w1 w2 k : Nat} : ∀ {ds es : List PyData}, FineAll w1 k ds → FineAll w2 k es → FineAll (w1 + w2) k (ds ++ es)
  | [], es, f, g => ⟨g.sh, g.lf, by have := g.bk; show PyData.bulkAll es ≤ _; omega, g.dp, g.cp⟩
  | d :: ds, es, f, g => by
    have h1 : d.showable = true ∧ PyData.showableAll ds = true := by simpa only [PyData.showableAll, Bool.and_eq_true] using f.sh
    have h2 : d.leavesShort 64 = true ∧ PyData.leavesShortAll 64 ds = true := by simpa only [PyData.leavesShortAll, Bool.and_eq_true] using f.lf
    have h3 : d.bulk + 1 + PyData.bulkAll ds ≤ w1 := f.bk
    have h4 := f.dp
    have h5 : cpOk d = true ∧ cpAll ds = true := by simpa only [cpAll, Bool.and_eq_true] using f.cp
    simp only [PyData.depthAll] at h4
    have r := fineAll_append (w1 := w1 - (d.bulk + 1)) (ds := ds) ⟨h1.2, h2.2, by omega, by omega, h5.2⟩ g
    refine ⟨?_, ?_, ?_, ?_, ?_⟩
    · show (d.showable && PyData.showableAll (ds ++ es)) = true
      rw [h1.1, r.sh]; rfl
    · show (d.leavesShort 64 && PyData.leavesShortAll 64 (ds ++ es)) = true
      rw [h2.1, r.lf]; rfl
    · have := r.bk
      show d.bulk + 1 + PyData.bulkAll (ds ++ es) ≤ _
      omega
    · have := r.dp
      show max d.depth (PyData.depthAll (ds ++ es)) ≤ k
      omega
    · show (cpOk d && cpAll (ds ++ es)) = true
      rw [h5.1, r.cp]; rfl
/-! ### one statement off -/
theorem seq_set {te : TE} {i : Nat} {u : TS} {D : Ends} {σ : L2.St} {H : Hp} (h : te σ H fun x H1 => u D (σ.set i (some x)) H1) : tSeq (tAsg te (gName i)) u D σ H := h
theorem seq_if {c : TT} {t u v : TS} {D : Ends} {σ : L2.St} {H : Hp} (h : c σ H fun b H1 => if b = true then t { D with nx := v D } σ H1 else u { D with nx := v D } σ H1) : tSeq (tIfS c t u) v D σ H := h
theorem seq_ret {te : TE} {D : Ends} {σ : L2.St} {H : Hp} (h : te σ H D.rt) : tRet te D σ H := h
theorem evds_le {N : Addr → Prop} {ta : TA} {σ : L2.St} {H : Hp} {n w w' k : Nat} (h : EvDs N ta σ H n w k) (hw : w ≤ w') : EvDs N ta σ H n w' k := fun H1 e Q q =>
  h H1 e Q fun vs H2 e2 hn ⟨ds, qs, f⟩ => q vs H2 e2 hn ⟨ds, qs, f.sh, f.lf, Nat.le_trans f.bk hw, f.dp, f.cp⟩
/-- a part of the reading apart: what it may hand on -/
theorem via {te : TE} {σ : L2.St} {H : Hp} {Q : VK} (R : V → Hp → Prop) (h : ∀ Q' : VK, (∀ x H', R x H' → Q' x H') → te σ H Q') (r : ∀ x H', R x H' → Q x H') : te σ H Q := h Q r
theorem Same.ext0 {H H' : Hp} (e : Ext No H H') : Same H H' := fun b o h => e.keep b o id h
theorem cb_arg {te : TE} {r : List V → Hp → VK → Prop} {σ : L2.St} {H : Hp} {Q : VK} (h : te σ H fun x H1 => r [x] H1 Q) : tCB r (tCons te tNil) σ H Q := h
end Y
set_option Elab.async false
set_option linter.all false
set_option maxRecDepth 100000
set_option maxHeartbeats 4000000
/-! own layer, part 2: words and places in plain Lean; the promises of the defs about them -/
namespace Y
open PySem PySem.Spec PyProof.Rows L2 TL

/-! ### strip -/
theorem tw_all {p : Nat → Bool} : ∀ {l : List Nat}, (∀ c ∈ l, p c = true) → l.takeWhile p = l
  | [], _ => rfl
  | a :: r, h => by
    rw [List.takeWhile_cons, h a List.mem_cons_self, tw_all fun c hc => h c (List.mem_cons_of_mem _ hc)]
    rfl
theorem tw_len {p : Nat → Bool} : ∀ {l : List Nat}, (l.takeWhile p).length ≤ l.length
  | [] => Nat.le_refl _
  | a :: r => by
    have h := tw_len (p := p) (l := r)
    rw [List.takeWhile_cons]
    split
    · simp only [List.length_cons]; omega
    · simp only [List.length_nil]; omega
theorem tw_lt {p : Nat → Bool} : ∀ {l : List Nat} {c : Nat}, c ∈ l → p c = false → (l.takeWhile p).length < l.length
  | a :: r, c, h, hc => by
    rw [List.takeWhile_cons]
    cases ha : p a with
    | false => simp
    | true =>
      rcases List.mem_cons.mp h with e | e
      · rw [e, ha] at hc; cases hc
      · have := tw_lt e hc
        simp only [if_true, List.length_cons]
        omega
theorem tw_head {p : Nat → Bool} : ∀ {l : List Nat}, (l.takeWhile p).length < l.length → ∃ c ∈ l.drop (l.takeWhile p).length, p c = false
  | a :: r, h => by
    rw [List.takeWhile_cons] at h ⊢
    cases ha : p a with
    | false => exact ⟨a, by simp, ha⟩
    | true =>
      rw [ha] at h
      simp only [if_true, List.length_cons] at h ⊢
      obtain ⟨c, h1, h2⟩ := tw_head (p := p) (l := r) (by omega)
      exact ⟨c, by simpa using h1, h2⟩
theorem strip_empty (x y : Str) : decide (V.str (Txt.stripChars x y) = V.str "") = (tl x).all fun c => y.cps.contains c := by
  have e0 : ∀ z : Str, decide (V.str z = V.str "") = decide (z.length = 0) := fun z => by
    by_cases h : z.length = 0
    · have : z = "" := ext_tl (by
        have h2 : (tl z).length = 0 := by rw [← len_tl]; exact h
        rw [List.length_eq_zero_iff.mp h2]; rfl)
      rw [decide_eq_true h, this]
      exact decide_eq_true rfl
    · rw [decide_eq_false h]
      exact decide_eq_false fun q => h (by rw [V.str.inj q]; rfl)
  rw [e0]
  unfold Txt.stripChars
  rw [stripBy_eq]
  have hl : (Builtin.Str.strSub x (stripLo y.cps.contains true x) (stripHi y.cps.contains true x (stripLo y.cps.contains true x))).length =
      min (stripHi y.cps.contains true x (stripLo y.cps.contains true x)) x.length - stripLo y.cps.contains true x := by
    show (x.cps.extract _ _).size = _
    rw [Array.size_extract]
    rfl
  rw [hl]
  show decide (min (x.length - (((tl x).drop ((tl x).takeWhile y.cps.contains).length).reverse.takeWhile y.cps.contains).length) x.length - ((tl x).takeWhile y.cps.contains).length = 0) = _
  by_cases h : ∀ c ∈ tl x, y.cps.contains c = true
  · have e1 : ((tl x).all fun c => y.cps.contains c) = true := List.all_eq_true.mpr h
    rw [e1, tw_all h]
    refine decide_eq_true ?_
    have := len_tl x
    omega
  · have e1 : ((tl x).all fun c => y.cps.contains c) = false := by
      cases q : (tl x).all fun c => y.cps.contains c with
      | false => rfl
      | true => exact absurd (List.all_eq_true.mp q) h
    rw [e1]
    refine decide_eq_false ?_
    obtain ⟨c, hc, hp⟩ : ∃ c ∈ tl x, y.cps.contains c = false := by
      by_cases q : ∃ c ∈ tl x, y.cps.contains c = false
      · exact q
      · refine absurd (fun c hc => ?_) h
        cases r : y.cps.contains c with
        | true => rfl
        | false => exact absurd ⟨c, hc, r⟩ q
    have a1 := tw_lt hc hp
    obtain ⟨d, hd, hq⟩ := tw_head a1
    have a2 := tw_lt (p := y.cps.contains) (List.mem_reverse.mpr hd) hq
    rw [List.length_reverse, List.length_drop] at a2
    have := len_tl x
    omega

/-! ### what the definitions say -/
def dInt (lo hi : Int) : PyData → Bool
  | .int i => decide (lo ≤ i) && decide (i ≤ hi)
  | _ => false
def dNat (lo : Int) : PyData → Bool
  | .int i => decide (lo ≤ i)
  | _ => false
def isDig (ar : Int) (c : Nat) : Bool := decide (48 ≤ c) && decide ((c : Int) < 48 + ar)
def dWord (ar : Int) : PyData → Bool
  | .str z => (tl z).all (isDig ar)
  | _ => false
def dPlace (ar : Int) : PyData → Bool
  | .tuple [r, w] => dNat 0 r && dWord ar w
  | _ => false
def dWhole : PyData → Bool
  | .int _ => true
  | _ => false
/-- the digits of an arity, cut out of the text of all -/
theorem digits_cut {ar : Int} (h0 : 2 ≤ ar) (h1 : ar ≤ 4) (c : Nat) : (cutS ("0123" : Str) none (some ar)).cps.contains c = isDig ar c := by
  have h : ar = 2 ∨ ar = 3 ∨ ar = 4 := by omega
  have e : ∀ (x : Str) (l : List Nat), tl x = l → x.cps.contains c = l.contains c := fun x l h => by
    rw [← h, Array.contains_toList]
  have two : ∀ (l : List Nat) (n : Nat), l = (List.range n).map (48 + ·) → l.contains c = (decide (48 ≤ c) && decide (c < 48 + n)) := fun l n h => by
    subst h
    by_cases q : 48 ≤ c ∧ c < 48 + n
    · rw [decide_eq_true q.1, decide_eq_true q.2]
      refine List.contains_iff_mem.mpr (List.mem_map.mpr ⟨c - 48, List.mem_range.mpr (by omega), by omega⟩)
    · have : ¬ c ∈ (List.range n).map (48 + ·) := fun z => by
        obtain ⟨k, hk, rfl⟩ := List.mem_map.mp z
        have := List.mem_range.mp hk
        exact q ⟨by omega, by omega⟩
      have e1 : ((List.range n).map (48 + ·)).contains c = false := by
        cases r : ((List.range n).map (48 + ·)).contains c with
        | false => rfl
        | true => exact absurd (List.contains_iff_mem.mp r) this
      rw [e1]
      by_cases q1 : 48 ≤ c
      · rw [decide_eq_true q1, decide_eq_false (fun z => q ⟨q1, z⟩)]
        rfl
      · rw [decide_eq_false q1]
        rfl
  unfold isDig
  rcases h with rfl | rfl | rfl
  · rw [e _ [48, 49] (by decide +kernel), two _ 2 (by decide)]
    congr 1
    exact decide_eq_decide.mpr (by omega)
  · rw [e _ [48, 49, 50] (by decide +kernel), two _ 3 (by decide)]
    congr 1
    exact decide_eq_decide.mpr (by omega)
  · rw [e _ [48, 49, 50, 51] (by decide +kernel), two _ 4 (by decide)]
    congr 1
    exact decide_eq_decide.mpr (by omega)
theorem cut_len {ar : Int} : (cutS ("0123" : Str) none (some ar)).length ≤ 4 := cutS_length _ _ _

/-! ### promises: a test of a datum -/
def spInt : Sp := fun vs H Q _ => ∃ (N : Addr → Prop) (v : V) (d : PyData) (lo hi : Int), vs = [v, .int lo, .int hi] ∧ Dq N H v d ∧ Q (.bl (dInt lo hi d)) H
def spNat : Sp := fun vs H Q _ => ∃ (N : Addr → Prop) (v : V) (d : PyData) (lo : Int), vs = [v, .int lo] ∧ Dq N H v d ∧ Q (.bl (dNat lo d)) H
def spAr : Sp := fun vs H Q _ => ∃ (N : Addr → Prop) (v : V) (d : PyData), vs = [v] ∧ Dq N H v d ∧ Q (.bl (dInt 2 4 d)) H
def spIsWord : Sp := fun vs H Q _ => ∃ (N : Addr → Prop) (v : V) (d : PyData) (ar : Int) (k : Nat), vs = [v, .int ar] ∧ Dq N H v d ∧ 2 ≤ ar ∧ ar ≤ 4 ∧ Fine 200000 k d ∧ Q (.bl (dWord ar d)) H
def spPlace : Sp := fun vs H Q _ => ∃ (N : Addr → Prop) (v : V) (d : PyData) (ar : Int) (k : Nat), vs = [v, .int ar] ∧ Dq N H v d ∧ 2 ≤ ar ∧ ar ≤ 4 ∧ Fine 200000 k d ∧ Q (.bl (dPlace ar d)) H
def spWhole : Sp := fun vs H Q _ => ∃ (N : Addr → Prop) (v : V) (d : PyData), vs = [v] ∧ Dq N H v d ∧ Q (.bl (dWhole d)) H
def spIsWord' : Sp := fun vs H Q _ => ∃ (N : Addr → Prop) (v : V) (d : PyData) (ar : Int) (k : Nat), vs = [v, .int ar] ∧ Dq N H v d ∧ Live N H ∧ 2 ≤ ar ∧ ar ≤ 4 ∧ Fine 200000 k d ∧
  ∀ H', Ext No H H' → Q (.bl (dWord ar d)) H'
def spValue : Sp := fun vs H Q _ => ∃ (b : Addr) (ar : Int) (n : Nat), vs = [.ref b, .int ar] ∧ Box H b n ∧ n ≤ 90000 ∧ 2 ≤ ar ∧ ar ≤ 4 ∧
  ∀ (v : V) (H' : Hp), Nice (At b) 1000 3 H' v → Box H' b (n + 20) → Ext (At b) H H' → Q v H'
/-- a whole number at the head of a pair -/
def dPair : PyData → Bool
  | .tuple [r, _] => dWhole r
  | _ => false
end Y
set_option Elab.async false
set_option linter.all false
set_option maxRecDepth 100000
set_option maxHeartbeats 4000000
namespace Y
open PySem PySem.Spec PyProof.Rows L2 TL
def topS (i : Nat) : Stmt := PySem.Challenge.pw_strandclasses_k01_words_and_places_told.main.body.getD i (.Pass ⟨0, 0, 0, 0⟩)
abbrev s_is_integer : Stmt := topS 4
abbrev n_is_integer : List Str := ["value", "low", "high"]
abbrev a_is_integer : List Str := ["value", "low", "high"]
theorem sc_is_integer : FnScope n_is_integer a_is_integer (defScope s_is_integer) := ⟨rfl, rfl, rfl, by decide +kernel, rfl, by decide +kernel, by decide +kernel⟩
abbrev s_is_natural : Stmt := topS 5
abbrev n_is_natural : List Str := ["value", "low"]
abbrev a_is_natural : List Str := ["value", "low"]
theorem sc_is_natural : FnScope n_is_natural a_is_natural (defScope s_is_natural) := ⟨rfl, rfl, rfl, by decide +kernel, rfl, by decide +kernel, by decide +kernel⟩
abbrev s_is_arity : Stmt := topS 6
abbrev n_is_arity : List Str := ["value"]
abbrev a_is_arity : List Str := ["value"]
theorem sc_is_arity : FnScope n_is_arity a_is_arity (defScope s_is_arity) := ⟨rfl, rfl, rfl, by decide +kernel, rfl, by decide +kernel, by decide +kernel⟩
abbrev s_is_word : Stmt := topS 7
abbrev n_is_word : List Str := ["value", "arity"]
abbrev a_is_word : List Str := ["value", "arity"]
theorem sc_is_word : FnScope n_is_word a_is_word (defScope s_is_word) := ⟨rfl, rfl, rfl, by decide +kernel, rfl, by decide +kernel, by decide +kernel⟩
abbrev s_is_place : Stmt := topS 8
abbrev n_is_place : List Str := ["value", "arity", "root", "word"]
abbrev a_is_place : List Str := ["value", "arity"]
theorem sc_is_place : FnScope n_is_place a_is_place (defScope s_is_place) := ⟨rfl, rfl, rfl, by decide +kernel, rfl, by decide +kernel, by decide +kernel⟩
abbrev s_l_cell : Stmt := topS 10
abbrev n_l_cell : List Str := ["_law_script", "_law_k"]
abbrev a_l_cell : List Str := ["_law_script", "_law_k"]
theorem sc_l_cell : FnScope n_l_cell a_l_cell (defScope s_l_cell) := ⟨rfl, rfl, rfl, by decide +kernel, rfl, by decide +kernel, by decide +kernel⟩
abbrev s_l_box : Stmt := topS 11
abbrev n_l_box : List Str := ["_law_cell_here"]
abbrev a_l_box : List Str := ["_law_cell_here"]
theorem sc_l_box : FnScope n_l_box a_l_box (defScope s_l_box) := ⟨rfl, rfl, rfl, by decide +kernel, rfl, by decide +kernel, by decide +kernel⟩
abbrev s_l_take : Stmt := topS 12
abbrev n_l_take : List Str := ["_law_box_here", "_law_many", "_law_digit", "_law_number"]
abbrev a_l_take : List Str := ["_law_box_here", "_law_many"]
theorem sc_l_take : FnScope n_l_take a_l_take (defScope s_l_take) := ⟨rfl, rfl, rfl, by decide +kernel, rfl, by decide +kernel, by decide +kernel⟩
abbrev s_l_word : Stmt := topS 14
abbrev n_l_word : List Str := ["_law_box_here", "_law_arity", "_law_most", "_law_k"]
abbrev a_l_word : List Str := ["_law_box_here", "_law_arity", "_law_most"]
theorem sc_l_word : FnScope n_l_word a_l_word (defScope s_l_word) := ⟨rfl, rfl, rfl, by decide +kernel, rfl, by decide +kernel, by decide +kernel⟩
abbrev s_l_value : Stmt := topS 15
abbrev n_l_value : List Str := ["_law_box_here", "_law_arity", "_law_word_here", "_law_root", "_law_at", "_law_odd", "_law_some"]
abbrev a_l_value : List Str := ["_law_box_here", "_law_arity"]
theorem sc_l_value : FnScope n_l_value a_l_value (defScope s_l_value) := ⟨rfl, rfl, rfl, by decide +kernel, rfl, by decide +kernel, by decide +kernel⟩
abbrev s_l_is_word : Stmt := topS 16
abbrev n_l_is_word : List Str := ["_law_value_here", "_law_arity", "_law_sign"]
abbrev a_l_is_word : List Str := ["_law_value_here", "_law_arity"]
theorem sc_l_is_word : FnScope n_l_is_word a_l_is_word (defScope s_l_is_word) := ⟨rfl, rfl, rfl, by decide +kernel, rfl, by decide +kernel, by decide +kernel⟩
abbrev s_l_is_whole : Stmt := topS 17
abbrev n_l_is_whole : List Str := ["_law_value_here"]
abbrev a_l_is_whole : List Str := ["_law_value_here"]
theorem sc_l_is_whole : FnScope n_l_is_whole a_l_is_whole (defScope s_l_is_whole) := ⟨rfl, rfl, rfl, by decide +kernel, rfl, by decide +kernel, by decide +kernel⟩
abbrev s_law : Stmt := topS 18
abbrev n_law : List Str := ["_law_script", "_law_k", "_law_box_here", "_law_turn", "_law_arity", "_law_value_here", "_law_stood", "_law_low", "_law_high", "_law_due"]
abbrev a_law : List Str := ["_law_script"]
theorem sc_law : FnScope n_law a_law (defScope s_law) := ⟨rfl, rfl, rfl, by decide +kernel, rfl, by decide +kernel, by decide +kernel⟩
structure Tx (K : PySem.W.Frag) (mg : Str → Option Value) : Prop where
  c_DIGITS : ∃ t, mg "DIGITS" = some (.str "0123" t)
  c_LEAST_ARITY : ∃ t, mg "LEAST_ARITY" = some (.int 2 t)
  c_MOST_ARITY : ∃ t, mg "MOST_ARITY" = some (.int 4 t)
  n_isinstance : mg "isinstance" = none
  n_bool : mg "bool" = none
  n_int : mg "int" = none
  n_str : mg "str" = none
  n_len : mg "len" = none
  n_tuple : mg "tuple" = none
  n_max : mg "max" = none
  n_range : mg "range" = none
  n_min : mg "min" = none
  n_repr : mg "repr" = none
  d_is_integer : Def K mg "is_integer" s_is_integer a_is_integer
  d_is_natural : Def K mg "is_natural" s_is_natural a_is_natural
  d_is_arity : Def K mg "is_arity" s_is_arity a_is_arity
  d_is_word : Def K mg "is_word" s_is_word a_is_word
  d_is_place : Def K mg "is_place" s_is_place a_is_place
  d_l_cell : Def K mg "_law_cell" s_l_cell a_l_cell
  d_l_box : Def K mg "_law_box" s_l_box a_l_box
  d_l_take : Def K mg "_law_take" s_l_take a_l_take
  d_l_word : Def K mg "_law_word" s_l_word a_l_word
  d_l_value : Def K mg "_law_value" s_l_value a_l_value
  d_l_is_word : Def K mg "_law_is_word" s_l_is_word a_l_is_word
  d_l_is_whole : Def K mg "_law_is_whole" s_l_is_whole a_l_is_whole
  d_law : Def K mg "law" s_law a_law
section
variable {P : Program} {w : World} {K : PySem.W.Frag} {mg : Str → Option Value} {base : Heap}
/-! ### the law's draws -/
theorem ok_l_cell (T : Tx K mg) : Has P w K mg base "_law_cell" a_l_cell 1 (spCell K) := by
  refine T.d_l_cell.has sc_l_cell (fun vs H Q E h => ?_) (fun f cdv A outer s H vs Q E hr h => ?_)
  · obtain ⟨a, ns, k, rfl, _⟩ := h
    rfl
  · obtain ⟨a, ns, k, rfl, hS, hl, h0, h1, q⟩ := h
    refine ⟨_, (pss_cons (ps_if (pt_cmpR op_lt (pv 1) (pe_callB call_len_seq (by rfl) T.n_len (by decide +kernel) (pa_cons (pv 0) pa_nil)) (nomark _)) (pss_one (ps_ret (pe_ix ix_list (pv 0) (pv 1) (fun _ _ => rfl)))) pss_nil)
      (pss_one (ps_ret (pe_op op_add (pe_op op_mul pe_int (pv 1)) pe_int)))), ?_⟩
    refine ⟨_, rfl, _, rfl, a, _, rfl, .inl hS, _, _, rfl, rfl, _, rfl, ite2 (fun e => ?_) (fun e => ?_)⟩
    · have hk : k < ((ns.map V.int).length : Int) := of_decide_eq_true e
      obtain ⟨v, e1, e2⟩ := atI_in h0 hk
      obtain ⟨n, _, rfl⟩ := List.mem_map.mp e2
      exact ⟨_, rfl, _, rfl, a, _, _, _, rfl, rfl, hS, e1, q n⟩
    · exact ⟨_, rfl, _, _, rfl, rfl, .inl ⟨by decide, by decide⟩, _, _, rfl, rfl, q _⟩
theorem ok_l_box (T : Tx K mg) : Has P w K mg base "_law_box" a_l_box 1 spBox := by
  refine T.d_l_box.has sc_l_box (fun vs H Q E h => ?_) (fun f cdv A outer s H vs Q E hr h => ?_)
  · obtain ⟨c, rfl, _⟩ := h
    rfl
  · obtain ⟨c, rfl, q⟩ := h
    refine ⟨_, (pss_one (ps_ret (pe_lst (pa_cons (pe_callB (call_max2 rfl) (by rfl) T.n_max (by decide +kernel) (pa_cons pe_int (pa_cons (pe_op op_sub (pv 0) (pe_op op_pow pe_int pe_int)) pa_nil))) (pa_cons (pe_op op_modN (pv 0) pe_int) (pa_cons pe_int pa_nil)))))), ?_⟩
    refine ⟨_, rfl, _, _, rfl, rfl, ⟨by decide, by decide, by decide⟩, _, _, rfl, rfl, _, _, rfl, _, rfl, _, _, rfl, rfl, (by show (_ : Int) ≠ 0; decide), (by decide : 3 ≤ sizeLine), fun p hp => ?_⟩
    refine q p _ hp (fun b o e => ?_) ⟨_, _, 0, upd_same, ?_, ?_, ?_, Int.le_refl 0, Int.le_refl 0⟩
    · rw [upd_ne (ne_of_none e hp)]
      exact e
    · split <;> omega
    · rw [Int.fmod_eq_emod_of_nonneg _ (by decide)]
      exact Int.emod_nonneg _ (by decide)
    · rw [Int.fmod_eq_emod_of_nonneg _ (by decide)]
      exact Int.emod_lt_of_pos _ (by decide)
theorem ok_l_take (T : Tx K mg) : Has P w K mg base "_law_take" a_l_take 1 spTake := by
  refine T.d_l_take.has sc_l_take (fun vs H Q E h => ?_) (fun f cdv A outer s H vs Q E hr h => ?_)
  · obtain ⟨b, m, n, rfl, _⟩ := h
    rfl
  · obtain ⟨b, m, n, rfl, ⟨x, y, z, hb, x0, y0, y1, z0, z1⟩, hn, m0, m1, q⟩ := h
    refine ⟨_, (pss_cons (ps_if (pt_cmpR op_gt (pe_ix ix_list (pv 0) pe_int (fun _ _ => rfl)) pe_int (nomark _)) (pss_cons (ps_set (i := 2) sc_l_take.nd rfl (.inl rfl) (pe_op op_modN (pe_ix ix_list (pv 0) pe_int (fun _ _ => rfl)) (pv 1)))
      (pss_cons (ps_asg (pe_op op_fdivN (pe_ix ix_list (pv 0) pe_int (fun _ _ => rfl)) (pv 1)) (pg_sub (pv 0) pe_int set_list))
      (pss_one (ps_ret (pv 2))))) pss_nil)
      (pss_cons (ps_asg (pe_op op_add (pe_ix ix_list (pv 0) pe_int (fun _ _ => rfl)) pe_int) (pg_sub (pv 0) pe_int set_list))
      (pss_cons (ps_set (i := 3) sc_l_take.nd rfl (.inl rfl) (pe_op op_modN (pe_op op_pow (pe_op op_add (pe_op op_add (pe_ix ix_list (pv 0) pe_int (fun _ _ => rfl)) (pe_op op_mul pe_int (pe_ix ix_list (pv 0) pe_int (fun _ _ => rfl)))) pe_int) pe_int) pe_int))
      (pss_cons (ps_set (i := 3) sc_l_take.nd rfl (.inl rfl) (pe_op op_modN (pe_op op_pow (pe_op op_add (pv 3) (pe_op op_mul pe_int (pe_ix ix_list (pv 0) pe_int (fun _ _ => rfl)))) pe_int) pe_int))
      (pss_one (ps_ret (pe_op op_modN (pe_op op_fdivN (pv 3) pe_int) (pv 1)))))))), ?_⟩
    refine ⟨_, rfl, _, _, _, _, rfl, rfl, SqL.of hb, rfl, _, _, rfl, rfl, _, rfl, ite2 (fun e => ?_) (fun e => ?_)⟩
    · refine ⟨_, rfl, _, _, _, _, rfl, rfl, SqL.of hb, rfl, _, rfl, _, _, rfl, rfl, (by omega), ?_⟩
      refine ⟨_, rfl, _, _, _, _, rfl, rfl, SqL.of hb, rfl, _, rfl, _, _, rfl, rfl, ⟨by omega, by omega⟩, _, rfl, _, _, _, 0, rfl, rfl, hb, rfl, _, rfl, ?_⟩
      refine q _ _ ?_ ?_ ⟨x.fdiv m, y, z, upd_same, ?_, y0, y1, z0, by omega⟩ (.put rfl)
      · rw [Int.fmod_eq_emod_of_nonneg _ (by omega)]
        exact Int.emod_nonneg _ (by omega)
      · rw [Int.fmod_eq_emod_of_nonneg _ (by omega)]
        exact Int.emod_lt_of_pos _ m0
      · rw [Int.fdiv_eq_ediv_of_nonneg _ (by omega)]
        exact Int.ediv_nonneg x0 (by omega)
    · refine ⟨_, rfl, _, _, _, _, rfl, rfl, SqL.of hb, rfl, _, _, rfl, rfl, _, rfl, _, _, _, 2, rfl, rfl, hb, rfl, ?_⟩
      have hb1 : (upd H b (.lst ([V.int x, V.int y, V.int z].set 2 (V.int (z + 1))))) b = some (.lst [.int x, .int y, .int (z + 1)]) := upd_same
      refine ⟨_, rfl, _, _, _, _, rfl, rfl, SqL.of hb1, rfl, _, rfl, _, _, _, _, rfl, rfl, SqL.of hb1, rfl, _, _, rfl, rfl, .inl ⟨by decide, by decide⟩, _, _, rfl, rfl, _, _, rfl, rfl, _, _, rfl, rfl, ⟨by decide, by decide, by omega⟩, _, _, rfl, rfl, (by show (_ : Int) ≠ 0; decide), ?_⟩
      refine ⟨_, rfl, _, rfl, _, _, _, _, rfl, rfl, SqL.of hb1, rfl, _, _, rfl, rfl, .inl ⟨by decide, by decide⟩, _, _, rfl, rfl, _, _, rfl, rfl, ⟨by decide, by decide, ?_⟩, _, _, rfl, rfl, (by show (_ : Int) ≠ 0; decide), ?_⟩
      · exact drawn31 _ _ (by omega) (by omega)
      · refine ⟨_, rfl, _, _, rfl, rfl, ⟨by decide, by decide⟩, _, rfl, _, _, rfl, rfl, (by omega), ?_⟩
        refine q _ _ ?_ ?_ ⟨x, y, z + 1, hb1, x0, y0, y1, by omega, by omega⟩ (.put rfl)
        · rw [Int.fmod_eq_emod_of_nonneg _ (by omega)]
          exact Int.emod_nonneg _ (by omega)
        · rw [Int.fmod_eq_emod_of_nonneg _ (by omega)]
          exact Int.emod_lt_of_pos _ m0
theorem ok_l_word (T : Tx K mg) : Has P w K mg base "_law_word" a_l_word 2 spWord := by
  have G_l_take := ok_l_take (P := P) (w := w) (base := base) T
  refine T.d_l_word.has sc_l_word (fun vs H Q E h => ?_) (fun f cdv A outer s H vs Q E hr h => ?_)
  · obtain ⟨b, ar, m, n, rfl, _⟩ := h
    rfl
  · obtain ⟨b, ar, m, n, rfl, hB, hn, a0, a1, m0, m1, q⟩ := h
    refine ⟨_, (pss_one (ps_ret (pe_join pe_str (pe_lc (own := [("_law_k", 3)]) (g := gName 3) (tt := tYes) (by rfl) sc_l_word.nd (pi_range1 (by rfl) T.n_range (pa_cons (pe_callH G_l_take (hr.mono (by decide)) (by rfl) (pa_cons (pv 0) (pa_cons (pe_op op_add (pv 2) pe_int) pa_nil))) pa_nil)) (blkOk_by (own := [("_law_k", 3)]) (N := n_l_word) (sc := defScope s_l_word) (by decide +kernel)) (fun _ _ _ _ _ => (pg_name (i := 3) sc_l_word.nd rfl (.inl rfl))) (fun _ _ _ _ _ => pts_nil) (fun _ _ _ _ _ => (pe_ix ix_str pe_str (pe_callH G_l_take (hr.mono (by decide)) (by rfl) (pa_cons (pv 0) (pa_cons (pv 1) pa_nil))) (fun _ _ => rfl))))))), ?_⟩
    refine ⟨⟨_, rfl⟩, _, rfl, _, rfl, _, _, rfl, rfl, b, m + 1, n, rfl, hB, by omega, by omega, by omega, fun k H1 k0 k1 B1 E1 => ?_⟩
    refine ⟨k, rfl, by omega, by omega, fun D hD => ?_⟩
    have hbD : b ≠ D := B1.ne hD
    refine lc_range (lo := 0) (n := k.toNat) (fun i H' => ∃ zs : List Nat, zs.length = i ∧ (∀ c ∈ zs, 48 ≤ c ∧ (c : Int) < 48 + ar) ∧ H' D = some (.lst ((zs.map sg).map V.str)) ∧ Box H' b (n + 1 + i) ∧ Ext (At b) H H')
      ⟨[], rfl, (fun _ z => nomatch z), upd_same, B1.new hD, E1.trans (.new hD)⟩ ?_ ?_
    · rintro i H2 hi ⟨zs, hz, hc, hl, B2, E2⟩
      refine ⟨rfl, _, rfl, _, rfl, b, ar, n + 1 + i, rfl, B2, by omega, by omega, by omega, fun j H3 j0 j1 B3 E3 => ?_⟩
      have hl3 := E3.keep _ _ (fun z => hbD z.symm) hl
      refine ⟨_, _, _, rfl, rfl, (by decide), digit_at j0 (by omega), _, hl3, ?_, zs ++ [48 + j.toNat], by simp [hz], fun c hc' => ?_, ?_, B3.ext (.put (N := At D) rfl) hbD, ?_⟩
      · rw [List.length_map, List.length_map]
        exact small1000 (by omega)
      · rcases List.mem_append.mp hc' with z | z
        · exact hc c z
        · rw [List.mem_singleton.mp z]
          omega
      · rw [upd_same, List.map_append, List.map_append]
        rfl
      · refine ⟨fun c o nc e => ?_, fun c o e => ?_⟩
        · have nD : c ≠ D := ne_of_none e (E1.none hD)
          rw [upd_ne nD]
          exact E3.keep c o nc (E2.keep c o nc e)
        · have nD : c ≠ D := ne_of_none e (E1.none hD)
          obtain ⟨o', e'⟩ := (E2.trans E3).live c o e
          exact ⟨o', by rw [upd_ne nD]; exact e'⟩
    · rintro H2 ⟨zs, hz, hc, hl, B2, E2⟩
      refine ⟨_, D, zs.map sg, rfl, rfl, .inl (SqL.of hl), ?_, ?_⟩
      · rw [sum_signs]
        show zs.length + (zs.map sg).length * 0 ≤ _
        omega
      · refine q _ H2 (n + 1 + k.toNat) (fun c hc' => hc c ?_) ?_ (by omega) B2 E2
        · rw [← join_signs zs]
          exact hc'
        · rw [len_tl, join_signs]
          omega

/-! ### the program: words and places -/
theorem ok_is_integer (T : Tx K mg) : Has P w K mg base "is_integer" a_is_integer 1 spInt := by
  refine T.d_is_integer.has sc_is_integer (fun vs H Q E h => ?_) (fun f cdv A outer s H vs Q E hr h => ?_)
  · obtain ⟨N, v, d, lo, hi, rfl, _⟩ := h
    rfl
  · obtain ⟨N, v, d, lo, hi, rfl, hd, q⟩ := h
    refine ⟨_, (pss_one (ps_ret (pe_and (pe_callB call_isiQ (by rfl) T.n_isinstance (by decide +kernel) (pa_cons (pv 0) (pa_cons (pe_bltn (v := .ty "int") (u := .type "int") (by rfl) T.n_int (by decide +kernel) rfl) pa_nil))) (pe_and (pe_not (pe_callB call_isiQ (by rfl) T.n_isinstance (by decide +kernel) (pa_cons (pv 0) (pa_cons (pe_bltn (v := .ty "bool") (u := .type "bool") (by rfl) T.n_bool (by decide +kernel) rfl) pa_nil)))) (pe_one (pe_chain op_le op_le (pv 1) (pv 0) (pv 2))))))), ?_⟩
    refine ⟨_, rfl, N, _, d, "int", _, rfl, hd, kit_int d, _, rfl, ?_⟩
    cases hd with
    | int i =>
      refine iteT ⟨_, rfl, N, _, _, "bool", _, rfl, .int i, kit_bool _, _, rfl, _, rfl, iteT ⟨_, rfl, _, rfl, _, _, rfl, rfl, _, rfl, ?_⟩⟩
      by_cases h : lo ≤ i
      · rw [decide_eq_true h]
        refine iteT ⟨_, rfl, _, _, rfl, rfl, ?_⟩
        simpa [dInt, h] using q
      · rw [decide_eq_false h]
        refine iteF ?_
        simpa [dInt, h] using q
    | bl b => exact iteT ⟨_, rfl, N, _, _, "bool", _, rfl, .bl b, kit_bool _, _, rfl, _, rfl, iteF q⟩
    | non => exact iteF q
    | str x => exact iteF q
    | lst h n a => exact iteF q
    | tup h n a => exact iteF q
    | dct h n a b => exact iteF q
theorem ok_is_natural (T : Tx K mg) : Has P w K mg base "is_natural" a_is_natural 1 spNat := by
  refine T.d_is_natural.has sc_is_natural (fun vs H Q E h => ?_) (fun f cdv A outer s H vs Q E hr h => ?_)
  · obtain ⟨N, v, d, lo, rfl, _⟩ := h
    rfl
  · obtain ⟨N, v, d, lo, rfl, hd, q⟩ := h
    refine ⟨_, (pss_one (ps_ret (pe_and (pe_callB call_isiQ (by rfl) T.n_isinstance (by decide +kernel) (pa_cons (pv 0) (pa_cons (pe_bltn (v := .ty "int") (u := .type "int") (by rfl) T.n_int (by decide +kernel) rfl) pa_nil))) (pe_and (pe_not (pe_callB call_isiQ (by rfl) T.n_isinstance (by decide +kernel) (pa_cons (pv 0) (pa_cons (pe_bltn (v := .ty "bool") (u := .type "bool") (by rfl) T.n_bool (by decide +kernel) rfl) pa_nil)))) (pe_one (pe_cmpR op_le (pv 1) (pv 0) (nomark _))))))), ?_⟩
    refine ⟨_, rfl, N, _, d, "int", _, rfl, hd, kit_int d, _, rfl, ?_⟩
    cases hd with
    | int i => exact iteT ⟨_, rfl, N, _, _, "bool", _, rfl, .int i, kit_bool _, _, rfl, _, rfl, iteT ⟨_, rfl, _, rfl, _, _, rfl, rfl, q⟩⟩
    | bl b => exact iteT ⟨_, rfl, N, _, _, "bool", _, rfl, .bl b, kit_bool _, _, rfl, _, rfl, iteF q⟩
    | non => exact iteF q
    | str x => exact iteF q
    | lst h n a => exact iteF q
    | tup h n a => exact iteF q
    | dct h n a b => exact iteF q
theorem ok_is_arity (T : Tx K mg) : Has P w K mg base "is_arity" a_is_arity 2 spAr := by
  have G_is_integer := ok_is_integer (P := P) (w := w) (base := base) T
  refine T.d_is_arity.has sc_is_arity (fun vs H Q E h => ?_) (fun f cdv A outer s H vs Q E hr h => ?_)
  · obtain ⟨N, v, d, rfl, _⟩ := h
    rfl
  · obtain ⟨N, v, d, rfl, hd, q⟩ := h
    refine ⟨_, (pss_one (ps_ret (pe_callH G_is_integer (hr.mono (by decide)) (by rfl) (pa_cons (pv 0) (pa_cons (pe_glob (v := .int 2) (by rfl) T.c_LEAST_ARITY.choose_spec ⟨_, rfl⟩) (pa_cons (pe_glob (v := .int 4) (by rfl) T.c_MOST_ARITY.choose_spec ⟨_, rfl⟩) pa_nil)))))), ?_⟩
    exact ⟨_, rfl, N, v, d, 2, 4, rfl, hd, q⟩
theorem ok_is_word (T : Tx K mg) : Has P w K mg base "is_word" a_is_word 1 spIsWord := by
  refine T.d_is_word.has sc_is_word (fun vs H Q E h => ?_) (fun f cdv A outer s H vs Q E hr h => ?_)
  · obtain ⟨N, v, d, ar, k, rfl, _⟩ := h
    rfl
  · obtain ⟨N, v, d, ar, k, rfl, hd, a0, a1, fi, q⟩ := h
    refine ⟨_, (pss_one (ps_ret (pe_and (pe_callB call_isiQ (by rfl) T.n_isinstance (by decide +kernel) (pa_cons (pv 0) (pa_cons (pe_bltn (v := .ty "str") (u := .type "str") (by rfl) T.n_str (by decide +kernel) rfl) pa_nil))) (pe_one (pe_cmpR op_eq (pe_bm PySem.F.plainAttrs_str PySem.F.slot_str_strip PySem.F.type_str_strip mt_stripChars (pv 0) (pa_cons (pe_slice sl_str (pe_glob (v := .str "0123") (by rfl) T.c_DIGITS.choose_spec ⟨_, rfl⟩) po_none (po_some (pv 1))) pa_nil)) pe_str (nomark _)))))), ?_⟩
    refine ⟨_, rfl, N, _, d, "str", _, rfl, hd, kit_str d, _, rfl, ?_⟩
    cases hd with
    | str x =>
      have hx : x.length ≤ sizeLine := by
        have h1 : x.length ≤ 200000 := fi.bk
        rw [sizeLine_eq]
        omega
      refine iteT ⟨_, rfl, rfl, _, rfl, _, rfl, _, rfl, (by decide), _, _, rfl, rfl, hx, rfl, ?_⟩
      rw [strip_empty]
      have e : ((tl x).all fun c => (cutS ("0123" : Str) none (some ar)).cps.contains c) = (tl x).all (isDig ar) := congrArg _ (funext fun c => digits_cut a0 a1 c)
      rw [e]
      exact q
    | int i => exact iteF q
    | bl b => exact iteF q
    | non => exact iteF q
    | lst h n a => exact iteF q
    | tup h n a => exact iteF q
    | dct h n a b => exact iteF q
theorem ok_is_place (T : Tx K mg) : Has P w K mg base "is_place" a_is_place 2 spPlace := by
  have G_is_natural := ok_is_natural (P := P) (w := w) (base := base) T
  have G_is_word := ok_is_word (P := P) (w := w) (base := base) T
  refine T.d_is_place.has sc_is_place (fun vs H Q E h => ?_) (fun f cdv A outer s H vs Q E hr h => ?_)
  · obtain ⟨N, v, d, ar, k, rfl, _⟩ := h
    rfl
  · obtain ⟨N, v, d, ar, k, rfl, hd, a0, a1, fi, q⟩ := h
    refine ⟨_, (pss_cons (ps_if (PW.pt (pw_or (pt_not (pt_val (pe_callB call_isiQ (by rfl) T.n_isinstance (by decide +kernel) (pa_cons (pv 0) (pa_cons (pe_bltn (v := .ty "tuple") (u := .type "tuple") (by rfl) T.n_tuple (by decide +kernel) rfl) pa_nil))))) (pw_or1 (pt_cmpR op_ne (pe_callB call_len_seq (by rfl) T.n_len (by decide +kernel) (pa_cons (pv 0) pa_nil)) pe_int (nomark _))))) (pss_one (ps_ret pe_bl)) pss_nil)
      (pss_cons (ps_asg (pv 0) (pg_tup (by rfl) (pgs_cons (pg_name (i := 2) sc_is_place.nd rfl (.inl rfl)) (pgs_cons (pg_name (i := 3) sc_is_place.nd rfl (.inl rfl)) pgs_nil))))
      (pss_one (ps_ret (pe_and (pe_callH G_is_natural (hr.mono (by decide)) (by rfl) (pa_cons (pv 2) (pa_cons pe_int pa_nil))) (pe_one (pe_callH G_is_word (hr.mono (by decide)) (by rfl) (pa_cons (pv 3) (pa_cons (pv 1) pa_nil))))))))), ?_⟩
    refine ⟨_, rfl, N, _, d, "tuple", _, rfl, hd, kit_tuple d, _, rfl, ?_⟩
    cases hd with
    | @tup a xs ds h n al =>
      refine iteF ⟨_, rfl, a, xs, rfl, .inr (SqT.of h), rfl, _, rfl, ?_⟩
      have hl := al.length
      match xs, ds, al with
      | [], _, .nil => exact iteT q
      | [_], _, .cons _ .nil => exact iteT q
      | x1 :: x2 :: x3 :: t, _, .cons _ (.cons _ (.cons _ _)) =>
        refine ite2 (fun _ => q) (fun e => absurd ?_ e)
        have e1 : (decide (V.int ((x1 :: x2 :: x3 :: t : List V).length : Int) = V.int 2)) = false := decide_eq_false fun z => by
          have z1 := V.int.inj z
          simp only [List.length_cons] at z1
          omega
        simpa using e1
      | [x, y], [dx, dy], .cons hx (.cons hy .nil) =>
        refine iteF ⟨_, rfl, a, _, rfl, SqT.of h, rfl, x, _, rfl, y, _, rfl, rfl, _, rfl, N, x, dx, 0, rfl, hx, _, rfl, ?_⟩
        obtain ⟨j, rfl⟩ : ∃ j, k = j + 1 := ⟨k - 1, by have := fi.dp; simp only [PyData.depth] at this; omega⟩
        have fy : Fine 200000 j dy := fineAll_of (fine_items fi) (by simp)
        refine ite2 (fun e => ?_) (fun e => ?_)
        · refine ⟨_, rfl, _, rfl, N, y, dy, ar, j, rfl, hy, a0, a1, fy, ?_⟩
          have e' : dPlace ar (.tuple [dx, dy]) = dWord ar dy := by
            show (dNat 0 dx && dWord ar dy) = _
            rw [show dNat 0 dx = true from e]
            rfl
          rw [← e']
          exact q
        · have e' : dPlace ar (.tuple [dx, dy]) = false := by
            show (dNat 0 dx && dWord ar dy) = _
            rw [Bool.eq_false_iff.mpr e]
            rfl
          rw [← e']
          exact q
    | str x => exact iteT q
    | int i => exact iteT q
    | bl b => exact iteT q
    | non => exact iteT q
    | lst h n a => exact iteT q
    | dct h n a b => exact iteT q

/-! ### the law's own readings -/
theorem ok_l_is_whole (T : Tx K mg) : Has P w K mg base "_law_is_whole" a_l_is_whole 1 spWhole := by
  refine T.d_l_is_whole.has sc_l_is_whole (fun vs H Q E h => ?_) (fun f cdv A outer s H vs Q E hr h => ?_)
  · obtain ⟨N, v, d, rfl, _⟩ := h
    rfl
  · obtain ⟨N, v, d, rfl, hd, q⟩ := h
    refine ⟨_, (pss_one (ps_ret (pe_and (pe_callB call_isiQ (by rfl) T.n_isinstance (by decide +kernel) (pa_cons (pv 0) (pa_cons (pe_bltn (v := .ty "int") (u := .type "int") (by rfl) T.n_int (by decide +kernel) rfl) pa_nil))) (pe_one (pe_not (pe_callB call_isiQ (by rfl) T.n_isinstance (by decide +kernel) (pa_cons (pv 0) (pa_cons (pe_bltn (v := .ty "bool") (u := .type "bool") (by rfl) T.n_bool (by decide +kernel) rfl) pa_nil)))))))), ?_⟩
    refine ⟨_, rfl, N, _, d, "int", _, rfl, hd, kit_int d, _, rfl, ?_⟩
    cases hd with
    | int i => exact iteT ⟨_, rfl, N, _, _, "bool", _, rfl, .int i, kit_bool _, _, rfl, q⟩
    | bl b => exact iteT ⟨_, rfl, N, _, _, "bool", _, rfl, .bl b, kit_bool _, _, rfl, q⟩
    | non => exact iteF q
    | str x => exact iteF q
    | lst h n a => exact iteF q
    | tup h n a => exact iteF q
    | dct h n a b => exact iteF q
theorem ok_l_is_word (T : Tx K mg) : Has P w K mg base "_law_is_word" a_l_is_word 1 spIsWord' := by
  refine T.d_l_is_word.has sc_l_is_word (fun vs H Q E h => ?_) (fun f cdv A outer s H vs Q E hr h => ?_)
  · obtain ⟨N, v, d, ar, k, rfl, _⟩ := h
    rfl
  · obtain ⟨N, v, d, ar, k, rfl, hd, hL, a0, a1, fi, q⟩ := h
    refine ⟨_, (pss_cons (ps_if (pt_not (pt_val (pe_callB call_isiQ (by rfl) T.n_isinstance (by decide +kernel) (pa_cons (pv 0) (pa_cons (pe_bltn (v := .ty "str") (u := .type "str") (by rfl) T.n_str (by decide +kernel) rfl) pa_nil))))) (pss_one (ps_ret pe_bl)) pss_nil)
      (pss_one (ps_ret (pe_cmpR (op_eqQ hr.units) (pe_lc (own := [("_law_sign", 2)]) (g := gName 2) (by rfl) sc_l_is_word.nd (pi_str (pv 0)) (blkOk_by (own := [("_law_sign", 2)]) (N := n_l_is_word) (sc := defScope s_l_is_word) (by decide +kernel)) (fun _ _ _ _ _ => (pg_name (i := 2) sc_l_is_word.nd rfl (.inl rfl))) (fun _ _ _ _ _ => (pts_one (pt_cmpR op_notIn_sign (pv 2) (pe_slice sl_str pe_str po_none (po_some (pv 1))) rfl))) (fun _ _ _ _ _ => (pv 2))) (pe_lst pa_nil) (nomark _))))), ?_⟩
    refine ⟨_, rfl, N, _, d, "str", _, rfl, hd, kit_str d, _, rfl, ?_⟩
    cases hd with
    | str x =>
      have hx : x.length ≤ 200000 := fi.bk
      refine iteF ⟨_, rfl, _, rfl, fun D hD => ?_⟩
      refine lc_text (x := x) (fun i H' => ∃ zs : List Nat, zs = (((tl x).take i).filter fun c => !isDig ar c) ∧ H' D = some (.lst ((zs.map sg).map V.str)) ∧ Ext No H H')
        ⟨[], rfl, upd_same, .new hD⟩ ?_ ?_
      · rintro i c H2 hi ⟨zs, rfl, hl, e2⟩
        have hDN : ¬ N D := hL.not hD
        refine ⟨rfl, _, rfl, _, rfl, _, rfl, _, rfl, (by decide), c, _, rfl, rfl, _, rfl, ?_⟩
        have ed : decide (c ∈ (cutS ("0123" : Str) none (some ar)).cps.toList) = isDig ar c := by
          rw [← digits_cut a0 a1 c]
          cases h : (cutS ("0123" : Str) none (some ar)).cps.contains c with
          | true => exact decide_eq_true (Array.mem_toList_iff.mpr (Array.contains_iff_mem.mp h))
          | false => exact decide_eq_false fun z => by rw [Array.contains_iff_mem.mpr (Array.mem_toList_iff.mp z)] at h; cases h
        rw [ed]
        have hnext : (tl x).take (i + 1) = (tl x).take i ++ [c] := by
          rw [List.take_add_one]
          have : (tl x)[i]? = some c := by rw [Array.getElem?_toList]; exact hi
          rw [this]
          rfl
        have hil : i < x.length := (Array.getElem?_eq_some_iff.mp hi).1
        cases hc : isDig ar c with
        | true =>
          refine iteF ⟨_, ?_, hl, e2⟩
          rw [hnext, List.filter_append, List.filter_cons, hc]
          simp
        | false =>
          refine iteT ⟨_, rfl, _, hl, ?_, (((tl x).take i).filter fun c => !isDig ar c) ++ [c], ?_, ?_, ?_⟩
          · rw [List.length_map, List.length_map, sizeLine_eq]
            have h1 := List.length_filter_le (fun c => !isDig ar c) ((tl x).take i)
            rw [List.length_take] at h1
            omega
          · rw [hnext, List.filter_append, List.filter_cons, hc]
            rfl
          · rw [upd_same, List.map_append, List.map_append]
            rfl
          · refine ⟨fun b o n e => ?_, fun b o e => ?_⟩
            · rw [upd_ne (ne_of_none e hD)]
              exact e2.keep b o n e
            · obtain ⟨o', e'⟩ := e2.live b o e
              exact ⟨o', by rw [upd_ne (ne_of_none e hD)]; exact e'⟩
      · rintro H2 ⟨zs, rfl, hl, e2⟩
        have ht : (tl x).take x.cps.size = tl x := List.take_of_length_le (by rw [← len_tl]; exact Nat.le_refl _)
        rw [ht] at hl
        refine ⟨Nat.zero_le _, fun r hr => ?_⟩
        have hDr : D ≠ r := ne_of_none hl hr
        have hDN : ¬ N D := hL.not hD
        have hrN : ¬ N r := (hL.ext (e2.any (N := N))).not hr
        have hall : ∀ (l : List Nat), DqAll N (upd H2 r (.lst [])) ((l.map sg).map V.str) (l.map fun c => .str (sg c)) := fun l => by
          induction l with
          | nil => exact .nil
          | cons c r ih => exact .cons (.str _) ih
        refine ⟨N, .list (((tl x).filter fun c => !isDig ar c).map fun c => .str (sg c)), .list [], .lst (by rw [upd_ne hDr]; exact hl) hDN (hall _), .lst upd_same hrN .nil, ?_, (by decide +kernel), ?_⟩
        · exact shaped_signs _ fun c hc => fine_cps fi c (List.mem_filter.mp hc).1
        · have e : (if false = true then !PyData.eqv (.list (((tl x).filter fun c => !isDig ar c).map fun c => .str (sg c))) (.list []) else PyData.eqv (.list (((tl x).filter fun c => !isDig ar c).map fun c => .str (sg c))) (.list [])) = dWord ar (.str x) := by
            show PyData.eqvAll _ [] = (tl x).all (isDig ar)
            rw [eqvAll_nil]
            exact filter_none _
          rw [e]
          exact q _ (e2.trans (.new hr))
    | int i => exact iteT (q _ .refl)
    | bl b => exact iteT (q _ .refl)
    | non => exact iteT (q _ .refl)
    | lst h n a => exact iteT (q _ .refl)
    | tup h n a => exact iteT (q _ .refl)
    | dct h n a b => exact iteT (q _ .refl)
theorem ok_l_value (T : Tx K mg) : Has P w K mg base "_law_value" a_l_value 3 spValue := by
  have G_l_take := ok_l_take (P := P) (w := w) (base := base) T
  have G_l_word := ok_l_word (P := P) (w := w) (base := base) T
  refine T.d_l_value.has sc_l_value (fun vs H Q E h => ?_) (fun f cdv A outer s H vs Q E hr h => ?_)
  · obtain ⟨b, ar, n, rfl, _⟩ := h
    rfl
  · obtain ⟨b, ar, n, rfl, hB, hn, a0, a1, q⟩ := h
    refine ⟨_, (pss_cons (ps_par (i := 2) (j := 3) (by rfl) sc_l_value.nd rfl rfl (by decide) rfl rfl (pa_cons (pe_callH G_l_word (hr.mono (by decide)) (by rfl) (pa_cons (pv 0) (pa_cons (pv 1) (pa_cons pe_int pa_nil)))) (pa_cons (pe_callH G_l_take (hr.mono (by decide)) (by rfl) (pa_cons (pv 0) (pa_cons pe_int pa_nil))) pa_nil)) (by rfl))
      (pss_cons (ps_set (i := 4) sc_l_value.nd rfl (.inl rfl) (pe_callH G_l_take (hr.mono (by decide)) (by rfl) (pa_cons (pv 0) (pa_cons (pe_op op_add (pe_callB call_len_str (by rfl) T.n_len (by decide +kernel) (pa_cons (pv 2) pa_nil)) pe_int) pa_nil))))
      (pss_cons (ps_set (i := 5) sc_l_value.nd rfl (.inl rfl) (pe_op op_add_str (pe_op op_add_str (pe_slice sl_str (pv 2) po_none (po_some (pv 4))) (pe_ix ix_list (pe_lst (pa_cons (pe_slice sl_str pe_str (po_some (pv 1)) (po_some (pe_op op_add (pv 1) pe_int))) (pa_cons pe_str (pa_cons pe_str (pa_cons pe_str (pa_cons pe_str (pa_cons pe_str (pa_cons pe_str (pa_cons pe_str pa_nil))))))))) (pe_callH G_l_take (hr.mono (by decide)) (by rfl) (pa_cons (pv 0) (pa_cons pe_int pa_nil))) (fun _ _ => rfl))) (pe_slice sl_str (pv 2) (po_some (pv 4)) po_none)))
      (pss_cons (ps_set (i := 6) sc_l_value.nd rfl (.inl rfl) (pe_lst (pa_cons (pv 2) (pa_cons (pv 5) (pa_cons pe_str (pa_cons (pe_op op_mulSI pe_str pe_int) (pa_cons (pe_tup (pa_cons (pv 3) (pa_cons (pv 2) pa_nil))) (pa_cons (pe_tup (pa_cons (pv 3) (pa_cons (pv 5) pa_nil))) (pa_cons (pe_tup (pa_cons (pv 3) (pa_cons pe_str pa_nil))) (pa_cons (pe_lst (pa_cons (pv 3) (pa_cons (pv 2) pa_nil))) (pa_cons (pe_tup (pa_cons (pv 3) pa_nil)) (pa_cons (pe_tup (pa_cons (pv 3) (pa_cons (pv 2) (pa_cons (pv 2) pa_nil)))) pa_nil))))))))))))
      (pss_cons (ps_set (i := 6) sc_l_value.nd rfl (.inl rfl) (pe_op op_cat (pv 6) (pe_lst (pa_cons (pe_tup (pa_cons (pe_un un_neg pe_int) (pa_cons (pv 2) pa_nil))) (pa_cons (pe_tup (pa_cons pe_bl (pa_cons (pv 2) pa_nil))) (pa_cons (pe_tup (pa_cons (pv 2) (pa_cons (pv 3) pa_nil))) (pa_cons (pe_tup (pa_cons (pv 3) (pa_cons pe_non pa_nil))) (pa_cons (pe_tup (pa_cons (pe_op op_pow pe_int pe_int) (pa_cons (pv 2) pa_nil))) (pa_cons (pe_tup pa_nil) (pa_cons pe_non (pa_cons pe_bl (pa_cons pe_bl (pa_cons (pv 3) pa_nil)))))))))))))
      (pss_cons (ps_set (i := 6) sc_l_value.nd rfl (.inl rfl) (pe_op op_cat (pv 6) (pe_lst (pa_cons pe_int (pa_cons pe_int (pa_cons pe_int (pa_cons pe_int (pa_cons (pe_un un_neg pe_int) (pa_cons pe_int (pa_cons (pe_op op_pow pe_int pe_int) (pa_cons (pe_un un_neg (pe_op op_pow pe_int pe_int)) (pa_cons pe_dnewK (pa_cons (pe_lst pa_nil) (pa_cons (pe_disp (pps_cons pe_str pe_int pps_nil) (by rfl) (by rfl) (fun z => by cases z) (by decide)) (pa_cons (pe_lst (pa_cons (pv 2) pa_nil)) (pa_cons (pe_tup (pa_cons (pv 3) (pa_cons (pe_lst (pa_cons (pv 2) pa_nil)) pa_nil))) (pa_cons (pe_tup (pa_cons pe_non (pa_cons (pv 2) pa_nil))) pa_nil)))))))))))))))))
      (pss_one (ps_ret (pe_ix ix_list (pv 6) (pe_callH G_l_take (hr.mono (by decide)) (by rfl) (pa_cons (pv 0) (pa_cons (pe_callB call_len_seq (by rfl) T.n_len (by decide +kernel) (pa_cons (pv 6) pa_nil)) pa_nil))) (fun _ _ => rfl)))))))))), ?_⟩
    -- the word, the root
    refine ⟨_, rfl, _, rfl, b, ar, 6, n, rfl, hB, by omega, a0, a1, by decide, by decide, fun z H1 n1 dz lz hn1 B1 E1 => ?_⟩
    refine ⟨_, rfl, b, 12, n1, rfl, B1, by omega, by decide, by decide, fun r H2 r0 r1 B2 E2 => ?_⟩
    refine ⟨_, _, rfl, ?_⟩
    have hz6 : z.length ≤ 6 := by omega
    have zc : ∀ c ∈ tl z, c < 1114112 := fun c hc => by have := dz c hc; omega
    -- the place in it
    refine ⟨_, rfl, _, rfl, z, rfl, (by rw [sizeLine_eq]; omega), _, _, rfl, rfl, b, (z.length : Int) + 1, n1 + 1, rfl, B2, by omega, by omega, by omega, fun at_ H3 t0 t1 B3 E3 => ?_⟩
    -- the odd one
    refine ⟨_, rfl, _, rfl, _, rfl, z, rfl, (by rw [sizeLine_eq]; omega), _, rfl, _, rfl, _, rfl, _, _, rfl, rfl, _, rfl, _, rfl, (by decide), (by decide : 8 ≤ sizeLine), fun p hp => ?_⟩
    refine ⟨_, rfl, b, 8, n1 + 1 + 1, rfl, B3.new hp, by omega, by decide, by decide, fun j H4 j0 j1 B4 E4 => ?_⟩
    have hpb : p ≠ b := (B3.ne hp).symm
    have l4 := E4.keep p _ hpb upd_same
    obtain ⟨u, hu, um⟩ := atI_in (xs := [V.str (cutS ("0123" : Str) (some ar) (some (ar + 1))), .str "4", .str " ", .str "a", .str "-", .str "A", .str "\n", .str "."]) j0 j1
    obtain ⟨y, rfl, hy, yc⟩ : ∃ y : Str, u = .str y ∧ y.length ≤ 4 ∧ ∀ c ∈ tl y, c < 1114112 := by
      have hc : ∀ c ∈ tl (cutS ("0123" : Str) (some ar) (some (ar + 1))), c < 1114112 := fun c hc => by
        have := cutS_mem hc
        have h2 : c = 48 ∨ c = 49 ∨ c = 50 ∨ c = 51 := by simpa using (show c ∈ [48, 49, 50, 51] from this)
        omega
      simp only [List.mem_cons, List.not_mem_nil, or_false] at um
      rcases um with rfl | rfl | rfl | rfl | rfl | rfl | rfl | rfl
      · exact ⟨_, rfl, cutS_length _ _ _, hc⟩
      all_goals exact ⟨_, rfl, by decide, by decide +kernel⟩
    refine ⟨_, _, _, _, rfl, rfl, SqL.of l4, hu, ?_⟩
    have c1 := cutS_length z none (some at_)
    have c2 := cutS_length z (some at_) none
    refine ⟨_, _, rfl, rfl, (by rw [sizeLine_eq]; omega), ?_⟩
    have l1 : (cutS z none (some at_) ++ y).length = (cutS z none (some at_)).length + y.length := strLen_append _ _
    refine ⟨_, rfl, _, rfl, _, rfl, z, rfl, (by rw [sizeLine_eq]; omega), _, _, rfl, rfl, (by rw [sizeLine_eq]; omega), ?_⟩
    have l2 : (cutS z none (some at_) ++ y ++ cutS z (some at_) none).length = (cutS z none (some at_)).length + y.length + (cutS z (some at_) none).length := by rw [strLen_append, strLen_append]
    have oc : ∀ c ∈ tl (cutS z none (some at_) ++ y ++ cutS z (some at_) none), c < 1114112 := fun c hc => by
      rw [tl_append, tl_append] at hc
      rcases List.mem_append.mp hc with hc | hc
      · rcases List.mem_append.mp hc with hc | hc
        · exact zc c (cutS_mem hc)
        · exact yc c hc
      · exact zc c (cutS_mem hc)
    generalize cutS z none (some at_) ++ y ++ cutS z (some at_) none = odd at l2 oc ⊢
    have lo : odd.length ≤ 16 := by omega
    -- the values
    have L : Live (At b) H4 := B4.live
    have nv2 : Nice (At b) 6 0 H4 (.str z) := ⟨_, .str z, fine_str zc hz6⟩
    have nv3 : Nice (At b) 0 0 H4 (.int r) := ⟨_, .int r, fine_int (by omega)⟩
    have nv5 : Nice (At b) 16 0 H4 (.str odd) := ⟨_, .str odd, fine_str oc lo⟩
    dsimp only [gName]
    refine seq_set ?_
    refine lst_use (N := At b) (w := 800) (k := 3) L (evds_le (evds_cons (evd_var rfl nv2) (evds_cons (evd_var rfl nv5) (evds_cons (evd_str (w := 0) (by decide +kernel) (by decide)) (evds_cons (evd_mul (w := 600) (by decide) (by decide) (by decide) (by decide +kernel) (by decide +kernel)) (evds_cons (evd_tup L (by decide) (evds_cons (evd_var rfl nv3) (evds_cons (evd_var rfl nv2) evds_nil))) (evds_cons (evd_tup L (by decide) (evds_cons (evd_var rfl nv3) (evds_cons (evd_var rfl nv5) evds_nil))) (evds_cons (evd_tup L (by decide) (evds_cons (evd_var rfl nv3) (evds_cons (evd_str (w := 0) (by decide +kernel) (by decide)) evds_nil))) (evds_cons (evd_lst L (by decide) (evds_cons (evd_var rfl nv3) (evds_cons (evd_var rfl nv2) evds_nil))) (evds_cons (evd_tup L (by decide) (evds_cons (evd_var rfl nv3) evds_nil)) (evds_cons (evd_tup L (by decide) (evds_cons (evd_var rfl nv3) (evds_cons (evd_var rfl nv2) (evds_cons (evd_var rfl nv2) evds_nil)))) evds_nil)))))))))) (by decide)) (by decide) fun xs1 ds1 p1 H5 m1 q1 f1 e1 np1 E5 => ?_
    refine seq_set ?_
    refine ⟨_, rfl, ?_⟩
    have L5 : Live (At b) H5 := L.ext (E5.any (N := At b))
    have nv2 := nv2.ext E5.any
    have nv3 := nv3.ext E5.any
    have nv5 := nv5.ext E5.any
    refine lst_use (N := At b) (w := 100) (k := 3) L5 (evds_le (have L := L5; (evds_cons (evd_tup L (by decide) (evds_cons (evd_i (evi_neg (evi_c _)) (by decide +kernel)) (evds_cons (evd_var rfl nv2) evds_nil))) (evds_cons (evd_tup L (by decide) (evds_cons evd_bl (evds_cons (evd_var rfl nv2) evds_nil))) (evds_cons (evd_tup L (by decide) (evds_cons (evd_var rfl nv2) (evds_cons (evd_var rfl nv3) evds_nil))) (evds_cons (evd_tup L (by decide) (evds_cons (evd_var rfl nv3) (evds_cons evd_non evds_nil))) (evds_cons (evd_tup L (by decide) (evds_cons (evd_i (evi_pow (evi_c _) (evi_c _) ⟨by decide, by decide, by decide⟩) (by decide +kernel)) (evds_cons (evd_var rfl nv2) evds_nil))) (evds_cons (evd_tup L (by decide) evds_nil) (evds_cons evd_non (evds_cons evd_bl (evds_cons evd_bl (evds_cons (evd_var rfl nv3) evds_nil))))))))))) (by decide)) (by decide) fun xs2 ds2 p2 H6 m2 q2 f2 e2 np2 E6 => ?_
    refine ⟨p1, p2, xs1, xs2, rfl, rfl, E6.keep _ _ id e1, e2, by rw [q1.length, q2.length, sizeLine_eq]; have a1 := bulk_len ds1; have a2 := bulk_len ds2; have a3 := f1.bk; have a4 := f2.bk; omega, fun p3 hp3 => ?_⟩
    dsimp only [gName]
    refine seq_set ?_
    refine ⟨_, rfl, ?_⟩
    have E7 : Ext No H5 (upd H6 p3 (.lst (xs1 ++ xs2))) := E6.trans (.new hp3)
    have L7 : Live (At b) (upd H6 p3 (.lst (xs1 ++ xs2))) := L5.ext (E7.any (N := At b))
    have nv2 := nv2.ext E7.any
    have nv3 := nv3.ext E7.any
    have nv5 := nv5.ext E7.any
    have q3 := ((q1.ext E6.any).append q2).ext (Ext.new (o := .lst (xs1 ++ xs2)) hp3)
    have f3 := fineAll_append f1 f2
    refine lst_use (N := At b) (w := 100) (k := 3) L7 (evds_le (have L := L7; (evds_cons (evd_int (by decide)) (evds_cons (evd_int (by decide)) (evds_cons (evd_int (by decide)) (evds_cons (evd_int (by decide)) (evds_cons (evd_i (evi_neg (evi_c _)) (by decide +kernel)) (evds_cons (evd_int (by decide)) (evds_cons (evd_i (evi_pow (evi_c _) (evi_c _) ⟨by decide, by decide, by decide⟩) (by decide +kernel)) (evds_cons (evd_i (evi_neg (evi_pow (evi_c _) (evi_c _) ⟨by decide, by decide, by decide⟩)) (by decide +kernel)) (evds_cons (evd_dnew L) (evds_cons (evd_lst L (by decide) evds_nil) (evds_cons (evd_disp1 L (by decide +kernel) (by decide)) (evds_cons (evd_lst L (by decide) (evds_cons (evd_var rfl nv2) evds_nil)) (evds_cons (evd_tup L (by decide) (evds_cons (evd_var rfl nv3) (evds_cons (evd_lst L (by decide) (evds_cons (evd_var rfl nv2) evds_nil)) evds_nil))) (evds_cons (evd_tup L (by decide) (evds_cons evd_non (evds_cons (evd_var rfl nv2) evds_nil))) evds_nil))))))))))))))) (by decide)) (by decide) fun xs4 ds4 p4 H8 m4 q4 f4 e4 np4 E8 => ?_
    have hds4 : 0 < ds4.length := by rw [← q4.length, m4]; decide
    have e3 := E8.keep p3 _ id upd_same
    refine ⟨p3, p4, xs1 ++ xs2, xs4, rfl, rfl, e3, e4, by rw [(q3.length), q4.length, sizeLine_eq]; have a1 := bulk_len (ds1 ++ ds2); have a2 := bulk_len ds4; have a3 := f3.bk; have a4 := f4.bk; omega, fun p5 hp5 => ?_⟩
    have E9 : Ext No H4 (upd H8 p5 (.lst (xs1 ++ xs2 ++ xs4))) := (E5.trans E7).trans (E8.trans (.new hp5))
    have np5 : ¬ At b p5 := (L7.ext (E8.any (N := At b))).not hp5
    have q5 := ((q3.ext E8.any).append q4).ext (Ext.new (o := .lst (xs1 ++ xs2 ++ xs4)) hp5)
    have f5 := fineAll_append f3 f4
    have B5 := B4.ext E9 id
    generalize xs1 ++ xs2 ++ xs4 = xs at q5 E9 B5 ⊢
    -- one of them
    have hlen : (xs.length : Int) < 1073741824 := by
      have a1 := q5.length; have a2 := bulk_len (ds1 ++ ds2 ++ ds4); have a3 := f5.bk
      omega
    have hpos : 0 < (xs.length : Int) := by
      have : 0 < ds4.length := hds4
      have a1 := q5.length
      simp only [List.length_append] at a1
      omega
    refine ⟨_, rfl, _, rfl, _, rfl, p5, xs, rfl, .inl (SqL.of upd_same), b, (xs.length : Int), n1 + 1 + 1 + 1, rfl, B5, by omega, hpos, hlen, fun i H9 i0 i1 B6 E10 => ?_⟩
    obtain ⟨v, hv, hm⟩ := atI_in i0 i1
    refine ⟨p5, xs, i, v, rfl, rfl, SqL.of (E10.keep p5 _ np5 upd_same), hv, ?_⟩
    have nice := (q5.ext E10).mem f5 hm
    refine q v H9 (nice.mono (by decide) (Nat.le_refl _)) (B6.mono (by omega)) ?_
    exact E1.trans (E2.trans (E3.trans ((Ext.new hp).trans (E4.trans (E9.any.trans E10)))))

end
end Y
set_option Elab.async false
set_option linter.all false
set_option maxRecDepth 100000
set_option maxHeartbeats 4000000
namespace Y
open PySem PySem.Spec PyProof.Rows L2 TL
section
variable {P : Program} {w : World} {K : PySem.W.Frag} {mg : Str → Option Value} {base : Heap}
def spLaw (K : PySem.W.Frag) : Sp := fun vs H Q _ => ∃ (a : Addr) (ns : List Int), vs = [.ref a] ∧ SqL K H a (ns.map V.int) ∧ ns.length ≤ 63 ∧ ∀ H', Q (.bl true) H'
theorem ok_law (T : Tx K mg) (hsys : ∃ o, base.get? sysModules = some o) {f : Addr} {fd : FuncData} (F : Fun K "law" "law" s_law f fd) : FnG P w K mg base CX0 6 f fd a_law (spLaw K) := by
  have G_l_cell := ok_l_cell (P := P) (w := w) (base := base) T
  have G_l_box := ok_l_box (P := P) (w := w) (base := base) T
  have G_l_take := ok_l_take (P := P) (w := w) (base := base) T
  have G_l_value := ok_l_value (P := P) (w := w) (base := base) T
  have G_l_is_word := ok_l_is_word (P := P) (w := w) (base := base) T
  have G_l_is_whole := ok_l_is_whole (P := P) (w := w) (base := base) T
  have G_is_integer := ok_is_integer (P := P) (w := w) (base := base) T
  have G_is_arity := ok_is_arity (P := P) (w := w) (base := base) T
  have G_is_word := ok_is_word (P := P) (w := w) (base := base) T
  have G_is_place := ok_is_place (P := P) (w := w) (base := base) T
  refine okG F sc_law (fun vs H Q E h => ?_) (fun cdv A outer s H vs Q E hG hr h => ?_)
  · obtain ⟨a, ns, rfl, _⟩ := h
    rfl
  · obtain ⟨a, ns, rfl, hS, hl, q⟩ := h
    refine ⟨_, (pss_cons (ps_for PassesOwn.never rfl (pi_range1 (by rfl) T.n_range (pa_cons (pe_callB (call_max2 rfl) (by rfl) T.n_max (by decide +kernel) (pa_cons pe_int (pa_cons (pe_callB (call_min2 rfl) (by rfl) T.n_min (by decide +kernel) (pa_cons pe_int (pa_cons (pe_callB call_len_seq (by rfl) T.n_len (by decide +kernel) (pa_cons (pv 0) pa_nil)) pa_nil))) pa_nil))) pa_nil)) (pg_name (i := 1) sc_law.nd rfl (.inl rfl)) (pss_cons (ps_set (i := 2) sc_law.nd rfl (.inl rfl) (pe_callH G_l_box (hr.mono (by decide)) (by rfl) (pa_cons (pe_callH G_l_cell (hr.mono (by decide)) (by rfl) (pa_cons (pv 0) (pa_cons (pv 1) pa_nil))) pa_nil)))
      (pss_one (ps_for PassesOwn.never rfl (pi_range1 (by rfl) T.n_range (pa_cons pe_int pa_nil)) (pg_name (i := 3) sc_law.nd rfl (.inl rfl)) (pss_cons (ps_set (i := 4) sc_law.nd rfl (.inl rfl) (pe_op op_add pe_int (pe_callH G_l_take (hr.mono (by decide)) (by rfl) (pa_cons (pv 2) (pa_cons pe_int pa_nil)))))
      (pss_cons (ps_set (i := 5) sc_law.nd rfl (.inl rfl) (pe_callH G_l_value (hr.mono (by decide)) (by rfl) (pa_cons (pv 2) (pa_cons (pv 4) pa_nil))))
      (pss_cons (ps_set (i := 6) sc_law.nd rfl (.inl rfl) (pe_callB (call_reprD hG hr.units hsys) (by rfl) T.n_repr (by decide +kernel) (pa_cons (pv 5) pa_nil)))
      (pss_cons (ps_par (i := 7) (j := 8) (by rfl) sc_law.nd rfl rfl (by decide) rfl rfl (pa_cons (pe_op op_sub (pe_callH G_l_take (hr.mono (by decide)) (by rfl) (pa_cons (pv 2) (pa_cons pe_int pa_nil))) pe_int) (pa_cons (pe_ix ix_list (pe_lst (pa_cons (pe_op op_sub (pe_callH G_l_take (hr.mono (by decide)) (by rfl) (pa_cons (pv 2) (pa_cons pe_int pa_nil))) pe_int) (pa_cons (pe_op op_pow pe_int pe_int) pa_nil))) (pe_callH G_l_take (hr.mono (by decide)) (by rfl) (pa_cons (pv 2) (pa_cons pe_int pa_nil))) (fun _ _ => rfl)) pa_nil)) (by rfl))
      (pss_cons (ps_set (i := 9) sc_law.nd rfl (.inl rfl) (pe_and (pe_callH G_l_is_whole (hr.mono (by decide)) (by rfl) (pa_cons (pv 5) pa_nil)) (pe_and (pe_cmpR op_le (pv 7) (pv 5) (nomark _)) (pe_one (pe_cmpR op_le (pv 5) (pv 8) (nomark _))))))
      (pss_cons (ps_if (pt_cmpR op_ne (pe_callB (call_reprD hG hr.units hsys) (by rfl) T.n_repr (by decide +kernel) (pa_cons (pe_callH G_is_integer (hr.mono (by decide)) (by rfl) (pa_cons (pv 5) (pa_cons (pv 7) (pa_cons (pv 8) pa_nil)))) pa_nil)) (pe_callB (call_reprD hG hr.units hsys) (by rfl) T.n_repr (by decide +kernel) (pa_cons (pv 9) pa_nil)) (nomark _)) (pss_one (ps_ret pe_bl)) pss_nil)
      (pss_cons (ps_if (pt_cmpR op_ne (pe_callB (call_reprD hG hr.units hsys) (by rfl) T.n_repr (by decide +kernel) (pa_cons (pe_callH G_is_arity (hr.mono (by decide)) (by rfl) (pa_cons (pv 5) pa_nil)) pa_nil)) (pe_callB (call_reprD hG hr.units hsys) (by rfl) T.n_repr (by decide +kernel) (pa_cons (pe_and (pe_callH G_l_is_whole (hr.mono (by decide)) (by rfl) (pa_cons (pv 5) pa_nil)) (pe_one (pe_cmpR op_in_seq (pv 5) (pe_tup (pa_cons pe_int (pa_cons pe_int (pa_cons pe_int pa_nil)))) (by rfl)))) pa_nil)) (nomark _)) (pss_one (ps_ret pe_bl)) pss_nil)
      (pss_cons (ps_if (pt_cmpR op_ne (pe_callB (call_reprD hG hr.units hsys) (by rfl) T.n_repr (by decide +kernel) (pa_cons (pe_callH G_is_word (hr.mono (by decide)) (by rfl) (pa_cons (pv 5) (pa_cons (pv 4) pa_nil))) pa_nil)) (pe_callB (call_reprD hG hr.units hsys) (by rfl) T.n_repr (by decide +kernel) (pa_cons (pe_callH G_l_is_word (hr.mono (by decide)) (by rfl) (pa_cons (pv 5) (pa_cons (pv 4) pa_nil))) pa_nil)) (nomark _)) (pss_one (ps_ret pe_bl)) pss_nil)
      (pss_cons (ps_set (i := 9) sc_law.nd rfl (.inl rfl) (pe_and (pe_callB call_isiQ (by rfl) T.n_isinstance (by decide +kernel) (pa_cons (pv 5) (pa_cons (pe_bltn (v := .ty "tuple") (u := .type "tuple") (by rfl) T.n_tuple (by decide +kernel) rfl) pa_nil))) (pe_and (pe_cmpR op_eq (pe_callB call_len (by rfl) T.n_len (by decide +kernel) (pa_cons (pv 5) pa_nil)) pe_int (nomark _)) (pe_one (pe_callH G_l_is_whole (hr.mono (by decide)) (by rfl) (pa_cons (pe_ix ix_seq (pv 5) pe_int (fun _ _ => rfl)) pa_nil))))))
      (pss_cons (ps_set (i := 9) sc_law.nd rfl (.inl rfl) (pe_and (pv 9) (pe_and (pe_cmpR op_ge (pe_ix ix_seq (pv 5) pe_int (fun _ _ => rfl)) pe_int (nomark _)) (pe_one (pe_callH G_l_is_word (hr.mono (by decide)) (by rfl) (pa_cons (pe_ix ix_seq (pv 5) pe_int (fun _ _ => rfl)) (pa_cons (pv 4) pa_nil)))))))
      (pss_one (ps_if (PW.pt (pw_or (pt_cmpR op_ne (pe_callB (call_reprD hG hr.units hsys) (by rfl) T.n_repr (by decide +kernel) (pa_cons (pe_callH G_is_place (hr.mono (by decide)) (by rfl) (pa_cons (pv 5) (pa_cons (pv 4) pa_nil))) pa_nil)) (pe_callB (call_reprD hG hr.units hsys) (by rfl) T.n_repr (by decide +kernel) (pa_cons (pv 9) pa_nil)) (nomark _)) (pw_or1 (pt_cmpR op_ne (pe_callB (call_reprD hG hr.units hsys) (by rfl) T.n_repr (by decide +kernel) (pa_cons (pv 5) pa_nil)) (pv 6) (nomark _))))) (pss_one (ps_ret pe_bl)) pss_nil))))))))))))))))
      (pss_one (ps_ret pe_bl))), ?_⟩
    -- the cells
    refine ⟨_, rfl, a, _, rfl, .inl hS, _, _, rfl, _, _, rfl, ?_⟩
    rw [List.length_map]
    have hmx : ∀ j : Int, j = (if (if (ns.length : Int) < 20 then (ns.length : Int) else 20) > 2 then (if (ns.length : Int) < 20 then (ns.length : Int) else 20) else 2) → 0 ≤ j ∧ j ≤ 20 := fun j e => by
      subst e
      split <;> split <;> omega
    generalize (if (if (ns.length : Int) < 20 then (ns.length : Int) else 20) > 2 then (if (ns.length : Int) < 20 then (ns.length : Int) else 20) else 2) = jj at hmx ⊢
    obtain ⟨jj0, jj1⟩ := hmx jj rfl
    refine ⟨jj, rfl, by omega, by omega, ?_⟩
    refine for_range (lo := 0) (n := jj.toNat) (fun i σ H' => ∃ y1 y2 y3 y4 y5 y6 y7 y8 y9, σ = [some (.ref a), y1, y2, y3, y4, y5, y6, y7, y8, y9] ∧ Ext No H H')
      ⟨_, _, _, _, _, _, _, _, _, rfl, .refl⟩ ?_ (fun σ H' _ => q H')
    rintro i σ H1 hi ⟨y1, y2, y3, y4, y5, y6, y7, y8, y9, rfl, E1⟩
    -- the box
    refine ⟨_, rfl, _, rfl, a, ns, 0 + i, rfl, (Same.ext0 E1).seq hS, by omega, by omega, by omega, fun c => ⟨c, rfl, fun b H2 hb s2 B2 => ?_⟩⟩
    refine ⟨6, rfl, by decide, by decide, ?_⟩
    refine for_range (lo := 0) (n := 6) (fun m σ H' => ∃ y3 y4 y5 y6 y7 y8 y9, σ = [some (.ref a), some (.int (0 + (i : Int))), some (.ref b), y3, y4, y5, y6, y7, y8, y9] ∧ Ext (At b) H2 H' ∧ Box H' b (m * 100))
      ⟨_, _, _, _, _, _, _, rfl, .refl, B2⟩ ?_ ?_
    rotate_left
    · rintro σ H3 ⟨y3, y4, y5, y6, y7, y8, y9, rfl, E3, B3⟩
      refine ⟨_, _, _, _, _, _, _, _, _, rfl, E1.trans ⟨fun c o _ e => ?_, fun c o e => ?_⟩⟩
      · exact E3.keep c o (ne_of_none e hb) (s2 c o e)
      · exact E3.live c o (s2 c o e)
    rintro t σ H3 ht ⟨y3, y4, y5, y6, y7, y8, y9, rfl, E3, B3⟩
    -- the arity, the value
    refine ⟨_, rfl, b, 3, t * 100, rfl, B3, by omega, by decide, by decide, fun r H4 r0 r1 B4 E4 => ⟨_, _, rfl, rfl, ?_⟩⟩
    refine ⟨_, rfl, _, rfl, b, 2 + r, t * 100 + 1, rfl, B4, by omega, by omega, by omega, fun v H5 nv B5 E5 => ?_⟩
    obtain ⟨d, qd, fd⟩ := nv
    have fD : Fine 200000 60 d := fd.mono (by decide) (by decide)
    refine ⟨_, rfl, At b, v, d, rfl, qd, fD, ?_⟩
    -- low, high
    refine ⟨_, rfl, b, 9, t * 100 + 1 + 20, rfl, B5, by omega, by decide, by decide, fun lo H6 lo0 lo1 B6 E6 => ⟨_, _, rfl, rfl, ?_⟩⟩
    refine ⟨_, rfl, b, 9, t * 100 + 1 + 20 + 1, rfl, B6, by omega, by decide, by decide, fun hi H7 hi0 hi1 B7 E7 => ⟨_, _, rfl, rfl, _, _, rfl, rfl, ⟨by decide, by decide, by decide⟩, (by decide : 2 ≤ sizeLine), fun p hp => ?_⟩⟩
    refine ⟨_, rfl, b, 2, t * 100 + 1 + 20 + 1 + 1, rfl, B7.new hp, by omega, by decide, by decide, fun j H8 j0 j1 B8 E8 => ?_⟩
    have hpb : p ≠ b := (B7.ne hp).symm
    obtain ⟨u, hu, um⟩ := atI_in (xs := [V.int (hi - 4), .int ((10 : Int) ^ (29 : Int).toNat)]) j0 j1
    obtain ⟨high, rfl⟩ : ∃ z, u = .int z := by
      simp only [List.mem_cons, List.not_mem_nil, or_false] at um
      rcases um with rfl | rfl
      · exact ⟨_, rfl⟩
      · exact ⟨_, rfl⟩
    refine ⟨p, _, j, _, rfl, rfl, SqL.of (E8.keep p _ hpb upd_same), hu, _, _, rfl, ?_⟩
    have qd8 : Dq (At b) H8 v d := qd.ext (E6.trans (E7.trans ((Ext.new hp).trans E8)))
    have E38 : Ext (At b) H3 H8 := E4.trans (E5.trans (E6.trans (E7.trans ((Ext.new hp).trans E8))))
    -- due
    try dsimp only [gName, tNext]
    refine seq_set (via (fun x H' => x = .bl (dInt (lo - 4) high d) ∧ H8 = H') (fun Q' q' => ?_) ?_)
    · refine ⟨_, rfl, At b, v, d, rfl, qd8, _, rfl, ?_⟩
      cases qd8 with
      | int i =>
        refine iteT ⟨_, rfl, _, rfl, _, _, rfl, rfl, _, rfl, ?_⟩
        by_cases h : lo - 4 ≤ i
        · rw [decide_eq_true h]
          refine iteT ⟨_, rfl, _, rfl, _, _, rfl, rfl, q' _ _ ⟨?_, rfl⟩⟩
          simp [dInt, h]
        · rw [decide_eq_false h]
          refine iteF (q' _ _ ⟨?_, rfl⟩)
          simp [dInt, h]
      | bl b => exact iteF (q' _ _ ⟨rfl, rfl⟩)
      | non => exact iteF (q' _ _ ⟨rfl, rfl⟩)
      | str x => exact iteF (q' _ _ ⟨rfl, rfl⟩)
      | lst h n a => exact iteF (q' _ _ ⟨rfl, rfl⟩)
      | tup h n a => exact iteF (q' _ _ ⟨rfl, rfl⟩)
      | dct h n a b => exact iteF (q' _ _ ⟨rfl, rfl⟩)
    rintro _ _ ⟨rfl, rfl⟩
    -- is_integer
    refine ⟨_, rfl, _, rfl, _, rfl, At b, v, d, _, _, rfl, qd8, At b, _, .bool _, rfl, .bl _, fine_bool _, _, rfl, At b, _, .bool _, rfl, .bl _, fine_bool _, rfl, _, rfl, iteNS rfl ?_⟩
    -- is_arity
    refine ⟨_, rfl, At b, v, d, rfl, qd8, At b, _, .bool _, rfl, .bl _, fine_bool _, ?_⟩
    dsimp only
    refine cb_arg (via (fun x H' => x = .bl (dInt 2 4 d) ∧ Ext No H8 H') (fun Q' q' => ?_) ?_)
    · refine ⟨_, rfl, At b, v, d, rfl, qd8, _, rfl, ?_⟩
      cases qd8 with
      | int i =>
        refine iteT ⟨_, rfl, (by decide : 3 ≤ sizeLine), fun p hp => ⟨p, _, rfl, .inr (SqT.of upd_same), rfl, (by decide), q' _ _ ⟨?_, .new hp⟩⟩⟩
        have e : inV (.int i) [.int 2, .int 3, .int 4] = dInt 2 4 (.int i) := by
          by_cases h : 2 ≤ i ∧ i ≤ 4
          · have : i = 2 ∨ i = 3 ∨ i = 4 := by omega
            rcases this with rfl | rfl | rfl <;> decide
          · have h2 : ¬ i = 2 := by omega
            have h3 : ¬ i = 3 := by omega
            have h4 : ¬ i = 4 := by omega
            have e1 : dInt 2 4 (.int i) = false := by
              cases e : dInt 2 4 (.int i) with
              | false => rfl
              | true => exact absurd (by simpa [dInt] using e) h
            rw [e1]
            simp [inV, eqV, Ne.symm h2, Ne.symm h3, Ne.symm h4]
        exact congrArg V.bl e
      | bl b => exact iteF (q' _ _ ⟨rfl, .refl⟩)
      | non => exact iteF (q' _ _ ⟨rfl, .refl⟩)
      | str x => exact iteF (q' _ _ ⟨rfl, .refl⟩)
      | lst h n a => exact iteF (q' _ _ ⟨rfl, .refl⟩)
      | tup h n a => exact iteF (q' _ _ ⟨rfl, .refl⟩)
      | dct h n a b => exact iteF (q' _ _ ⟨rfl, .refl⟩)
    rintro _ H9 ⟨rfl, E9⟩
    have qd9 := qd8.ext (E9.any (N := At b))
    refine ⟨At b, _, .bool _, rfl, .bl _, fine_bool _, rfl, _, rfl, iteNS rfl ?_⟩
    -- is_word
    have L9 : Live (At b) H9 := B8.live.ext (E9.any (N := At b))
    refine ⟨_, rfl, _, rfl, At b, v, d, 2 + r, 60, rfl, qd9, by omega, by omega, fD, At b, _, .bool _, rfl, .bl _, fine_bool _, ?_⟩
    refine ⟨_, rfl, _, rfl, At b, v, d, 2 + r, 60, rfl, qd9, L9, by omega, by omega, fD, fun H10 E10 => ?_⟩
    refine ⟨At b, _, .bool _, rfl, .bl _, fine_bool _, rfl, _, rfl, iteNS rfl ?_⟩
    have qd10 := qd9.ext (E10.any (N := At b))
    -- a pair with a whole number ahead
    try dsimp only [gName, tNext]
    refine seq_set (via (fun x H' => x = .bl (dPair d) ∧ H10 = H') (fun Q' q' => ?_) ?_)
    · refine ⟨_, rfl, At b, v, d, "tuple", _, rfl, qd10, kit_tuple d, _, rfl, ?_⟩
      cases qd10 with
      | @tup p xs ds h n al =>
        refine iteT ⟨_, rfl, .ref p, xs.length, rfl, .inr ⟨xs, SqT.of h, rfl⟩, rfl, _, rfl, ?_⟩
        match xs, ds, al with
        | [], _, .nil => exact iteF (q' _ _ ⟨rfl, rfl⟩)
        | [_], _, .cons _ .nil => exact iteF (q' _ _ ⟨rfl, rfl⟩)
        | x1 :: x2 :: x3 :: t, _, .cons _ (.cons _ (.cons _ _)) =>
          refine ite2 (fun e => absurd ?_ (by decide : ¬ (2 : Int) < 2)) (fun _ => q' _ _ ⟨rfl, rfl⟩)
          have e1 := V.int.inj (of_decide_eq_true e)
          simp only [List.length_cons] at e1
          omega
        | [x, y], [dx, dy], .cons hx (.cons hy .nil) =>
          exact iteT ⟨_, rfl, .inr (.inl ⟨p, _, 0, x, rfl, rfl, SqT.of h, rfl, At b, x, dx, rfl, hx, q' _ _ ⟨rfl, rfl⟩⟩)⟩
      | int i => exact iteF (q' _ _ ⟨rfl, rfl⟩)
      | bl b => exact iteF (q' _ _ ⟨rfl, rfl⟩)
      | non => exact iteF (q' _ _ ⟨rfl, rfl⟩)
      | str x => exact iteF (q' _ _ ⟨rfl, rfl⟩)
      | lst h n a => exact iteF (q' _ _ ⟨rfl, rfl⟩)
      | dct h n a b => exact iteF (q' _ _ ⟨rfl, rfl⟩)
    rintro _ _ ⟨rfl, rfl⟩
    -- .. that is a place
    try dsimp only [gName, tNext]
    have L10 : Live (At b) H10 := L9.ext (E10.any (N := At b))
    refine seq_set (via (fun x H' => x = .bl (dPlace (2 + r) d) ∧ Ext No H10 H') (fun Q' q' => ?_) ?_)
    · refine ⟨_, rfl, _, rfl, ?_⟩
      cases qd10 with
      | @tup p xs ds h n al =>
        match xs, ds, al with
        | [], _, .nil => exact iteF (q' _ _ ⟨rfl, .refl⟩)
        | [_], _, .cons _ .nil => exact iteF (q' _ _ ⟨rfl, .refl⟩)
        | x1 :: x2 :: x3 :: t, _, .cons _ (.cons _ (.cons _ _)) => exact iteF (q' _ _ ⟨rfl, .refl⟩)
        | [x, y], [dx, dy], .cons hx (.cons hy .nil) =>
          have fy : Fine 200000 59 dy := fineAll_of (fine_items fD) (by simp)
          cases hx with
          | int i =>
            refine iteT ⟨_, rfl, .inr (.inl ⟨p, _, 0, _, rfl, rfl, SqT.of h, rfl, _, _, rfl, rfl, _, rfl, ite2 (fun e => ?_) (fun e => ?_)⟩)⟩
            · have e' : dPlace (2 + r) (.tuple [.int i, dy]) = dWord (2 + r) dy := by
                show (decide (0 ≤ i) && dWord (2 + r) dy) = _
                rw [e]
                rfl
              rw [e'] at q'
              exact ⟨_, rfl, .inr (.inl ⟨p, _, 1, y, rfl, rfl, SqT.of h, rfl, _, rfl, At b, y, dy, 2 + r, 59, rfl, hy, L10, by omega, by omega, fy, fun H11 E11 => q' _ _ ⟨rfl, E11⟩⟩)⟩
            · refine q' _ _ ⟨?_, .refl⟩
              have e' : dPlace (2 + r) (.tuple [.int i, dy]) = false := by
                show (decide (0 ≤ i) && dWord (2 + r) dy) = _
                rw [Bool.eq_false_iff.mpr e]
                rfl
              rw [e']
          | bl b => exact iteF (q' _ _ ⟨rfl, .refl⟩)
          | non => exact iteF (q' _ _ ⟨rfl, .refl⟩)
          | str x => exact iteF (q' _ _ ⟨rfl, .refl⟩)
          | lst h n a => exact iteF (q' _ _ ⟨rfl, .refl⟩)
          | tup h n a => exact iteF (q' _ _ ⟨rfl, .refl⟩)
          | dct h n a b => exact iteF (q' _ _ ⟨rfl, .refl⟩)
      | int i => exact iteF (q' _ _ ⟨rfl, .refl⟩)
      | bl b => exact iteF (q' _ _ ⟨rfl, .refl⟩)
      | non => exact iteF (q' _ _ ⟨rfl, .refl⟩)
      | str x => exact iteF (q' _ _ ⟨rfl, .refl⟩)
      | lst h n a => exact iteF (q' _ _ ⟨rfl, .refl⟩)
      | dct h n a b => exact iteF (q' _ _ ⟨rfl, .refl⟩)
    rintro _ H11 ⟨rfl, E11⟩
    have qd11 := qd10.ext (E11.any (N := At b))
    refine ⟨_, rfl, _, rfl, At b, v, d, 2 + r, 60, rfl, qd11, by omega, by omega, fD, At b, _, .bool _, rfl, .bl _, fine_bool _, _, rfl, At b, _, .bool _, rfl, .bl _, fine_bool _, rfl, _, rfl, iteNS rfl ?_⟩
    refine ⟨_, rfl, At b, v, d, rfl, qd11, fD, _, rfl, rfl, _, rfl, iteNS rfl ?_⟩
    -- the next turn
    refine ⟨_, _, _, _, _, _, _, rfl, E3.trans (E38.trans (E9.any.trans (E10.any.trans E11.any))), ?_⟩
    exact (((B8.ext E9 id).ext E10 id).ext E11 id).mono (by omega)

end
end Y
set_option Elab.async false
set_option linter.all false
set_option maxRecDepth 100000
set_option maxHeartbeats 4000000
namespace Y
open PySem PySem.Spec PyProof.Rows L2 TL
theorem tx_mk {K : PySem.W.Frag} {h : Heap} {mg : Str → Option Value} (X : K.In h) (G : h.Ns mainGlobals mg)
    {t_DIGITS t_LEAST_ARITY t_MOST_ARITY : Tok}
    {f_is_integer f_is_natural f_is_arity f_is_word f_is_place f_l_cell f_l_box f_l_take f_l_word f_l_value f_l_is_word f_l_is_whole f_law : Addr}
    {oc_is_integer kV_is_integer dc_is_integer pm_is_integer cd_is_integer ct_is_integer oc_is_natural kV_is_natural dc_is_natural pm_is_natural cd_is_natural ct_is_natural oc_is_arity kV_is_arity dc_is_arity pm_is_arity cd_is_arity ct_is_arity oc_is_word kV_is_word dc_is_word pm_is_word cd_is_word ct_is_word oc_is_place kV_is_place dc_is_place pm_is_place cd_is_place ct_is_place oc_l_cell kV_l_cell dc_l_cell pm_l_cell cd_l_cell ct_l_cell oc_l_box kV_l_box dc_l_box pm_l_box cd_l_box ct_l_box oc_l_take kV_l_take dc_l_take pm_l_take cd_l_take ct_l_take oc_l_word kV_l_word dc_l_word pm_l_word cd_l_word ct_l_word oc_l_value kV_l_value dc_l_value pm_l_value cd_l_value ct_l_value oc_l_is_word kV_l_is_word dc_l_is_word pm_l_is_word cd_l_is_word ct_l_is_word oc_l_is_whole kV_l_is_whole dc_l_is_whole pm_l_is_whole cd_l_is_whole ct_l_is_whole oc_law kV_law dc_law pm_law cd_law ct_law : Value}
    {od_is_integer an_is_integer od_is_natural an_is_natural od_is_arity an_is_arity od_is_word an_is_word od_is_place an_is_place od_l_cell an_l_cell od_l_box an_l_box od_l_take an_l_take od_l_word an_l_word od_l_value an_l_value od_l_is_word an_l_is_word od_l_is_whole an_l_is_whole od_law an_law : Option Addr}
    {sl_is_integer sl_is_natural sl_is_arity sl_is_word sl_is_place sl_l_cell sl_l_box sl_l_take sl_l_word sl_l_value sl_l_is_word sl_l_is_whole sl_law : Array (Option Value)}
    (c_DIGITS : PySem.W.nsIn K mainGlobals "DIGITS" = some (some (.str "0123" t_DIGITS)))
    (c_LEAST_ARITY : PySem.W.nsIn K mainGlobals "LEAST_ARITY" = some (some (.int 2 t_LEAST_ARITY)))
    (c_MOST_ARITY : PySem.W.nsIn K mainGlobals "MOST_ARITY" = some (some (.int 4 t_MOST_ARITY)))
    (n_isinstance : PySem.W.nsIn K mainGlobals "isinstance" = some none)
    (n_bool : PySem.W.nsIn K mainGlobals "bool" = some none)
    (n_int : PySem.W.nsIn K mainGlobals "int" = some none)
    (n_str : PySem.W.nsIn K mainGlobals "str" = some none)
    (n_len : PySem.W.nsIn K mainGlobals "len" = some none)
    (n_tuple : PySem.W.nsIn K mainGlobals "tuple" = some none)
    (n_max : PySem.W.nsIn K mainGlobals "max" = some none)
    (n_range : PySem.W.nsIn K mainGlobals "range" = some none)
    (n_min : PySem.W.nsIn K mainGlobals "min" = some none)
    (n_repr : PySem.W.nsIn K mainGlobals "repr" = some none)
    (a_is_integer' : PySem.W.nsIn K mainGlobals "is_integer" = some (some (.ref f_is_integer)))
    (l_is_integer' : K.lookup f_is_integer = some ⟨oc_is_integer, od_is_integer, .func (PySem.W.fnOf "is_integer" "is_integer" (defArgs s_is_integer) (defBody s_is_integer) (defScope s_is_integer) .none kV_is_integer dc_is_integer pm_is_integer an_is_integer cd_is_integer ct_is_integer), sl_is_integer⟩)
    (k_is_integer' : PySem.W.codeIn K cd_is_integer "is_integer" = true)
    (q_is_integer' : PySem.W.keepIn K (.ref f_is_integer) = true)
    (a_is_natural' : PySem.W.nsIn K mainGlobals "is_natural" = some (some (.ref f_is_natural)))
    (l_is_natural' : K.lookup f_is_natural = some ⟨oc_is_natural, od_is_natural, .func (PySem.W.fnOf "is_natural" "is_natural" (defArgs s_is_natural) (defBody s_is_natural) (defScope s_is_natural) .none kV_is_natural dc_is_natural pm_is_natural an_is_natural cd_is_natural ct_is_natural), sl_is_natural⟩)
    (k_is_natural' : PySem.W.codeIn K cd_is_natural "is_natural" = true)
    (q_is_natural' : PySem.W.keepIn K (.ref f_is_natural) = true)
    (a_is_arity' : PySem.W.nsIn K mainGlobals "is_arity" = some (some (.ref f_is_arity)))
    (l_is_arity' : K.lookup f_is_arity = some ⟨oc_is_arity, od_is_arity, .func (PySem.W.fnOf "is_arity" "is_arity" (defArgs s_is_arity) (defBody s_is_arity) (defScope s_is_arity) .none kV_is_arity dc_is_arity pm_is_arity an_is_arity cd_is_arity ct_is_arity), sl_is_arity⟩)
    (k_is_arity' : PySem.W.codeIn K cd_is_arity "is_arity" = true)
    (q_is_arity' : PySem.W.keepIn K (.ref f_is_arity) = true)
    (a_is_word' : PySem.W.nsIn K mainGlobals "is_word" = some (some (.ref f_is_word)))
    (l_is_word' : K.lookup f_is_word = some ⟨oc_is_word, od_is_word, .func (PySem.W.fnOf "is_word" "is_word" (defArgs s_is_word) (defBody s_is_word) (defScope s_is_word) .none kV_is_word dc_is_word pm_is_word an_is_word cd_is_word ct_is_word), sl_is_word⟩)
    (k_is_word' : PySem.W.codeIn K cd_is_word "is_word" = true)
    (q_is_word' : PySem.W.keepIn K (.ref f_is_word) = true)
    (a_is_place' : PySem.W.nsIn K mainGlobals "is_place" = some (some (.ref f_is_place)))
    (l_is_place' : K.lookup f_is_place = some ⟨oc_is_place, od_is_place, .func (PySem.W.fnOf "is_place" "is_place" (defArgs s_is_place) (defBody s_is_place) (defScope s_is_place) .none kV_is_place dc_is_place pm_is_place an_is_place cd_is_place ct_is_place), sl_is_place⟩)
    (k_is_place' : PySem.W.codeIn K cd_is_place "is_place" = true)
    (q_is_place' : PySem.W.keepIn K (.ref f_is_place) = true)
    (a_l_cell' : PySem.W.nsIn K mainGlobals "_law_cell" = some (some (.ref f_l_cell)))
    (l_l_cell' : K.lookup f_l_cell = some ⟨oc_l_cell, od_l_cell, .func (PySem.W.fnOf "_law_cell" "_law_cell" (defArgs s_l_cell) (defBody s_l_cell) (defScope s_l_cell) .none kV_l_cell dc_l_cell pm_l_cell an_l_cell cd_l_cell ct_l_cell), sl_l_cell⟩)
    (k_l_cell' : PySem.W.codeIn K cd_l_cell "_law_cell" = true)
    (q_l_cell' : PySem.W.keepIn K (.ref f_l_cell) = true)
    (a_l_box' : PySem.W.nsIn K mainGlobals "_law_box" = some (some (.ref f_l_box)))
    (l_l_box' : K.lookup f_l_box = some ⟨oc_l_box, od_l_box, .func (PySem.W.fnOf "_law_box" "_law_box" (defArgs s_l_box) (defBody s_l_box) (defScope s_l_box) .none kV_l_box dc_l_box pm_l_box an_l_box cd_l_box ct_l_box), sl_l_box⟩)
    (k_l_box' : PySem.W.codeIn K cd_l_box "_law_box" = true)
    (q_l_box' : PySem.W.keepIn K (.ref f_l_box) = true)
    (a_l_take' : PySem.W.nsIn K mainGlobals "_law_take" = some (some (.ref f_l_take)))
    (l_l_take' : K.lookup f_l_take = some ⟨oc_l_take, od_l_take, .func (PySem.W.fnOf "_law_take" "_law_take" (defArgs s_l_take) (defBody s_l_take) (defScope s_l_take) .none kV_l_take dc_l_take pm_l_take an_l_take cd_l_take ct_l_take), sl_l_take⟩)
    (k_l_take' : PySem.W.codeIn K cd_l_take "_law_take" = true)
    (q_l_take' : PySem.W.keepIn K (.ref f_l_take) = true)
    (a_l_word' : PySem.W.nsIn K mainGlobals "_law_word" = some (some (.ref f_l_word)))
    (l_l_word' : K.lookup f_l_word = some ⟨oc_l_word, od_l_word, .func (PySem.W.fnOf "_law_word" "_law_word" (defArgs s_l_word) (defBody s_l_word) (defScope s_l_word) .none kV_l_word dc_l_word pm_l_word an_l_word cd_l_word ct_l_word), sl_l_word⟩)
    (k_l_word' : PySem.W.codeIn K cd_l_word "_law_word" = true)
    (q_l_word' : PySem.W.keepIn K (.ref f_l_word) = true)
    (a_l_value' : PySem.W.nsIn K mainGlobals "_law_value" = some (some (.ref f_l_value)))
    (l_l_value' : K.lookup f_l_value = some ⟨oc_l_value, od_l_value, .func (PySem.W.fnOf "_law_value" "_law_value" (defArgs s_l_value) (defBody s_l_value) (defScope s_l_value) .none kV_l_value dc_l_value pm_l_value an_l_value cd_l_value ct_l_value), sl_l_value⟩)
    (k_l_value' : PySem.W.codeIn K cd_l_value "_law_value" = true)
    (q_l_value' : PySem.W.keepIn K (.ref f_l_value) = true)
    (a_l_is_word' : PySem.W.nsIn K mainGlobals "_law_is_word" = some (some (.ref f_l_is_word)))
    (l_l_is_word' : K.lookup f_l_is_word = some ⟨oc_l_is_word, od_l_is_word, .func (PySem.W.fnOf "_law_is_word" "_law_is_word" (defArgs s_l_is_word) (defBody s_l_is_word) (defScope s_l_is_word) .none kV_l_is_word dc_l_is_word pm_l_is_word an_l_is_word cd_l_is_word ct_l_is_word), sl_l_is_word⟩)
    (k_l_is_word' : PySem.W.codeIn K cd_l_is_word "_law_is_word" = true)
    (q_l_is_word' : PySem.W.keepIn K (.ref f_l_is_word) = true)
    (a_l_is_whole' : PySem.W.nsIn K mainGlobals "_law_is_whole" = some (some (.ref f_l_is_whole)))
    (l_l_is_whole' : K.lookup f_l_is_whole = some ⟨oc_l_is_whole, od_l_is_whole, .func (PySem.W.fnOf "_law_is_whole" "_law_is_whole" (defArgs s_l_is_whole) (defBody s_l_is_whole) (defScope s_l_is_whole) .none kV_l_is_whole dc_l_is_whole pm_l_is_whole an_l_is_whole cd_l_is_whole ct_l_is_whole), sl_l_is_whole⟩)
    (k_l_is_whole' : PySem.W.codeIn K cd_l_is_whole "_law_is_whole" = true)
    (q_l_is_whole' : PySem.W.keepIn K (.ref f_l_is_whole) = true)
    (a_law' : PySem.W.nsIn K mainGlobals "law" = some (some (.ref f_law)))
    (l_law' : K.lookup f_law = some ⟨oc_law, od_law, .func (PySem.W.fnOf "law" "law" (defArgs s_law) (defBody s_law) (defScope s_law) .none kV_law dc_law pm_law an_law cd_law ct_law), sl_law⟩)
    (k_law' : PySem.W.codeIn K cd_law "law" = true)
    (q_law' : PySem.W.keepIn K (.ref f_law) = true)
    : Tx K mg where
  c_DIGITS := ⟨_, PySem.W.mg_of X G c_DIGITS⟩
  c_LEAST_ARITY := ⟨_, PySem.W.mg_of X G c_LEAST_ARITY⟩
  c_MOST_ARITY := ⟨_, PySem.W.mg_of X G c_MOST_ARITY⟩
  n_isinstance := PySem.W.mg_none_of X G n_isinstance
  n_bool := PySem.W.mg_none_of X G n_bool
  n_int := PySem.W.mg_none_of X G n_int
  n_str := PySem.W.mg_none_of X G n_str
  n_len := PySem.W.mg_none_of X G n_len
  n_tuple := PySem.W.mg_none_of X G n_tuple
  n_max := PySem.W.mg_none_of X G n_max
  n_range := PySem.W.mg_none_of X G n_range
  n_min := PySem.W.mg_none_of X G n_min
  n_repr := PySem.W.mg_none_of X G n_repr
  d_is_integer := ⟨_, _, fun_mk (st := s_is_integer) l_is_integer' k_is_integer' q_is_integer', PySem.W.mg_of X G a_is_integer', (fun_mk (st := s_is_integer) l_is_integer' k_is_integer' q_is_integer').binds (ps := a_is_integer) fun _ _ _ _ _ _ us hl => match us, hl with | [_, _, _], _ => rfl⟩
  d_is_natural := ⟨_, _, fun_mk (st := s_is_natural) l_is_natural' k_is_natural' q_is_natural', PySem.W.mg_of X G a_is_natural', (fun_mk (st := s_is_natural) l_is_natural' k_is_natural' q_is_natural').binds (ps := a_is_natural) fun _ _ _ _ _ _ us hl => match us, hl with | [_, _], _ => rfl⟩
  d_is_arity := ⟨_, _, fun_mk (st := s_is_arity) l_is_arity' k_is_arity' q_is_arity', PySem.W.mg_of X G a_is_arity', (fun_mk (st := s_is_arity) l_is_arity' k_is_arity' q_is_arity').binds (ps := a_is_arity) fun _ _ _ _ _ _ us hl => match us, hl with | [_], _ => rfl⟩
  d_is_word := ⟨_, _, fun_mk (st := s_is_word) l_is_word' k_is_word' q_is_word', PySem.W.mg_of X G a_is_word', (fun_mk (st := s_is_word) l_is_word' k_is_word' q_is_word').binds (ps := a_is_word) fun _ _ _ _ _ _ us hl => match us, hl with | [_, _], _ => rfl⟩
  d_is_place := ⟨_, _, fun_mk (st := s_is_place) l_is_place' k_is_place' q_is_place', PySem.W.mg_of X G a_is_place', (fun_mk (st := s_is_place) l_is_place' k_is_place' q_is_place').binds (ps := a_is_place) fun _ _ _ _ _ _ us hl => match us, hl with | [_, _], _ => rfl⟩
  d_l_cell := ⟨_, _, fun_mk (st := s_l_cell) l_l_cell' k_l_cell' q_l_cell', PySem.W.mg_of X G a_l_cell', (fun_mk (st := s_l_cell) l_l_cell' k_l_cell' q_l_cell').binds (ps := a_l_cell) fun _ _ _ _ _ _ us hl => match us, hl with | [_, _], _ => rfl⟩
  d_l_box := ⟨_, _, fun_mk (st := s_l_box) l_l_box' k_l_box' q_l_box', PySem.W.mg_of X G a_l_box', (fun_mk (st := s_l_box) l_l_box' k_l_box' q_l_box').binds (ps := a_l_box) fun _ _ _ _ _ _ us hl => match us, hl with | [_], _ => rfl⟩
  d_l_take := ⟨_, _, fun_mk (st := s_l_take) l_l_take' k_l_take' q_l_take', PySem.W.mg_of X G a_l_take', (fun_mk (st := s_l_take) l_l_take' k_l_take' q_l_take').binds (ps := a_l_take) fun _ _ _ _ _ _ us hl => match us, hl with | [_, _], _ => rfl⟩
  d_l_word := ⟨_, _, fun_mk (st := s_l_word) l_l_word' k_l_word' q_l_word', PySem.W.mg_of X G a_l_word', (fun_mk (st := s_l_word) l_l_word' k_l_word' q_l_word').binds (ps := a_l_word) fun _ _ _ _ _ _ us hl => match us, hl with | [_, _, _], _ => rfl⟩
  d_l_value := ⟨_, _, fun_mk (st := s_l_value) l_l_value' k_l_value' q_l_value', PySem.W.mg_of X G a_l_value', (fun_mk (st := s_l_value) l_l_value' k_l_value' q_l_value').binds (ps := a_l_value) fun _ _ _ _ _ _ us hl => match us, hl with | [_, _], _ => rfl⟩
  d_l_is_word := ⟨_, _, fun_mk (st := s_l_is_word) l_l_is_word' k_l_is_word' q_l_is_word', PySem.W.mg_of X G a_l_is_word', (fun_mk (st := s_l_is_word) l_l_is_word' k_l_is_word' q_l_is_word').binds (ps := a_l_is_word) fun _ _ _ _ _ _ us hl => match us, hl with | [_, _], _ => rfl⟩
  d_l_is_whole := ⟨_, _, fun_mk (st := s_l_is_whole) l_l_is_whole' k_l_is_whole' q_l_is_whole', PySem.W.mg_of X G a_l_is_whole', (fun_mk (st := s_l_is_whole) l_l_is_whole' k_l_is_whole' q_l_is_whole').binds (ps := a_l_is_whole) fun _ _ _ _ _ _ us hl => match us, hl with | [_], _ => rfl⟩
  d_law := ⟨_, _, fun_mk (st := s_law) l_law' k_law' q_law', PySem.W.mg_of X G a_law', (fun_mk (st := s_law) l_law' k_law' q_law').binds (ps := a_law) fun _ _ _ _ _ _ us hl => match us, hl with | [_], _ => rfl⟩
theorem law_mk {l : PySem.W.OpenLaw} {w : World} {K : PySem.W.Frag} {mg : Str → Option Value} {fa : Addr} (T : Tx K mg) (hfa : mg "law" = some (.ref fa)) :
    ∃ fd : FuncData, (∀ (s : Shared) (v : Value), BindsTo s fd ⟨[v], []⟩ [("_law_script", v)]) ∧ ∀ base : Heap, K.In base → base.Ns mainGlobals mg → (∃ o, base.get? sysModules = some o) → FnG l.prog w K mg base CX0 6 fa fd ["_law_script"] (spLaw K) := by
  obtain ⟨f, fd, F, hm, hb⟩ := T.d_law
  cases hfa.symm.trans hm
  refine ⟨fd, fun s v => ?_, fun base hK hN hsys => ok_law T hsys F⟩
  obtain ⟨oc, od, kV, doc, pm, an, cdv, ct, osl, rfl, lk, hcd⟩ := F.ex
  exact .of_eq rfl

end Y
open PySem PySem.W PyProof.Rows
set_option maxHeartbeats 0 in
theorem PySem.Challenge.cw_strandclasses_k01_words_and_places_told_holds : PySem.Challenge.rw_strandclasses_k01_words_and_places_told.Holds := by
  w_on; o_law; k_head; (case hw => w_witness2)
  k_fill
  refine Y.walkG (l := PySem.Challenge.rw_strandclasses_k01_words_and_places_told) (n := 63) (k := 6) (x := "_law_script") (CX := L2.CX0) (sp := Y.spLaw) rfl (by decide) rfl ⟨rfl, by decide, by decide⟩ (by rfl) (fun w h Y => PySem.W.kIn_of Y) ?F (fun _ _ a ns hl _ hS => ⟨a, ns, rfl, hS, hl, fun _ => rfl⟩) (fun _ _ _ _ h => h)
  case F =>
    intro w mg fa h KX G hmg
    refine' Y.law_mk (Y.tx_mk KX G ?c_DIGITS ?c_LEAST_ARITY ?c_MOST_ARITY ?n_isinstance ?n_bool ?n_int ?n_str ?n_len ?n_tuple ?n_max ?n_range ?n_min ?n_repr ?a_is_integer ?l_is_integer ?k_is_integer ?q_is_integer ?a_is_natural ?l_is_natural ?k_is_natural ?q_is_natural ?a_is_arity ?l_is_arity ?k_is_arity ?q_is_arity ?a_is_word ?l_is_word ?k_is_word ?q_is_word ?a_is_place ?l_is_place ?k_is_place ?q_is_place ?a_l_cell ?l_l_cell ?k_l_cell ?q_l_cell ?a_l_box ?l_l_box ?k_l_box ?q_l_box ?a_l_take ?l_l_take ?k_l_take ?q_l_take ?a_l_word ?l_l_word ?k_l_word ?q_l_word ?a_l_value ?l_l_value ?k_l_value ?q_l_value ?a_l_is_word ?l_l_is_word ?k_l_is_word ?q_l_is_word ?a_l_is_whole ?l_l_is_whole ?k_l_is_whole ?q_l_is_whole ?a_law ?l_law ?k_law ?q_law) hmg
    (case c_DIGITS => k_is); (case c_LEAST_ARITY => k_is); (case c_MOST_ARITY => k_is); (case n_isinstance => k_is); (case n_bool => k_is); (case n_int => k_is); (case n_str => k_is); (case n_len => k_is); (case n_tuple => k_is); (case n_max => k_is); (case n_range => k_is); (case n_min => k_is); (case n_repr => k_is); (case a_is_integer => k_is); (case l_is_integer => k_is); (case k_is_integer => k_is); (case q_is_integer => k_is); (case a_is_natural => k_is); (case l_is_natural => k_is); (case k_is_natural => k_is); (case q_is_natural => k_is); (case a_is_arity => k_is); (case l_is_arity => k_is); (case k_is_arity => k_is); (case q_is_arity => k_is); (case a_is_word => k_is); (case l_is_word => k_is); (case k_is_word => k_is); (case q_is_word => k_is); (case a_is_place => k_is); (case l_is_place => k_is); (case k_is_place => k_is); (case q_is_place => k_is); (case a_l_cell => k_is); (case l_l_cell => k_is); (case k_l_cell => k_is); (case q_l_cell => k_is); (case a_l_box => k_is); (case l_l_box => k_is); (case k_l_box => k_is); (case q_l_box => k_is); (case a_l_take => k_is); (case l_l_take => k_is); (case k_l_take => k_is); (case q_l_take => k_is); (case a_l_word => k_is); (case l_l_word => k_is); (case k_l_word => k_is); (case q_l_word => k_is); (case a_l_value => k_is); (case l_l_value => k_is); (case k_l_value => k_is); (case q_l_value => k_is); (case a_l_is_word => k_is); (case l_l_is_word => k_is); (case k_l_is_word => k_is); (case q_l_is_word => k_is); (case a_l_is_whole => k_is); (case l_l_is_whole => k_is); (case k_l_is_whole => k_is); (case q_l_is_whole => k_is); (case a_law => k_is); (case l_law => k_is); (case k_law => k_is); (case q_law => k_is)
