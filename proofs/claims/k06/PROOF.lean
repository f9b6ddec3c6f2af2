import PyProof.Rows.All
import Wide.All
import OpenK.AllK
import Wide.FinOn
import HandS.ForMost
import HandS.IsInst
import HandS.StrMore
import PyProof.ReprBulk
import HandS.Exc
import HandS.ExcInit
import HandS.TryMany
import KE.KExcSuper
import HandS.ExcField
import HandS.WordsExc
import KE.GoesMore
import PyProof.P3Eq
import KE.KIntText
import PyProof.Rows.StrFromFirst
import PyProof.Rows.StrLawsPart
import HandS.FStr
import PySem.Challenge.RW_strandclasses_k06_places_as_text
set_option Elab.async false
set_option linter.all false
set_option maxRecDepth 100000
set_option maxHeartbeats 4000000
/-! own layer, part 0: defs that run while nothing is being shown (guards known), data of any depth, repr over it -/
namespace Y
open PySem PySem.Spec PyProof.Rows L2

/-! ### a def's promise where the guards are known to be none -/
structure FnG (P : Program) (w : World) (K : PySem.W.Frag)
    (mg : Str → Option Value) (base : Heap) (CX : CXT) (k : Nat)
    (f : Addr) (fd : FuncData) (ps : List Str) (sp : Sp) : Prop where
  len : ∀ vs H Q E, sp vs H Q E → vs.length = ps.length
  go : ∀ (A : Around) (outer : List Env) (s : Shared) (H : Hp) (args : Args) (us : List Value) (vs : List V) (Q : VK) (E : XK),
    A.guards = some [] → Room k A → Env0 P w K mg base A outer s H → BindsTo s fd args (ps.zip us) → Vals vs us → sp vs H Q E →
    codeAny (model P w) A (.call (.ref f) args) (CR CX outer P w H s Q E) s
section
variable {P : Program} {w : World} {K : PySem.W.Frag} {mg : Str → Option Value} {base : Heap} {CX : CXT}
theorem FnG.of {k : Nat} {f : Addr} {fd : FuncData} {ps : List Str} {sp : Sp}
    (F : FnOk P w K mg base CX k f fd ps sp) : FnG P w K mg base CX k f fd ps sp :=
  ⟨F.len, fun A outer s H args us vs Q E _ hr he hb hv hs => F.run A outer s H args us vs Q E hr he hb hv hs⟩
theorem FnG.mono {j k : Nat} {f : Addr} {fd : FuncData} {ps : List Str} {sp : Sp}
    (F : FnG P w K mg base CX j f fd ps sp) (h : j ≤ k) : FnG P w K mg base CX k f fd ps sp :=
  ⟨F.len, fun A outer s H args us vs Q E hg hr => F.go A outer s H args us vs Q E hg (hr.mono h)⟩
theorem fnG_of {k : Nat} {f : Addr} {name qual : Str} {params : Arguments} {body : List Stmt} {scope : Scope}
    {dV kV doc pm cdv ct oc : Value} {an od : Option Addr} {osl : Array (Option Value)} {N ps : List Str} {sp : Sp}
    (lk : K.lookup f = some ⟨oc, od, .func (PySem.W.fnOf name qual params body scope dV kV doc pm an cdv ct), osl⟩)
    (hcd : PySem.W.codeIn K cdv qual = true) (S : FnScope N ps scope)
    (len : ∀ vs H Q E, sp vs H Q E → vs.length = ps.length)
    (hbody : ∀ (A : Around) (outer : List Env) (s : Shared) (H : Hp) (vs : List V) (Q : VK) (E : XK), A.guards = some [] →
      Room k (A.deeper (envOfC qual scope s.heap.objs.size f cdv)) → sp vs H Q E →
      ∃ t, PSs (cxOf CX P w K mg base N qual scope f cdv A outer s H E) body t ∧
        t { nx := fun _ H' => Q .non H', rt := Q } (start N vs) H) :
    FnG P w K mg base CX (k + 1) f (PySem.W.fnOf name qual params body scope dV kV doc pm an cdv ct) ps sp := by
  refine ⟨len, fun A outer s H args us vs Q E hgd hr env0 hbind rel hsp => ?_⟩
  have hlen := len _ _ _ _ hsp
  have KH : K.In s.heap := env0.mod.kin.keeps fun b o e => (env0.bs b o e).1
  have limit : s.heap.NoLimit := env0.mod.nolimit.keeps fun b o e => (env0.bs b o e).1
  have kinds : ∀ y ∈ ps.zip us, scope.names.lookup y.1 = some .local ∨
      (scope.names.lookup y.1 = some .cell ∧ ((cellsFrom (s.heap.objs.size + 1) scope.names []).lookup y.1).isSome = true) := by
    rintro ⟨n, v⟩ hy
    cases S.par n (List.of_mem_zip hy).1 with
    | inl q => exact Or.inl q
    | inr q => exact Or.inr ⟨q, PySem.W.cellsFrom_some _ _ _ (.inl q)⟩
  refine codeAny_call_function hr.depth (KH _ _ lk) rfl S.co S.gen rfl
    (PySem.W.codeRec_of KH hcd) (hbind _ _ _ _ ?_)
  refine wpAny_newFunctionEnv_cells S.kind kinds fun env henv s1 x => ?_
  subst henv
  refine ⟨limit.keeps x.toInCall.keep, codeAny_func ?_⟩
  obtain ⟨t, ht, hq⟩ := hbody A outer s H vs Q E hgd (hr.deeper _) hsp
  have II : Inv (cxOf CX P w K mg base N qual scope f cdv A outer s H E) [] (start N vs) H s1 :=
    inv_start S hr.hd env0 hlen rel x
  refine wpAny_mono (ht.run [] s1 (start N vs) H _ II hq) (fun fl s' hs => ?_) fun e s' hs => hs
  cases fl with
  | ret u =>
    obtain ⟨v, σ', H', J, rv, q⟩ := hs
    exact ⟨v, H', J.os, J.bare, J.base, J.hok, rv, q⟩
  | next =>
    obtain ⟨σ', H', J, q⟩ := hs
    exact ⟨V.non, H', J.os, J.bare, J.base, J.hok, rfl, q⟩
  | brk => exact hs.elim fun _ z => z.elim fun _ y => False.elim y.2
  | cont => exact hs.elim fun _ z => z.elim fun _ y => False.elim y.2
theorem okG {x qual : Str} {st : Stmt} {f : Addr} {fd : FuncData} {N ps : List Str} {k : Nat} {sp : Sp}
    (F : Fun K x qual st f fd) (S : FnScope N ps (defScope st)) (len : ∀ vs H Q E, sp vs H Q E → vs.length = ps.length)
    (hbody : ∀ (cdv : Value) (A : Around) (outer : List Env) (s : Shared) (H : Hp) (vs : List V) (Q : VK) (E : XK),
      A.guards = some [] → Room k (A.deeper (envOfC qual (defScope st) s.heap.objs.size f cdv)) → sp vs H Q E →
      ∃ t, PSs (cxOf CX0 P w K mg base N qual (defScope st) f cdv A outer s H E).nox (defBody st) t ∧
        t { nx := fun _ H' => Q .non H', rt := Q } (start N vs) H) : FnG P w K mg base CX0 (k + 1) f fd ps sp := by
  obtain ⟨oc, od, kV, doc, pm, an, cdv, ct, osl, rfl, lk, hcd⟩ := F.ex
  exact fnG_of lk hcd S len fun A outer s H vs Q E hgd hr hsp =>
    let ⟨t, h, q⟩ := hbody cdv A outer s H vs Q E hgd hr hsp
    ⟨t, h.nox, q⟩
end
section
variable {X : Cx} {CX : CXT} {k : Nat} {f : Addr} {fd : FuncData} {ps : List Str} {sp : Sp} {dvs : List V} {ds : List Value}
  {E : XK} {x : Str} {p pos : Pos} {e : Expr} {es : List Expr} {t : TA}
theorem run_fnG {pins : List (Addr × Obj)} {σ : L2.St} {H : Hp} {s : Shared} {Q : VK} {us : List Value} {vs : List V}
    (F : FnG X.prog X.w X.K X.mg X.base CX k f fd ps sp) (hG : X.A.guards = some []) (hr : Room k X.A)
    (hb : Binds X.K fd ps ds) (hd : Vals dvs ds) (hx : Passes CX X E)
    (I : Inv X pins σ H s) (r : Vals vs us) (h : sp (vs ++ dvs) H Q E) :
    wpAny (model X.prog X.w) X.A (call (.ref f) us) (EP X pins σ Q) X.xe s := by
  have r2 : Vals (vs ++ dvs) (us ++ ds) := Vals.append r hd
  have hl : (us ++ ds).length = ps.length := (r2.length).symm.trans (F.len _ _ _ _ h)
  have step := F.go X.A X.stack s H ⟨us, []⟩ (us ++ ds) (vs ++ dvs) Q E hG hr I.env0 (hb s us I.kIn hl) r2 h
  refine wpAny_call (codeAny_mono step fun r s' hq => ?_)
  match r, hq with
  | .error e, hq => exact hx pins σ H s e s' I hq
  | .ok (.ret u), hq => exact I.after hq
theorem pe_callG (F : FnG X.prog X.w X.K X.mg X.base CX k f fd ps sp) (hG : X.A.guards = some []) (hr : Room k X.A)
    (hg : Gl X x) (hm : X.mg x = some (.ref f)) (hk : PySem.W.keepIn X.K (.ref f) = true)
    (hb : Binds X.K fd ps ds) (hd : Vals dvs ds) (hx : Passes CX X E) (ha : PA X (e :: es) t)
    (hdb : (x == ("__debug__" : Str)) = false := by decide)
    (he : starEach (e :: es) X.env = (false, eval e X.env) :: starEach es X.env := by rfl)
    (hpl : (backTo pos (starEach es X.env)).any (·.1) = false := by rfl) :
    PE X (.Call (.Name x p) (e :: es) [] pos) (tCall sp dvs E t) := by
  constructor
  intro pins s σ H Q I h
  refine wpAny_Call_Name_kw (ld_glob I hg hm (PySem.W.callWith_K (h₀ := X.base) I.ok.mod.kin hk ?_ he hpl) hdb)
  exact thn (ha.run pos pins s σ H _ I h) fun us s1 ⟨vs, H1, I1, r, q⟩ =>
    ⟨I1.kIn, run_fnG F hG hr hb hd hx I1 r q⟩
end

/-! ### the law's end by such a promise -/
section
theorem lawG {P : Program} {w : World} {K : PySem.W.Frag} {mg mb : Str → Option Value} {CX : CXT} {k : Nat}
    {fa a : Addr} {fd : FuncData} {x : Str} {sp : Sp} {s₁ : Shared} {vs : List Value} {ns : List Int}
    (KX : K.In s₁.heap) (hns : s₁.heap.Ns mainGlobals mg) (hb : s₁.heap.Ns builtinsNs mb)
    (hbb : ∀ x : Str, x ≠ "__name__" → mb x = bootBuiltins x) (hlim : s₁.heap.NoLimit) (hg : s₁.gens = #[])
    (ha : s₁.heap.get? a = some { cls := .type "list", data := .seq vs.toArray })
    (hi : IntsAre vs ns) (hl : ns.length ≤ sizeLine) (hr : Room k callerA)
    (hsy : s₁.heap.NoSeer) (F : ∀ base : Heap, K.In base → base.Ns mainGlobals mg → (∃ o, base.get? sysModules = some o) → FnG P w K mg base CX k fa fd [x] sp)
    (hbind : ∀ (s : Shared) (u : Value), BindsTo s fd ⟨[u], []⟩ [(x, u)])
    (hsp : ∀ H : Hp, Only H → SqL K H a (ns.map V.int) → sp [.ref a] H (fun v _ => v = .bl true) fun _ _ _ => False)
    (hCX : ∀ H e s', CX [] H s₁ (fun _ _ _ => False) e s' → False) :
    codeAny (model P w) callerA (.call (.ref fa) ⟨[.ref a], []⟩)
      (fun r s' => r = .ok (.ret (.bool true)) ∧ OldK s₁.heap s'.heap ∧ s'.os = s₁.os ∧ AllBare s'.gens) s₁ := by
  have rv := vals_ints hi
  have lenV := hi.length
  have core : ∀ H : Hp, Only H → SqL K H a (ns.map V.int) → HOk P w H s₁.heap → (∀ b, H b ≠ none → b = a) →
      (H a ≠ none → K.lookup a = none) → codeAny (model P w) callerA (.call (.ref fa) ⟨[.ref a], []⟩)
      (fun r s' => r = .ok (.ret (.bool true)) ∧ OldK s₁.heap s'.heap ∧ s'.os = s₁.os ∧ AllBare s'.gens) s₁ := by
    intro H hO hS hok hA hK
    have back : ∀ {b : Addr} {o : Obj}, s₁.heap.get? b = some o → H b = none →
        (hidT s₁.heap H).get? b = some o := fun e n => hidT_get e n
    have isA : ∀ b u, H b = some u → b = a := fun b u q => hA b (by rw [q]; exact Option.some_ne_none u)
    have notDict : ∀ {b : Addr} {o : Obj} {es : Array DictEntry} {ep : Nat},
        s₁.heap.get? b = some o → o.data = .dict es ep → H b = none := by
      intro b o es ep e d
      cases q : H b with
      | none => rfl
      | some u =>
        cases isA b u q
        rw [ha] at e
        cases e
        exact absurd (show Data.seq vs.toArray _ = Data.dict es ep from d) (fun z => nomatch z)
    have nsB : ∀ {b : Addr} {m : Str → Option Value}, s₁.heap.Ns b m → (hidT s₁.heap H).Ns b m :=
      fun {b m} ⟨o, es, ep, e, d, r⟩ => ⟨o, es, ep, back e (notDict e d), d, r⟩
    have KB : K.In (hidT s₁.heap H) := by
      intro b o e
      refine back (KX b o e) ?_
      cases q : H b with
      | none => rfl
      | some u =>
        cases isA b u q
        rw [hK (by rw [q]; exact Option.some_ne_none u)] at e
        cases e
    have hM : Mod K mg (hidT s₁.heap H) :=
      ⟨KB, nsB hns, ⟨mb, nsB hb, hbb⟩, let ⟨mc, h1, h2⟩ := hlim; ⟨mc, nsB h1, h2⟩⟩
    have e0 : Env0 P w K mg (hidT s₁.heap H) callerA [] s₁ H :=
      ⟨rfl, hM, fun b o e => of_hidT e, Nat.le_of_eq (hidT_size _ _), trivial,
        fun b hb => absurd (show b ∈ ([] : List Addr) from hb) (by simp), hok, .of_eq hg⟩
    have hsb : ∃ o, (hidT s₁.heap H).get? sysModules = some o := by
      obtain ⟨mm, ⟨o, es, ep, e, d, _⟩, _⟩ := hsy.mods
      exact ⟨o, back e (notDict e d)⟩
    have run := (F _ KB (nsB hns) hsb).go callerA [] s₁ H ⟨[.ref a], []⟩ [.ref a] [.ref a] _ _ rfl hr e0
      (hbind s₁ (.ref a)) (.cons rfl .nil) (hsp H hO hS)
    refine codeAny_mono run fun r s' h => ?_
    match r, h with
    | .error e, h => exact (hCX H e s' h).elim
    | .ok (.ret u), h =>
      obtain ⟨v, H', os, bare, un, hok', r', q⟩ := h
      cases (show v = .bl true from q)
      cases (show u = Value.bool true from r')
      refine ⟨rfl, OldK.of_keep fun b o e => ?_, os, bare⟩
      cases q : H b with
      | none =>
        exact un.keep b o e q (fun z => absurd (show b ∈ ([] : List Addr) from z) (by simp)) (by simp)
      | some u =>
        rcases hO b with z | ⟨ob, xs, z⟩
        · rw [q] at z; cases z
        · have z2 := un.frzs b ob _ z
          obtain ⟨e1, _⟩ := hok b _ z
          obtain ⟨e2, _⟩ := hok' b _ z2
          rw [e] at e1
          cases e1
          exact e2
  cases hk : K.lookup a with
  | some o =>
    have e := KX a o hk
    rw [ha] at e
    cases e
    exact core (fun _ => none) (fun _ => .inl rfl)
      (.inr ⟨_, vs.toArray, _, hk, rfl, rfl, rfl, by rw [List.size_toArray, lenV]; exact hl, by simpa using rv⟩)
      (fun b u z => nomatch (show (none : Option HO) = some u from z)) (fun b z => absurd rfl z) fun z => absurd rfl z
  | none =>
    refine core (fun b => if b = a then some (.frz { cls := .type "list", data := .seq vs.toArray } (.lst (ns.map V.int))) else none)
      (fun b => ?_) (.inl (.inr ⟨{ cls := .type "list", data := .seq vs.toArray }, if_pos rfl⟩)) (fun b u z => ?_) (fun b z => ?_) fun _ => hk
    · by_cases hb : b = a
      · exact .inr ⟨_, _, if_pos hb⟩
      · exact .inl (if_neg hb)
    · by_cases hb : b = a
      · have z' := (if_pos hb).symm.trans z
        cases z'
        subst hb
        exact ⟨ha, by rw [List.length_map]; exact hl, vs, _, rv, ha⟩
      · have z' := (if_neg hb).symm.trans z
        cases z'
    · by_cases hb : b = a
      · exact hb
      · exact absurd (if_neg hb) z
theorem walkG {l : PySem.W.OpenLaw} {n k : Nat} {q : Program} {loose : List Str} {XP : (Str → Option Value) → Heap → Prop}
    {YP : World → Heap → Prop} {d : DefRec} {K : Params → PySem.W.Frag} {CX : CXT} {sp : PySem.W.Frag → Sp} {x : Str}
    (hn : l.most = some n) (hn2 : n ≤ sizeLine) (hdf : d.params.defaults = []) (hr : Room k callerA) (hq : importsNone q = true)
    (hY : ∀ (w : World) (h : Heap), YP w h → (K w.params).In h)
    (F : ∀ (w : World) (mg : Str → Option Value) (fa : Addr) (h : Heap), (K w.params).In h → h.Ns mainGlobals mg → mg d.name = some (.ref fa) →
      ∃ fd : FuncData, (∀ (s : Shared) (u : Value), BindsTo s fd ⟨[u], []⟩ [(x, u)]) ∧
        ∀ base : Heap, (K w.params).In base → base.Ns mainGlobals mg → (∃ o, base.get? sysModules = some o) → FnG l.prog w (K w.params) mg base CX k fa fd [x] (sp (K w.params)))
    (hsp : ∀ (K : PySem.W.Frag) (H : Hp) (a : Addr) (ns : List Int), ns.length ≤ n → Only H → SqL K H a (ns.map V.int) →
      sp K [.ref a] H (fun v _ => v = .bl true) fun _ _ _ => False)
    (hCX : ∀ (H : Hp) (s : Shared) (e : Value) (s' : Shared), CX [] H s (fun _ _ _ => False) e s' → False) :
    PySem.W.WalkO q loose XP YP l.row.toRowW d [] (fun f vs => PySem.call f vs) := by
  refine Att.attach_call hn hdf fun w s₀ s₁ mg mb fa o pm cd doc a vs ns G Y ho hd hcd hmg hobj hints hlen hg => ?_
  have KX := hY w _ Y
  obtain ⟨fd, hbd, hF⟩ := F w mg fa _ KX G.T.g hmg
  exact lawG KX G.T.g G.T.b G.T.builtins G.T.nolimit hg hobj hints (Nat.le_trans hlen hn2) hr (G.T.seer hq) hF hbd
    (fun H hO hS => hsp (K w.params) H a ns hlen hO hS) fun H e s' => hCX H s₁ e s'
end

/-! ### data of any depth in the abstract heap; N: the addresses that may still change -/
structure Ext (N : Addr → Prop) (H H' : Hp) : Prop where
  keep : ∀ c o, ¬ N c → H c = some o → H' c = some o
  live : ∀ c o, H c = some o → ∃ o', H' c = some o'
theorem Ext.refl {N : Addr → Prop} {H : Hp} : Ext N H H := ⟨fun _ _ _ e => e, fun _ o e => ⟨o, e⟩⟩
theorem Ext.trans {N : Addr → Prop} {H H1 H2 : Hp} (a : Ext N H H1) (b : Ext N H1 H2) : Ext N H H2 :=
  ⟨fun c o n e => b.keep c o n (a.keep c o n e), fun c o e => let ⟨u, h⟩ := a.live c o e; b.live c u h⟩
theorem Ext.new {N : Addr → Prop} {H : Hp} {p : Addr} {o : HO} (h : H p = none) : Ext N H (upd H p o) :=
  ⟨fun c u _ e => by rw [upd_ne (ne_of_none e h)]; exact e, fun c u e => ⟨u, by rw [upd_ne (ne_of_none e h)]; exact e⟩⟩
theorem Ext.put {N : Addr → Prop} {H : Hp} {p : Addr} {o : HO} (h : N p) : Ext N H (upd H p o) :=
  ⟨fun c u n e => by
    rw [upd_ne (fun z => n (by rw [z]; exact h))]
    exact e, fun c u e => by
    by_cases hc : c = p
    · exact ⟨o, by rw [hc, upd_same]⟩
    · exact ⟨u, by rw [upd_ne hc]; exact e⟩⟩
theorem Ext.more {N N' : Addr → Prop} {H H' : Hp} (a : Ext N H H') (h : ∀ c, N c → N' c) : Ext N' H H' :=
  ⟨fun c o n e => a.keep c o (fun z => n (h c z)) e, a.live⟩
theorem Ext.same {N : Addr → Prop} {H H' : Hp} (a : Same H H') : Ext N H H' := ⟨fun c o _ e => a c o e, fun c o e => ⟨o, a c o e⟩⟩
theorem Ext.none {N : Addr → Prop} {H H' : Hp} {p : Addr} (a : Ext N H H') (h : H' p = Option.none) : H p = Option.none := by
  cases e : H p with
  | none => rfl
  | some o => obtain ⟨u, q⟩ := a.live p o e; rw [h] at q; cases q
/-- nothing changes -/
abbrev No : Addr → Prop := fun _ => False
theorem Ext.any {N : Addr → Prop} {H H' : Hp} (a : Ext No H H') : Ext N H H' := a.more fun _ z => z.elim
/-- what may change stands -/
def Live (N : Addr → Prop) (H : Hp) : Prop := ∀ c, N c → ∃ o, H c = some o
theorem Live.ext {N N' : Addr → Prop} {H H' : Hp} (l : Live N H) (e : Ext N' H H') : Live N H' := fun c h => let ⟨o, q⟩ := l c h; e.live c o q
theorem Live.not {N : Addr → Prop} {H : Hp} {p : Addr} (l : Live N H) (h : H p = Option.none) : ¬ N p := fun n => by
  obtain ⟨o, q⟩ := l p n
  rw [h] at q
  cases q
mutual
inductive Dq (N : Addr → Prop) (H : Hp) : V → PyData → Prop
  | non : Dq N H .non .none
  | bl (b : Bool) : Dq N H (.bl b) (.bool b)
  | int (i : Int) : Dq N H (.int i) (.int i)
  | str (x : Str) : Dq N H (.str x) (.str x)
  | lst {a : Addr} {xs : List V} {ds : List PyData} : H a = some (.lst xs) → ¬ N a → DqAll N H xs ds → Dq N H (.ref a) (.list ds)
  | tup {a : Addr} {xs : List V} {ds : List PyData} : H a = some (.tup xs) → ¬ N a → DqAll N H xs ds → Dq N H (.ref a) (.tuple ds)
  | dct {a : Addr} {kvs : List (Key × V)} {ps : List (PyData × PyData)} : H a = some (.dK kvs) → ¬ N a →
      DqAll N H (kvs.map fun p => kV p.1) (ps.map fun p => p.1) → DqAll N H (kvs.map fun p => p.2) (ps.map fun p => p.2) → Dq N H (.ref a) (.dict ps)
inductive DqAll (N : Addr → Prop) (H : Hp) : List V → List PyData → Prop
  | nil : DqAll N H [] []
  | cons {v : V} {vs : List V} {d : PyData} {ds : List PyData} : Dq N H v d → DqAll N H vs ds → DqAll N H (v :: vs) (d :: ds)
end
mutual
theorem Dq.mono {N N' : Addr → Prop} {H H' : Hp} (e : Ext N H H') (hn : ∀ a, N' a → N a) : ∀ {v : V} {d : PyData}, Dq N H v d → Dq N' H' v d
  | _, _, .non => .non
  | _, _, .bl b => .bl b
  | _, _, .int i => .int i
  | _, _, .str x => .str x
  | _, _, .lst h n a => .lst (e.keep _ _ n h) (fun z => n (hn _ z)) (DqAll.mono e hn a)
  | _, _, .tup h n a => .tup (e.keep _ _ n h) (fun z => n (hn _ z)) (DqAll.mono e hn a)
  | _, _, .dct h n a b => .dct (e.keep _ _ n h) (fun z => n (hn _ z)) (DqAll.mono e hn a) (DqAll.mono e hn b)
theorem DqAll.mono {N N' : Addr → Prop} {H H' : Hp} (e : Ext N H H') (hn : ∀ a, N' a → N a) : ∀ {vs : List V} {ds : List PyData}, DqAll N H vs ds → DqAll N' H' vs ds
  | _, _, .nil => .nil
  | _, _, .cons h t => .cons (Dq.mono e hn h) (DqAll.mono e hn t)
end
theorem Dq.ext {N : Addr → Prop} {H H' : Hp} {v : V} {d : PyData} (h : Dq N H v d) (e : Ext N H H') : Dq N H' v d := h.mono e fun _ z => z
theorem DqAll.ext {N : Addr → Prop} {H H' : Hp} {vs : List V} {ds : List PyData} (h : DqAll N H vs ds) (e : Ext N H H') : DqAll N H' vs ds := h.mono e fun _ z => z
theorem DqAll.append {N : Addr → Prop} {H : Hp} : ∀ {vs ws : List V} {ds es : List PyData}, DqAll N H vs ds → DqAll N H ws es → DqAll N H (vs ++ ws) (ds ++ es)
  | _, _, _, _, .nil, h => h
  | _, _, _, _, .cons a b, h => .cons a (DqAll.append b h)
theorem DqAll.get {N : Addr → Prop} {H : Hp} : ∀ {vs : List V} {ds : List PyData} {i : Nat} {v : V}, DqAll N H vs ds → vs[i]? = some v → ∃ d, ds[i]? = some d ∧ Dq N H v d
  | _, _, 0, _, .cons a _, h => by simp at h; subst h; exact ⟨_, rfl, a⟩
  | _, _, i + 1, _, .cons _ b, h => by
    obtain ⟨d, e, q⟩ := DqAll.get (i := i) b (by simpa using h)
    exact ⟨d, by simpa using e, q⟩
theorem DqAll.length {N : Addr → Prop} {H : Hp} : ∀ {vs : List V} {ds : List PyData}, DqAll N H vs ds → vs.length = ds.length
  | _, _, .nil => rfl
  | _, _, .cons _ b => by simp [b.length]

/-- the lists and dicts that were met on the way are tracked -/
def Trk (H : Hp) (as : List Addr) : Prop := ∀ b ∈ as, ∃ o, H b = some o
theorem Trk.app {H : Hp} {as bs : List Addr} (a : Trk H as) (b : Trk H bs) : Trk H (as ++ bs) :=
  fun c hc => (List.mem_append.mp hc).elim (a c) (b c)
theorem keyRead {h : Heap} {k : Key} {v : Value} {d : PyData} {N : Addr → Prop} {H : Hp} (hk : keyIs k v = true) (q : Dq N H (kV k) d) : Reads h v d [] := by
  rcases keyIs_shape hk with ⟨i, t, rfl, rfl⟩ | ⟨x, t, rfl, rfl⟩
  · cases q; exact .int i t
  · cases q; exact .str x t
theorem keysRead {h : Heap} {N : Addr → Prop} {H : Hp} {prog : Program} {w : World} : ∀ {es : List DictEntry} {vs : List (Key × Value)} {kvs : List (Key × V)} {ks : List PyData},
    PySem.Pairs (mixKind prog w) es vs → KV kvs vs → DqAll N H (kvs.map fun p => kV p.1) ks → ReadsAll h (es.map (·.key)) ks []
  | _, _, _, _, .nil, .nil, .nil => .nil
  | _, _, _, _, .cons (e := e) (kv := kv) h1 h2 t, .cons r r', .cons q q' => by
    have q0 := q
    simp only [r.1] at q0
    exact ReadsAll.cons (as := []) (bs := []) (keyRead h1 q0) (keysRead t r' q')
theorem kv_vals : ∀ {kvs : List (Key × V)} {vs : List (Key × Value)}, KV kvs vs → Vals (kvs.map fun p => p.2) (vs.map fun p => p.2)
  | _, _, .nil => .nil
  | _, _, .cons r t => .cons r.2 (kv_vals t)
theorem pairs_val {prog : Program} {w : World} : ∀ {es : List DictEntry} {vs : List (Key × Value)}, PySem.Pairs (mixKind prog w) es vs → es.map (·.val) = vs.map fun p => p.2
  | _, _, .nil => rfl
  | _, _, .cons _ h2 t => by rw [List.map_cons, List.map_cons, pairs_val t, h2]
section
variable {X : Cx} {pins : List (Addr × Obj)} {σ : L2.St} {H : Hp} {s : Shared} {N : Addr → Prop}
mutual
theorem Dq.reads (I : Inv X pins σ H s) : ∀ {v : V} {d : PyData} {u : Value}, Dq N H v d → RelV v u → ∃ as, Reads s.heap u d as ∧ Trk H as
  | _, _, _, .non, r => by cases (show _ = Value.none from r); exact ⟨_, .none, fun _ z => nomatch z⟩
  | _, _, _, .bl b, r => by cases (show _ = Value.bool b from r); exact ⟨_, .bool b, fun _ z => nomatch z⟩
  | _, _, _, .int i, r => by obtain ⟨t, rfl⟩ := (show ∃ t, _ = Value.int i t from r); exact ⟨_, .int i t, fun _ z => nomatch z⟩
  | _, _, _, .str x, r => by obtain ⟨t, rfl⟩ := (show ∃ t, _ = Value.str x t from r); exact ⟨_, .str x t, fun _ z => nomatch z⟩
  | _, _, _, .lst (a := a) (xs := xs) h n q, r => by
    cases (show _ = Value.ref a from r)
    obtain ⟨_, its, m, rv, e⟩ := (show ObjOk X.prog X.w H s.heap a (.lst xs) from I.hok a _ h)
    obtain ⟨as, q1, q2⟩ := DqAll.reads I q rv
    exact ⟨_, .list e rfl rfl q1, fun b hb => (List.mem_cons.mp hb).elim (fun z => z ▸ ⟨_, h⟩) (q2 b)⟩
  | _, _, _, .tup (a := a) (xs := xs) h n q, r => by
    cases (show _ = Value.ref a from r)
    obtain ⟨_, its, rv, o, e, c, m, hd⟩ := (show ObjOk X.prog X.w H s.heap a (.tup xs) from I.hok a _ h)
    obtain ⟨as, q1, q2⟩ := DqAll.reads I q rv
    exact ⟨as, .tuple e c hd q1, q2⟩
  | _, _, _, .dct (a := a) (kvs := kvs) h n qk qv, r => by
    cases (show _ = Value.ref a from r)
    obtain ⟨_, _, vs, rv, o, es, ep, e, ex, hd, _, hp, _⟩ := (show ObjOk X.prog X.w H s.heap a (.dK kvs) from I.hok a _ h)
    have k1 := keysRead (h := s.heap) hp rv qk
    have hv := pairs_val hp
    obtain ⟨bs, q1, q2⟩ := DqAll.reads I qv (kv_vals rv)
    rw [← hv] at q1
    exact ⟨_, .dict e ex.1 hd k1 q1, fun b hb => by
      rcases List.mem_append.mp hb with z | z
      · rw [List.mem_singleton.mp z]
        exact ⟨_, h⟩
      · exact q2 b z⟩
theorem DqAll.reads (I : Inv X pins σ H s) : ∀ {vs : List V} {ds : List PyData} {us : List Value}, DqAll N H vs ds → Vals vs us → ∃ as, ReadsAll s.heap us ds as ∧ Trk H as
  | _, _, _, .nil, .nil => ⟨_, .nil, fun _ z => nomatch z⟩
  | _, _, _, .cons q q', .cons r r' => by
    obtain ⟨as, a1, a2⟩ := Dq.reads I q r
    obtain ⟨bs, b1, b2⟩ := DqAll.reads I q' r'
    exact ⟨_, .cons a1 b1, a2.app b2⟩
end

/-! all signs are signs -/
mutual
def cpOk : PyData → Bool
  | .none | .bool _ | .int _ => true
  | .str x => PyData.strOk x
  | .list xs | .tuple xs => cpAll xs
  | .dict kvs => cpKv kvs
def cpAll : List PyData → Bool
  | [] => true
  | x :: xs => cpOk x && cpAll xs
def cpKv : List (PyData × PyData) → Bool
  | [] => true
  | (a, b) :: r => cpOk a && cpOk b && cpKv r
end
/-- small data: what repr may write -/
structure Fine (n k : Nat) (d : PyData) : Prop where
  sh : d.showable = true
  lf : d.leavesShort 64 = true
  bk : d.bulk ≤ n
  dp : d.depth ≤ k
  cp : cpOk d = true
theorem Fine.fits {n k : Nat} {d : PyData} (f : Fine n k d) (h : n ≤ 200000) : d.shown.length ≤ sizeLine := by
  have e := PyData.shown_le_bulk 64 (by decide) d f.lf
  have b := f.bk
  rw [sizeLine_eq]
  omega
def rRepr : List V → Hp → VK → Prop := fun xs H Q => ∃ (N : Addr → Prop) (v : V) (d : PyData), xs = [v] ∧ Dq N H v d ∧ Fine 200000 60 d ∧ Q (.str d.shown) H
theorem call_reprD (hG : X.A.guards = some []) (hu : X.A.units + 64 < cLine) (hs : ∃ o, X.base.get? sysModules = some o) : CallR X (.builtin "repr") rRepr := by
  intro pins s σ H xs us Q I r h
  obtain ⟨N, v, d, rfl, q, f, hq⟩ := h
  obtain ⟨u, rfl, rv⟩ := vals1 r
  have fit := f.fits (Nat.le_refl _)
  cases v with
  | non => cases q; cases (show _ = Value.none from rv); exact PySem.P.repr_of_none ⟨.str _, H, I.tok _, ⟨_, rfl⟩, hq⟩
  | bl b => cases q; cases (show _ = Value.bool b from rv); exact PySem.P.repr_of_bool ⟨.str _, H, I.tok _, ⟨_, rfl⟩, by cases b <;> exact hq⟩
  | int i =>
    cases q
    obtain ⟨t, rfl⟩ := (show ∃ t, _ = Value.int i t from rv)
    have hz : i.natAbs.log2 < 1920 := by simpa [PyData.showable] using f.sh
    exact PySem.P.repr_of_int hz ⟨.str _, H, I.tok _, ⟨_, rfl⟩, hq⟩
  | str x =>
    cases q
    obtain ⟨t, rfl⟩ := (show ∃ t, _ = Value.str x t from rv)
    exact PySem.P.repr_of_str ⟨.str _, H, I.tok _, ⟨_, rfl⟩, hq⟩ fit
  | ref a =>
    obtain ⟨as, rd, tr⟩ := Dq.reads I q rv
    cases (show _ = Value.ref a from rv)
    obtain ⟨o, ho⟩ := hs
    have hno : H sysModules = none := (I.bs _ _ ho).2
    have hsm : d.hasDict = true → sysModules ∉ as := fun _ z => by
      obtain ⟨o', e⟩ := tr _ z
      rw [hno] at e
      cases e
    have hd := f.dp
    exact repr_of_reads' rd f.sh hsm hG (by omega) (fun _ _ e => e)
      (fun h' u tk hk => ⟨.str _, H, I.kept hk, ⟨_, rfl⟩, hq⟩) fit
  | byt b => cases q
  | flt b => cases q
  | ty n => cases q
end
end Y
set_option Elab.async false
set_option linter.all false
set_option maxRecDepth 100000
set_option maxHeartbeats 4000000
/-! own layer, part 1: defs by name, the box from which a law draws, small rules -/
namespace Y
open PySem PySem.Spec PyProof.Rows L2 TL

/-! ### a def of the text by its name alone -/
def Def (K : PySem.W.Frag) (mg : Str → Option Value) (x : Str) (st : Stmt) (ps : List Str) : Prop :=
  ∃ (f : Addr) (fd : FuncData), Fun K x x st f fd ∧ mg x = some (.ref f) ∧ Binds K fd ps []
def Has (P : Program) (w : World) (K : PySem.W.Frag) (mg : Str → Option Value) (base : Heap) (x : Str) (ps : List Str) (k : Nat) (sp : Sp) : Prop :=
  ∃ (f : Addr) (fd : FuncData), mg x = some (.ref f) ∧ PySem.W.keepIn K (.ref f) = true ∧ Binds K fd ps [] ∧ FnOk P w K mg base CX0 k f fd ps sp
def HasG (P : Program) (w : World) (K : PySem.W.Frag) (mg : Str → Option Value) (base : Heap) (x : Str) (ps : List Str) (k : Nat) (sp : Sp) : Prop :=
  ∃ (f : Addr) (fd : FuncData), mg x = some (.ref f) ∧ PySem.W.keepIn K (.ref f) = true ∧ Binds K fd ps [] ∧ FnG P w K mg base CX0 k f fd ps sp
section
variable {P : Program} {w : World} {K : PySem.W.Frag} {mg : Str → Option Value} {base : Heap}
theorem Def.has {x : Str} {st : Stmt} {N ps : List Str} {k : Nat} {sp : Sp} (D : Def K mg x st ps) (S : FnScope N ps (defScope st)) (len : ∀ vs H Q E, sp vs H Q E → vs.length = ps.length)
    (hbody : ∀ (f : Addr) (cdv : Value) (A : Around) (outer : List Env) (s : Shared) (H : Hp) (vs : List V) (Q : VK) (E : XK),
      Room k (A.deeper (envOfC x (defScope st) s.heap.objs.size f cdv)) → sp vs H Q E →
      ∃ t, PSs (cxOf CX0 P w K mg base N x (defScope st) f cdv A outer s H E).nox (defBody st) t ∧ t { nx := fun _ H' => Q .non H', rt := Q } (start N vs) H) :
    Has P w K mg base x ps (k + 1) sp := by
  obtain ⟨f, fd, F, hm, hb⟩ := D
  exact ⟨f, fd, hm, F.kp, hb, F.ok S len fun cdv A outer s H vs Q E hr h => hbody f cdv A outer s H vs Q E hr h⟩
theorem Def.hasG {x : Str} {st : Stmt} {N ps : List Str} {k : Nat} {sp : Sp} (D : Def K mg x st ps) (S : FnScope N ps (defScope st)) (len : ∀ vs H Q E, sp vs H Q E → vs.length = ps.length)
    (hbody : ∀ (f : Addr) (cdv : Value) (A : Around) (outer : List Env) (s : Shared) (H : Hp) (vs : List V) (Q : VK) (E : XK), A.guards = some [] →
      Room k (A.deeper (envOfC x (defScope st) s.heap.objs.size f cdv)) → sp vs H Q E →
      ∃ t, PSs (cxOf CX0 P w K mg base N x (defScope st) f cdv A outer s H E).nox (defBody st) t ∧ t { nx := fun _ H' => Q .non H', rt := Q } (start N vs) H) :
    HasG P w K mg base x ps (k + 1) sp := by
  obtain ⟨f, fd, F, hm, hb⟩ := D
  exact ⟨f, fd, hm, F.kp, hb, okG F S len fun cdv A outer s H vs Q E hg hr h => hbody f cdv A outer s H vs Q E hg hr h⟩
end
section
variable {X : Cx} {k : Nat} {ps : List Str} {sp : Sp} {x : Str} {p pos : Pos} {e : Expr} {es : List Expr} {t : TA}
theorem pe_callH (h : Has X.prog X.w X.K X.mg X.base x ps k sp) (hr : Room k X.A) (hg : Gl X x) (ha : PA X (e :: es) t)
    (hdb : (x == ("__debug__" : Str)) = false := by decide) (he : starEach (e :: es) X.env = (false, eval e X.env) :: starEach es X.env := by rfl)
    (hpl : (backTo pos (starEach es X.env)).any (·.1) = false := by rfl) : PE X (.Call (.Name x p) (e :: es) [] pos) (tCall sp [] E0 t) := by
  obtain ⟨f, fd, hm, hk, hb, F⟩ := h
  exact pe_call F hr hg hm hk hb .nil pass0 ha hdb he hpl
theorem pe_callH0 (h : Has X.prog X.w X.K X.mg X.base x ps k sp) (hr : Room k X.A) (hg : Gl X x)
    (hdb : (x == ("__debug__" : Str)) = false := by decide) : PE X (.Call (.Name x p) [] [] pos) (tCall sp [] E0 tNil) := by
  obtain ⟨f, fd, hm, hk, hb, F⟩ := h
  exact pe_call0 F hr hg hm hk hb .nil pass0 hdb
theorem pe_callHG (h : HasG X.prog X.w X.K X.mg X.base x ps k sp) (hG : X.A.guards = some []) (hr : Room k X.A) (hg : Gl X x) (ha : PA X (e :: es) t)
    (hdb : (x == ("__debug__" : Str)) = false := by decide) (he : starEach (e :: es) X.env = (false, eval e X.env) :: starEach es X.env := by rfl)
    (hpl : (backTo pos (starEach es X.env)).any (·.1) = false := by rfl) : PE X (.Call (.Name x p) (e :: es) [] pos) (tCall sp [] E0 t) := by
  obtain ⟨f, fd, hm, hk, hb, F⟩ := h
  exact pe_callG F hG hr hg hm hk hb .nil pass0 ha hdb he hpl
end

/-! ### rules by values -/
section
variable {X : Cx}
theorem op_mulSI : OpR X (binaryOp .Mult) (fun x y H Q => ∃ (z : Str) (k : Int), x = .str z ∧ y = .int k ∧ 2 ≤ k ∧ k ≤ 100000 ∧ (z.length : Int) * k ≤ 1000000 ∧ Q (.str (Txt.mul z k)) H) := by
  intro pins s σ H x y v u Q I rx ry h
  obtain ⟨z, k, rfl, rfl, h1, h2, h3, q⟩ := h
  obtain ⟨t, rfl⟩ := (show ∃ t, v = Value.str z t from rx)
  obtain ⟨t', rfl⟩ := (show ∃ t, u = Value.int k t from ry)
  have hz : (z.length : Int) ≤ 1000000 := by
    have h5 : (z.length : Int) * 1 ≤ (z.length : Int) * k := Int.mul_le_mul_of_nonneg_left (by omega) (by omega)
    omega
  refine SB.mul ⟨?_, fun _ _ => ?_, fun _ _ => ?_⟩ fun t2 tk => ⟨.str _, H, I.tok tk, ⟨t2, rfl⟩, q⟩
  · have a1 : ¬ k < -(2 ^ 63 : Int) := by omega
    have a2 : ¬ k ≥ 2 ^ 63 := by omega
    rw [decide_eq_false a1, decide_eq_false a2]
    rfl
  · have a3 : (1000000 : Int) * k ≤ 2 ^ 63 - 1 := by omega
    have a4 : (1000000 : Int) ≤ (2 ^ 63 - 1) / k := (Int.le_ediv_iff_mul_le (by omega)).mpr a3
    omega
  · have a5 : ((z.length * k.toNat : Nat) : Int) = (z.length : Int) * k := by
      rw [Int.natCast_mul, Int.toNat_of_nonneg (by omega)]
    have a6 : ¬ z.length * k.toNat > 2 ^ 24 := by omega
    simpa [Builtin.Str.tooLong, sizeLine] using a6

/-- a datum's own type -/
def tyD : PyData → String
  | .none => "NoneType"
  | .bool _ => "bool"
  | .int _ => "int"
  | .str _ => "str"
  | .list _ => "list"
  | .tuple _ => "tuple"
  | .dict _ => "dict"
theorem call_isiQ : CallR X (.builtin "isinstance") (fun xs H Q => ∃ (N : Addr → Prop) (v : V) (d : PyData) (T : String) (b : Bool), xs = [v, .ty T] ∧ Dq N H v d ∧ kitB (tyD d) T = some b ∧ Q (.bl b) H) := by
  intro pins s σ H xs us Q I r h
  obtain ⟨N, v, d, T, b, rfl, q, hk, hq⟩ := h
  refine call_isi pins s σ H _ us Q I r ⟨v, .ty T, .type (tyD d), .type T, b, rfl, .ty T, .base ?_, kit_ty hk, hq⟩
  cases q with
  | non => exact .non
  | bl b => exact .bl b
  | int i => exact .int i
  | str x => exact .str x
  | lst h _ _ => exact .lst h
  | tup h _ _ => exact .tup h
  | dct h _ _ _ => exact .dK h
def isi_int : PyData → Bool
  | .none => false
  | .bool _ => true
  | .int _ => true
  | .str _ => false
  | .list _ => false
  | .tuple _ => false
  | .dict _ => false
theorem kit_int : ∀ d : PyData, kitB (tyD d) "int" = some (isi_int d)
  | .none => (by decide +kernel : kitB "NoneType" "int" = some false)
  | .bool _ => (by decide +kernel : kitB "bool" "int" = some true)
  | .int _ => (by decide +kernel : kitB "int" "int" = some true)
  | .str _ => (by decide +kernel : kitB "str" "int" = some false)
  | .list _ => (by decide +kernel : kitB "list" "int" = some false)
  | .tuple _ => (by decide +kernel : kitB "tuple" "int" = some false)
  | .dict _ => (by decide +kernel : kitB "dict" "int" = some false)
def isi_bool : PyData → Bool
  | .none => false
  | .bool _ => true
  | .int _ => false
  | .str _ => false
  | .list _ => false
  | .tuple _ => false
  | .dict _ => false
theorem kit_bool : ∀ d : PyData, kitB (tyD d) "bool" = some (isi_bool d)
  | .none => (by decide +kernel : kitB "NoneType" "bool" = some false)
  | .bool _ => (by decide +kernel : kitB "bool" "bool" = some true)
  | .int _ => (by decide +kernel : kitB "int" "bool" = some false)
  | .str _ => (by decide +kernel : kitB "str" "bool" = some false)
  | .list _ => (by decide +kernel : kitB "list" "bool" = some false)
  | .tuple _ => (by decide +kernel : kitB "tuple" "bool" = some false)
  | .dict _ => (by decide +kernel : kitB "dict" "bool" = some false)
def isi_str : PyData → Bool
  | .none => false
  | .bool _ => false
  | .int _ => false
  | .str _ => true
  | .list _ => false
  | .tuple _ => false
  | .dict _ => false
theorem kit_str : ∀ d : PyData, kitB (tyD d) "str" = some (isi_str d)
  | .none => (by decide +kernel : kitB "NoneType" "str" = some false)
  | .bool _ => (by decide +kernel : kitB "bool" "str" = some false)
  | .int _ => (by decide +kernel : kitB "int" "str" = some false)
  | .str _ => (by decide +kernel : kitB "str" "str" = some true)
  | .list _ => (by decide +kernel : kitB "list" "str" = some false)
  | .tuple _ => (by decide +kernel : kitB "tuple" "str" = some false)
  | .dict _ => (by decide +kernel : kitB "dict" "str" = some false)
def isi_tuple : PyData → Bool
  | .none => false
  | .bool _ => false
  | .int _ => false
  | .str _ => false
  | .list _ => false
  | .tuple _ => true
  | .dict _ => false
theorem kit_tuple : ∀ d : PyData, kitB (tyD d) "tuple" = some (isi_tuple d)
  | .none => (by decide +kernel : kitB "NoneType" "tuple" = some false)
  | .bool _ => (by decide +kernel : kitB "bool" "tuple" = some false)
  | .int _ => (by decide +kernel : kitB "int" "tuple" = some false)
  | .str _ => (by decide +kernel : kitB "str" "tuple" = some false)
  | .list _ => (by decide +kernel : kitB "list" "tuple" = some false)
  | .tuple _ => (by decide +kernel : kitB "tuple" "tuple" = some true)
  | .dict _ => (by decide +kernel : kitB "dict" "tuple" = some false)
def isi_list : PyData → Bool
  | .none => false
  | .bool _ => false
  | .int _ => false
  | .str _ => false
  | .list _ => true
  | .tuple _ => false
  | .dict _ => false
theorem kit_list : ∀ d : PyData, kitB (tyD d) "list" = some (isi_list d)
  | .none => (by decide +kernel : kitB "NoneType" "list" = some false)
  | .bool _ => (by decide +kernel : kitB "bool" "list" = some false)
  | .int _ => (by decide +kernel : kitB "int" "list" = some false)
  | .str _ => (by decide +kernel : kitB "str" "list" = some false)
  | .list _ => (by decide +kernel : kitB "list" "list" = some true)
  | .tuple _ => (by decide +kernel : kitB "tuple" "list" = some false)
  | .dict _ => (by decide +kernel : kitB "dict" "list" = some false)
def isi_dict : PyData → Bool
  | .none => false
  | .bool _ => false
  | .int _ => false
  | .str _ => false
  | .list _ => false
  | .tuple _ => false
  | .dict _ => true
theorem kit_dict : ∀ d : PyData, kitB (tyD d) "dict" = some (isi_dict d)
  | .none => (by decide +kernel : kitB "NoneType" "dict" = some false)
  | .bool _ => (by decide +kernel : kitB "bool" "dict" = some false)
  | .int _ => (by decide +kernel : kitB "int" "dict" = some false)
  | .str _ => (by decide +kernel : kitB "str" "dict" = some false)
  | .list _ => (by decide +kernel : kitB "list" "dict" = some false)
  | .tuple _ => (by decide +kernel : kitB "tuple" "dict" = some false)
  | .dict _ => (by decide +kernel : kitB "dict" "dict" = some true)
/-- == and != over data -/
def rEqQ (neg : Bool) : R2 := fun x y H Q => ∃ (N : Addr → Prop) (d e : PyData), Dq N H x d ∧ Dq N H y e ∧ SeqAt.shaped d = true ∧ SeqAt.shaped e = true ∧ Q (.bl (if neg then !PyData.eqv d e else PyData.eqv d e)) H
theorem op_eqQ (hu : X.A.units + 64 < cLine) : OpR X (compareOp .Eq) (rEqQ false) := by
  intro pins s σ H x y v u Q I rx ry h
  obtain ⟨N, d, e, hd, he, sd, se, q⟩ := h
  obtain ⟨as, r1, _⟩ := Dq.reads I hd rx
  obtain ⟨bs, r2, _⟩ := Dq.reads I he ry
  exact SeqAt.compareEq_shaped r1 r2 sd se hu ⟨.bl _, H, I, rfl, q⟩
theorem op_neQ (hu : X.A.units + 64 < cLine) : OpR X (compareOp .NotEq) (rEqQ true) := by
  intro pins s σ H x y v u Q I rx ry h
  obtain ⟨N, d, e, hd, he, sd, se, q⟩ := h
  obtain ⟨as, r1, _⟩ := Dq.reads I hd rx
  obtain ⟨bs, r2, _⟩ := Dq.reads I he ry
  exact SeqAt.compareNe_shaped r1 r2 sd se hu ⟨.bl _, H, I, rfl, q⟩
end

/-! ### the box -/
def Box (H : Hp) (b : Addr) (n : Nat) : Prop := ∃ x y z : Int, H b = some (.lst [.int x, .int y, .int z]) ∧ 0 ≤ x ∧ 0 ≤ y ∧ y < 2147483629 ∧ 0 ≤ z ∧ z ≤ n
theorem Box.mono {H : Hp} {b : Addr} {n m : Nat} (h : Box H b n) (l : n ≤ m) : Box H b m := by
  obtain ⟨x, y, z, h1, h2, h3, h4, h5, h6⟩ := h
  exact ⟨x, y, z, h1, h2, h3, h4, h5, by omega⟩
theorem Box.ext {N : Addr → Prop} {H H' : Hp} {b : Addr} {n : Nat} (h : Box H b n) (e : Ext N H H') (hb : ¬ N b) : Box H' b n := by
  obtain ⟨x, y, z, h1, r⟩ := h
  exact ⟨x, y, z, e.keep _ _ hb h1, r⟩
theorem Box.new {H : Hp} {b p : Addr} {n : Nat} {o : HO} (h : Box H b n) (hp : H p = none) : Box (upd H p o) b n := by
  obtain ⟨x, y, z, h1, r⟩ := h
  exact ⟨x, y, z, by rw [upd_ne (ne_of_none h1 hp)]; exact h1, r⟩
theorem Box.ne {H : Hp} {b p : Addr} {n : Nat} (h : Box H b n) (hp : H p = none) : b ≠ p := by
  obtain ⟨x, y, z, h1, r⟩ := h
  exact ne_of_none h1 hp
abbrev At (b : Addr) : Addr → Prop := fun c => c = b
theorem Box.live {H : Hp} {b : Addr} {n : Nat} (h : Box H b n) : Live (At b) H := fun c e => by
  obtain ⟨x, y, z, h1, r⟩ := h
  rw [show c = b from e]
  exact ⟨_, h1⟩
/-- a draw below m -/
def spTake : Sp := fun vs H Q _ => ∃ (b : Addr) (m : Int) (n : Nat), vs = [.ref b, .int m] ∧ Box H b n ∧ n ≤ 1000000 ∧ 0 < m ∧ m < 1073741824 ∧
  ∀ (k : Int) (H' : Hp), 0 ≤ k → k < m → Box H' b (n + 1) → Ext (At b) H H' → Q (.int k) H'
def spCell (K : PySem.W.Frag) : Sp := fun vs H Q _ => ∃ (a : Addr) (ns : List Int) (k : Int), vs = [.ref a, .int k] ∧ SqL K H a (ns.map V.int) ∧ ns.length ≤ 100 ∧ 0 ≤ k ∧ k ≤ 1000 ∧ ∀ c : Int, Q (.int c) H
def spBox : Sp := fun vs H Q _ => ∃ c : Int, vs = [.int c] ∧ ∀ (b : Addr) (H' : Hp), H b = none → Same H H' → Box H' b 0 → Q (.ref b) H'
/-- digits below the arity -/
def Digs (ar : Int) (z : Str) : Prop := ∀ c ∈ z.cps.toList, 48 ≤ c ∧ (c : Int) < 48 + ar
def spWord : Sp := fun vs H Q _ => ∃ (b : Addr) (ar m : Int) (n : Nat), vs = [.ref b, .int ar, .int m] ∧ Box H b n ∧ n ≤ 100000 ∧ 2 ≤ ar ∧ ar ≤ 4 ∧ 0 ≤ m ∧ m ≤ 1000 ∧
  ∀ (z : Str) (H' : Hp) (n' : Nat), Digs ar z → (z.length : Int) ≤ m → n' ≤ n + m.toNat + 1 → Box H' b n' → Ext (At b) H H' → Q (.str z) H'

/-! ### expressions that make data -/
def Nice (N : Addr → Prop) (w k : Nat) (H : Hp) (v : V) : Prop := ∃ d, Dq N H v d ∧ Fine w k d
structure FineAll (w k : Nat) (ds : List PyData) : Prop where
  sh : PyData.showableAll ds = true
  lf : PyData.leavesShortAll 64 ds = true
  bk : PyData.bulkAll ds ≤ w
  dp : PyData.depthAll ds ≤ k
  cp : cpAll ds = true
theorem Nice.ext {N : Addr → Prop} {w k : Nat} {H H' : Hp} {v : V} (h : Nice N w k H v) (e : Ext N H H') : Nice N w k H' v :=
  let ⟨d, q, f⟩ := h; ⟨d, q.ext e, f⟩
theorem Fine.mono {w w' k k' : Nat} {d : PyData} (f : Fine w k d) (hw : w ≤ w') (hk : k ≤ k') : Fine w' k' d := ⟨f.sh, f.lf, Nat.le_trans f.bk hw, Nat.le_trans f.dp hk, f.cp⟩
theorem Nice.mono {N : Addr → Prop} {w w' k k' : Nat} {H : Hp} {v : V} (h : Nice N w k H v) (hw : w ≤ w') (hk : k ≤ k') : Nice N w' k' H v :=
  let ⟨d, q, f⟩ := h; ⟨d, q, f.mono hw hk⟩
theorem bulk_len : ∀ ds : List PyData, ds.length ≤ PyData.bulkAll ds
  | [] => Nat.le_refl _
  | d :: ds => by have h := bulk_len ds; simp only [PyData.bulkAll, List.length_cons]; omega
theorem fine_none {w k : Nat} : Fine w k .none := ⟨rfl, rfl, Nat.zero_le _, Nat.zero_le _, rfl⟩
theorem fine_bool {w k : Nat} (b : Bool) : Fine w k (.bool b) := ⟨rfl, rfl, Nat.zero_le _, Nat.zero_le _, rfl⟩
theorem int_short {i : Int} (h : i.natAbs < 10 ^ 40) : i.natAbs.log2 < 1920 ∧ (PyData.shown (.int i)).length ≤ 64 := by
  refine ⟨?_, ?_⟩
  · have h2 : i.natAbs < 2 ^ 140 := Nat.lt_of_lt_of_le h (by decide)
    by_cases h0 : i.natAbs = 0
    · rw [h0]; decide
    · have := (Nat.log2_lt h0).mpr h2
      omega
  · have e := int_text_length_le10 (k := 40) (by decide) h
    show (Str.ofString (toString i)).length ≤ 64
    rw [PySem.ofString_length]
    omega
theorem fine_int {w k : Nat} {i : Int} (h : i.natAbs < 10 ^ 40) : Fine w k (.int i) := by
  obtain ⟨a, b⟩ := int_short h
  exact ⟨by simpa [PyData.showable] using a, by simpa [PyData.leavesShort] using b, Nat.zero_le _, Nat.zero_le _, rfl⟩
theorem fine_str {w k : Nat} {x : Str} (hc : ∀ c ∈ x.cps.toList, c < 1114112) (h : x.length ≤ w) : Fine w k (.str x) :=
  ⟨rfl, (List.all_eq_true.mpr fun c h => decide_eq_true (Nat.lt_trans (hc c h) (by decide)) : (x.cps.toList.all fun c => decide (c < 16 ^ 8)) = true), h, Nat.zero_le _,
    (by show PyData.strOk x = true; unfold PyData.strOk; rw [← Array.all_toList]; exact List.all_eq_true.mpr fun c h => decide_eq_true (hc c h))⟩
theorem fine_tuple {w k : Nat} {ds : List PyData} (f : FineAll w k ds) : Fine w (k + 1) (.tuple ds) :=
  ⟨by simpa [PyData.showable] using f.sh, by simpa [PyData.leavesShort] using f.lf, f.bk, Nat.succ_le_succ f.dp, by simpa [cpOk] using f.cp⟩
theorem fine_list {w k : Nat} {ds : List PyData} (f : FineAll w k ds) : Fine w (k + 1) (.list ds) :=
  ⟨by simpa [PyData.showable] using f.sh, by simpa [PyData.leavesShort] using f.lf, f.bk, Nat.succ_le_succ f.dp, by simpa [cpOk] using f.cp⟩
theorem fineAll_nil {w k : Nat} : FineAll w k [] := ⟨rfl, rfl, Nat.zero_le _, Nat.zero_le _, rfl⟩
theorem fineAll_cons {w1 w2 k : Nat} {d : PyData} {ds : List PyData} (f : Fine w1 k d) (g : FineAll w2 k ds) : FineAll (w1 + 1 + w2) k (d :: ds) := by
  refine ⟨?_, ?_, ?_, ?_, by simp only [cpAll, f.cp, g.cp, Bool.and_self]⟩
  · simp only [PyData.showableAll, f.sh, g.sh, Bool.and_self]
  · simp only [PyData.leavesShortAll, f.lf, g.lf, Bool.and_self]
  · have := f.bk; have := g.bk; simp only [PyData.bulkAll]; omega
  · have := f.dp; have := g.dp; simp only [PyData.depthAll]; omega
theorem fineAll_of {w k : Nat} : ∀ {ds : List PyData} {d : PyData}, FineAll w k ds → d ∈ ds → Fine w k d
  | x :: xs, d, f, h => by
    have h1 : x.showable = true ∧ PyData.showableAll xs = true := by simpa only [PyData.showableAll, Bool.and_eq_true] using f.sh
    have h2 : x.leavesShort 64 = true ∧ PyData.leavesShortAll 64 xs = true := by simpa only [PyData.leavesShortAll, Bool.and_eq_true] using f.lf
    have h3 := f.bk
    have h4 := f.dp
    have h5 : cpOk x = true ∧ cpAll xs = true := by simpa only [cpAll, Bool.and_eq_true] using f.cp
    simp only [PyData.bulkAll] at h3
    simp only [PyData.depthAll] at h4
    rcases List.mem_cons.mp h with e | e
    · subst e; exact ⟨h1.1, h2.1, by omega, by omega, h5.1⟩
    · exact fineAll_of ⟨h1.2, h2.2, by omega, by omega, h5.2⟩ e
theorem fine_items {w k : Nat} {ds : List PyData} (f : Fine w (k + 1) (.tuple ds)) : FineAll w k ds :=
  ⟨by simpa [PyData.showable] using f.sh, by simpa [PyData.leavesShort] using f.lf, f.bk, Nat.le_of_succ_le_succ f.dp, by simpa [cpOk] using f.cp⟩
theorem fine_itemsL {w k : Nat} {ds : List PyData} (f : Fine w (k + 1) (.list ds)) : FineAll w k ds :=
  ⟨by simpa [PyData.showable] using f.sh, by simpa [PyData.leavesShort] using f.lf, f.bk, Nat.le_of_succ_le_succ f.dp, by simpa [cpOk] using f.cp⟩
def EvD (N : Addr → Prop) (te : TE) (σ : L2.St) (H : Hp) (w k : Nat) : Prop :=
  ∀ H1, Ext N H H1 → ∀ Q : VK, (∀ v H2, Ext No H1 H2 → Nice N w k H2 v → Q v H2) → te σ H1 Q
def EvDs (N : Addr → Prop) (ta : TA) (σ : L2.St) (H : Hp) (n w k : Nat) : Prop :=
  ∀ H1, Ext N H H1 → ∀ Q : List V → Hp → Prop, (∀ vs H2, Ext No H1 H2 → vs.length = n → (∃ ds, DqAll N H2 vs ds ∧ FineAll w k ds) → Q vs H2) → ta σ H1 Q
/-- an int that is reckoned -/
def EvI (te : TE) (σ : L2.St) (i : Int) : Prop := ∀ H (Q : VK), Q (.int i) H → te σ H Q
section
variable {N : Addr → Prop} {σ : L2.St} {H : Hp} {w w1 w2 k : Nat} {te : TE} {ta : TA}
theorem evi_c (i : Int) : EvI (tC (.int i)) σ i := fun _ _ q => q
theorem evi_neg {i : Int} (h : EvI te σ i) : EvI (tUn (rU fun i => .int (-i)) te) σ (-i) := fun H Q q => h H _ ⟨i, rfl, q⟩
theorem evi_pow {tb : TE} {i j : Int} (h : EvI te σ i) (g : EvI tb σ j) (c : CPow i j) : EvI (tOp (rI CPow fun i j => .int (i ^ j.toNat)) te tb) σ (i ^ j.toNat) :=
  fun H Q q => h H _ (g H _ ⟨i, j, rfl, rfl, c, q⟩)
theorem evd_i {i : Int} (h : EvI te σ i) (hi : i.natAbs < 10 ^ 40) : EvD N te σ H 0 k := fun H1 e Q q => h H1 _ (q _ _ .refl ⟨_, .int i, fine_int hi⟩)
theorem evd_int {i : Int} (hi : i.natAbs < 10 ^ 40) : EvD N (tC (.int i)) σ H 0 k := evd_i (evi_c i) hi
theorem evd_str {x : Str} (hc : ∀ c ∈ x.cps.toList, c < 1114112) (h : x.length ≤ w) : EvD N (tC (.str x)) σ H w k := fun H1 e Q q => q _ _ .refl ⟨_, .str x, fine_str hc h⟩
theorem evd_bl {b : Bool} : EvD N (tC (.bl b)) σ H 0 k := fun H1 e Q q => q _ _ .refl ⟨_, .bl b, fine_bool b⟩
theorem evd_non : EvD N (tC .non) σ H 0 k := fun H1 e Q q => q _ _ .refl ⟨_, .non, fine_none⟩
theorem evd_var {i : Nat} {v : V} (h : σ[i]? = some (some v)) (n : Nice N w 0 H v) : EvD N (tVar i) σ H w k := fun H1 e Q q => ⟨v, h, q _ _ .refl ((n.ext e).mono (Nat.le_refl _) (Nat.zero_le _))⟩
theorem evds_nil : EvDs N tNil σ H 0 0 k := fun H1 e Q q => q _ _ .refl rfl ⟨[], .nil, fineAll_nil⟩
theorem evds_cons (h : EvD N te σ H w1 k) {n : Nat} (g : EvDs N ta σ H n w2 k) : EvDs N (tCons te ta) σ H (n + 1) (w1 + 1 + w2) k := fun H1 e Q q =>
  h H1 e _ fun v H2 e2 ⟨d, qd, f⟩ => g H2 (e.trans e2.any) _ fun vs H3 e3 hn ⟨ds, qs, fs⟩ => q _ _ (e2.trans e3) (congrArg Nat.succ hn) ⟨d :: ds, .cons (qd.ext e3.any) qs, fineAll_cons f fs⟩
theorem evds_len {vs : List V} (hw : w ≤ 200000) (h : ∃ ds, DqAll N H vs ds ∧ FineAll w k ds) : vs.length ≤ sizeLine := by
  obtain ⟨ds, q, f⟩ := h
  have h1 := q.length
  have h2 := bulk_len ds
  have h3 := f.bk
  rw [sizeLine_eq]
  omega
theorem evd_tup (L : Live N H) (hw : w ≤ 200000) {n : Nat} (g : EvDs N ta σ H n w k) : EvD N (tTup ta) σ H w (k + 1) := fun H1 e Q q =>
  g H1 e _ fun vs H2 e2 _ h => ⟨evds_len hw h, fun p hp => q _ _ (e2.trans (.new hp)) (by
    obtain ⟨ds, qs, fs⟩ := h
    exact ⟨.tuple ds, .tup upd_same ((L.ext (e.trans e2.any)).not hp) (qs.ext (.new hp)), fine_tuple fs⟩)⟩
theorem evd_lst (L : Live N H) (hw : w ≤ 200000) {n : Nat} (g : EvDs N ta σ H n w k) : EvD N (tLst ta) σ H w (k + 1) := fun H1 e Q q =>
  g H1 e _ fun vs H2 e2 _ h => ⟨evds_len hw h, fun p hp => q _ _ (e2.trans (.new hp)) (by
    obtain ⟨ds, qs, fs⟩ := h
    exact ⟨.list ds, .lst upd_same ((L.ext (e.trans e2.any)).not hp) (qs.ext (.new hp)), fine_list fs⟩)⟩
theorem evd_dnew (L : Live N H) : EvD N tDNewK σ H 0 (k + 1) := fun H1 e Q q p hp => q _ _ (.new hp) ⟨.dict [], .dct upd_same ((L.ext e).not hp) .nil .nil, ⟨rfl, rfl, Nat.le_refl _, Nat.zero_lt_succ _, rfl⟩⟩
end
theorem atI_in {α : Type} {xs : List α} {k : Int} (h0 : 0 ≤ k) (h1 : k < xs.length) : ∃ v, atI xs k = some v ∧ v ∈ xs := by
  have hj : k.toNat < xs.length := by omega
  refine ⟨xs[k.toNat], ?_, List.getElem_mem hj⟩
  have := atI_nat (xs := xs) (j := k.toNat) (v := xs[k.toNat]) (List.getElem?_eq_getElem hj)
  rwa [Int.toNat_of_nonneg h0] at this
theorem DqAll.mem {N : Addr → Prop} {H : Hp} {w k : Nat} {v : V} : ∀ {vs : List V} {ds : List PyData}, DqAll N H vs ds → FineAll w k ds → v ∈ vs → Nice N w k H v
  | _, _, .cons a b, f, h => by
    rcases List.mem_cons.mp h with e | e
    · subst e; exact ⟨_, a, fineAll_of f (List.mem_cons_self ..)⟩
    · obtain ⟨d, q, g⟩ := DqAll.mem (w := w) (k := k) b (by
        have h1 := f.sh; have h2 := f.lf; have h3 := f.bk; have h4 := f.dp; have h5 := f.cp
        simp only [cpAll, Bool.and_eq_true] at h5
        simp only [PyData.showableAll, Bool.and_eq_true] at h1
        simp only [PyData.leavesShortAll, Bool.and_eq_true] at h2
        simp only [PyData.bulkAll] at h3
        simp only [PyData.depthAll] at h4
        exact ⟨h1.2, h2.2, by omega, by omega, h5.2⟩) e
      exact ⟨d, q, g⟩
theorem drawn31 (i t : Int) (h0 : 0 ≤ t) (h1 : t ≤ 1000000000000) : (i.fmod 2147483647 + t).natAbs < 2 ^ 64 := by
  rw [Int.fmod_eq_emod_of_nonneg _ (by decide)]
  have a1 := Int.emod_nonneg i (b := 2147483647) (by decide)
  have a2 := Int.emod_lt_of_pos i (b := 2147483647) (by decide)
  omega
/-! ### signs -/
abbrev sg (c : Nat) : Str := ⟨#[c]⟩
theorem joinL_signs : ∀ zs : List Nat, joinL [] (zs.map fun c => [c]) = zs
  | [] => rfl
  | [_] => rfl
  | a :: b :: r => by
    show [a] ++ ([] ++ joinL [] ((b :: r).map fun c => [c])) = a :: b :: r
    rw [joinL_signs (b :: r)]
    rfl
theorem tl_empty : tl ("" : Str) = [] := rfl
theorem join_signs (zs : List Nat) : tl (Txt.join "" (zs.map sg)) = zs := by
  rw [join_eq, tl_join, tl_empty, List.map_map]
  exact joinL_signs zs
theorem sum_signs (zs : List Nat) : ((zs.map sg).map (·.length)).sum = zs.length := by
  induction zs with
  | nil => rfl
  | cons c r ih => rw [List.map_cons, List.map_cons, List.sum_cons, ih, List.length_cons]; show 1 + r.length = _; omega
theorem digit_at {k : Int} (h0 : 0 ≤ k) (h1 : k < 4) : atI (tl ("0123" : Str)) k = some (48 + k.toNat) := by
  have h : k = 0 ∨ k = 1 ∨ k = 2 ∨ k = 3 := by omega
  rcases h with rfl | rfl | rfl | rfl <;> decide +kernel
/-! ### a written text a number of times; a dict of one pair -/
section
variable {N : Addr → Prop} {σ : L2.St} {H : Hp} {w k : Nat} {te : TE}
abbrev rMulSI : R2 := fun x y H Q => ∃ (z : Str) (k : Int), x = .str z ∧ y = .int k ∧ 2 ≤ k ∧ k ≤ 100000 ∧ (z.length : Int) * k ≤ 1000000 ∧ Q (.str (Txt.mul z k)) H
theorem evd_mul {z : Str} {i : Int} (h1 : 2 ≤ i) (h2 : i ≤ 100000) (h3 : (z.length : Int) * i ≤ 1000000) (hc : ∀ c ∈ (Txt.mul z i).cps.toList, c < 1114112) (hl : (Txt.mul z i).length ≤ w) :
    EvD N (tOp rMulSI (tC (.str z)) (tC (.int i))) σ H w k := fun H1 e Q q => ⟨z, i, rfl, rfl, h1, h2, h3, q _ _ .refl ⟨_, .str _, fine_str hc hl⟩⟩
theorem fine_dict1 {w k : Nat} {x : Str} {d : PyData} (hc : ∀ c ∈ x.cps.toList, c < 1114112) (f : Fine w k d) : Fine (x.length + w + 2) (k + 1) (.dict [(.str x, d)]) := by
  have hx : PyData.strOk x = true := by simpa only [cpOk] using (fine_str (w := x.length) (k := 0) hc (Nat.le_refl _)).cp
  refine ⟨?_, ?_, ?_, ?_, by simp only [cpOk, cpKv, f.cp, hx, Bool.and_self]⟩
  · simp only [PyData.showable, PyData.showableKv, f.sh, Bool.and_self]
  · have h1 : PyData.leavesShort 64 (.str x) = true := (fine_str (w := x.length) (k := 0) hc (Nat.le_refl _)).lf
    simp only [PyData.leavesShort] at h1
    simp only [PyData.leavesShort, PyData.leavesShortKv, f.lf, h1, Bool.and_self]
  · have := f.bk
    have h2 : x.length = x.cps.size := rfl
    simp only [PyData.bulk, PyData.bulkKv]
    omega
  · have := f.dp
    simp only [PyData.depth, PyData.depthKv]
    omega
theorem evd_disp1 (L : Live N H) {x : Str} {i : Int} (hc : ∀ c ∈ x.cps.toList, c < 1114112) (hi : i.natAbs < 10 ^ 40) : EvD N (tDisp [(tC (.str x), tC (.int i))]) σ H (x.length + 0 + 2) (k + 1) := fun H1 e Q q p hp => by
  refine ⟨upd_same, [(Sum.inr x, .int i)], rfl, Nat.le_add_left 1 14, ?_⟩
  rw [upd_upd]
  exact q _ _ (.new hp) ⟨.dict [(.str x, .int i)], .dct upd_same ((L.ext e).not hp) (.cons (.str x) .nil) (.cons (.int i) .nil), fine_dict1 (w := 0) (k := k) hc (fine_int hi)⟩
/-- {x: [i]} -/
theorem evd_disp1L (L : Live N H) {x : Str} {i : Int} (hc : ∀ c ∈ x.cps.toList, c < 1114112) (hi : i.natAbs < 10 ^ 40) : EvD N (tDisp [(tC (.str x), tLst (tCons (tC (.int i)) tNil))]) σ H (x.length + (0 + 1 + 0) + 2) (k + 2) := fun H1 e Q q p hp => by
  refine ⟨(by decide : 1 ≤ sizeLine), fun r hr => ?_⟩
  have hpr : p ≠ r := fun z => by rw [z, upd_same] at hr; cases hr
  have h1r : H1 r = none := by rw [upd_ne (Ne.symm hpr)] at hr; exact hr
  refine ⟨by rw [upd_ne hpr, upd_same], [(Sum.inr x, .ref r)], rfl, Nat.le_add_left 1 14, ?_⟩
  have e3 : Ext No H1 (upd (upd (upd H1 p (.dK [])) r (.lst [.int i])) p (.dK (mergeK [] [(Sum.inr x, .ref r)]))) :=
    ⟨fun c o n ec => by rw [upd_ne (ne_of_none ec hp), upd_ne (ne_of_none ec h1r), upd_ne (ne_of_none ec hp)]; exact ec,
      fun c o ec => ⟨o, by rw [upd_ne (ne_of_none ec hp), upd_ne (ne_of_none ec h1r), upd_ne (ne_of_none ec hp)]; exact ec⟩⟩
  refine q _ _ e3 ⟨.dict [(.str x, .list [.int i])], .dct upd_same ((L.ext e).not hp) (.cons (.str x) .nil) (.cons (.lst ?_ ((L.ext e).not h1r) (.cons (.int i) .nil)) .nil), fine_dict1 hc (fine_list (fineAll_cons (w1 := 0) (w2 := 0) (fine_int hi) fineAll_nil))⟩
  rw [upd_ne (Ne.symm hpr), upd_same]
end
/-! ### comprehensions over a text; lists of signs -/
theorem lc_text {x : Str} {g : TG} {tt : TT} {te : TE} {vs : List Nat} {σ : L2.St} {H1 : Hp} {D : Addr} {Qd : Hp → Prop} (Pv : Nat → Hp → Prop) (h0 : Pv 0 (upd H1 D (.lst [])))
    (hs : ∀ i c H, x.cps[i]? = some c → Pv i H → g (.str (sg c)) (wipe σ vs) H fun σ2 H2 => wipe σ2 vs = wipe σ vs ∧ tt σ2 H2 fun b H3 =>
      if b = true then te σ2 H3 fun y H4 => ∃ acc, H4 D = some (.lst acc) ∧ acc.length < sizeLine ∧ Pv (i + 1) (upd H4 D (.lst (acc ++ [y]))) else Pv (i + 1) H3)
    (hd : ∀ H, Pv x.cps.size H → Qd H) :
    ∃ W : Nat → Nat → Hp → Prop, (∃ m, W 0 m (upd H1 D (.lst []))) ∧ ∀ i m H, W i m H →
      ((Its x).stop i H ∧ Qd H) ∨ ((Its x).go i H ∧ ∃ Nx : Hp → Prop, (∀ H', Nx H' → ∃ m', m' < m ∧ W (i + 1) m' H') ∧
        ∀ y H', (Its x).yld i H y H' → g y (wipe σ vs) H' fun σ2 H2 => wipe σ2 vs = wipe σ vs ∧ tt σ2 H2 fun b H3 =>
        if b = true then te σ2 H3 fun y H4 => ∃ acc, H4 D = some (.lst acc) ∧ acc.length < sizeLine ∧ Nx (upd H4 D (.lst (acc ++ [y]))) else Nx H3) := by
  refine ⟨fun i m H => m = x.cps.size - i ∧ i ≤ x.cps.size ∧ Pv i H, ⟨x.cps.size, by simp, Nat.zero_le _, h0⟩, ?_⟩
  rintro i m H ⟨rfl, hi, p⟩
  by_cases hlt : i < x.cps.size
  · refine .inr ⟨hlt, Pv (i + 1), fun H' p' => ⟨x.cps.size - (i + 1), by omega, rfl, hlt, p'⟩, fun y H' hy => ?_⟩
    obtain ⟨rfl, c, hc, rfl⟩ := hy
    exact hs i c _ hc p
  · have e : i = x.cps.size := by omega
    subst e
    exact .inl ⟨Nat.le_refl _, hd H p⟩
theorem shaped_signs (l : List Nat) (h : ∀ c ∈ l, c < 1114112) : SeqAt.shaped (.list (l.map fun c => .str (sg c))) = true := by
  have h1 : PyData.canLayAll0 (l.map fun c => .str (sg c)) = true := by
    induction l with
    | nil => rfl
    | cons c r ih =>
      rw [List.map_cons]
      simp only [PyData.canLayAll0, Bool.and_eq_true]
      refine ⟨?_, ih fun d hd => h d (List.mem_cons_of_mem _ hd)⟩
      have := h c List.mem_cons_self
      simp [PyData.canLay0, PyData.strOk, this]
  have h2 : ∀ r : List Nat, PyData.depthAll (r.map fun c => .str (sg c)) = 0 := fun r => by
    induction r with
    | nil => rfl
    | cons c r ih => simp only [List.map_cons, PyData.depthAll, ih, PyData.depth, Nat.max_self]
  unfold SeqAt.shaped
  simp only [PyData.canLay0, h1, PyData.depth, h2, Bool.true_and]
  decide
theorem eqvAll_nil : ∀ ds : List PyData, PyData.eqvAll ds [] = ds.isEmpty
  | [] => rfl
  | _ :: _ => rfl
theorem filter_none {p : Nat → Bool} : ∀ (l : List Nat), ((l.filter fun c => !p c).map fun c => PyData.str (sg c)).isEmpty = l.all p
  | [] => rfl
  | c :: r => by
    rw [List.filter_cons, List.all_cons]
    cases h : p c with
    | true => simpa using filter_none r
    | false => simp
theorem cutS_mem {z : Str} {lo hi : Option Int} {c : Nat} (h : c ∈ tl (cutS z lo hi)) : c ∈ tl z := by
  have h1 : c ∈ (((tl z).drop (HT.sIx z.length 0 lo)).take (HT.sIx z.length z.length hi - HT.sIx z.length 0 lo)) := h
  exact List.mem_of_mem_drop (List.mem_of_mem_take h1)
theorem fine_cps {w k : Nat} {x : Str} (f : Fine w k (.str x)) : ∀ c ∈ tl x, c < 1114112 := fun c hc => by
  have h : PyData.strOk x = true := by simpa only [cpOk] using f.cp
  unfold PyData.strOk at h
  rw [← Array.all_toList] at h
  exact of_decide_eq_true (List.all_eq_true.mp h c hc)
theorem lst_use {N : Addr → Prop} {ta : TA} {σ : L2.St} {H : Hp} {n w k : Nat} {Q : VK} (L : Live N H) (h : EvDs N ta σ H n w k) (hw : w ≤ 200000)
    (f : ∀ (xs : List V) (ds : List PyData) (p : Addr) (H' : Hp), xs.length = n → DqAll N H' xs ds → FineAll w k ds → H' p = some (.lst xs) → ¬ N p → Ext No H H' → Q (.ref p) H') : tLst ta σ H Q :=
  h H .refl _ fun xs H' e hn ⟨ds, q, g⟩ => ⟨evds_len hw ⟨ds, q, g⟩, fun p hp => f xs ds p _ hn (q.ext (.new hp)) g upd_same ((L.ext e.any (N' := N)).not hp) (e.trans (.new hp))⟩
theorem fineAll_append {w1 w2 k : Nat} : ∀ {ds es : List PyData}, FineAll w1 k ds → FineAll w2 k es → FineAll (w1 + w2) k (ds ++ es)
  | [], es, f, g => ⟨g.sh, g.lf, by have := g.bk; show PyData.bulkAll es ≤ _; omega, g.dp, g.cp⟩
  | d :: ds, es, f, g => by
    have h1 : d.showable = true ∧ PyData.showableAll ds = true := by simpa only [PyData.showableAll, Bool.and_eq_true] using f.sh
    have h2 : d.leavesShort 64 = true ∧ PyData.leavesShortAll 64 ds = true := by simpa only [PyData.leavesShortAll, Bool.and_eq_true] using f.lf
    have h3 : d.bulk + 1 + PyData.bulkAll ds ≤ w1 := f.bk
    have h4 := f.dp
    have h5 : cpOk d = true ∧ cpAll ds = true := by simpa only [cpAll, Bool.and_eq_true] using f.cp
    simp only [PyData.depthAll] at h4
    have r := fineAll_append (w1 := w1 - (d.bulk + 1)) (ds := ds) ⟨h1.2, h2.2, by omega, by omega, h5.2⟩ g
    refine ⟨?_, ?_, ?_, ?_, ?_⟩
    · show (d.showable && PyData.showableAll (ds ++ es)) = true
      rw [h1.1, r.sh]; rfl
    · show (d.leavesShort 64 && PyData.leavesShortAll 64 (ds ++ es)) = true
      rw [h2.1, r.lf]; rfl
    · have := r.bk
      show d.bulk + 1 + PyData.bulkAll (ds ++ es) ≤ _
      omega
    · have := r.dp
      show max d.depth (PyData.depthAll (ds ++ es)) ≤ k
      omega
    · show (cpOk d && cpAll (ds ++ es)) = true
      rw [h5.1, r.cp]; rfl
/-! ### one statement off -/
theorem seq_set {te : TE} {i : Nat} {u : TS} {D : Ends} {σ : L2.St} {H : Hp} (h : te σ H fun x H1 => u D (σ.set i (some x)) H1) : tSeq (tAsg te (gName i)) u D σ H := h
theorem seq_if {c : TT} {t u v : TS} {D : Ends} {σ : L2.St} {H : Hp} (h : c σ H fun b H1 => if b = true then t { D with nx := v D } σ H1 else u { D with nx := v D } σ H1) : tSeq (tIfS c t u) v D σ H := h
theorem seq_ret {te : TE} {D : Ends} {σ : L2.St} {H : Hp} (h : te σ H D.rt) : tRet te D σ H := h
theorem evds_le {N : Addr → Prop} {ta : TA} {σ : L2.St} {H : Hp} {n w w' k : Nat} (h : EvDs N ta σ H n w k) (hw : w ≤ w') : EvDs N ta σ H n w' k := fun H1 e Q q =>
  h H1 e Q fun vs H2 e2 hn ⟨ds, qs, f⟩ => q vs H2 e2 hn ⟨ds, qs, f.sh, f.lf, Nat.le_trans f.bk hw, f.dp, f.cp⟩
/-- a part of the reading apart: what it may hand on -/
theorem via {te : TE} {σ : L2.St} {H : Hp} {Q : VK} (R : V → Hp → Prop) (h : ∀ Q' : VK, (∀ x H', R x H' → Q' x H') → te σ H Q') (r : ∀ x H', R x H' → Q x H') : te σ H Q := h Q r
theorem Same.ext0 {H H' : Hp} (e : Ext No H H') : Same H H' := fun b o h => e.keep b o id h
theorem cb_arg {te : TE} {r : List V → Hp → VK → Prop} {σ : L2.St} {H : Hp} {Q : VK} (h : te σ H fun x H1 => r [x] H1 Q) : tCB r (tCons te tNil) σ H Q := h
end Y
set_option Elab.async false
set_option linter.all false
set_option maxRecDepth 100000
set_option maxHeartbeats 4000000
/-! own layer, part 2: words and places in plain Lean; the promises of the defs about them -/
namespace Y
open PySem PySem.Spec PyProof.Rows L2 TL

/-! ### strip -/
theorem tw_all {p : Nat → Bool} : ∀ {l : List Nat}, (∀ c ∈ l, p c = true) → l.takeWhile p = l
  | [], _ => rfl
  | a :: r, h => by
    rw [List.takeWhile_cons, h a List.mem_cons_self, tw_all fun c hc => h c (List.mem_cons_of_mem _ hc)]
    rfl
theorem tw_len {p : Nat → Bool} : ∀ {l : List Nat}, (l.takeWhile p).length ≤ l.length
  | [] => Nat.le_refl _
  | a :: r => by
    have h := tw_len (p := p) (l := r)
    rw [List.takeWhile_cons]
    split
    · simp only [List.length_cons]; omega
    · simp only [List.length_nil]; omega
theorem tw_lt {p : Nat → Bool} : ∀ {l : List Nat} {c : Nat}, c ∈ l → p c = false → (l.takeWhile p).length < l.length
  | a :: r, c, h, hc => by
    rw [List.takeWhile_cons]
    cases ha : p a with
    | false => simp
    | true =>
      rcases List.mem_cons.mp h with e | e
      · rw [e, ha] at hc; cases hc
      · have := tw_lt e hc
        simp only [if_true, List.length_cons]
        omega
theorem tw_head {p : Nat → Bool} : ∀ {l : List Nat}, (l.takeWhile p).length < l.length → ∃ c ∈ l.drop (l.takeWhile p).length, p c = false
  | a :: r, h => by
    rw [List.takeWhile_cons] at h ⊢
    cases ha : p a with
    | false => exact ⟨a, by simp, ha⟩
    | true =>
      rw [ha] at h
      simp only [if_true, List.length_cons] at h ⊢
      obtain ⟨c, h1, h2⟩ := tw_head (p := p) (l := r) (by omega)
      exact ⟨c, by simpa using h1, h2⟩
theorem strip_empty (x y : Str) : decide (V.str (Txt.stripChars x y) = V.str "") = (tl x).all fun c => y.cps.contains c := by
  have e0 : ∀ z : Str, decide (V.str z = V.str "") = decide (z.length = 0) := fun z => by
    by_cases h : z.length = 0
    · have : z = "" := ext_tl (by
        have h2 : (tl z).length = 0 := by rw [← len_tl]; exact h
        rw [List.length_eq_zero_iff.mp h2]; rfl)
      rw [decide_eq_true h, this]
      exact decide_eq_true rfl
    · rw [decide_eq_false h]
      exact decide_eq_false fun q => h (by rw [V.str.inj q]; rfl)
  rw [e0]
  unfold Txt.stripChars
  rw [stripBy_eq]
  have hl : (Builtin.Str.strSub x (stripLo y.cps.contains true x) (stripHi y.cps.contains true x (stripLo y.cps.contains true x))).length =
      min (stripHi y.cps.contains true x (stripLo y.cps.contains true x)) x.length - stripLo y.cps.contains true x := by
    show (x.cps.extract _ _).size = _
    rw [Array.size_extract]
    rfl
  rw [hl]
  show decide (min (x.length - (((tl x).drop ((tl x).takeWhile y.cps.contains).length).reverse.takeWhile y.cps.contains).length) x.length - ((tl x).takeWhile y.cps.contains).length = 0) = _
  by_cases h : ∀ c ∈ tl x, y.cps.contains c = true
  · have e1 : ((tl x).all fun c => y.cps.contains c) = true := List.all_eq_true.mpr h
    rw [e1, tw_all h]
    refine decide_eq_true ?_
    have := len_tl x
    omega
  · have e1 : ((tl x).all fun c => y.cps.contains c) = false := by
      cases q : (tl x).all fun c => y.cps.contains c with
      | false => rfl
      | true => exact absurd (List.all_eq_true.mp q) h
    rw [e1]
    refine decide_eq_false ?_
    obtain ⟨c, hc, hp⟩ : ∃ c ∈ tl x, y.cps.contains c = false := by
      by_cases q : ∃ c ∈ tl x, y.cps.contains c = false
      · exact q
      · refine absurd (fun c hc => ?_) h
        cases r : y.cps.contains c with
        | true => rfl
        | false => exact absurd ⟨c, hc, r⟩ q
    have a1 := tw_lt hc hp
    obtain ⟨d, hd, hq⟩ := tw_head a1
    have a2 := tw_lt (p := y.cps.contains) (List.mem_reverse.mpr hd) hq
    rw [List.length_reverse, List.length_drop] at a2
    have := len_tl x
    omega

/-! ### what the definitions say -/
def dInt (lo hi : Int) : PyData → Bool
  | .int i => decide (lo ≤ i) && decide (i ≤ hi)
  | _ => false
def dNat (lo : Int) : PyData → Bool
  | .int i => decide (lo ≤ i)
  | _ => false
def isDig (ar : Int) (c : Nat) : Bool := decide (48 ≤ c) && decide ((c : Int) < 48 + ar)
def dWord (ar : Int) : PyData → Bool
  | .str z => (tl z).all (isDig ar)
  | _ => false
def dPlace (ar : Int) : PyData → Bool
  | .tuple [r, w] => dNat 0 r && dWord ar w
  | _ => false
def dWhole : PyData → Bool
  | .int _ => true
  | _ => false
/-- the digits of an arity, cut out of the text of all -/
theorem digits_cut {ar : Int} (h0 : 2 ≤ ar) (h1 : ar ≤ 4) (c : Nat) : (cutS ("0123" : Str) none (some ar)).cps.contains c = isDig ar c := by
  have h : ar = 2 ∨ ar = 3 ∨ ar = 4 := by omega
  have e : ∀ (x : Str) (l : List Nat), tl x = l → x.cps.contains c = l.contains c := fun x l h => by
    rw [← h, Array.contains_toList]
  have two : ∀ (l : List Nat) (n : Nat), l = (List.range n).map (48 + ·) → l.contains c = (decide (48 ≤ c) && decide (c < 48 + n)) := fun l n h => by
    subst h
    by_cases q : 48 ≤ c ∧ c < 48 + n
    · rw [decide_eq_true q.1, decide_eq_true q.2]
      refine List.contains_iff_mem.mpr (List.mem_map.mpr ⟨c - 48, List.mem_range.mpr (by omega), by omega⟩)
    · have : ¬ c ∈ (List.range n).map (48 + ·) := fun z => by
        obtain ⟨k, hk, rfl⟩ := List.mem_map.mp z
        have := List.mem_range.mp hk
        exact q ⟨by omega, by omega⟩
      have e1 : ((List.range n).map (48 + ·)).contains c = false := by
        cases r : ((List.range n).map (48 + ·)).contains c with
        | false => rfl
        | true => exact absurd (List.contains_iff_mem.mp r) this
      rw [e1]
      by_cases q1 : 48 ≤ c
      · rw [decide_eq_true q1, decide_eq_false (fun z => q ⟨q1, z⟩)]
        rfl
      · rw [decide_eq_false q1]
        rfl
  unfold isDig
  rcases h with rfl | rfl | rfl
  · rw [e _ [48, 49] (by decide +kernel), two _ 2 (by decide)]
    congr 1
    exact decide_eq_decide.mpr (by omega)
  · rw [e _ [48, 49, 50] (by decide +kernel), two _ 3 (by decide)]
    congr 1
    exact decide_eq_decide.mpr (by omega)
  · rw [e _ [48, 49, 50, 51] (by decide +kernel), two _ 4 (by decide)]
    congr 1
    exact decide_eq_decide.mpr (by omega)
theorem cut_len {ar : Int} : (cutS ("0123" : Str) none (some ar)).length ≤ 4 := cutS_length _ _ _

/-! ### promises: a test of a datum -/
def spInt : Sp := fun vs H Q _ => ∃ (N : Addr → Prop) (v : V) (d : PyData) (lo hi : Int), vs = [v, .int lo, .int hi] ∧ Dq N H v d ∧ Q (.bl (dInt lo hi d)) H
def spNat : Sp := fun vs H Q _ => ∃ (N : Addr → Prop) (v : V) (d : PyData) (lo : Int), vs = [v, .int lo] ∧ Dq N H v d ∧ Q (.bl (dNat lo d)) H
def spAr : Sp := fun vs H Q _ => ∃ (N : Addr → Prop) (v : V) (d : PyData), vs = [v] ∧ Dq N H v d ∧ Q (.bl (dInt 2 4 d)) H
def spIsWord : Sp := fun vs H Q _ => ∃ (N : Addr → Prop) (v : V) (d : PyData) (ar : Int) (k : Nat), vs = [v, .int ar] ∧ Dq N H v d ∧ 2 ≤ ar ∧ ar ≤ 4 ∧ Fine 200000 k d ∧ Q (.bl (dWord ar d)) H
def spPlace : Sp := fun vs H Q _ => ∃ (N : Addr → Prop) (v : V) (d : PyData) (ar : Int) (k : Nat), vs = [v, .int ar] ∧ Dq N H v d ∧ 2 ≤ ar ∧ ar ≤ 4 ∧ Fine 200000 k d ∧ Q (.bl (dPlace ar d)) H
def spWhole : Sp := fun vs H Q _ => ∃ (N : Addr → Prop) (v : V) (d : PyData), vs = [v] ∧ Dq N H v d ∧ Q (.bl (dWhole d)) H
def spIsWord' : Sp := fun vs H Q _ => ∃ (N : Addr → Prop) (v : V) (d : PyData) (ar : Int) (k : Nat), vs = [v, .int ar] ∧ Dq N H v d ∧ Live N H ∧ 2 ≤ ar ∧ ar ≤ 4 ∧ Fine 200000 k d ∧
  ∀ H', Ext No H H' → Q (.bl (dWord ar d)) H'
def spValue : Sp := fun vs H Q _ => ∃ (b : Addr) (ar : Int) (n : Nat), vs = [.ref b, .int ar] ∧ Box H b n ∧ n ≤ 90000 ∧ 2 ≤ ar ∧ ar ≤ 4 ∧
  ∀ (v : V) (H' : Hp), Nice (At b) 1000 3 H' v → Box H' b (n + 20) → Ext (At b) H H' → Q v H'
/-- a whole number at the head of a pair -/
def dPair : PyData → Bool
  | .tuple [r, _] => dWhole r
  | _ => false
end Y
set_option Elab.async false
set_option linter.all false
set_option maxRecDepth 100000
set_option maxHeartbeats 4000000
/-! own layer, part 3: an own exception over an own base over ValueError, its __init__ with super().__init__(text) -/
namespace Y
open PySem PySem.Spec PyProof.Rows L2 TL

/-- the body of such an __init__ runs: as a def's, with the cell of its class -/
def cxX (CX : CXT) (P : Program) (w : World) (K : PySem.W.Frag) (mg : Str → Option Value) (base : Heap) (N : List Str) (qual : Str) (scope : Scope)
    (f : Addr) (cd : Value) (cc : Addr) (A : Around) (outer : List Env) (s : Shared) (H : Hp) (E : XK) : Cx :=
  let env := PySem.W.ksEnv qual scope s.heap.objs.size f cd cc
  { prog := P, w := w, K := K, mg := mg, base := base, A := A.deeper env, N := N, s_0 := s, H_0 := H, env := env, outer := outer, stack := env :: outer,
    ex := [], calm := true, fn := fun _ => false, pn := [],
    xe := fun e s' => wpAny (model P w) (A.deeper env) (leaving env e) (fun _ s'' => CX outer H s E e s'') (fun e' s'' => CX outer H s E e' s'') s' }
/-- the names of such a def: all local, but the class's cell -/
structure InitScope (N P : List Str) (sc : Scope) : Prop where
  kind : sc.kind = .function
  co : sc.isCoroutine = false
  gen : sc.isGenerator = false
  nd : N.Nodup
  pre : N.take P.length = P
  par : ∀ x ∈ P, sc.names.lookup x = some .local
  nocell : ∀ y ∈ sc.names, y.2 ≠ .cell
  nofree : ∀ y ∈ sc.names, y.2 = .free → y.1 = "__class__"
  sup : sc.names.lookup ("super" : Str) = some .globalImplicit
  cls : sc.names.lookup ("__class__" : Str) = some .free
theorem zip_look {x : Str} {v : Value} : ∀ {P : List Str} {us : List Value} {i : Nat}, P.Nodup → P[i]? = some x → us[i]? = some v → (P.zip us).reverse.lookup x = some v := fun {P us i} nd h1 h2 => by
  have hm : (x, v) ∈ P.zip us := by
    refine List.mem_iff_getElem?.mpr ⟨i, ?_⟩
    rw [List.getElem?_zip_eq_some]
    exact ⟨h1, h2⟩
  have uni : ∀ {l : List (Str × Value)}, (l.map (·.1)).Nodup → (x, v) ∈ l → l.lookup x = some v := fun {l} hn hl => by
    induction l with
    | nil => cases hl
    | cons p r ih =>
      obtain ⟨y, u⟩ := p
      rw [List.map_cons, List.nodup_cons] at hn
      rcases List.mem_cons.mp hl with e | e
      · cases e
        simp
      · have hne : x ≠ y := fun z => hn.1 (List.mem_map.mpr ⟨(x, v), e, z⟩)
        rw [List.lookup_cons]
        have : (x == y) = false := by simpa using hne
        rw [this]
        exact ih hn.2 e
  refine uni ?_ (List.mem_reverse.mpr hm)
  rw [List.map_reverse]
  refine (List.reverse_perm _).nodup_iff.mpr ?_
  have hz : ∀ (P : List Str) (us : List Value), P.Nodup → ((P.zip us).map (·.1)).Nodup := by
    intro P
    induction P with
    | nil => intro us _; exact List.nodup_nil
    | cons p r ih =>
      intro us hn
      cases us with
      | nil => exact List.nodup_nil
      | cons u t =>
        rw [List.nodup_cons] at hn
        rw [List.zip_cons_cons, List.map_cons, List.nodup_cons]
        refine ⟨fun z => hn.1 ?_, ih t hn.2⟩
        obtain ⟨q, hq, e⟩ := List.mem_map.mp z
        have e' : q.1 = p := e
        rw [← e']
        exact (List.of_mem_zip hq).1
  exact hz P us nd
section
variable {CX : CXT} {P : Program} {w : World} {K : PySem.W.Frag} {mg : Str → Option Value} {base : Heap} {N ps : List Str} {qual : Str} {scope : Scope} {f cc D : Addr} {cd : Value} {A : Around} {outer : List Env} {s : Shared} {H : Hp} {E : XK}
theorem x_start {us : List Value} {vs : List V} {h1 : Heap} (S : InitScope N ps scope) (hd : A.handled = none) (e0 : Env0 P w K mg base A outer s H) (hl : vs.length = ps.length) (r : Vals vs us)
    (hcc : ∃ cl cld csl, K.lookup cc = some ⟨cl, cld, .cell (some (.ref D)), csl⟩)
    (hns : h1.Ns s.heap.objs.size fun x => (ps.zip us).reverse.lookup x) (hk : ∀ b o, s.heap.get? b = some o → h1.get? b = some o) (tk : Nat) :
    Inv (cxX CX P w K mg base N qual scope f cd cc A outer s H E) [] (L2.start N vs) H { s with heap := h1, toks := tk } := by
  obtain ⟨cl, cld, csl, hc⟩ := hcc
  have hpl : ps.length ≤ N.length := by have := congrArg List.length S.pre; rw [List.length_take] at this; omega
  have ndP : ps.Nodup := by rw [← S.pre]; exact S.nd.sublist (List.take_sublist _ _)
  have hbc : base.get? cc = some _ := e0.mod.kin _ _ hc
  have hsc := (e0.bs _ _ hbc).1
  have hHc := (e0.bs _ _ hbc).2
  have only : ∀ x c, (cxX CX P w K mg base N qual scope f cd cc A outer s H E).env.cells.lookup x = some c → x = "__class__" ∧ c = cc := fun x c h => by
    have h' : ([(("__class__" : Str), cc)] : List (Str × Addr)).lookup x = some c := h
    rw [List.lookup_cons] at h'
    cases e : x == ("__class__" : Str) with
    | true => rw [e] at h'; exact ⟨by simpa using e, (Option.some.inj h').symm⟩
    | false => rw [e] at h'; cases h'
  have noA : ∀ b : Addr, b ∉ (cxX CX P w K mg base N qual scope f cd cc A outer s H E).ex := fun b z => absurd (show b ∈ ([] : List Addr) from z) (by simp)
  refine ⟨⟨e0.mod, S.kind, rfl, rfl, Nat.le_refl _, fun y z c h1 h2 => (only _ _ h1).1.trans (only _ _ h2).1.symm, fun y hy => ?_, fun y c z _ => Bool.noConfusion z, fun _ => hd, Around.frames_deeper e0.frames, .inr ⟨rfl, rfl⟩,
      fun b z => absurd z (noA b), e0.bs, e0.bsz, fun b _ _ => noA b, fun b z => absurd z (noA b), e0.funs, e0.frf⟩,
    rfl, e0.bare, Un.kept hk, ⟨_, hns, fun i y v h1 h2 h3 => ?_⟩, fun y c h => ?_, e0.hok.fresh (Nat.le_refl _), fun y c h => ?_, fun p hp => absurd (show p ∈ ([] : List (Addr × Obj)) from hp) (by simp), e0.hok.kept hk, ?_⟩
  · have hy : scope.names.lookup y = some .cell ∨ scope.names.lookup y = some .free := hy
    rcases hy with hy | hy
    · exact absurd rfl (S.nocell _ (PySem.mem_of_lookup hy))
    · have e : y = "__class__" := S.nofree _ (PySem.mem_of_lookup hy) rfl
      subst e
      exact ⟨cc, rfl⟩
  · have hi : i < vs.length := by
      unfold L2.start at h2
      by_cases hi : i < vs.length
      · exact hi
      · rw [List.getElem?_append_right (by simpa using hi), List.getElem?_replicate] at h2
        split at h2 <;> cases h2
    have ha : vs[i]? = some v := by
      unfold L2.start at h2
      rw [List.getElem?_append_left (by simpa using hi), List.getElem?_map] at h2
      cases e : vs[i]? with
      | none => rw [e] at h2; cases h2
      | some a => rw [e] at h2; cases h2; rfl
    obtain ⟨u, hu, rv⟩ := r.get ha
    have hp : ps[i]? = some y := by
      rw [← S.pre, List.getElem?_take_of_lt (by omega)]
      exact h1
    exact ⟨u, rv, .inl ⟨S.par y (List.mem_of_getElem? hp), zip_look ndP hp hu⟩⟩
  · obtain ⟨e1, e2⟩ := only y c h
    rw [e2]
    exact ⟨_, _, hk _ _ hsc, rfl⟩
  · obtain ⟨e1, e2⟩ := only y c h
    rw [e2]
    exact hHc
  · unfold L2.start
    show _ = N.length
    rw [List.length_append, List.length_map, List.length_replicate]
    omega
end
/-- what the written part says of super().__init__ in the class at C -/
structure SupTx (P : Program) (K : PySem.W.Frag) (C cc cda : Addr) : Prop where
  cell : ∃ cl cld csl, K.lookup cc = some ⟨cl, cld, .cell (some (.ref C)), csl⟩
  code : ∃ ccl cdd vs ccs file tf, K.lookup cda = some ⟨ccl, cdd, .fields vs, ccs⟩ ∧ vs[2]? = some (.str file tf) ∧ ((P.main.file : Str) == file) = true
  top : (P.main.scope.names.lookup ("super" : Str)).isSome = false
  opq : PySem.W.nsIn K cStatics "thirdparty.any" = some none
  sup : PySem.W.ks_superIn K C C "__init__" = some (some (.builtin "ValueError.__init__"))
  isB : PySem.W.subIn K (.ref C) (.type "ValueError") = some true
  mroC : PySem.W.mroIn K C (.ref C) = some true
theorem boot_super : bootBuiltins "super" = some (.type "super") := by decide +kernel
section
variable {CX : CXT} {P : Program} {w : World} {K : PySem.W.Frag} {mg : Str → Option Value} {base : Heap} {N ps : List Str} {qual name : Str} {scope : Scope} {f cc cda C a : Addr} {A : Around} {outer : List Env} {s0 s : Shared} {H0 H : Hp} {E : XK} {σ : L2.St}
  {body : List Stmt} {params : Arguments} {dV kV doc pm ct oc : Value} {an od : Option Addr} {osl : Array (Option Value)} {Q : Flow → Shared → Prop}
abbrev cxN (CX : CXT) (P : Program) (w : World) (K : PySem.W.Frag) (mg : Str → Option Value) (base : Heap) (N : List Str) (qual : Str) (scope : Scope)
    (f cda cc : Addr) (A : Around) (outer : List Env) (s : Shared) (H : Hp) (E : XK) : Cx := (cxX CX P w K mg base N qual scope f (.ref cda) cc A outer s H E).nox
theorem sup_stmt {msg : Str} {pl : Sem Bool} {j : Nat} {p0 p1 p2 p3 p4 pc : Pos} {ar : Arg} (I : Inv (cxN CX P w K mg base N qual scope f cda cc A outer s0 H0 E) [] σ H s) (S : SupTx P K C cc cda) (T : OexC K C) (hsup : mg "super" = none)
    (hsk : scope.kind = .function) (hks : scope.names.lookup ("super" : Str) = some .globalImplicit) (hkc : scope.names.lookup ("__class__" : Str) = some .free)
    (lk : K.lookup f = some ⟨oc, od, .func (PySem.W.ksFn name qual params body scope dV kV doc pm an (.ref cda) ct cc), osl⟩)
    (hp : (params.posonlyargs ++ params.args).head? = some ar) (hN : N[0]? = some ar.arg) (hka : scope.names.lookup ar.arg = some .local) (hσ : σ[0]? = some (some (.ref a))) (hH : H a = some (exo a C none))
    (he : eval (.Call (.Attribute (.Call (.Name "super" p0) [] [] p1) "__init__" p2) [.Constant (.str msg) j pc] [] p3) (PySem.W.ksEnv qual scope s0.heap.objs.size f (.ref cda) cc) = (do
      let ov ← attributeBase (.Call (.Name "super" p0) [] [] p1) "__init__" (PySem.W.ksEnv qual scope s0.heap.objs.size f (.ref cda) cc) (eval (.Call (.Name "super" p0) [] [] p1) (PySem.W.ksEnv qual scope s0.heap.objs.size f (.ref cda) cc))
      standAt p2.atName
      let (gm, first) ← holding [ov] (getMethod ov "__init__" pl)
      callWith p3 gm first (backTo p3 (starEach [.Constant (.str msg) j pc] (PySem.W.ksEnv qual scope s0.heap.objs.size f (.ref cda) cc))) []))
    (hsw : swapsWith (.Call (.Attribute (.Call (.Name "super" p0) [] [] p1) "__init__" p2) [.Constant (.str msg) j pc] [] p3) none p4.line (PySem.W.ksEnv qual scope s0.heap.objs.size f (.ref cda) cc) = pure false)
    (h : ∀ s', Inv (cxN CX P w K mg base N qual scope f cda cc A outer s0 H0 E) [] σ H s' → Q .next s') :
    PySem.wpAt (model P w) (A.deeper (PySem.W.ksEnv qual scope s0.heap.objs.size f (.ref cda) cc)) (.func body (PySem.W.ksEnv qual scope s0.heap.objs.size f (.ref cda) cc))
      (exec (.Expr (.Call (.Attribute (.Call (.Name "super" p0) [] [] p1) "__init__" p2) [.Constant (.str msg) j pc] [] p3) p4) (PySem.W.ksEnv qual scope s0.heap.objs.size f (.ref cda) cc)) Q (fun _ _ => False) s := by
  obtain ⟨cl, cld, csl, hcell⟩ := S.cell
  obtain ⟨ccl, cdd, vs, ccs, file, tf, hcode, hvs, hfile⟩ := S.code
  obtain ⟨nm, q, NN, bs, bm, sn, sub, ab, col, dd, k0, k1, k2, k3, k5, hC, hbm⟩ := T.cls
  obtain ⟨m, hns, hl⟩ := I.loc
  obtain ⟨u, ru, look⟩ := hl 0 ar.arg (.ref a) hN hσ (.inl hka)
  cases (show u = Value.ref a from ru)
  have hv : m ar.arg = some (.ref a) := by
    rcases look with ⟨_, e⟩ | ⟨hk, _⟩
    · exact e
    · have hk' : scope.names.lookup ar.arg = some .cell ∨ scope.names.lookup ar.arg = some .free := hk
      rw [hka] at hk'
      rcases hk' with z | z <;> cases z
  obtain ⟨mb, hb1, hb2⟩ := I.mod.blt
  have hcl : PySem.W.clsIn K C = some { name := nm, bases := bs, mro := .ref C :: bm, ns := NN, qualname := q, hasDict := true, slotNames := sn, subclasses := sub, abstract := ab, collection := col, hasDel := false } := by unfold PySem.W.clsIn; rw [hC] <;> rfl
  obtain ⟨t1, ho⟩ := exo_at I.hok hH
  have KX : K.In s.heap := I.kIn
  have hCs := KX _ _ hC
  have hin : interactive (PySem.W.ksEnv qual scope s0.heap.objs.size f (.ref cda) cc) = false := by
    show (scope.kind == .module && _) = false
    rw [hsk]
    rfl
  refine ks_wpAt_Expr_any (hi := hin) (hs := hsw) (ks_wpAt_MethodCall (pl := pl) ?_ he)
  refine ks_wpAt_super_base hks hkc (by decide +kernel) rfl (KX _ _ lk) rfl hp rfl (KX _ _ hcode) rfl hvs hfile S.top ?_
  refine PySem.W.ks_loadName_global hsk hks (PySem.Calls.loadGlobal_builtin (I.mod.glob.keeps I.bk) hsup (hb1.keeps I.bk) ((hb2 _ (by decide +kernel)).trans boot_super) ⟨rfl, ?_⟩)
  refine wpAny_loadName_free hsk hkc rfl ⟨_, KX _ _ hcell, rfl⟩ ?_
  refine wpAny_loadName_local hsk hka hns hv ?_
  obtain ⟨hh, g, d, t, os⟩ := s
  refine ks_wpAny_isType_cls hCs rfl ⟨rfl, ?_⟩
  refine ks_wpAny_call_super hCs rfl ho rfl (fun c z => (nomatch z)) (PySem.W.looks_mroIn KX S.mroC) (fun h1 e1 k1 => ?_)
  have KX1 : K.In h1 := KX.keeps k1
  have II : PySem.W.InstAt h1 a { cls := .ref C, dict := none, data := .fields #[.ref t1, .none, .none, .none, .bool false, .none] } C none := ⟨k1 _ _ ho, rfl, rfl, trivial⟩
  have hf : PySem.W.alongIn K "__init__" (((Value.ref C :: bm).dropWhile (· != .ref C)).drop 1) = some (some (.builtin "ValueError.__init__")) := by
    have z := S.sup
    unfold PySem.W.ks_superIn at z
    rw [hcl] at z
    exact z
  refine PySem.W.kxs_getMethod (K := K) (l₀ := Value.ref C :: bm) PySem.W.kxs_ValueError e1 (PySem.W.looks_opaque KX1 S.opq) (fun A Q E s k q => wpAny_bind ((PySem.W.looks_clsIn KX1 hcl) A _ E s k (wpAny_pure q))) rfl KX1 hf
    (II.type.andThen (PySem.W.looks_subIn KX1 S.isB)) (PySem.W.ks_ne KX1 II hcl) (by decide +kernel) ?_
  have hu : (h1.push (PySem.W.kxs_mw "ValueError.__init__" a)).get? h1.objs.size = some (PySem.W.kxs_mw "ValueError.__init__" a) := Heap.get?_push_at rfl rfl
  have k2 : ∀ b o, hh.get? b = some o → (h1.push (PySem.W.kxs_mw "ValueError.__init__" a)).get? b = some o := fun b o z => Heap.get?_push_of_some _ (k1 _ _ z)
  refine PySem.W.kxs_callWith (i := "ValueError.__init__") (x := a) (by rfl) ?_
  refine PySem.Calls.evalArgs_plain ?_
  refine Calls.spliced_cons (Calls.Constant_str (k := j) (pos := pc) (Calls.spliced_nil ⟨hu, ?_⟩))
  refine wpAny_call (codeAny_of_tree ?_)
  show wpAny _ (A.deeper _).in1 (callAny (.ref h1.objs.size) ⟨_, []⟩) _ _ _
  simp only [callAny]
  refine wpAny_bind (wpAny_load hu ?_)
  simp only [PySem.W.kxs_mw, show (Value.type "method-wrapper" == Value.type "method" || Value.type "method-wrapper" == Value.type "builtin_function_or_method" || Value.type "method-wrapper" == Value.type "method-wrapper") = true by decide, if_true]
  refine PySem.W.KFB.if_so (by decide) ?_
  refine wpAny_bind (PySem.W.check_bound_init F.excBase_ValueError.toExcCallFacts (hC := k2 _ _ hCs) (k2 _ _ ho) rfl ?_)
  refine wpAny_bind (wpAny_pure (wpAny_pure ?_))
  refine ⟨PySem.plainId_quiet F.excBase_ValueError.init.plain _, codeAny_builtin F.excBase_ValueError.initEntry ?_⟩
  have J0 := I.kept (t' := t) k2
  refine PySem.W.exc_init_tree (cls := .ref C) (t0 := t1) (dv := none) (c2 := .none) (c3 := .none) (b4 := .bool false) (k2 _ _ ho) (by rw [sizeLine_eq]; show (1 : Nat) ≤ 16777216; decide) (fun h' k e' _ => ?_)
  have J := J0.write (t' := t + 2) (x := a) (e := a) (o := exo a C none) (by rw [hH]; exact True.intro) (.inl rfl) k ⟨_, e'⟩ (exo_ok e')
  have eu : upd H a (exo a C none) = H := by
    funext b
    by_cases hb : b = a
    · rw [hb, upd_same, hH]
    · rw [upd_ne hb]
  rw [eu] at J
  exact h _ J
/-- the def: its first statement is super().__init__(text), the rest is walked -/
theorem fn_init {rest : List Stmt} {sp : Sp} {k : Nat} {msg : Str} {j : Nat} {p0 p1 p2 p3 p4 pc : Pos} {ar : Arg}
    (lk : K.lookup f = some ⟨oc, od, .func (PySem.W.ksFn name qual params (.Expr (.Call (.Attribute (.Call (.Name "super" p0) [] [] p1) "__init__" p2) [.Constant (.str msg) j pc] [] p3) p4 :: rest) scope dV kV doc pm an (.ref cda) ct cc), osl⟩)
    (hcd : PySem.W.codeIn K (.ref cda) qual = true) (S : InitScope N ps scope) (U : SupTx P K C cc cda) (T : OexC K C) (hsup : mg "super" = none)
    (hp : (params.posonlyargs ++ params.args).head? = some ar) (hN : N[0]? = some ar.arg) (hka : scope.names.lookup ar.arg = some .local)
    (he : ∀ L, ∃ pl : Sem Bool, eval (.Call (.Attribute (.Call (.Name "super" p0) [] [] p1) "__init__" p2) [.Constant (.str msg) j pc] [] p3) (PySem.W.ksEnv qual scope L f (.ref cda) cc) = (do
      let ov ← attributeBase (.Call (.Name "super" p0) [] [] p1) "__init__" (PySem.W.ksEnv qual scope L f (.ref cda) cc) (eval (.Call (.Name "super" p0) [] [] p1) (PySem.W.ksEnv qual scope L f (.ref cda) cc))
      standAt p2.atName
      let (gm, first) ← holding [ov] (getMethod ov "__init__" pl)
      callWith p3 gm first (backTo p3 (starEach [.Constant (.str msg) j pc] (PySem.W.ksEnv qual scope L f (.ref cda) cc))) []))
    (hsw : ∀ L, swapsWith (.Call (.Attribute (.Call (.Name "super" p0) [] [] p1) "__init__" p2) [.Constant (.str msg) j pc] [] p3) none p4.line (PySem.W.ksEnv qual scope L f (.ref cda) cc) = pure false)
    (len : ∀ vs H Q E, sp vs H Q E → vs.length = ps.length)
    (fst : ∀ vs H Q E, sp vs H Q E → ∃ a, vs[0]? = some (.ref a) ∧ H a = some (exo a C none))
    (hbody : ∀ (A : Around) (outer : List Env) (s : Shared) (H : Hp) (vs : List V) (Q : VK) (E : XK), sp vs H Q E →
      ∃ t, PSs (cxN CX P w K mg base N qual scope f cda cc A outer s H E) rest t ∧ t { nx := fun _ H' => Q .non H', rt := Q } (L2.start N vs) H) :
    FnOk P w K mg base CX (k + 1) f (PySem.W.ksFn name qual params (.Expr (.Call (.Attribute (.Call (.Name "super" p0) [] [] p1) "__init__" p2) [.Constant (.str msg) j pc] [] p3) p4 :: rest) scope dV kV doc pm an (.ref cda) ct cc) ps sp := by
  refine ⟨len, fun A outer s H args us vs Q E hr e0 hb r hsp => ?_⟩
  have hl := len _ _ _ _ hsp
  have KX : K.In s.heap := e0.mod.kin.keeps fun b o e => (e0.bs b o e).1
  have lim : s.heap.NoLimit := e0.mod.nolimit.keeps fun b o e => (e0.bs b o e).1
  refine PySem.ks_codeAny_call_defAt hr.depth (KX _ _ lk) rfl lim (PySem.W.codeRec_of KX hcd) rfl hb S.nocell (fun y hy => S.par y.1 (List.of_mem_zip hy).1) (fun h1 hns hk => ?_) S.co S.gen S.kind
  have I0 : Inv (cxX CX P w K mg base N qual scope f (.ref cda) cc A outer s H E) [] (L2.start N vs) H { s with heap := h1, toks := s.toks + (ps.zip us).length } :=
    x_start S hr.hd e0 hl r U.cell hns hk _
  have I := I0.wish (fun _ _ => False)
  obtain ⟨a, ha, hH⟩ := fst _ _ _ _ hsp
  obtain ⟨pl, hev⟩ := he s.heap.objs.size
  obtain ⟨t, ht, hq⟩ := hbody A outer s H vs Q E hsp
  have h0 : (L2.start N vs)[0]? = some (some (.ref a)) := by
    have hi : 0 < vs.length := by
      rcases Nat.eq_zero_or_pos vs.length with z | z
      · rw [List.length_eq_zero_iff.mp z] at ha; cases ha
      · exact z
    unfold L2.start
    rw [List.getElem?_append_left (by simpa using hi), List.getElem?_map, ha]
    rfl
  refine PySem.ks_wpAt_execs_cons (PySem.ks_wpAt_mono (sup_stmt (Q := fun fl s' => match fl with
      | .next => PySem.wpAt (model P w) (A.deeper (PySem.W.ksEnv qual scope s.heap.objs.size f (.ref cda) cc)) _ (execs rest (PySem.W.ksEnv qual scope s.heap.objs.size f (.ref cda) cc)) _ _ s'
      | fl => _) I U T hsup S.kind S.sup S.cls lk hp hN hka h0 hH hev (hsw _) (fun s' J => ?_)) (fun _ _ z => z) fun _ _ z => z.elim)
  refine wpAt_of_wpAny (wpAny_mono (ht.run [] s' (L2.start N vs) H _ J hq) (fun fl s' hs => ?_) fun e s' hs => (show False from hs).elim)
  have fin : ∀ {σ' : L2.St} {H' : Hp} {v : V} {u : Value}, Inv (cxN CX P w K mg base N qual scope f cda cc A outer s H E) [] σ' H' s' → RelV v u → Q v H' → CE outer P w H s Q u s' :=
    fun {σ' H' v u} J rv q => ⟨v, H', J.os, J.bare, J.base, J.hok, rv, q⟩
  cases fl with
  | ret u =>
    obtain ⟨v, σ', H', J, rv, q⟩ := hs
    exact fin J rv q
  | next =>
    obtain ⟨σ', H', J, q⟩ := hs
    exact fin (v := V.non) (u := Value.none) J rfl q
  | brk =>
    obtain ⟨_, _, _, q⟩ := hs
    exact False.elim q
  | cont =>
    obtain ⟨_, _, _, q⟩ := hs
    exact False.elim q
end
end Y
set_option Elab.async false
set_option linter.all false
set_option maxRecDepth 100000
set_option maxHeartbeats 4000000
/-! own layer, part 3b: try with any clauses of one class each, with or without a name -/
namespace Y
open PySem PySem.Spec PyProof.Rows L2 TL
/-- a clause: the class, the slot of its name (if it has one), what its suite does -/
structure Cl where
  c : Value
  slot : Option Nat
  ts : Addr → Value → Option Addr → TS
/-- the suite is left: the name is gone -/
def dropAt (i : Nat) (D : Ends) : Ends where
  nx := fun τ G => D.nx (τ.set i none) G
  bk := fun τ G => D.bk (τ.set i none) G
  ct := fun τ G => D.ct (τ.set i none) G
  rt := D.rt
def inSuite (k : Cl) (D : Ends) (a : Addr) (cls : Value) (d : Option Addr) (σ : L2.St) (H : Hp) : Prop :=
  match k.slot with
  | none => k.ts a cls d D σ H
  | some i => k.ts a cls d (dropAt i D) (σ.set i (some (.ref a))) H
def wMix (K : PySem.W.Frag) (Wout : WX) (D : Ends) : List Cl → WX
  | [] => Wout
  | k :: r => fun cls d σ H => ∃ b, PySem.W.exmOne K cls k.c = some b ∧ (b = true → ∀ a, H a = none → inSuite k D a cls d σ H) ∧ (b = false → wMix K Wout D r cls d σ H)
def SuOk (X : Cx) (suite : List Stmt) (ts : Addr → Value → Option Addr → TS) : Prop :=
  ∀ (a : Addr) (oe : Obj) (cls : Value) (d : Option Addr) (pn : List (Addr × Obj)),
    Zc cls d oe → (∃ vs, oe.data = .fields vs) → PSs (X.suite a ((a, oe) :: pn)) suite (ts a cls d)
inductive MixOk (X : Cx) : List ExceptHandler → List Cl → Prop
  | nil : MixOk X [] []
  | bare {x : Str} {c : Value} {ts : Addr → Value → Option Addr → TS} {st : Stmt} {more : List Stmt} {np q : Pos}
      {hds : List ExceptHandler} {l : List Cl} (hc : Names X x c) (hsu : SuOk X (st :: more) ts) (r : MixOk X hds l) :
      MixOk X (.ExceptHandler (some (.Name x np)) none (st :: more) q :: hds) (⟨c, none, ts⟩ :: l)
  | as {x n : Str} {i : Nat} {c : Value} {ts : Addr → Value → Option Addr → TS} {st : Stmt} {more : List Stmt} {np q : Pos}
      {hds : List ExceptHandler} {l : List Cl} (hc : Names X x c) (hi : X.N[i]? = some n) (hln : X.env.kindOf n = some .local)
      (hsu : SuOk X (st :: more) ts) (r : MixOk X hds l) :
      MixOk X (.ExceptHandler (some (.Name x np)) (some n) (st :: more) q :: hds) (⟨c, some i, ts⟩ :: l)
section
variable {X : Cx} {body : List Stmt} {hd0 : ExceptHandler} {hds : List ExceptHandler} {l : List Cl} {pos : Pos} {tb : WX → TS} {Wout : WX}
theorem ps_try_mix (hs : X.stack = X.env :: X.outer) (hf : X.env.frame = some X.env.locals) (hN : X.N.Nodup) (tk : Takes X Wout)
    (hb : ∀ (W : WX) (pn : List (Addr × Obj)) (xe : Value → Shared → Prop), Takes (X.tr pn xe) W →
      PassesOwn (model X.prog X.w) X.A X.env xe → PSs (X.tr pn xe) body (tb W))
    (hh : MixOk X (hd0 :: hds) l) :
    PS X (.Try body (hd0 :: hds) [] [] pos) (fun D σ H => tb (wMix X.K Wout D l) D σ H) := by
  constructor
  intro pins s σ H D I hwish
  have okX := I.ok
  have frA : X.A.frames = some (X.env :: X.outer) := by rw [okX.frames, hs]
  refine wpAny_Try_except ?_
  refine wpAny_mono ((hb (wMix X.K Wout D l) (X.pn ++ pins) (fun e t1 =>
      wpAny (model X.prog X.w) X.A (noteFrame e X.env) (fun _ t2 =>
        wpAny (model X.prog X.w) X.A (setFlight e none) (fun _ t3 =>
          wpAny (model X.prog X.w) X.A (handleBy e X.env (hd0 :: hds)) (SP X pins D) X.xe t3) X.xe t2) X.xe t1)
      (fun u s' thrown => ?_) PassesOwn.looking).run [] s σ H D (I.toTry _) hwish)
    (fun fl s1 hsp => ?_) (fun _ _ z => z)
  case refine_2 =>
    cases fl with
    | next => obtain ⟨τ, G, J, q⟩ := hsp; exact wpAny_execs_nil ⟨τ, G, J.ofTry okX, q⟩
    | brk => obtain ⟨τ, G, J, q⟩ := hsp; exact ⟨τ, G, J.ofTry okX, q⟩
    | cont => obtain ⟨τ, G, J, q⟩ := hsp; exact ⟨τ, G, J.ofTry okX, q⟩
    | ret u => obtain ⟨v, τ, G, J, r, q⟩ := hsp; exact ⟨v, τ, G, J.ofTry okX, r, q⟩
  case refine_1 =>
    obtain ⟨a, B, sI, pins', τ, G, cls, d, rfl, J', nb, upA, skyA, na, osA, bareA, wA⟩ := thrown
    have J : Inv X pins τ G sI := J'.ofTry okX
    have skyB : Sky B (X.env :: X.outer) a (Zc cls d) X.env.locals s'.heap := by rw [← hs]; exact skyA
    show wpAny (model X.prog X.w) X.A (noteFrame (.ref a) X.env) _ _ _
    refine Sky.land Zc.steady frA hf skyB fun g fl up1 => ?_
    have JL : Inv X pins τ G { s' with heap := g } := J.landed nb fl.1 (upA.trans up1) osA bareA
    obtain ⟨ob, vs0, hob, hzc, hdat⟩ := fl.there
    have noFrame : a ∉ frs (X.env :: X.outer) := by
      intro hm
      obtain ⟨_, o2, e2, nf2⟩ := fl.2.2.1.mem hm
      rw [hob] at e2
      cases e2
      exact nf2 _ hdat
    have nLoc : a ≠ X.env.locals := by
      intro z
      exact noFrame (List.mem_filterMap.mpr ⟨X.env, List.mem_cons_self, by rw [hf, z]⟩)
    have nFs : a ∉ X.fs := by
      intro hm
      obtain ⟨e, he, q⟩ := List.mem_filterMap.mp hm
      exact noFrame (List.mem_filterMap.mpr ⟨e, List.mem_cons_of_mem _ he, q⟩)
    have JS := JL.suite hob hdat na nLoc nFs
    have typeA : PySem.W.Looks (model X.prog X.w) g (typeOf (.ref a)) cls :=
      fun A Q E s k q => wpAny_typeOf_ref (k _ _ hob) (by rw [hzc.1]; exact q)
    have named : ∀ {x : Str} {c : Value} {np : Pos} {Q : Value → Shared → Prop} {E : Value → Shared → Prop}, Names X x c →
        Q c { s' with heap := g } → wpAny (model X.prog X.w) (X.A.mark (some (.ref a))) (eval (.Name x np) X.env) Q E { s' with heap := g } := by
      intro x c np Q E hc q
      obtain ⟨hg, hdbg, hm | ⟨hm, hv, hnn⟩⟩ := hc
      · exact ld_glob (X := X.suite a ((a, ob) :: (X.pn ++ pins))) JS hg hm q hdbg
      · exact ld_blt (X := X.suite a ((a, ob) :: (X.pn ++ pins))) JS hg hm hv q hnn hdbg
    have walk : ∀ {hs2 : List ExceptHandler} {l2 : List Cl}, MixOk X hs2 l2 → wMix X.K Wout D l2 cls d τ G →
        wpAny (model X.prog X.w) X.A (handleBy (.ref a) X.env hs2) (SP X pins D) X.xe { s' with heap := g } := by
      intro hs2 l2 hk
      induction hk with
      | nil =>
        intro wz
        refine wpAny_handleBy_nil ?_
        obtain ⟨k1, k2, k3, oe, vs, T, oT, ts', he, hz, hd, h1, hr⟩ := id fl
        unfold PySem.passOn
        refine wpAny_bind (wpAny_field he hd h1 ?_)
        rw [if_neg (show ¬ ((Value.ref T == Value.none) = true) from by simp)]
        have done : wpAny (model X.prog X.w) X.A (setFlight (.ref a) X.env.frame) (fun _ s4 =>
            wpAny (model X.prog X.w) X.A (throw (.ref a) : Sem Flow) (SP X pins D) X.xe s4) X.xe { s' with heap := g } := by
          rw [hf]
          refine HandSPX.setFlight_upZ fl fun g4 hh4 up4 => wpAny_throw (tk _ _ ?_)
          exact ⟨a, B, sI, pins, τ, G, cls, d, rfl, J, nb, (upA.trans up1).trans up4, .inr (.inr (by rw [hs]; exact hh4)), na, osA, bareA, wz⟩
        first
          | exact wpAny_bind (wpAny_pure (wpAny_bind done))
          | exact wpAny_bind done
      | @bare x c ts st more np q hds2 l3 hc hsu r ih =>
        rintro ⟨b, hb1, hyes, hno⟩
        refine wpAny_handleBy_cons (codeAny_handlers_test ?_) (by intro z; cases z)
        refine named hc ((PySem.W.exm_one (M := model X.prog X.w) JL.kIn typeA hb1).here ?_)
        cases b with
        | false =>
          show wpAny _ X.A (handleBy (.ref a) X.env hds2) _ _ _
          exact ih (hno rfl)
        | true =>
          refine codeAny_handlers_suite ?_
          refine HandSPX.lands_againZ fl fun g4 fl4 up4 => ?_
          have J4 : Inv X pins τ G { s' with heap := g4 } := J.landed nb fl4.1 ((upA.trans up1).trans up4) osA bareA
          obtain ⟨ob4, vs4, hob4, hz4, hd4⟩ := fl4.there
          have S4 := J4.suite hob4 hd4 na nLoc nFs
          refine wpAny_mono ((hsu a ob4 cls d (X.pn ++ pins) hz4 ⟨_, hd4⟩).run [] _ _ G _ S4 (hyes rfl a na)) (fun f s6 hsp => ?_) (fun _ _ z => False.elim z)
          cases f with
          | next => obtain ⟨τ6, G6, S6, q6⟩ := hsp; exact ⟨_, _, S6.unsuite okX, q6⟩
          | brk => obtain ⟨τ6, G6, S6, q6⟩ := hsp; exact ⟨_, _, S6.unsuite okX, q6⟩
          | cont => obtain ⟨τ6, G6, S6, q6⟩ := hsp; exact ⟨_, _, S6.unsuite okX, q6⟩
          | ret u => obtain ⟨v6, τ6, G6, S6, r6, q6⟩ := hsp; exact ⟨_, _, _, S6.unsuite okX, r6, q6⟩
      | @as x n i c ts st more np q hds2 l3 hc hi hln hsu r ih =>
        rintro ⟨b, hb1, hyes, hno⟩
        refine wpAny_handleBy_cons (codeAny_handlers_test ?_) (by intro z; cases z)
        refine named hc ((PySem.W.exm_one (M := model X.prog X.w) JL.kIn typeA hb1).here ?_)
        cases b with
        | false =>
          show wpAny _ X.A (handleBy (.ref a) X.env hds2) _ _ _
          exact ih (hno rfl)
        | true =>
          refine codeAny_handlers_suite_as ?_
          refine HandSPX.lands_againZ fl fun g4 fl4 up4 => ?_
          have J4 : Inv X pins τ G { s' with heap := g4 } := J.landed nb fl4.1 ((upA.trans up1).trans up4) osA bareA
          obtain ⟨ob4, vs4, hob4, hz4, hd4⟩ := fl4.there
          have S4 := J4.suite hob4 hd4 na nLoc nFs
          have hloc : Loc X.env.scope n := .inl hln
          refine store_ok (X := X.suite a ((a, ob4) :: (X.pn ++ pins))) (v := .ref a) S4 hN hi hloc rfl (fun s5 S5 => ?_) (.inr hln)
          refine wpAny_mono ((hsu a ob4 cls d (X.pn ++ pins) hz4 ⟨_, hd4⟩).run [] s5 _ G _ S5 (hyes rfl a na)) (fun f s6 hsp => ?_) (fun _ _ z => False.elim z)
          have gone : ∀ {τ6 : L2.St} {G6 : Hp} {Q : Shared → Prop}, Inv (X.suite a ((a, ob4) :: (X.pn ++ pins))) [] τ6 G6 s6 →
              (∀ s7, Inv X pins (τ6.set i none) G6 s7 → Q s7) →
              wpAny (model X.prog X.w) X.A (do bindName X.env n .none; unbindBehindTheSuite X.env n q) (fun _ s7 => Q s7) X.xe s6 :=
            fun {τ6 G6 Q} S6 hq => gone_ok (S6.unsuite okX) hN hi hln hq
          cases f with
          | next => obtain ⟨τ6, G6, S6, q6⟩ := hsp; exact gone S6 fun s7 J7 => ⟨_, _, J7, q6⟩
          | brk => obtain ⟨τ6, G6, S6, q6⟩ := hsp; exact gone S6 fun s7 J7 => ⟨_, _, J7, q6⟩
          | cont => obtain ⟨τ6, G6, S6, q6⟩ := hsp; exact gone S6 fun s7 J7 => ⟨_, _, J7, q6⟩
          | ret u => obtain ⟨v6, τ6, G6, S6, r6, q6⟩ := hsp; exact gone S6 fun s7 J7 => ⟨_, _, _, J7, r6, q6⟩
    exact walk hh wA
end
end Y
set_option Elab.async false
set_option linter.all false
set_option maxRecDepth 100000
set_option maxHeartbeats 4000000
/-! own layer, part 3c: an exception class by its name: made, raised, caught, its field -/
namespace Y
open PySem PySem.Spec PyProof.Rows L2 TL
/-- the text: __init__(self, par) calls super().__init__(msg) and stores self.par -/
structure InitTx (st : Stmt) (par : Str) : Prop where
  body : ∃ (msg : Str) (j : Nat) (p0 p1 p2 p3 p4 pc q0 q1 q2 q3 : Pos),
    defBody st = [.Expr (.Call (.Attribute (.Call (.Name "super" p0) [] [] p1) "__init__" p2) [.Constant (.str msg) j pc] [] p3) p4,
      .Assign [.Attribute (.Name "self" q0) par q1] (.Name par q2) q3] ∧
    (∀ (qual : Str) (f cda cc L : Addr), ∃ pl : Sem Bool, eval (.Call (.Attribute (.Call (.Name "super" p0) [] [] p1) "__init__" p2) [.Constant (.str msg) j pc] [] p3) (PySem.W.ksEnv qual (defScope st) L f (.ref cda) cc) = (do
      let ov ← attributeBase (.Call (.Name "super" p0) [] [] p1) "__init__" (PySem.W.ksEnv qual (defScope st) L f (.ref cda) cc) (eval (.Call (.Name "super" p0) [] [] p1) (PySem.W.ksEnv qual (defScope st) L f (.ref cda) cc))
      standAt p2.atName
      let (gm, first) ← holding [ov] (getMethod ov "__init__" pl)
      callWith p3 gm first (backTo p3 (starEach [.Constant (.str msg) j pc] (PySem.W.ksEnv qual (defScope st) L f (.ref cda) cc))) [])) ∧
    (∀ (qual : Str) (f cda cc L : Addr), swapsWith (.Call (.Attribute (.Call (.Name "super" p0) [] [] p1) "__init__" p2) [.Constant (.str msg) j pc] [] p3) none p4.line
      (PySem.W.ksEnv qual (defScope st) L f (.ref cda) cc) = pure false) ∧
    ∀ (qual : Str) (f cda cc L : Addr), swapsWith (.Name par q2) (some (.Attribute (.Name "self" q0) par q1)) q3.line (PySem.W.ksEnv qual (defScope st) L f (.ref cda) cc) = pure false
  args : ∃ ar, ((defArgs st).posonlyargs ++ (defArgs st).args).head? = some ar ∧ ar.arg = "self"
  sc : InitScope ["self", par] ["self", par] (defScope st)
  nd : (par == ("__debug__" : Str)) = false ∧ (par == ("__classdict__" : Str)) = false
  bind : ∀ (qual : Str) (kV doc pm : Value) (an : Option Addr) (cdv ct : Value) (cc : Addr) (us : List Value), us.length = 2 →
    bindArgs (PySem.W.ksFn "__init__" qual (defArgs st) (defBody st) (defScope st) .none kV doc pm an cdv ct cc) ⟨us, []⟩ = pure ((["self", par] : List Str).zip us)
/-- what __init__ leaves -/
def spIni (C : Addr) (par : Str) : Sp := fun vs H Q _ => ∃ (a : Addr) (v : V), vs = [.ref a, v] ∧ H a = some (exo a C none) ∧
  ∀ d, H d = none → d ≠ a → Q .non (upd (upd H d (exd d [(par, v)])) a (exo a C (some d)))
/-- of the program: its text's name, and that no top name is super -/
structure PTx (P : Program) : Prop where
  file : ((P.main.file : Str) == ("/claim/cut.py" : Str)) = true
  top : (P.main.scope.names.lookup ("super" : Str)).isSome = false
/-- an own exception class under its name, its one argument in the field par -/
structure XDef (K : PySem.W.Frag) (mg : Str → Option Value) (x par : Str) (st : Stmt) (C : Addr) : Prop where
  gC : mg x = some (.ref C)
  T : OexC K C
  F : XfC K C
  noF : PySem.W.findIn K (.ref C) par = some none
  isC : PySem.W.isClsIn K C = true
  noS : mg "super" = none
  opq : PySem.W.nsIn K cStatics "thirdparty.any" = some none
  sup : PySem.W.ks_superIn K C C "__init__" = some (some (.builtin "ValueError.__init__"))
  isB : PySem.W.subIn K (.ref C) (.type "ValueError") = some true
  fn : ∃ (fI cda cc : Addr) (qual : Str) (oc : Value) (od : Option Addr) (kV doc pm : Value) (an : Option Addr) (ct : Value) (osl : Array (Option Value)),
    PySem.W.findIn K (.ref C) "__init__" = some (some (.ref fI)) ∧ PySem.W.typeIn K (.ref fI) = some (.type "function") ∧
    K.lookup fI = some ⟨oc, od, .func (PySem.W.ksFn "__init__" qual (defArgs st) (defBody st) (defScope st) .none kV doc pm an (.ref cda) ct cc), osl⟩ ∧
    PySem.W.codeIn K (.ref cda) qual = true ∧ (∃ cl cld csl, K.lookup cc = some ⟨cl, cld, .cell (some (.ref C)), csl⟩) ∧
    ∃ ccl cdd vs ccs tf, K.lookup cda = some ⟨ccl, cdd, .fields vs, ccs⟩ ∧ vs[2]? = some (.str ("/claim/cut.py" : Str) tf)
section
variable {P : Program} {w : World} {K : PySem.W.Frag} {mg : Str → Option Value} {base : Heap} {x par : Str} {st : Stmt} {C : Addr}
theorem mro_self (T : OexC K C) : PySem.W.mroIn K C (.ref C) = some true := by
  obtain ⟨nm, q, NN, bs, bm, sn, sub, ab, col, dd, k0, k1, k2, k3, k5, hC, hbm⟩ := T.cls
  have hcl : PySem.W.clsIn K C = some { name := nm, bases := bs, mro := .ref C :: bm, ns := NN, qualname := q, hasDict := true, slotNames := sn, subclasses := sub, abstract := ab, collection := col, hasDel := false } := by unfold PySem.W.clsIn; rw [hC] <;> rfl
  have ne := PySem.HandSPX.refsVE_ne hbm
  unfold PySem.W.mroIn
  rw [hcl, Option.bind_some]
  show (if (Value.ref C :: bm).isEmpty = true then none else some ((Value.ref C :: bm).contains (.ref C))) = some true
  simp
theorem XDef.ini (D : XDef K mg x par st C) (I : InitTx st par) (hP : PTx P) :
    ∃ fI fd, PySem.W.findIn K (.ref C) "__init__" = some (some (.ref fI)) ∧ PySem.W.typeIn K (.ref fI) = some (.type "function") ∧
      Binds K fd ["self", par] [] ∧ FnOk P w K mg base CX0 1 fI fd ["self", par] (spIni C par) := by
  obtain ⟨fI, cda, cc, qual, oc, od, kV, doc, pm, an, ct, osl, h1, h2, lk, hcd, hcc, ccl, cdd, vs, ccs, tf, hco, hvs⟩ := D.fn
  obtain ⟨msg, j, p0, p1, p2, p3, p4, pc, q0, q1, q2, q3, hb, he, hw, hs⟩ := I.body
  obtain ⟨ar, ha, hn⟩ := I.args
  have U : SupTx P K C cc cda := ⟨hcc, ⟨ccl, cdd, vs, ccs, _, tf, hco, hvs, hP.file⟩, hP.top, D.opq, D.sup, D.isB, mro_self D.T⟩
  refine ⟨fI, _, h1, h2, .all fun us hl => I.bind qual kV doc pm an (.ref cda) ct cc us hl, ?_⟩
  rw [hb] at lk ⊢
  refine fn_init (N := ["self", par]) (k := 0) lk hcd I.sc U D.T D.noS ha (by rw [hn]; rfl) (by rw [hn]; exact I.sc.par _ (List.mem_cons_self ..)) (fun L => he qual fI cda cc L) (fun L => hw qual fI cda cc L) ?_ ?_ ?_
  · rintro vs H Q E ⟨a, v, rfl, _⟩
    rfl
  · rintro vs H Q E ⟨a, v, rfl, hH, _⟩
    exact ⟨a, rfl, hH⟩
  · rintro A outer s H vs Q E ⟨a, v, rfl, hH, q⟩
    refine ⟨_, pss_one (ps_ost (to := tVar 0) (te := tVar 1) (pe_var (i := 0) rfl (Or.inl (I.sc.par _ (List.mem_cons_self ..)))) (pe_var (i := 1) rfl (Or.inl (I.sc.par _ (List.mem_cons_of_mem _ (List.mem_cons_self ..)))) I.nd.1 I.nd.2) (hs qual fI cda cc _)), ?_⟩
    exact ⟨v, rfl, .ref a, rfl, a, C, rfl, D.T, D.noF, .inl ⟨hH, fun d hd hda => q d hd hda⟩⟩
end
/-- a reading weakened -/
def teW (te : TE) : TE := fun σ H Q => ∃ Q0 : VK, te σ H Q0 ∧ ∀ v H1, Q0 v H1 → Q v H1
/-- x(e) makes an exception -/
def tMkX (C : Addr) (par : Str) (te : TE) : L2.St → Hp → XK → Prop := fun σ H Q => te σ H fun v H1 => ∀ d, H1 d = none → Q (.ref C) (some d) (upd H1 d (.xd [(par, v)]))
section
variable {X : Cx} {x par : Str} {st : Stmt} {C : Addr} {e : Expr} {te : TE} {p pos : Pos} {k : Nat}
theorem pmk_x (D : XDef X.K X.mg x par st C) (I : InitTx st par) (hP : PTx X.prog) (hr : Room 2 X.A) (hg : Gl X x) (ha : PE X e te)
    (hdb : (x == ("__debug__" : Str)) = false := by decide) (he : starEach [e] X.env = (false, eval e X.env) :: starEach [] X.env := by rfl)
    (hpl : (backTo pos (starEach [] X.env)).any (·.1) = false := by rfl) : PMk X (.Call (.Name x p) [e] [] pos) (tMkX C par te) := by
  obtain ⟨fI, fd, h1, h2, hb, F⟩ := D.ini (w := X.w) (base := X.base) I hP
  have ha' : PE X e (teW te) := ⟨fun pins s σ H Q I0 ⟨Q0, h0, hq⟩ => wpAny_mono (ha.run pins s σ H Q0 I0 h0)
    (fun _ _ ⟨v, H', J, r, q⟩ => ⟨v, H', J, r, hq _ _ q⟩) fun _ _ z => z⟩
  have M := pmk_oex (k := 1) (dvs := []) (ds := []) D.T h1 h2 F hr hb .nil (fun _ _ _ _ _ _ _ z => z.elim) hg D.gC (pa_cons ha' pa_nil (hs := he)) (p := p) (pos := pos) hdb he hpl
  intro pins s σ H Q Inv0 h
  refine M pins s σ H Q Inv0 ⟨_, h, fun v H1 q => ⟨(by decide : 1 ≤ 1000), fun a han => ⟨a, v, rfl, upd_same, fun d hd hda => ?_⟩⟩⟩
  have hd1 : H1 d = none := by rw [upd_ne hda] at hd; exact hd
  refine ⟨rfl, d, [(par, v)], upd_same, by rw [upd_ne hda, upd_same], hd1, ?_⟩
  have eH : upd (del (upd (upd (upd H1 a (exo a C none)) d (exd d [(par, v)])) a (exo a C (some d))) a) d (.xd [(par, v)]) = upd H1 d (.xd [(par, v)]) := by
    funext b
    by_cases hb : b = d
    · rw [hb, upd_same, upd_same]
    · rw [upd_ne hb, upd_ne hb]
      by_cases hba : b = a
      · rw [hba, del_same, han]
      · rw [del_ne hba, upd_ne hba, upd_ne hb, upd_ne hba]
  rw [eH]
  exact q d hd1
end
/-- an error of one own class at another one's clause -/
theorem exm_of {K : PySem.W.Frag} {S C : Addr} {b : Bool} (h1 : PySem.W.subIn K (.ref C) (.type "BaseException") = some true) (h2 : PySem.W.isClsIn K C = true) (h3 : PySem.W.typeIn K (.ref C) = some (.type "type"))
    (h4 : PySem.W.subIn K (.ref S) (.ref C) = some b) : PySem.W.exmOne K (.ref S) (.ref C) = some b := by
  have e1 : (PySem.W.subIn K (.ref C) (.type "BaseException") == some true) = true := by rw [h1] <;> rfl
  have e2 : ((PySem.W.clsIn K C).isSome && PySem.W.typeIn K (.ref C) == some (.type "type")) = true := by
    have h2' : (PySem.W.clsIn K C).isSome = true := h2
    rw [h2', h3] <;> rfl
  show (if (PySem.W.subIn K (.ref C) (.type "BaseException") == some true) = true then
      (if ((PySem.W.clsIn K C).isSome && PySem.W.typeIn K (.ref C) == some (.type "type")) = true then PySem.W.subIn K (.ref S) (.ref C) else none) else none) = some b
  rw [if_pos e1, if_pos e2]
  exact h4
theorem XDef.catch {K : PySem.W.Frag} {mg : Str → Option Value} {x par : Str} {st : Stmt} {S C : Addr} {b : Bool} (D : XDef K mg x par st C) (h : PySem.W.subIn K (.ref S) (.ref C) = some b) :
    PySem.W.exmOne K (.ref S) (.ref C) = some b := exm_of D.T.exC D.isC D.T.tyC h
/-- a def that may raise, by its name -/
def HasX (P : Program) (w : World) (K : PySem.W.Frag) (mg : Str → Option Value) (base : Heap) (x : Str) (ps : List Str) (k : Nat) (sp : Sp) : Prop :=
  ∃ (f : Addr) (fd : FuncData), mg x = some (.ref f) ∧ PySem.W.keepIn K (.ref f) = true ∧ Binds K fd ps [] ∧ FnOk P w K mg base (L2.CX P w) k f fd ps sp
section
variable {P : Program} {w : World} {K : PySem.W.Frag} {mg : Str → Option Value} {base : Heap}
theorem Def.hasX {x : Str} {st : Stmt} {N ps : List Str} {k : Nat} {sp : Sp} (D : Def K mg x st ps) (S : FnScope N ps (defScope st)) (len : ∀ vs H Q E, sp vs H Q E → vs.length = ps.length)
    (hbody : ∀ (f : Addr) (cdv : Value) (A : Around) (outer : List Env) (s : Shared) (H : Hp) (vs : List V) (Q : VK) (E : XK),
      Room k (A.deeper (envOfC x (defScope st) s.heap.objs.size f cdv)) → sp vs H Q E →
      ∃ t, PSs (cxOf (L2.CX P w) P w K mg base N x (defScope st) f cdv A outer s H E) (defBody st) t ∧ t { nx := fun _ H' => Q .non H', rt := Q } (start N vs) H) :
    HasX P w K mg base x ps (k + 1) sp := by
  obtain ⟨f, fd, F, hm, hb⟩ := D
  exact ⟨f, fd, hm, F.kp, hb, F.okX S len fun cdv A outer s H vs Q E hr h => hbody f cdv A outer s H vs Q E hr h⟩
end
section
variable {X : Cx} {k : Nat} {ps : List Str} {sp : Sp} {x : Str} {p pos : Pos} {e : Expr} {es : List Expr} {t : TA} {W : WX}
theorem pe_callX (h : HasX X.prog X.w X.K X.mg X.base x ps k sp) (tk : Takes X W) (hr : Room k X.A) (hg : Gl X x) (ha : PA X (e :: es) t)
    (hdb : (x == ("__debug__" : Str)) = false := by decide) (he : starEach (e :: es) X.env = (false, eval e X.env) :: starEach es X.env := by rfl)
    (hpl : (backTo pos (starEach es X.env)).any (·.1) = false := by rfl) : PE X (.Call (.Name x p) (e :: es) [] pos) (tCallS sp (WE W) t) := by
  obtain ⟨f, fd, hm, hk, hb, F⟩ := h
  exact pe_callS F hr hg hm hk hb (fun σ => passAt tk σ) ha hdb he hpl
end
end Y
set_option Elab.async false
set_option linter.all false
set_option maxRecDepth 100000
set_option maxHeartbeats 4000000
/-! own layer, part 4: enumerate over a text -/
namespace Y
open PySem PySem.Spec PyProof.Rows L2 TL
/-- the signs of a text with their places, each in a new pair -/
def ItES (x : Str) : It where
  go := fun i _ => i < x.cps.size
  yld := fun i H v H' => ∃ (T : Addr) (c : Nat), v = .ref T ∧ x.cps[i]? = some c ∧ H T = none ∧ H' = upd H T (.tup [.int (i : Nat), .str ⟨#[c]⟩])
  stop := fun i _ => x.cps.size ≤ i
theorem turn_enumS {P : Program} {w : World} {K : PySem.W.Frag} {elts : List Expr} {kk : Nat} {tpos : Pos} (x : Str) (t : Tok) (e it : Addr) :
    Turn P w K (.Tuple elts kk tpos) (ItES x) [e, it] e
      (fun i h => (∃ old, IsEnum h e it ((i : Nat) : Int) old) ∧ h.IsStrIter it (strIterType x) x t i ∧ e ≠ it ∧ i ≤ x.cps.size) where
  mem := by simp
  obj := fun i h st b hb => by
    obtain ⟨⟨old, he⟩, ⟨o, ho, hc, hd⟩, _⟩ := st
    rcases List.mem_cons.mp hb with z | z
    · rw [z]
      exact ⟨_, he, fun v q => nomatch q⟩
    · rw [List.mem_singleton.mp z]
      exact ⟨o, ho, fun v q => by rw [hd] at q; cases q⟩
  keep := fun i h h' st k => by
    obtain ⟨⟨old, he⟩, ⟨o, ho, hr⟩, hne⟩ := st
    exact ⟨⟨old, k e (by simp) _ he⟩, ⟨o, k it (by simp) o ho, hr⟩, hne⟩
  item := by
    intro X hP hw hK hc i pins s σ H E I hf st hg
    subst hP hw hK
    obtain ⟨⟨old, he⟩, hit, hne, _⟩ := st
    have eLt : e < s.heap.objs.size := Heap.lt_size he
    have iLt : it < s.heap.objs.size := by
      obtain ⟨_, q, _⟩ := hit
      exact Heap.lt_size q
    refine wpAny_pyNext_enum_itemD (Draws.text (A := X.A.in1) (I.ok.hd hc) it x t) he hit hg hne (fun z => hne (List.mem_singleton.mp z)) fun v h' tk hv ho hit' hT hsz hk => ?_
    obtain ⟨c, u, hcx, rfl⟩ := hv
    refine ⟨_, rfl, wpAny_letOwnedTupleGo_enum (s := { s with heap := h', toks := tk + 1 }) ho fun h2 he2 sb => ?_⟩
    have tupAt : h2.get? s.heap.objs.size = some { cls := .type "tuple", data := .seq #[.int i tk, .str ⟨#[c]⟩ u] } := (sb.2 _ (Nat.ne_of_gt eLt)).trans hT
    have fresh : ObjOk X.prog X.w (upd H s.heap.objs.size (.tup [.int (i : Nat), .str ⟨#[c]⟩])) h2 s.heap.objs.size (.tup [.int (i : Nat), .str ⟨#[c]⟩]) :=
      ⟨by show 2 ≤ sizeLine; decide, [.int i tk, .str ⟨#[c]⟩ u], .cons ⟨_, rfl⟩ (.cons ⟨_, rfl⟩ .nil), ⟨_, tupAt, rfl, _, rfl⟩⟩
    have J : Inv X pins σ (upd H s.heap.objs.size (.tup [.int (i : Nat), .str ⟨#[c]⟩])) { s with heap := h2, toks := tk + 1 } := by
      refine I.turnedNew (ch := [e, it]) (fun b ob hb q => ?_) hf (Nat.le_refl _) fresh
      have b1 : b ≠ e := fun z => hb (by simp [z])
      have b2 : b ≠ it := fun z => hb (by simp [z])
      exact (sb.2 b b1).trans (hk b ob b1 b2 q)
    refine ⟨.ref s.heap.objs.size, _, J, rfl, ⟨_, c, rfl, hcx, I.hok.fresh (Nat.le_refl _), rfl⟩, ⟨⟨.str ⟨#[c]⟩ u, ?_⟩, ?_, hne, hg⟩, fun b hb => ?_⟩
    · have e1 : ((i + 1 : Nat) : Int) = (i : Int) + 1 := by omega
      rw [e1]
      exact he2
    · obtain ⟨o, q, r⟩ := hit'
      exact ⟨o, (sb.2 it (Ne.symm hne)).trans q, r⟩
    · have hb' : b < s.heap.objs.size := by
        rcases List.mem_cons.mp hb with z | z
        · rw [z]; exact eLt
        · rw [List.mem_singleton.mp z]; exact iLt
      rw [upd_ne (Nat.ne_of_lt hb')]
      exact (hf b hb).1
  done := by
    intro X hP hw hK hc i pins s σ H E I hf st hg
    subst hP hw hK
    obtain ⟨⟨old, he⟩, hit, hne, hle⟩ := st
    have ei : i = x.cps.size := Nat.le_antisymm hle hg
    subst ei
    obtain ⟨f0, f1, f2, f3, f4, f5⟩ := hf it (by simp)
    exact wpAny_pyNext_enum_endD (Draws.text (A := X.A.in1) (I.ok.hd hc) it x t) he hit fun h' eb =>
      ⟨rfl, I.turned (t' := s.toks) (fun b o hb q => eb b o hb q) f0 f1 f3 f4 f5⟩
  self := fun A i s Q E st h => let ⟨⟨_, he⟩, _⟩ := st; wpAny_pyIter_enum he h
def iEnumS (ta : TA) : TI := fun σ H R => ta σ H fun vs H1 => ∃ x : Str, vs = [.str x] ∧ R (ItES x) H1
theorem pi_enumS {X : Cx} {e : Expr} {ta : TA} {p pos tpos : Pos} {elts : List Expr} {kk : Nat} (hg : Gl X "enumerate") (hm : X.mg "enumerate" = none) (ha : PA X [e] ta)
    (hs : starEach [e] X.env = [(false, eval e X.env)] := by rfl) :
    PI X (.Tuple elts kk tpos) (.Call (.Name "enumerate" p) [e] [] pos) (iEnumS ta) := by
  constructor
  intro pins s σ H R I h
  refine Call_ (ld_blt I hg hm boot_enumerate (PyProof.Rows.callWith_type1 (thn (ha.run pos pins s σ H _ I h) fun us s1 ⟨vs, H1, I1, r1, x, ex, q⟩ => ?_) hs rfl))
  subst ex
  obtain ⟨u, rfl, t, rfl⟩ := vals1 r1
  refine call_enumerate_str fun h' he hit hsz hk => wpAny_pyIter_enum he ?_
  have I2 : Inv X pins σ H1 { s1 with heap := h' } := I1.kept (t' := s1.toks) hk
  refine ⟨s1.heap.objs.size + 1, [s1.heap.objs.size + 1, s1.heap.objs.size], _, _, H1, rfl, I2, turn_enumS x t (s1.heap.objs.size + 1) s1.heap.objs.size,
    ⟨⟨.none, he⟩, hit, Nat.succ_ne_self _, Nat.zero_le _⟩, fun b hb => ?_, q⟩
  have hle : s1.heap.objs.size ≤ b := by
    rcases List.mem_cons.mp hb with z | z
    · rw [z]; exact Nat.le_succ _
    · rw [List.mem_singleton.mp z]; exact Nat.le_refl _
  exact I1.fpOk hle (I1.hok.fresh hle)
theorem for_enumS {x : Str} {g : TG} {tb : TS} {D : Ends} {σ : L2.St} {H : Hp} (Pv : Nat → L2.St → Hp → Prop) (h0 : Pv 0 σ H)
    (hs : ∀ i c σ H T, (tl x)[i]? = some c → Pv i σ H → H T = none → g (.ref T) σ (upd H T (.tup [.int (i : Nat), .str ⟨#[c]⟩])) fun σ2 H2 => tb { D with nx := Pv (i + 1), ct := Pv (i + 1), bk := D.nx } σ2 H2)
    (hd : ∀ σ H, Pv (tl x).length σ H → D.nx σ H) :
    ∃ W : Nat → Nat → L2.St → Hp → Prop, (∃ m, W 0 m σ H) ∧ ∀ i m σ H, W i m σ H →
      ((ItES x).stop i H ∧ D.nx σ H) ∨ ((ItES x).go i H ∧ ∃ N : L2.St → Hp → Prop, (∀ σ' H', N σ' H' → ∃ m', m' < m ∧ W (i + 1) m' σ' H') ∧ ∀ v H', (ItES x).yld i H v H' → g v σ H' fun σ2 H2 => tb { D with nx := N, ct := N, bk := D.nx } σ2 H2) := by
  have hl : (tl x).length = x.cps.size := by show x.cps.toList.length = _; simp
  refine ⟨fun i m σ H => m = (tl x).length - i ∧ i ≤ (tl x).length ∧ Pv i σ H, ⟨(tl x).length, by simp, Nat.zero_le _, h0⟩, ?_⟩
  rintro i m σ H ⟨rfl, hi, p⟩
  by_cases h : i < (tl x).length
  · refine .inr ⟨by show i < x.cps.size; omega, Pv (i + 1), fun σ' H' q => ⟨_, by omega, rfl, h, q⟩, ?_⟩
    rintro v H' ⟨T, c, rfl, hc, hT, rfl⟩
    refine hs i c σ H T ?_ p hT
    show x.cps.toList[i]? = some c
    rw [Array.getElem?_toList]
    exact hc
  · have e : i = (tl x).length := by omega
    subst e
    exact .inl ⟨by show x.cps.size ≤ _; omega, hd σ H p⟩
end Y
set_option Elab.async false
set_option linter.all false
set_option maxRecDepth 100000
set_option maxHeartbeats 4000000
/-! own layer, part 5: written displays that make known data -/
namespace Y
open PySem PySem.Spec PyProof.Rows L2 TL
def EvK (N : Addr → Prop) (te : TE) (σ : L2.St) (H : Hp) (d : PyData) : Prop :=
  ∀ H1, Ext N H H1 → ∀ Q : VK, (∀ v H2, Ext No H1 H2 → Dq N H2 v d → Q v H2) → te σ H1 Q
def EvKs (N : Addr → Prop) (ta : TA) (σ : L2.St) (H : Hp) (ds : List PyData) : Prop :=
  ∀ H1, Ext N H H1 → ∀ Q : List V → Hp → Prop, (∀ vs H2, Ext No H1 H2 → DqAll N H2 vs ds → Q vs H2) → ta σ H1 Q
section
variable {N : Addr → Prop} {σ : L2.St} {H : Hp} {te : TE} {ta : TA} {d : PyData} {ds : List PyData}
theorem evk_int (i : Int) : EvK N (tC (.int i)) σ H (.int i) := fun H1 e Q q => q _ _ .refl (.int i)
theorem evk_i {i : Int} (h : EvI te σ i) : EvK N te σ H (.int i) := fun H1 e Q q => h H1 _ (q _ _ .refl (.int i))
theorem evk_str (x : Str) : EvK N (tC (.str x)) σ H (.str x) := fun H1 e Q q => q _ _ .refl (.str x)
theorem evk_bl (b : Bool) : EvK N (tC (.bl b)) σ H (.bool b) := fun H1 e Q q => q _ _ .refl (.bl b)
theorem evk_non : EvK N (tC .non) σ H .none := fun H1 e Q q => q _ _ .refl .non
theorem evk_var {i : Nat} {v : V} (h : σ[i]? = some (some v)) (n : Dq N H v d) : EvK N (tVar i) σ H d := fun H1 e Q q => ⟨v, h, q _ _ .refl (n.ext e)⟩
theorem evks_nil : EvKs N tNil σ H [] := fun H1 e Q q => q _ _ .refl .nil
theorem evks_cons (h : EvK N te σ H d) (g : EvKs N ta σ H ds) : EvKs N (tCons te ta) σ H (d :: ds) := fun H1 e Q q =>
  h H1 e _ fun v H2 e2 qd => g H2 (e.trans e2.any) _ fun vs H3 e3 qs => q _ _ (e2.trans e3) (.cons (qd.ext e3.any) qs)
theorem evk_tup (L : Live N H) (g : EvKs N ta σ H ds) (hl : ds.length ≤ 1000) : EvK N (tTup ta) σ H (.tuple ds) := fun H1 e Q q =>
  g H1 e _ fun vs H2 e2 qs => ⟨by have := qs.length; rw [sizeLine_eq]; omega, fun p hp => q _ _ (e2.trans (.new hp)) (.tup upd_same ((L.ext (e.trans e2.any)).not hp) (qs.ext (.new hp)))⟩
theorem evk_lst (L : Live N H) (g : EvKs N ta σ H ds) (hl : ds.length ≤ 1000) : EvK N (tLst ta) σ H (.list ds) := fun H1 e Q q =>
  g H1 e _ fun vs H2 e2 qs => ⟨by have := qs.length; rw [sizeLine_eq]; omega, fun p hp => q _ _ (e2.trans (.new hp)) (.lst upd_same ((L.ext (e.trans e2.any)).not hp) (qs.ext (.new hp)))⟩
theorem evk_dnew (L : Live N H) : EvK N tDNewK σ H (.dict []) := fun H1 e Q q p hp => q _ _ (.new hp) (.dct upd_same ((L.ext e).not hp) .nil .nil)
/-- a display at work -/
theorem lstK_use {Q : VK} (L : Live N H) (h : EvKs N ta σ H ds) (hl : ds.length ≤ 1000)
    (f : ∀ (xs : List V) (p : Addr) (H' : Hp), DqAll N H' xs ds → H' p = some (.lst xs) → ¬ N p → Ext No H H' → Q (.ref p) H') : tLst ta σ H Q :=
  h H .refl _ fun xs H' e q => ⟨by have := q.length; rw [sizeLine_eq]; omega, fun p hp => f xs p _ (q.ext (.new hp)) upd_same ((L.ext e.any (N' := N)).not hp) (e.trans (.new hp))⟩
end
/-- an item of a list of known data -/
theorem DqAll.at {N : Addr → Prop} {H : Hp} {vs : List V} {ds : List PyData} {k : Int} (h : DqAll N H vs ds) (h0 : 0 ≤ k) (h1 : k < (ds.length : Int)) : ∃ v d, atI vs k = some v ∧ d ∈ ds ∧ Dq N H v d := by
  obtain ⟨v, e, m⟩ := atI_in (xs := vs) h0 (by rw [h.length]; exact h1)
  obtain ⟨i, hi⟩ := List.mem_iff_getElem?.mp m
  obtain ⟨d, hd, q⟩ := h.get hi
  exact ⟨v, d, e, List.mem_of_getElem? hd, q⟩
/-- for x in [..]: a written display walked -/
theorem seq_forK {K : PySem.W.Frag} {N : Addr → Prop} {ta : TA} {ds : List PyData} {g : TG} {tb u : TS} {D : Ends} {σ : L2.St} {H : Hp} (L : Live N H) (h : EvKs N ta σ H ds)
    (f : ∀ (xs : List V) (p : Addr) (H' : Hp), DqAll N H' xs ds → H' p = some (.lst xs) → ¬ N p → Ext No H H' → ∃ Pv : Nat → L2.St → Hp → Prop, Pv 0 σ H' ∧
      (∀ i σ H2, Pv i σ H2 → H2 p = some (.lst xs)) ∧
      (∀ i x σ H2, xs[i]? = some x → Pv i σ H2 → g x σ H2 fun σ3 H3 => tb { D with nx := Pv (i + 1), ct := Pv (i + 1), bk := u D } σ3 H3) ∧
      ∀ σ H2, Pv xs.length σ H2 → u D σ H2) (hl : ds.length ≤ 1000) : tSeq (tFor (iList K (tLst ta)) g tb) u D σ H := by
  refine lstK_use (Q := fun x H1 => ∃ a, x = .ref a ∧ (∃ xs, SqL K H1 a xs) ∧ ∃ W : Nat → Nat → L2.St → Hp → Prop, (∃ m, W 0 m σ H1) ∧ ∀ i m σ H, W i m σ H →
    ((Itl K a).stop i H ∧ u D σ H) ∨ ((Itl K a).go i H ∧ ∃ N : L2.St → Hp → Prop, (∀ σ' H', N σ' H' → ∃ m', m' < m ∧ W (i + 1) m' σ' H') ∧ ∀ x H', (Itl K a).yld i H x H' → g x σ H' fun σ2 H2 => tb { D with nx := N, ct := N, bk := u D } σ2 H2))
    L h hl fun xs p H' qs hp np e => ?_
  obtain ⟨Pv, h0, hk, hs, hd⟩ := f xs p H' qs hp np e
  exact ⟨p, rfl, ⟨_, SqL.of hp⟩, for_list (K := K) (a := p) (xs := xs) (D := { D with nx := u D }) Pv h0 (fun i σ H2 _ q => SqL.of (hk i σ H2 q)) hs hd⟩
def fineB (w k : Nat) (d : PyData) : Bool := d.showable && d.leavesShort 64 && decide (d.bulk ≤ w) && decide (d.depth ≤ k) && cpOk d
theorem fine_by {w k : Nat} {d : PyData} (h : fineB w k d = true) : Fine w k d := by
  unfold fineB at h
  simp only [Bool.and_eq_true, decide_eq_true_eq] at h
  obtain ⟨⟨⟨⟨h1, h2⟩, h3⟩, h4⟩, h5⟩ := h
  exact ⟨h1, h2, h3, h4, h5⟩
end Y
set_option Elab.async false
set_option linter.all false
set_option maxRecDepth 100000
set_option maxHeartbeats 4000000
/-! places as text, in plain Lean -/
namespace Y
open PySem PySem.Spec PyProof.Rows L2 TL
def isFig (c : Nat) : Bool := decide (48 ≤ c) && decide (c ≤ 57)
def lead (cs : List Nat) : Nat := (cs.takeWhile isFig).length
/-- the first sign that is no digit, its place counted from i -/
def badAt (ar : Int) : Nat → List Nat → Option Nat
  | _, [] => none
  | i, c :: r => if isDig ar c then badAt ar (i + 1) r else some i
/-- place_flaw -/
def flawN (ar : Int) (cs : List Nat) : Option Nat :=
  if lead cs = 0 then some 0
  else if cs[0]? = some 48 ∧ 1 < lead cs then some 1
  else if 9 < lead cs then some 9
  else if cs[lead cs]? = some 46 then badAt ar (lead cs + 1) (cs.drop (lead cs + 1))
  else some (lead cs)
/-- the law's own walk: 0 begin, 1 zero, 2 root, 3 word -/
def dueStep (ar : Int) (i : Nat) (c : Nat) (st : Nat) : Option Nat :=
  if st = 0 ∧ isFig c = true then some (if c = 48 then 1 else 2)
  else if st = 2 ∧ isFig c = true ∧ i < 9 then some 2
  else if (st = 1 ∨ st = 2) ∧ c = 46 then some 3
  else if st = 3 ∧ isDig ar c = true then some 3 else none
def dueN (ar : Int) : Nat → Nat → List Nat → Option Nat
  | st, i, [] => if st = 3 then none else some i
  | st, i, c :: r => match dueStep ar i c st with
    | some st' => dueN ar st' (i + 1) r
    | none => some i
theorem due_word (ar : Int) : ∀ (cs : List Nat) (i : Nat), dueN ar 3 i cs = badAt ar i cs
  | [], _ => rfl
  | c :: r, i => by
    unfold dueN dueStep badAt
    cases h : isDig ar c with
    | true => simp [due_word ar r (i + 1)]
    | false => simp
theorem fig_dot : isFig 46 = false := by decide
theorem lead_nil : lead [] = 0 := rfl
theorem lead_fig {c : Nat} {r : List Nat} (h : isFig c = true) : lead (c :: r) = lead r + 1 := by
  unfold lead
  rw [List.takeWhile_cons, h]
  rfl
theorem lead_no {c : Nat} {r : List Nat} (h : isFig c = false) : lead (c :: r) = 0 := by
  unfold lead
  rw [List.takeWhile_cons, h]
  rfl
/-- behind a root -/
def rootN (ar : Int) (i : Nat) (cs : List Nat) : Option Nat :=
  if 9 < i + lead cs then some 9
  else if cs[lead cs]? = some 46 then badAt ar (i + lead cs + 1) (cs.drop (lead cs + 1))
  else some (i + lead cs)
theorem dueN_cons (ar : Int) (st i c : Nat) (r : List Nat) : dueN ar st i (c :: r) = match dueStep ar i c st with
    | some st' => dueN ar st' (i + 1) r
    | none => some i := rfl
theorem root_fig {ar : Int} {i c : Nat} (hf : isFig c = true) (hi : i < 9) : dueStep ar i c 2 = some 2 := by
  unfold dueStep
  rw [if_neg (fun z => absurd z.1 (by decide)), if_pos ⟨rfl, hf, hi⟩]
theorem root_dot {ar : Int} {i : Nat} : dueStep ar i 46 2 = some 3 := by
  unfold dueStep
  rw [if_neg (fun z => absurd z.1 (by decide)), if_neg (fun z => absurd z.2.1 (by decide)), if_pos ⟨.inr rfl, rfl⟩]
theorem root_bad {ar : Int} {i c : Nat} (h : isFig c = false ∨ 9 ≤ i) (c46 : c ≠ 46) : dueStep ar i c 2 = none := by
  unfold dueStep
  rw [if_neg (fun z => absurd z.1 (by decide)), if_neg, if_neg (fun z => c46 z.2), if_neg (fun z => absurd z.1 (by decide))]
  rintro ⟨_, z, y⟩
  rcases h with h | h
  · rw [h] at z; cases z
  · omega
theorem due_root (ar : Int) : ∀ (cs : List Nat) (i : Nat), i ≤ 9 → dueN ar 2 i cs = rootN ar i cs
  | [], i, h => by
    unfold dueN rootN
    rw [lead_nil]
    simp
    omega
  | c :: r, i, h => by
    rw [dueN_cons]
    cases hf : isFig c with
    | true =>
      by_cases hi : i < 9
      · rw [root_fig hf hi]
        show dueN ar 2 (i + 1) r = _
        rw [due_root ar r (i + 1) (by omega)]
        unfold rootN
        rw [lead_fig hf]
        have e : i + 1 + lead r = i + (lead r + 1) := by omega
        rw [e]
        rfl
      · have c46 : c ≠ 46 := fun z => by rw [z, fig_dot] at hf; cases hf
        rw [root_bad (.inr (by omega)) c46]
        unfold rootN
        have e9 : i = 9 := by omega
        have e1 : 9 < i + lead (c :: r) := by rw [lead_fig hf]; omega
        rw [if_pos e1, e9]
    | false =>
      unfold rootN
      have e1 : ¬ 9 < i + lead (c :: r) := by rw [lead_no hf]; omega
      rw [if_neg e1, lead_no hf]
      by_cases c46 : c = 46
      · subst c46
        rw [root_dot]
        show dueN ar 3 (i + 1) r = _
        rw [due_word]
        rfl
      · rw [root_bad (.inl hf) c46, if_neg (show ¬ (c :: r)[0]? = some 46 from fun z => c46 (Option.some.inj z))]
        rfl
theorem due_zero (ar : Int) (cs : List Nat) : dueN ar 1 1 cs = match cs with | [] => some 1 | c :: r => if c = 46 then badAt ar 2 r else some 1 := by
  cases cs with
  | nil => rfl
  | cons c r =>
    unfold dueN dueStep
    by_cases c46 : c = 46
    · simp [c46, due_word]
    · simp [c46]
theorem due_is (ar : Int) (cs : List Nat) : dueN ar 0 0 cs = flawN ar cs := by
  cases cs with
  | nil => rfl
  | cons c r =>
    unfold dueN dueStep flawN
    cases hf : isFig c with
    | false => 
      rw [lead_no hf]
      simp
    | true =>
      rw [lead_fig hf]
      by_cases c0 : c = 48
      · subst c0
        simp only [and_self, if_true, Nat.add_eq_zero_iff, Nat.succ_ne_self, and_false, if_false, Nat.zero_add]
        show dueN ar 1 1 r = _
        rw [due_zero]
        cases r with
        | nil => rfl
        | cons d t =>
          cases hd : isFig d with
          | true =>
            have d46 : d ≠ 46 := fun z => by rw [z, fig_dot] at hd; cases hd
            rw [lead_fig hd]
            simp [d46]
          | false =>
            rw [lead_no hd]
            by_cases d46 : d = 46
            · simp [d46]
            · simp [d46]
      · simp only [and_self, if_true, c0, if_false]
        show dueN ar 2 1 r = _
        rw [due_root ar r 1 (by omega)]
        unfold rootN
        have e : 1 + lead r = lead r + 1 := by omega
        rw [e]
        simp [c0]
/-! ### the parts -/
theorem part_dot {x : Str} {a b : List Nat} (h : tl x = a ++ 46 :: b) (hn : 46 ∉ a) : tl (Txt.partition x ".").1 = a ∧ tl (Txt.partition x ".").2.2 = b := by
  have hd : (".": Str) = ⟨#[46]⟩ := by decide +kernel
  have hm : 46 ∈ x.cps.toList := by
    show 46 ∈ tl x
    rw [h]
    simp
  have hf : (Builtin.Str.occurrences x "." 0 x.length 1).isEmpty = false := by
    rw [hd, empty_one]
    simpa using hm
  have e1 := PySem.StrLaws.partition_sum x "."
  have e2 := from_first_some (x := x) (z := ".") hd hd hf
  have e2' := eq_of_beq e2
  have t2 : 46 :: tl (Txt.partition x ".").2.2 = (tl x).dropWhile (· != 46) := by
    have z := congrArg tl e2'
    rw [tl_append] at z
    have zd : tl (".": Str) = [46] := by decide +kernel
    rw [zd] at z
    exact z
  have t1 : tl (Txt.partition x ".").1 ++ (tl (Txt.partition x ".").2.1 ++ tl (Txt.partition x ".").2.2) = tl x := by
    have z := congrArg tl e1
    rw [tl_append, tl_append, List.append_assoc] at z
    exact z
  have t3 : tl (Txt.partition x ".").2.1 = [46] := by
    unfold Txt.partition
    cases q : Builtin.Str.occurrences x "." 0 x.length 1 with
    | nil => rw [q] at hf; cases hf
    | cons u v => exact (show tl ("." : Str) = [46] by decide +kernel)
  have dw : ∀ l : List Nat, 46 ∉ l → (l ++ 46 :: b).dropWhile (· != 46) = 46 :: b := by
    intro l
    induction l with
    | nil => intro _; rfl
    | cons c r ih =>
      intro hc
      have c46 : c ≠ 46 := fun z => hc (by rw [z]; exact List.mem_cons_self ..)
      rw [List.cons_append, List.dropWhile_cons]
      have : (c != 46) = true := by simpa using c46
      rw [this]
      exact ih fun z => hc (List.mem_cons_of_mem _ z)
  rw [h, dw a hn] at t2
  have hb : tl (Txt.partition x ".").2.2 = b := (List.cons.inj t2).2
  refine ⟨?_, hb⟩
  rw [t3, hb, h] at t1
  exact List.append_cancel_right t1
/-! ### figures, digits -/
theorem mem_fig (c : Nat) : decide (c ∈ ("0123456789" : Str).cps.toList) = isFig c := by
  have e : ("0123456789" : Str).cps.toList = [48, 49, 50, 51, 52, 53, 54, 55, 56, 57] := by decide +kernel
  rw [e]
  unfold isFig
  by_cases h : 48 ≤ c ∧ c ≤ 57
  · rw [decide_eq_true h.1, decide_eq_true h.2]
    refine decide_eq_true ?_
    simp only [List.mem_cons, List.not_mem_nil, or_false]
    omega
  · have : ¬ c ∈ [48, 49, 50, 51, 52, 53, 54, 55, 56, 57] := by
      simp only [List.mem_cons, List.not_mem_nil, or_false]
      omega
    rw [decide_eq_false this]
    by_cases q : 48 ≤ c
    · rw [decide_eq_true q, decide_eq_false (fun z => h ⟨q, z⟩)]
      rfl
    · rw [decide_eq_false q]
      rfl
theorem con_fig (c : Nat) : ("0123456789" : Str).cps.contains c = isFig c := by
  rw [← mem_fig]
  cases h : ("0123456789" : Str).cps.contains c with
  | true => exact (decide_eq_true (by simpa using h)).symm
  | false => exact (decide_eq_false (fun z => by
      have : ("0123456789" : Str).cps.contains c = true := by simpa using z
      rw [h] at this
      cases this)).symm
theorem mem_cut {ar : Int} (h0 : 2 ≤ ar) (h1 : ar ≤ 4) (c : Nat) : decide (c ∈ (cutS ("0123" : Str) none (some ar)).cps.toList) = isDig ar c := by
  rw [← digits_cut h0 h1 c]
  cases h : (cutS ("0123" : Str) none (some ar)).cps.contains c with
  | true => exact decide_eq_true (by simpa using h)
  | false => exact decide_eq_false (fun z => by
      have : (cutS ("0123" : Str) none (some ar)).cps.contains c = true := by simpa using z
      rw [h] at this
      cases this)
theorem lstrip_len (x : Str) : (x.length : Int) - ((Txt.lstripChars x "0123456789").length : Int) = (lead (tl x) : Int) := by
  unfold Txt.lstripChars
  rw [stripBy_eq]
  have hl : (Builtin.Str.strSub x (stripLo ("0123456789" : Str).cps.contains true x) (stripHi ("0123456789" : Str).cps.contains false x (stripLo ("0123456789" : Str).cps.contains true x))).length =
      min (stripHi ("0123456789" : Str).cps.contains false x (stripLo ("0123456789" : Str).cps.contains true x)) x.length - stripLo ("0123456789" : Str).cps.contains true x := by
    show (x.cps.extract _ _).size = _
    rw [Array.size_extract]
    rfl
  rw [hl]
  have e1 : stripLo ("0123456789" : Str).cps.contains true x = lead (tl x) := by
    have ef : ("0123456789" : Str).cps.contains = isFig := funext con_fig
    unfold stripLo lead
    rw [ef]
    rfl
  have e2 : stripHi ("0123456789" : Str).cps.contains false x (stripLo ("0123456789" : Str).cps.contains true x) = x.length := rfl
  rw [e2, e1, Nat.min_self]
  have h1 : lead (tl x) ≤ (tl x).length := tw_len
  have := len_tl x
  omega
/-! ### a place's text -/
theorem bad_none {ar : Int} : ∀ {cs : List Nat} {i : Nat}, badAt ar i cs = none ↔ cs.all (isDig ar) = true
  | [], _ => by simp [badAt]
  | c :: r, i => by
    unfold badAt
    cases h : isDig ar c with
    | true => simp [h, bad_none (cs := r) (i := i + 1)]
    | false => simp [h]
theorem tw_drop {p : Nat → Bool} : ∀ l : List Nat, l.takeWhile p ++ l.drop (l.takeWhile p).length = l
  | [] => rfl
  | a :: r => by
    rw [List.takeWhile_cons]
    cases h : p a with
    | true => simp [tw_drop r]
    | false => simp
theorem tw_mem {p : Nat → Bool} : ∀ {l : List Nat} {c : Nat}, c ∈ l.takeWhile p → p c = true
  | a :: r, c, h => by
    rw [List.takeWhile_cons] at h
    cases ha : p a with
    | true =>
      rw [ha] at h
      rcases List.mem_cons.mp h with e | e
      · rw [e]; exact ha
      · exact tw_mem e
    | false => rw [ha] at h; cases h
structure GoodT (ar : Int) (x : Str) (a b : List Nat) : Prop where
  eq : tl x = a ++ 46 :: b
  fig : ∀ c ∈ a, isFig c = true
  ne : a ≠ []
  len : a.length ≤ 9
  dig : b.all (isDig ar) = true
theorem good_of {ar : Int} {x : Str} (h : flawN ar (tl x) = none) : ∃ a b, GoodT ar x a b := by
  unfold flawN at h
  split at h
  · cases h
  · rename_i h0
    split at h
    · cases h
    · split at h
      · cases h
      · rename_i h9
        split at h
        · rename_i hd
          have e := tw_drop (p := isFig) (tl x)
          have el : (tl x).drop (lead (tl x)) = 46 :: (tl x).drop (lead (tl x) + 1) := by
            obtain ⟨hlt, hv⟩ := List.getElem?_eq_some_iff.mp hd
            rw [List.drop_eq_getElem_cons hlt, hv]
          refine ⟨(tl x).takeWhile isFig, (tl x).drop (lead (tl x) + 1), ⟨?_, fun c hc => tw_mem hc, fun z => h0 ?_, ?_, bad_none.mp h⟩⟩
          · exact e.symm.trans (congrArg ((tl x).takeWhile isFig ++ ·) el)
          · unfold lead; rw [z]; rfl
          · exact Nat.not_lt.mp h9
        · cases h
theorem fig_bounds {c : Nat} (h : isFig c = true) : 48 ≤ c ∧ c ≤ 57 := by
  unfold isFig at h
  simpa using h
def rootOf (x : Str) : Int := ((PySem.NumText.digitsVal (tl (Txt.partition x ".").1) : Nat) : Int)
def wordOf (x : Str) : Str := (Txt.partition x ".").2.2
theorem good_root {ar : Int} {x : Str} {a b : List Nat} (g : GoodT ar x a b) : PySem.intText? (Txt.partition x ".").1 = some (rootOf x) ∧ (Txt.partition x ".").1.length ≤ 640 ∧ tl (wordOf x) = b := by
  have n46 : 46 ∉ a := fun z => by
    have := g.fig 46 z
    rw [fig_dot] at this
    cases this
  obtain ⟨p1, p2⟩ := part_dot g.eq n46
  have hl : (Txt.partition x ".").1.length = a.length := by rw [len_tl, p1]
  refine ⟨PySem.intText_digits (x := (Txt.partition x ".").1) (fun c hc => fig_bounds (g.fig c ?_)) (fun z => g.ne ?_) (by have := g.len; omega), by have := g.len; omega, p2⟩
  · rw [← p1]; exact hc
  · rw [← p1]; exact z
/-! ### the law's own text of a place -/
theorem dig_step {m : Nat} (h : 10 ≤ m) : Nat.toDigits 10 m = Nat.toDigits 10 (m / 10) ++ [Nat.digitChar (m % 10)] := by
  have hm : m % 10 < 10 := Nat.mod_lt _ (by decide)
  have t : Nat.toDigits 10 (m / 10) ++ Nat.toDigits 10 (m % 10) = Nat.toDigits 10 (10 * (m / 10) + m % 10) := Nat.toDigits_append_toDigits (by decide) (by omega) hm
  rw [Nat.div_add_mod, Nat.toDigits_of_lt_base hm] at t
  exact t.symm
theorem dig_len : ∀ (k m : Nat), m < 10 ^ (k + 1) → (Nat.toDigits 10 m).length ≤ k + 1
  | 0, m, h => by
    rw [Nat.toDigits_of_lt_base (by simpa using h)]
    simp
  | k + 1, m, h => by
    by_cases hm : m < 10
    · rw [Nat.toDigits_of_lt_base hm]
      simp
    · rw [dig_step (by omega), List.length_append]
      have h2 : m / 10 < 10 ^ (k + 1) := by
        rw [Nat.pow_succ] at h
        omega
      have := dig_len k (m / 10) h2
      simp only [List.length_cons, List.length_nil]
      omega
theorem dig_head : ∀ (n m : Nat), m ≤ n → 1 ≤ m → ∃ c r, Nat.toDigits 10 m = c :: r ∧ c ≠ '0'
  | 0, m, h, h1 => by omega
  | n + 1, m, h, h1 => by
    by_cases hm : m < 10
    · rw [Nat.toDigits_of_lt_base hm]
      refine ⟨_, [], rfl, ?_⟩
      have e : m = 1 ∨ m = 2 ∨ m = 3 ∨ m = 4 ∨ m = 5 ∨ m = 6 ∨ m = 7 ∨ m = 8 ∨ m = 9 := by omega
      rcases e with rfl | rfl | rfl | rfl | rfl | rfl | rfl | rfl | rfl <;> decide
    · obtain ⟨c, r, e, hc⟩ := dig_head n (m / 10) (by omega) (by omega)
      exact ⟨c, r ++ [Nat.digitChar (m % 10)], by rw [dig_step (by omega), e]; rfl, hc⟩
theorem tl_num (m : Nat) : tl (toString (m : Int) : String) = (Nat.toDigits 10 m).map Char.toNat := PySem.W.KIN.signs_num m
theorem num_fig {m c : Nat} (h : c ∈ (Nat.toDigits 10 m).map Char.toNat) : isFig c = true := by
  obtain ⟨ch, hch, e⟩ := List.mem_map.mp h
  have r := PyProof.Rows.digit_range (Nat.isDigit_of_mem_toDigits (by decide) (by decide) hch)
  unfold isFig
  rw [← e, decide_eq_true r.1, decide_eq_true r.2]
  rfl
theorem tw_app {p : Nat → Bool} {a b : List Nat} {c : Nat} (h : ∀ x ∈ a, p x = true) (hc : p c = false) : (a ++ c :: b).takeWhile p = a := by
  induction a with
  | nil => simp [hc]
  | cons x r ih =>
    rw [List.cons_append, List.takeWhile_cons, h x (List.mem_cons_self ..)]
    simp only [if_true]
    rw [ih fun y hy => h y (List.mem_cons_of_mem _ hy)]
theorem flaw_good {ar : Int} {x : Str} {a b : List Nat} (g : GoodT ar x a b) (hz : a[0]? = some 48 → a.length ≤ 1) : flawN ar (tl x) = none := by
  have el : lead (tl x) = a.length := by
    unfold lead
    rw [g.eq, tw_app g.fig fig_dot]
  have hn : 0 < a.length := List.length_pos_iff.mpr g.ne
  unfold flawN
  rw [el, if_neg (by omega), if_neg, if_neg (by have := g.len; omega), if_pos, g.eq]
  · have e : (a ++ 46 :: b).drop (a.length + 1) = b := by simp
    rw [e]
    exact bad_none.mpr g.dig
  · rw [g.eq]
    simp
  · rintro ⟨z1, z2⟩
    rw [g.eq, List.getElem?_append_left hn] at z1
    have := hz z1
    omega
theorem place_text {ar r : Int} {x w : Str} (h0 : 0 ≤ r) (h1 : r < 1000000000) (hw : (tl w).all (isDig ar) = true) (hx : tl x = tl (toString r : String) ++ 46 :: tl w) :
    flawN ar (tl x) = none ∧ rootOf x = r ∧ wordOf x = w := by
  obtain ⟨m, rfl⟩ := Int.eq_ofNat_of_zero_le h0
  have hd := tl_num m
  have ht : (Nat.toDigits 10 m).length ≤ 9 := dig_len 8 m (by have : (10 : Nat) ^ 9 = 1000000000 := by decide
                                                              omega)
  have g : GoodT ar x (tl (toString (m : Int) : String)) (tl w) := ⟨hx, fun c hc => num_fig (by rw [← hd]; exact hc), fun z => ?_, by rw [hd, List.length_map]; exact ht, hw⟩
  · refine ⟨flaw_good g fun z => ?_, ?_, ?_⟩
    · rw [hd] at z ⊢
      rcases Nat.eq_zero_or_pos m with e | e
      · subst e; decide
      · obtain ⟨c, t, e1, e2⟩ := dig_head m m (Nat.le_refl _) e
        rw [e1] at z
        have z' : c.toNat = 48 := Option.some.inj z
        exact absurd (Char.toNat_inj.mp (z'.trans (by decide))) e2
    · have n46 : 46 ∉ tl (toString (m : Int) : String) := fun z => by
        have := g.fig 46 z
        rw [fig_dot] at this
        cases this
      obtain ⟨p1, p2⟩ := part_dot g.eq n46
      have h2 := PySem.W.KIN.num_reads (n := (m : Int)) (by omega) (by omega)
      have e : (Txt.partition x ".").1 = PySem.Str.ofString (toString (m : Int)) := ext_tl p1
      have g1 := (good_root g).1
      rw [e] at g1
      exact Option.some.inj (g1.symm.trans h2)
    · exact ext_tl (good_root g).2.2
  · rw [hd] at z
    have : (Nat.toDigits 10 m).length = 0 := by rw [← List.length_map (f := Char.toNat), z]; rfl
    have := Nat.length_toDigits_pos (b := 10) (n := m)
    omega
/-! ### slices -/
theorem tl_cut (z : Str) (a b : Nat) : tl (cutS z (some (a : Int)) (some (b : Int))) = ((tl z).drop a).take (b - a) := by
  show (((z.cps.toList.drop (HT.sIx z.length 0 (some (a : Int)))).take (HT.sIx z.length z.length (some (b : Int)) - HT.sIx z.length 0 (some (a : Int)))).toArray).toList = _
  rw [List.toList_toArray, HT.sIx_nat, HT.sIx_nat]
  have hl : (tl z).length = z.length := (len_tl z).symm
  show (((tl z).drop (min a z.length)).take (min b z.length - min a z.length)) = _
  rw [← hl]
  by_cases ha : a ≤ (tl z).length
  · rw [Nat.min_eq_left ha]
    by_cases hb : b ≤ (tl z).length
    · rw [Nat.min_eq_left hb]
    · rw [Nat.min_eq_right (by omega), List.take_of_length_le (by rw [List.length_drop]; omega), List.take_of_length_le (by rw [List.length_drop]; omega)]
  · have e1 : min a (tl z).length = (tl z).length := Nat.min_eq_right (by omega)
    rw [e1, List.drop_of_length_le (Nat.le_refl _), List.take_nil, List.drop_of_length_le (by omega), List.take_nil]
theorem cut_dot (z : Str) (n : Nat) : decide (V.str (cutS z (some (n : Int)) (some ((n : Int) + 1))) = V.str ".") = decide ((tl z)[n]? = some 46) := by
  have e : (n : Int) + 1 = ((n + 1 : Nat) : Int) := by omega
  rw [e]
  have h := tl_cut z n (n + 1)
  have e1 : n + 1 - n = 1 := by omega
  rw [e1] at h
  refine decide_eq_decide.mpr ⟨fun q => ?_, fun q => ?_⟩
  · have q' := V.str.inj q
    rw [q'] at h
    have z1 : tl (".": Str) = [46] := by decide +kernel
    rw [z1] at h
    have : ((tl z).drop n)[0]? = some 46 := by
      cases hd : (tl z).drop n with
      | nil => rw [hd] at h; cases h
      | cons c r =>
        rw [hd] at h
        have := (List.cons.inj h).1
        rw [← this]; rfl
    rw [List.getElem?_drop] at this
    simpa using this
  · refine congrArg V.str (ext_tl ?_)
    rw [h]
    obtain ⟨hlt, hv⟩ := List.getElem?_eq_some_iff.mp q
    rw [List.drop_eq_getElem_cons hlt, hv]
    exact (show [46] = tl (".": Str) by decide +kernel)
end Y
set_option Elab.async false
set_option linter.all false
set_option maxRecDepth 100000
set_option maxHeartbeats 4000000
namespace Y
open PySem PySem.Spec PyProof.Rows L2 TL
def topS (i : Nat) : Stmt := PySem.Challenge.pw_strandclasses_k06_places_as_text.main.body.getD i (.Pass ⟨0, 0, 0, 0⟩)
abbrev s_is_integer : Stmt := topS 11
abbrev n_is_integer : List Str := ["value", "low", "high"]
abbrev a_is_integer : List Str := ["value", "low", "high"]
theorem sc_is_integer : FnScope n_is_integer a_is_integer (defScope s_is_integer) := ⟨rfl, rfl, rfl, by decide +kernel, rfl, by decide +kernel, by decide +kernel⟩
abbrev s_is_natural : Stmt := topS 12
abbrev n_is_natural : List Str := ["value", "low"]
abbrev a_is_natural : List Str := ["value", "low"]
theorem sc_is_natural : FnScope n_is_natural a_is_natural (defScope s_is_natural) := ⟨rfl, rfl, rfl, by decide +kernel, rfl, by decide +kernel, by decide +kernel⟩
abbrev s_is_arity : Stmt := topS 13
abbrev n_is_arity : List Str := ["value"]
abbrev a_is_arity : List Str := ["value"]
theorem sc_is_arity : FnScope n_is_arity a_is_arity (defScope s_is_arity) := ⟨rfl, rfl, rfl, by decide +kernel, rfl, by decide +kernel, by decide +kernel⟩
abbrev s_is_word : Stmt := topS 14
abbrev n_is_word : List Str := ["value", "arity"]
abbrev a_is_word : List Str := ["value", "arity"]
theorem sc_is_word : FnScope n_is_word a_is_word (defScope s_is_word) := ⟨rfl, rfl, rfl, by decide +kernel, rfl, by decide +kernel, by decide +kernel⟩
abbrev s_is_place : Stmt := topS 15
abbrev n_is_place : List Str := ["value", "arity", "root", "word"]
abbrev a_is_place : List Str := ["value", "arity"]
theorem sc_is_place : FnScope n_is_place a_is_place (defScope s_is_place) := ⟨rfl, rfl, rfl, by decide +kernel, rfl, by decide +kernel, by decide +kernel⟩
abbrev s_need_arity : Stmt := topS 16
abbrev n_need_arity : List Str := ["arity"]
abbrev a_need_arity : List Str := ["arity"]
theorem sc_need_arity : FnScope n_need_arity a_need_arity (defScope s_need_arity) := ⟨rfl, rfl, rfl, by decide +kernel, rfl, by decide +kernel, by decide +kernel⟩
abbrev s_need_place : Stmt := topS 17
abbrev n_need_place : List Str := ["value", "arity"]
abbrev a_need_place : List Str := ["value", "arity"]
theorem sc_need_place : FnScope n_need_place a_need_place (defScope s_need_place) := ⟨rfl, rfl, rfl, by decide +kernel, rfl, by decide +kernel, by decide +kernel⟩
abbrev s_shown : Stmt := topS 18
abbrev n_shown : List Str := ["place", "root", "word"]
abbrev a_shown : List Str := ["place"]
theorem sc_shown : FnScope n_shown a_shown (defScope s_shown) := ⟨rfl, rfl, rfl, by decide +kernel, rfl, by decide +kernel, by decide +kernel⟩
abbrev s_place_text : Stmt := topS 19
abbrev n_place_text : List Str := ["place"]
abbrev a_place_text : List Str := ["place"]
theorem sc_place_text : FnScope n_place_text a_place_text (defScope s_place_text) := ⟨rfl, rfl, rfl, by decide +kernel, rfl, by decide +kernel, by decide +kernel⟩
abbrev s_place_flaw : Stmt := topS 20
abbrev n_place_flaw : List Str := ["text", "arity", "count", "index"]
abbrev a_place_flaw : List Str := ["text", "arity"]
theorem sc_place_flaw : FnScope n_place_flaw a_place_flaw (defScope s_place_flaw) := ⟨rfl, rfl, rfl, by decide +kernel, rfl, by decide +kernel, by decide +kernel⟩
abbrev s_place_in : Stmt := topS 21
abbrev n_place_in : List Str := ["text", "root", "dot", "word"]
abbrev a_place_in : List Str := ["text"]
theorem sc_place_in : FnScope n_place_in a_place_in (defScope s_place_in) := ⟨rfl, rfl, rfl, by decide +kernel, rfl, by decide +kernel, by decide +kernel⟩
abbrev s_parse_place : Stmt := topS 22
abbrev n_parse_place : List Str := ["text", "arity", "index"]
abbrev a_parse_place : List Str := ["text", "arity"]
theorem sc_parse_place : FnScope n_parse_place a_parse_place (defScope s_parse_place) := ⟨rfl, rfl, rfl, by decide +kernel, rfl, by decide +kernel, by decide +kernel⟩
abbrev s_l_cell : Stmt := topS 24
abbrev n_l_cell : List Str := ["_law_script", "_law_k"]
abbrev a_l_cell : List Str := ["_law_script", "_law_k"]
theorem sc_l_cell : FnScope n_l_cell a_l_cell (defScope s_l_cell) := ⟨rfl, rfl, rfl, by decide +kernel, rfl, by decide +kernel, by decide +kernel⟩
abbrev s_l_box : Stmt := topS 25
abbrev n_l_box : List Str := ["_law_cell_here"]
abbrev a_l_box : List Str := ["_law_cell_here"]
theorem sc_l_box : FnScope n_l_box a_l_box (defScope s_l_box) := ⟨rfl, rfl, rfl, by decide +kernel, rfl, by decide +kernel, by decide +kernel⟩
abbrev s_l_take : Stmt := topS 26
abbrev n_l_take : List Str := ["_law_box_here", "_law_many", "_law_digit", "_law_number"]
abbrev a_l_take : List Str := ["_law_box_here", "_law_many"]
theorem sc_l_take : FnScope n_l_take a_l_take (defScope s_l_take) := ⟨rfl, rfl, rfl, by decide +kernel, rfl, by decide +kernel, by decide +kernel⟩
abbrev s_l_word : Stmt := topS 28
abbrev n_l_word : List Str := ["_law_box_here", "_law_arity", "_law_most", "_law_k"]
abbrev a_l_word : List Str := ["_law_box_here", "_law_arity", "_law_most"]
theorem sc_l_word : FnScope n_l_word a_l_word (defScope s_l_word) := ⟨rfl, rfl, rfl, by decide +kernel, rfl, by decide +kernel, by decide +kernel⟩
abbrev s_l_due : Stmt := topS 29
abbrev n_l_due : List Str := ["_law_text", "_law_arity", "_law_state", "_law_at", "_law_sign", "_law_root", "_law_dot", "_law_word_here"]
abbrev a_l_due : List Str := ["_law_text", "_law_arity"]
theorem sc_l_due : FnScope n_l_due a_l_due (defScope s_l_due) := ⟨rfl, rfl, rfl, by decide +kernel, rfl, by decide +kernel, by decide +kernel⟩
abbrev s_l_caught : Stmt := topS 30
abbrev n_l_caught : List Str := ["_law_text", "_law_arity", "e"]
abbrev a_l_caught : List Str := ["_law_text", "_law_arity"]
theorem sc_l_caught : FnScope n_l_caught a_l_caught (defScope s_l_caught) := ⟨rfl, rfl, rfl, by decide +kernel, rfl, by decide +kernel, by decide +kernel⟩
abbrev s_l_bent : Stmt := topS 31
abbrev n_l_bent : List Str := ["_law_box_here", "_law_text", "_law_turn", "_law_at", "_law_way", "_law_sign"]
abbrev a_l_bent : List Str := ["_law_box_here", "_law_text"]
theorem sc_l_bent : FnScope n_l_bent a_l_bent (defScope s_l_bent) := ⟨rfl, rfl, rfl, by decide +kernel, rfl, by decide +kernel, by decide +kernel⟩
abbrev s_l_odd_right : Stmt := topS 32
abbrev n_l_odd_right : List Str := ["_law_box_here", "_law_arity", "_law_odd", "_law_wrong", "_law_text", "_law_word_here", "_law_at", "_law_thing", "e", "_law_turn"]
abbrev a_l_odd_right : List Str := ["_law_box_here", "_law_arity"]
theorem sc_l_odd_right : FnScope n_l_odd_right a_l_odd_right (defScope s_l_odd_right) := ⟨rfl, rfl, rfl, by decide +kernel, rfl, by decide +kernel, by decide +kernel⟩
abbrev s_law : Stmt := topS 33
abbrev n_law : List Str := ["_law_script", "_law_k", "_law_box_here", "_law_arity", "_law_root", "_law_place", "_law_text", "_law_turn", "_law_bent_here"]
abbrev a_law : List Str := ["_law_script"]
theorem sc_law : FnScope n_law a_law (defScope s_law) := ⟨rfl, rfl, rfl, by decide +kernel, rfl, by decide +kernel, by decide +kernel⟩
abbrev s_x_InvalidArity : Stmt := inClass (topS 2) 0
theorem xi_InvalidArity : InitTx s_x_InvalidArity "value" where
  body := ⟨_, _, _, _, _, _, _, _, _, _, _, _, rfl, fun _ _ _ _ _ => ⟨_, rfl⟩, fun _ _ _ _ _ => rfl, fun _ _ _ _ _ => rfl⟩
  args := ⟨_, rfl, rfl⟩
  sc := ⟨rfl, rfl, rfl, by decide +kernel, rfl, by decide +kernel, by decide +kernel, by decide +kernel, rfl, rfl⟩
  nd := by decide +kernel
  bind := fun _ _ _ _ _ _ _ _ us hl => match us, hl with | [_, _], _ => rfl
abbrev s_x_InvalidPlace : Stmt := inClass (topS 3) 0
theorem xi_InvalidPlace : InitTx s_x_InvalidPlace "value" where
  body := ⟨_, _, _, _, _, _, _, _, _, _, _, _, rfl, fun _ _ _ _ _ => ⟨_, rfl⟩, fun _ _ _ _ _ => rfl, fun _ _ _ _ _ => rfl⟩
  args := ⟨_, rfl, rfl⟩
  sc := ⟨rfl, rfl, rfl, by decide +kernel, rfl, by decide +kernel, by decide +kernel, by decide +kernel, rfl, rfl⟩
  nd := by decide +kernel
  bind := fun _ _ _ _ _ _ _ _ us hl => match us, hl with | [_, _], _ => rfl
abbrev s_x_InvalidText : Stmt := inClass (topS 4) 0
theorem xi_InvalidText : InitTx s_x_InvalidText "position" where
  body := ⟨_, _, _, _, _, _, _, _, _, _, _, _, rfl, fun _ _ _ _ _ => ⟨_, rfl⟩, fun _ _ _ _ _ => rfl, fun _ _ _ _ _ => rfl⟩
  args := ⟨_, rfl, rfl⟩
  sc := ⟨rfl, rfl, rfl, by decide +kernel, rfl, by decide +kernel, by decide +kernel, by decide +kernel, rfl, rfl⟩
  nd := by decide +kernel
  bind := fun _ _ _ _ _ _ _ _ us hl => match us, hl with | [_, _], _ => rfl
structure Tx (K : PySem.W.Frag) (mg : Str → Option Value) (C_InvalidArity C_InvalidPlace C_InvalidText : Addr) : Prop where
  c_DIGITS : ∃ t, mg "DIGITS" = some (.str "0123" t)
  c_FIGURES : ∃ t, mg "FIGURES" = some (.str "0123456789" t)
  c_LEAST_ARITY : ∃ t, mg "LEAST_ARITY" = some (.int 2 t)
  c_MOST_ARITY : ∃ t, mg "MOST_ARITY" = some (.int 4 t)
  c_MOST_FIGURES : ∃ t, mg "MOST_FIGURES" = some (.int 9 t)
  n_isinstance : mg "isinstance" = none
  n_bool : mg "bool" = none
  n_int : mg "int" = none
  n_str : mg "str" = none
  n_len : mg "len" = none
  n_tuple : mg "tuple" = none
  n_range : mg "range" = none
  n_max : mg "max" = none
  n_enumerate : mg "enumerate" = none
  n_repr : mg "repr" = none
  n_min : mg "min" = none
  d_is_integer : Def K mg "is_integer" s_is_integer a_is_integer
  d_is_natural : Def K mg "is_natural" s_is_natural a_is_natural
  d_is_arity : Def K mg "is_arity" s_is_arity a_is_arity
  d_is_word : Def K mg "is_word" s_is_word a_is_word
  d_is_place : Def K mg "is_place" s_is_place a_is_place
  d_need_arity : Def K mg "need_arity" s_need_arity a_need_arity
  d_need_place : Def K mg "need_place" s_need_place a_need_place
  d_shown : Def K mg "shown" s_shown a_shown
  d_place_text : Def K mg "place_text" s_place_text a_place_text
  d_place_flaw : Def K mg "place_flaw" s_place_flaw a_place_flaw
  d_place_in : Def K mg "place_in" s_place_in a_place_in
  d_parse_place : Def K mg "parse_place" s_parse_place a_parse_place
  d_l_cell : Def K mg "_law_cell" s_l_cell a_l_cell
  d_l_box : Def K mg "_law_box" s_l_box a_l_box
  d_l_take : Def K mg "_law_take" s_l_take a_l_take
  d_l_word : Def K mg "_law_word" s_l_word a_l_word
  d_l_due : Def K mg "_law_due" s_l_due a_l_due
  d_l_caught : Def K mg "_law_caught" s_l_caught a_l_caught
  d_l_bent : Def K mg "_law_bent" s_l_bent a_l_bent
  d_l_odd_right : Def K mg "_law_odd_right" s_l_odd_right a_l_odd_right
  d_law : Def K mg "law" s_law a_law
  x_InvalidArity : XDef K mg "InvalidArity" "value" s_x_InvalidArity C_InvalidArity
  x_InvalidPlace : XDef K mg "InvalidPlace" "value" s_x_InvalidPlace C_InvalidPlace
  x_InvalidText : XDef K mg "InvalidText" "position" s_x_InvalidText C_InvalidText
  e_InvalidArity_InvalidArity : PySem.W.subIn K (.ref C_InvalidArity) (.ref C_InvalidArity) = some true
  e_InvalidArity_InvalidPlace : PySem.W.subIn K (.ref C_InvalidArity) (.ref C_InvalidPlace) = some false
  e_InvalidArity_InvalidText : PySem.W.subIn K (.ref C_InvalidArity) (.ref C_InvalidText) = some false
  e_InvalidPlace_InvalidArity : PySem.W.subIn K (.ref C_InvalidPlace) (.ref C_InvalidArity) = some false
  e_InvalidPlace_InvalidPlace : PySem.W.subIn K (.ref C_InvalidPlace) (.ref C_InvalidPlace) = some true
  e_InvalidPlace_InvalidText : PySem.W.subIn K (.ref C_InvalidPlace) (.ref C_InvalidText) = some false
  e_InvalidText_InvalidArity : PySem.W.subIn K (.ref C_InvalidText) (.ref C_InvalidArity) = some false
  e_InvalidText_InvalidPlace : PySem.W.subIn K (.ref C_InvalidText) (.ref C_InvalidPlace) = some false
  e_InvalidText_InvalidText : PySem.W.subIn K (.ref C_InvalidText) (.ref C_InvalidText) = some true
section
variable {P : Program} {w : World} {K : PySem.W.Frag} {mg : Str → Option Value} {base : Heap}
variable {C_InvalidArity C_InvalidPlace C_InvalidText : Addr}
/-! ### the law's draws -/
theorem ok_l_cell (T : Tx K mg C_InvalidArity C_InvalidPlace C_InvalidText) : Has P w K mg base "_law_cell" a_l_cell 1 (spCell K) := by
  refine T.d_l_cell.has sc_l_cell (fun vs H Q E h => ?_) (fun f cdv A outer s H vs Q E hr h => ?_)
  · obtain ⟨a, ns, k, rfl, _⟩ := h
    rfl
  · obtain ⟨a, ns, k, rfl, hS, hl, h0, h1, q⟩ := h
    refine ⟨_, (pss_cons (ps_if (pt_cmpR op_lt (pv 1) (pe_callB call_len_seq (by rfl) T.n_len (by decide +kernel) (pa_cons (pv 0) pa_nil)) (nomark _)) (pss_one (ps_ret (pe_ix ix_list (pv 0) (pv 1) (fun _ _ => rfl)))) pss_nil)
      (pss_one (ps_ret (pe_op op_add (pe_op op_mul pe_int (pv 1)) pe_int)))), ?_⟩
    refine ⟨_, rfl, _, rfl, a, _, rfl, .inl hS, _, _, rfl, rfl, _, rfl, ite2 (fun e => ?_) (fun e => ?_)⟩
    · have hk : k < ((ns.map V.int).length : Int) := of_decide_eq_true e
      obtain ⟨v, e1, e2⟩ := atI_in h0 hk
      obtain ⟨n, _, rfl⟩ := List.mem_map.mp e2
      exact ⟨_, rfl, _, rfl, a, _, _, _, rfl, rfl, hS, e1, q n⟩
    · exact ⟨_, rfl, _, _, rfl, rfl, .inl ⟨by decide, by decide⟩, _, _, rfl, rfl, q _⟩
theorem ok_l_box (T : Tx K mg C_InvalidArity C_InvalidPlace C_InvalidText) : Has P w K mg base "_law_box" a_l_box 1 spBox := by
  refine T.d_l_box.has sc_l_box (fun vs H Q E h => ?_) (fun f cdv A outer s H vs Q E hr h => ?_)
  · obtain ⟨c, rfl, _⟩ := h
    rfl
  · obtain ⟨c, rfl, q⟩ := h
    refine ⟨_, (pss_one (ps_ret (pe_lst (pa_cons (pe_callB (call_max2 rfl) (by rfl) T.n_max (by decide +kernel) (pa_cons pe_int (pa_cons (pe_op op_sub (pv 0) (pe_op op_pow pe_int pe_int)) pa_nil))) (pa_cons (pe_op op_modN (pv 0) pe_int) (pa_cons pe_int pa_nil)))))), ?_⟩
    refine ⟨_, rfl, _, _, rfl, rfl, ⟨by decide, by decide, by decide⟩, _, _, rfl, rfl, _, _, rfl, _, rfl, _, _, rfl, rfl, (by show (_ : Int) ≠ 0; decide), (by decide : 3 ≤ sizeLine), fun p hp => ?_⟩
    refine q p _ hp (fun b o e => ?_) ⟨_, _, 0, upd_same, ?_, ?_, ?_, Int.le_refl 0, Int.le_refl 0⟩
    · rw [upd_ne (ne_of_none e hp)]
      exact e
    · split <;> omega
    · rw [Int.fmod_eq_emod_of_nonneg _ (by decide)]
      exact Int.emod_nonneg _ (by decide)
    · rw [Int.fmod_eq_emod_of_nonneg _ (by decide)]
      exact Int.emod_lt_of_pos _ (by decide)
theorem ok_l_take (T : Tx K mg C_InvalidArity C_InvalidPlace C_InvalidText) : Has P w K mg base "_law_take" a_l_take 1 spTake := by
  refine T.d_l_take.has sc_l_take (fun vs H Q E h => ?_) (fun f cdv A outer s H vs Q E hr h => ?_)
  · obtain ⟨b, m, n, rfl, _⟩ := h
    rfl
  · obtain ⟨b, m, n, rfl, ⟨x, y, z, hb, x0, y0, y1, z0, z1⟩, hn, m0, m1, q⟩ := h
    refine ⟨_, (pss_cons (ps_if (pt_cmpR op_gt (pe_ix ix_list (pv 0) pe_int (fun _ _ => rfl)) pe_int (nomark _)) (pss_cons (ps_set (i := 2) sc_l_take.nd rfl (.inl rfl) (pe_op op_modN (pe_ix ix_list (pv 0) pe_int (fun _ _ => rfl)) (pv 1)))
      (pss_cons (ps_asg (pe_op op_fdivN (pe_ix ix_list (pv 0) pe_int (fun _ _ => rfl)) (pv 1)) (pg_sub (pv 0) pe_int set_list))
      (pss_one (ps_ret (pv 2))))) pss_nil)
      (pss_cons (ps_asg (pe_op op_add (pe_ix ix_list (pv 0) pe_int (fun _ _ => rfl)) pe_int) (pg_sub (pv 0) pe_int set_list))
      (pss_cons (ps_set (i := 3) sc_l_take.nd rfl (.inl rfl) (pe_op op_modN (pe_op op_pow (pe_op op_add (pe_op op_add (pe_ix ix_list (pv 0) pe_int (fun _ _ => rfl)) (pe_op op_mul pe_int (pe_ix ix_list (pv 0) pe_int (fun _ _ => rfl)))) pe_int) pe_int) pe_int))
      (pss_cons (ps_set (i := 3) sc_l_take.nd rfl (.inl rfl) (pe_op op_modN (pe_op op_pow (pe_op op_add (pv 3) (pe_op op_mul pe_int (pe_ix ix_list (pv 0) pe_int (fun _ _ => rfl)))) pe_int) pe_int))
      (pss_one (ps_ret (pe_op op_modN (pe_op op_fdivN (pv 3) pe_int) (pv 1)))))))), ?_⟩
    refine ⟨_, rfl, _, _, _, _, rfl, rfl, SqL.of hb, rfl, _, _, rfl, rfl, _, rfl, ite2 (fun e => ?_) (fun e => ?_)⟩
    · refine ⟨_, rfl, _, _, _, _, rfl, rfl, SqL.of hb, rfl, _, rfl, _, _, rfl, rfl, (by omega), ?_⟩
      refine ⟨_, rfl, _, _, _, _, rfl, rfl, SqL.of hb, rfl, _, rfl, _, _, rfl, rfl, ⟨by omega, by omega⟩, _, rfl, _, _, _, 0, rfl, rfl, hb, rfl, _, rfl, ?_⟩
      refine q _ _ ?_ ?_ ⟨x.fdiv m, y, z, upd_same, ?_, y0, y1, z0, by omega⟩ (.put rfl)
      · rw [Int.fmod_eq_emod_of_nonneg _ (by omega)]
        exact Int.emod_nonneg _ (by omega)
      · rw [Int.fmod_eq_emod_of_nonneg _ (by omega)]
        exact Int.emod_lt_of_pos _ m0
      · rw [Int.fdiv_eq_ediv_of_nonneg _ (by omega)]
        exact Int.ediv_nonneg x0 (by omega)
    · refine ⟨_, rfl, _, _, _, _, rfl, rfl, SqL.of hb, rfl, _, _, rfl, rfl, _, rfl, _, _, _, 2, rfl, rfl, hb, rfl, ?_⟩
      have hb1 : (upd H b (.lst ([V.int x, V.int y, V.int z].set 2 (V.int (z + 1))))) b = some (.lst [.int x, .int y, .int (z + 1)]) := upd_same
      refine ⟨_, rfl, _, _, _, _, rfl, rfl, SqL.of hb1, rfl, _, rfl, _, _, _, _, rfl, rfl, SqL.of hb1, rfl, _, _, rfl, rfl, .inl ⟨by decide, by decide⟩, _, _, rfl, rfl, _, _, rfl, rfl, _, _, rfl, rfl, ⟨by decide, by decide, by omega⟩, _, _, rfl, rfl, (by show (_ : Int) ≠ 0; decide), ?_⟩
      refine ⟨_, rfl, _, rfl, _, _, _, _, rfl, rfl, SqL.of hb1, rfl, _, _, rfl, rfl, .inl ⟨by decide, by decide⟩, _, _, rfl, rfl, _, _, rfl, rfl, ⟨by decide, by decide, ?_⟩, _, _, rfl, rfl, (by show (_ : Int) ≠ 0; decide), ?_⟩
      · exact drawn31 _ _ (by omega) (by omega)
      · refine ⟨_, rfl, _, _, rfl, rfl, ⟨by decide, by decide⟩, _, rfl, _, _, rfl, rfl, (by omega), ?_⟩
        refine q _ _ ?_ ?_ ⟨x, y, z + 1, hb1, x0, y0, y1, by omega, by omega⟩ (.put rfl)
        · rw [Int.fmod_eq_emod_of_nonneg _ (by omega)]
          exact Int.emod_nonneg _ (by omega)
        · rw [Int.fmod_eq_emod_of_nonneg _ (by omega)]
          exact Int.emod_lt_of_pos _ m0
theorem ok_l_word (T : Tx K mg C_InvalidArity C_InvalidPlace C_InvalidText) : Has P w K mg base "_law_word" a_l_word 2 spWord := by
  have G_l_take := ok_l_take (P := P) (w := w) (base := base) T
  refine T.d_l_word.has sc_l_word (fun vs H Q E h => ?_) (fun f cdv A outer s H vs Q E hr h => ?_)
  · obtain ⟨b, ar, m, n, rfl, _⟩ := h
    rfl
  · obtain ⟨b, ar, m, n, rfl, hB, hn, a0, a1, m0, m1, q⟩ := h
    refine ⟨_, (pss_one (ps_ret (pe_join pe_str (pe_lc (own := [("_law_k", 3)]) (g := gName 3) (tt := tYes) (by rfl) sc_l_word.nd (pi_range1 (by rfl) T.n_range (pa_cons (pe_callH G_l_take (hr.mono (by decide)) (by rfl) (pa_cons (pv 0) (pa_cons (pe_op op_add (pv 2) pe_int) pa_nil))) pa_nil)) (blkOk_by (own := [("_law_k", 3)]) (N := n_l_word) (sc := defScope s_l_word) (by decide +kernel)) (fun _ _ _ _ _ => (pg_name (i := 3) sc_l_word.nd rfl (.inl rfl))) (fun _ _ _ _ _ => pts_nil) (fun _ _ _ _ _ => (pe_ix ix_str pe_str (pe_callH G_l_take (hr.mono (by decide)) (by rfl) (pa_cons (pv 0) (pa_cons (pv 1) pa_nil))) (fun _ _ => rfl))))))), ?_⟩
    refine ⟨⟨_, rfl⟩, _, rfl, _, rfl, _, _, rfl, rfl, b, m + 1, n, rfl, hB, by omega, by omega, by omega, fun k H1 k0 k1 B1 E1 => ?_⟩
    refine ⟨k, rfl, by omega, by omega, fun D hD => ?_⟩
    have hbD : b ≠ D := B1.ne hD
    refine lc_range (lo := 0) (n := k.toNat) (fun i H' => ∃ zs : List Nat, zs.length = i ∧ (∀ c ∈ zs, 48 ≤ c ∧ (c : Int) < 48 + ar) ∧ H' D = some (.lst ((zs.map sg).map V.str)) ∧ Box H' b (n + 1 + i) ∧ Ext (At b) H H')
      ⟨[], rfl, (fun _ z => nomatch z), upd_same, B1.new hD, E1.trans (.new hD)⟩ ?_ ?_
    · rintro i H2 hi ⟨zs, hz, hc, hl, B2, E2⟩
      refine ⟨rfl, _, rfl, _, rfl, b, ar, n + 1 + i, rfl, B2, by omega, by omega, by omega, fun j H3 j0 j1 B3 E3 => ?_⟩
      have hl3 := E3.keep _ _ (fun z => hbD z.symm) hl
      refine ⟨_, _, _, rfl, rfl, (by decide), digit_at j0 (by omega), _, hl3, ?_, zs ++ [48 + j.toNat], by simp [hz], fun c hc' => ?_, ?_, B3.ext (.put (N := At D) rfl) hbD, ?_⟩
      · rw [List.length_map, List.length_map]
        exact small1000 (by omega)
      · rcases List.mem_append.mp hc' with z | z
        · exact hc c z
        · rw [List.mem_singleton.mp z]
          omega
      · rw [upd_same, List.map_append, List.map_append]
        rfl
      · refine ⟨fun c o nc e => ?_, fun c o e => ?_⟩
        · have nD : c ≠ D := ne_of_none e (E1.none hD)
          rw [upd_ne nD]
          exact E3.keep c o nc (E2.keep c o nc e)
        · have nD : c ≠ D := ne_of_none e (E1.none hD)
          obtain ⟨o', e'⟩ := (E2.trans E3).live c o e
          exact ⟨o', by rw [upd_ne nD]; exact e'⟩
    · rintro H2 ⟨zs, hz, hc, hl, B2, E2⟩
      refine ⟨_, D, zs.map sg, rfl, rfl, .inl (SqL.of hl), ?_, ?_⟩
      · rw [sum_signs]
        show zs.length + (zs.map sg).length * 0 ≤ _
        omega
      · refine q _ H2 (n + 1 + k.toNat) (fun c hc' => hc c ?_) ?_ (by omega) B2 E2
        · rw [← join_signs zs]
          exact hc'
        · rw [len_tl, join_signs]
          omega

/-! ### the program: words and places -/
theorem ok_is_integer (T : Tx K mg C_InvalidArity C_InvalidPlace C_InvalidText) : Has P w K mg base "is_integer" a_is_integer 1 spInt := by
  refine T.d_is_integer.has sc_is_integer (fun vs H Q E h => ?_) (fun f cdv A outer s H vs Q E hr h => ?_)
  · obtain ⟨N, v, d, lo, hi, rfl, _⟩ := h
    rfl
  · obtain ⟨N, v, d, lo, hi, rfl, hd, q⟩ := h
    refine ⟨_, (pss_one (ps_ret (pe_and (pe_callB call_isiQ (by rfl) T.n_isinstance (by decide +kernel) (pa_cons (pv 0) (pa_cons (pe_bltn (v := .ty "int") (u := .type "int") (by rfl) T.n_int (by decide +kernel) rfl) pa_nil))) (pe_and (pe_not (pe_callB call_isiQ (by rfl) T.n_isinstance (by decide +kernel) (pa_cons (pv 0) (pa_cons (pe_bltn (v := .ty "bool") (u := .type "bool") (by rfl) T.n_bool (by decide +kernel) rfl) pa_nil)))) (pe_one (pe_chain op_le op_le (pv 1) (pv 0) (pv 2))))))), ?_⟩
    refine ⟨_, rfl, N, _, d, "int", _, rfl, hd, kit_int d, _, rfl, ?_⟩
    cases hd with
    | int i =>
      refine iteT ⟨_, rfl, N, _, _, "bool", _, rfl, .int i, kit_bool _, _, rfl, _, rfl, iteT ⟨_, rfl, _, rfl, _, _, rfl, rfl, _, rfl, ?_⟩⟩
      by_cases h : lo ≤ i
      · rw [decide_eq_true h]
        refine iteT ⟨_, rfl, _, _, rfl, rfl, ?_⟩
        simpa [dInt, h] using q
      · rw [decide_eq_false h]
        refine iteF ?_
        simpa [dInt, h] using q
    | bl b => exact iteT ⟨_, rfl, N, _, _, "bool", _, rfl, .bl b, kit_bool _, _, rfl, _, rfl, iteF q⟩
    | non => exact iteF q
    | str x => exact iteF q
    | lst h n a => exact iteF q
    | tup h n a => exact iteF q
    | dct h n a b => exact iteF q
theorem ok_is_natural (T : Tx K mg C_InvalidArity C_InvalidPlace C_InvalidText) : Has P w K mg base "is_natural" a_is_natural 1 spNat := by
  refine T.d_is_natural.has sc_is_natural (fun vs H Q E h => ?_) (fun f cdv A outer s H vs Q E hr h => ?_)
  · obtain ⟨N, v, d, lo, rfl, _⟩ := h
    rfl
  · obtain ⟨N, v, d, lo, rfl, hd, q⟩ := h
    refine ⟨_, (pss_one (ps_ret (pe_and (pe_callB call_isiQ (by rfl) T.n_isinstance (by decide +kernel) (pa_cons (pv 0) (pa_cons (pe_bltn (v := .ty "int") (u := .type "int") (by rfl) T.n_int (by decide +kernel) rfl) pa_nil))) (pe_and (pe_not (pe_callB call_isiQ (by rfl) T.n_isinstance (by decide +kernel) (pa_cons (pv 0) (pa_cons (pe_bltn (v := .ty "bool") (u := .type "bool") (by rfl) T.n_bool (by decide +kernel) rfl) pa_nil)))) (pe_one (pe_cmpR op_le (pv 1) (pv 0) (nomark _))))))), ?_⟩
    refine ⟨_, rfl, N, _, d, "int", _, rfl, hd, kit_int d, _, rfl, ?_⟩
    cases hd with
    | int i => exact iteT ⟨_, rfl, N, _, _, "bool", _, rfl, .int i, kit_bool _, _, rfl, _, rfl, iteT ⟨_, rfl, _, rfl, _, _, rfl, rfl, q⟩⟩
    | bl b => exact iteT ⟨_, rfl, N, _, _, "bool", _, rfl, .bl b, kit_bool _, _, rfl, _, rfl, iteF q⟩
    | non => exact iteF q
    | str x => exact iteF q
    | lst h n a => exact iteF q
    | tup h n a => exact iteF q
    | dct h n a b => exact iteF q
theorem ok_is_arity (T : Tx K mg C_InvalidArity C_InvalidPlace C_InvalidText) : Has P w K mg base "is_arity" a_is_arity 2 spAr := by
  have G_is_integer := ok_is_integer (P := P) (w := w) (base := base) T
  refine T.d_is_arity.has sc_is_arity (fun vs H Q E h => ?_) (fun f cdv A outer s H vs Q E hr h => ?_)
  · obtain ⟨N, v, d, rfl, _⟩ := h
    rfl
  · obtain ⟨N, v, d, rfl, hd, q⟩ := h
    refine ⟨_, (pss_one (ps_ret (pe_callH G_is_integer (hr.mono (by decide)) (by rfl) (pa_cons (pv 0) (pa_cons (pe_glob (v := .int 2) (by rfl) T.c_LEAST_ARITY.choose_spec ⟨_, rfl⟩) (pa_cons (pe_glob (v := .int 4) (by rfl) T.c_MOST_ARITY.choose_spec ⟨_, rfl⟩) pa_nil)))))), ?_⟩
    exact ⟨_, rfl, N, v, d, 2, 4, rfl, hd, q⟩
theorem ok_is_word (T : Tx K mg C_InvalidArity C_InvalidPlace C_InvalidText) : Has P w K mg base "is_word" a_is_word 1 spIsWord := by
  refine T.d_is_word.has sc_is_word (fun vs H Q E h => ?_) (fun f cdv A outer s H vs Q E hr h => ?_)
  · obtain ⟨N, v, d, ar, k, rfl, _⟩ := h
    rfl
  · obtain ⟨N, v, d, ar, k, rfl, hd, a0, a1, fi, q⟩ := h
    refine ⟨_, (pss_one (ps_ret (pe_and (pe_callB call_isiQ (by rfl) T.n_isinstance (by decide +kernel) (pa_cons (pv 0) (pa_cons (pe_bltn (v := .ty "str") (u := .type "str") (by rfl) T.n_str (by decide +kernel) rfl) pa_nil))) (pe_one (pe_cmpR op_eq (pe_bm PySem.F.plainAttrs_str PySem.F.slot_str_strip PySem.F.type_str_strip mt_stripChars (pv 0) (pa_cons (pe_slice sl_str (pe_glob (v := .str "0123") (by rfl) T.c_DIGITS.choose_spec ⟨_, rfl⟩) po_none (po_some (pv 1))) pa_nil)) pe_str (nomark _)))))), ?_⟩
    refine ⟨_, rfl, N, _, d, "str", _, rfl, hd, kit_str d, _, rfl, ?_⟩
    cases hd with
    | str x =>
      have hx : x.length ≤ sizeLine := by
        have h1 : x.length ≤ 200000 := fi.bk
        rw [sizeLine_eq]
        omega
      refine iteT ⟨_, rfl, rfl, _, rfl, _, rfl, _, rfl, (by decide), _, _, rfl, rfl, hx, rfl, ?_⟩
      rw [strip_empty]
      have e : ((tl x).all fun c => (cutS ("0123" : Str) none (some ar)).cps.contains c) = (tl x).all (isDig ar) := congrArg _ (funext fun c => digits_cut a0 a1 c)
      rw [e]
      exact q
    | int i => exact iteF q
    | bl b => exact iteF q
    | non => exact iteF q
    | lst h n a => exact iteF q
    | tup h n a => exact iteF q
    | dct h n a b => exact iteF q
theorem ok_is_place (T : Tx K mg C_InvalidArity C_InvalidPlace C_InvalidText) : Has P w K mg base "is_place" a_is_place 2 spPlace := by
  have G_is_natural := ok_is_natural (P := P) (w := w) (base := base) T
  have G_is_word := ok_is_word (P := P) (w := w) (base := base) T
  refine T.d_is_place.has sc_is_place (fun vs H Q E h => ?_) (fun f cdv A outer s H vs Q E hr h => ?_)
  · obtain ⟨N, v, d, ar, k, rfl, _⟩ := h
    rfl
  · obtain ⟨N, v, d, ar, k, rfl, hd, a0, a1, fi, q⟩ := h
    refine ⟨_, (pss_cons (ps_if (PW.pt (pw_or (pt_not (pt_val (pe_callB call_isiQ (by rfl) T.n_isinstance (by decide +kernel) (pa_cons (pv 0) (pa_cons (pe_bltn (v := .ty "tuple") (u := .type "tuple") (by rfl) T.n_tuple (by decide +kernel) rfl) pa_nil))))) (pw_or1 (pt_cmpR op_ne (pe_callB call_len_seq (by rfl) T.n_len (by decide +kernel) (pa_cons (pv 0) pa_nil)) pe_int (nomark _))))) (pss_one (ps_ret pe_bl)) pss_nil)
      (pss_cons (ps_asg (pv 0) (pg_tup (by rfl) (pgs_cons (pg_name (i := 2) sc_is_place.nd rfl (.inl rfl)) (pgs_cons (pg_name (i := 3) sc_is_place.nd rfl (.inl rfl)) pgs_nil))))
      (pss_one (ps_ret (pe_and (pe_callH G_is_natural (hr.mono (by decide)) (by rfl) (pa_cons (pv 2) (pa_cons pe_int pa_nil))) (pe_one (pe_callH G_is_word (hr.mono (by decide)) (by rfl) (pa_cons (pv 3) (pa_cons (pv 1) pa_nil))))))))), ?_⟩
    refine ⟨_, rfl, N, _, d, "tuple", _, rfl, hd, kit_tuple d, _, rfl, ?_⟩
    cases hd with
    | @tup a xs ds h n al =>
      refine iteF ⟨_, rfl, a, xs, rfl, .inr (SqT.of h), rfl, _, rfl, ?_⟩
      have hl := al.length
      match xs, ds, al with
      | [], _, .nil => exact iteT q
      | [_], _, .cons _ .nil => exact iteT q
      | x1 :: x2 :: x3 :: t, _, .cons _ (.cons _ (.cons _ _)) =>
        refine ite2 (fun _ => q) (fun e => absurd ?_ e)
        have e1 : (decide (V.int ((x1 :: x2 :: x3 :: t : List V).length : Int) = V.int 2)) = false := decide_eq_false fun z => by
          have z1 := V.int.inj z
          simp only [List.length_cons] at z1
          omega
        simpa using e1
      | [x, y], [dx, dy], .cons hx (.cons hy .nil) =>
        refine iteF ⟨_, rfl, a, _, rfl, SqT.of h, rfl, x, _, rfl, y, _, rfl, rfl, _, rfl, N, x, dx, 0, rfl, hx, _, rfl, ?_⟩
        obtain ⟨j, rfl⟩ : ∃ j, k = j + 1 := ⟨k - 1, by have := fi.dp; simp only [PyData.depth] at this; omega⟩
        have fy : Fine 200000 j dy := fineAll_of (fine_items fi) (by simp)
        refine ite2 (fun e => ?_) (fun e => ?_)
        · refine ⟨_, rfl, _, rfl, N, y, dy, ar, j, rfl, hy, a0, a1, fy, ?_⟩
          have e' : dPlace ar (.tuple [dx, dy]) = dWord ar dy := by
            show (dNat 0 dx && dWord ar dy) = _
            rw [show dNat 0 dx = true from e]
            rfl
          rw [← e']
          exact q
        · have e' : dPlace ar (.tuple [dx, dy]) = false := by
            show (dNat 0 dx && dWord ar dy) = _
            rw [Bool.eq_false_iff.mpr e]
            rfl
          rw [← e']
          exact q
    | str x => exact iteT q
    | int i => exact iteT q
    | bl b => exact iteT q
    | non => exact iteT q
    | lst h n a => exact iteT q
    | dct h n a b => exact iteT q

end
end Y
set_option Elab.async false
set_option linter.all false
set_option maxRecDepth 100000
set_option maxHeartbeats 4000000
namespace Y
open PySem PySem.Spec PyProof.Rows L2 TL
section
variable {P : Program} {w : World} {K : PySem.W.Frag} {mg : Str → Option Value} {base : Heap}
variable {C_InvalidArity C_InvalidPlace C_InvalidText : Addr}
theorem slen_app (a b : Str) : (a ++ b).length = a.length + b.length := by rw [len_tl, tl_append, List.length_append, ← len_tl, ← len_tl]
theorem slen_num {i : Int} (h : i.natAbs < 10 ^ 40) : (PySem.Str.ofString (toString i)).length ≤ 64 := (int_short h).2
theorem share (C : Prop) {R G : Prop} (use : (C → R) → G) (prf : C → R) : G := use prf
/-! ### promises -/
def isAr (d : PyData) : Bool := dInt 2 4 d
def spNeedAr (C : Addr) : Sp := fun vs H Q E => ∃ (N : Addr → Prop) (v : V) (d : PyData), vs = [v] ∧ Dq N H v d ∧
  (isAr d = true → Q .non H) ∧ (isAr d = false → ∀ x, H x = none → E (.ref C) (some x) (upd H x (.xd [("value", v)])))
def spNeedPl (C : Addr) : Sp := fun vs H Q E => ∃ (N : Addr → Prop) (v : V) (d : PyData) (ar : Int) (k : Nat), vs = [v, .int ar] ∧ Dq N H v d ∧ 2 ≤ ar ∧ ar ≤ 4 ∧ Fine 200000 k d ∧
  (dPlace ar d = true → Q .non H) ∧ (dPlace ar d = false → ∀ x, H x = none → E (.ref C) (some x) (upd H x (.xd [("value", v)])))
def shownT (r : Int) (w : Str) : Str := ((Str.empty ++ (toString r : String)) ++ ".") ++ w
def spShown (K : PySem.W.Frag) : Sp := fun vs H Q _ => ∃ (a : Addr) (r : Int) (w : Str), vs = [.ref a] ∧ SqT K H a [.int r, .str w] ∧ r.natAbs < 10 ^ 40 ∧ w.length ≤ 200000 ∧ Q (.str (shownT r w)) H
theorem ok_need_arity (hP : PTx P) (T : Tx K mg C_InvalidArity C_InvalidPlace C_InvalidText) : HasX P w K mg base "need_arity" a_need_arity 3 (spNeedAr C_InvalidArity) := by
  have G_is_arity := ok_is_arity (P := P) (w := w) (base := base) T
  refine T.d_need_arity.hasX sc_need_arity (fun vs H Q E h => ?_) (fun f cdv A outer s H vs Q E hr h => ?_)
  · obtain ⟨N, v, d, rfl, _⟩ := h
    rfl
  · obtain ⟨N, v, d, rfl, hd, q1, q2⟩ := h
    refine ⟨_, (pss_one (ps_if (pt_not (pt_val (pe_callH G_is_arity (hr.mono (by decide)) (by rfl) (pa_cons (pv 0) pa_nil)))) (pss_one (ps_raise rfl (takes_of rfl rfl rfl rfl) (pmk_x T.x_InvalidArity xi_InvalidArity hP (hr.mono (by decide)) (by rfl) (pv 0)))) pss_nil)), ?_⟩
    refine ⟨_, rfl, N, v, d, rfl, hd, ?_⟩
    refine ⟨_, rfl, ?_⟩
    cases e : isAr d with
    | true =>
      rw [show dInt 2 4 d = true from e]
      exact iteF (q1 e)
    | false =>
      rw [show dInt 2 4 d = false from e]
      exact iteT ⟨v, rfl, fun x hx => q2 e x hx⟩
theorem ok_need_place (hP : PTx P) (T : Tx K mg C_InvalidArity C_InvalidPlace C_InvalidText) : HasX P w K mg base "need_place" a_need_place 3 (spNeedPl C_InvalidPlace) := by
  have G_is_place := ok_is_place (P := P) (w := w) (base := base) T
  refine T.d_need_place.hasX sc_need_place (fun vs H Q E h => ?_) (fun f cdv A outer s H vs Q E hr h => ?_)
  · obtain ⟨N, v, d, ar, k, rfl, _⟩ := h
    rfl
  · obtain ⟨N, v, d, ar, k, rfl, hd, a0, a1, fi, q1, q2⟩ := h
    refine ⟨_, (pss_one (ps_if (pt_not (pt_val (pe_callH G_is_place (hr.mono (by decide)) (by rfl) (pa_cons (pv 0) (pa_cons (pv 1) pa_nil))))) (pss_one (ps_raise rfl (takes_of rfl rfl rfl rfl) (pmk_x T.x_InvalidPlace xi_InvalidPlace hP (hr.mono (by decide)) (by rfl) (pv 0)))) pss_nil)), ?_⟩
    refine ⟨_, rfl, _, rfl, N, v, d, ar, k, rfl, hd, a0, a1, fi, _, rfl, ?_⟩
    cases e : dPlace ar d with
    | true => exact iteF (q1 e)
    | false => exact iteT ⟨v, rfl, fun x hx => q2 e x hx⟩
theorem ok_shown (T : Tx K mg C_InvalidArity C_InvalidPlace C_InvalidText) : Has P w K mg base "shown" a_shown 1 (spShown K) := by
  refine T.d_shown.has sc_shown (fun vs H Q E h => ?_) (fun f cdv A outer s H vs Q E hr h => ?_)
  · obtain ⟨a, r, z, rfl, _⟩ := h
    rfl
  · obtain ⟨a, r, z, rfl, hS, hr0, hz, q⟩ := h
    refine ⟨_, (pss_cons (ps_asg (pv 0) (pg_tup (by rfl) (pgs_cons (pg_name (i := 1) sc_shown.nd rfl (.inl rfl)) (pgs_cons (pg_name (i := 2) sc_shown.nd rfl (.inl rfl)) pgs_nil))))
      (pss_one (ps_ret (pe_joined (PJ.cons (pe_fmt (pv 1)) (PJ.cons pe_str (PJ.cons (pe_fmt (pv 2)) PJ.nil))))))), ?_⟩
    have l1 : (Str.empty ++ PySem.Str.ofString (toString r)).length ≤ 64 := by
      rw [slen_app]
      have := slen_num hr0
      have e : Str.empty.length = 0 := rfl
      omega
    have l2 : ((Str.empty ++ PySem.Str.ofString (toString r)) ++ PySem.Str.ofString ".").length ≤ 65 := by
      rw [slen_app]
      have e : (PySem.Str.ofString ".").length = 1 := rfl
      omega
    have l3 : (((Str.empty ++ PySem.Str.ofString (toString r)) ++ PySem.Str.ofString ".") ++ z).length ≤ 200065 := by
      rw [slen_app]
      omega
    have big : 200065 ≤ sizeLine := by rw [sizeLine_eq]; decide
    refine ⟨_, rfl, a, _, rfl, hS, rfl, .int r, _, rfl, .str z, _, rfl, rfl, ?_⟩
    refine ⟨_, rfl, .inr ⟨r, rfl, (int_short hr0).1, _, rfl, by omega, _, rfl, by omega, _, rfl, .inl ⟨z, rfl, by omega, _, rfl, by omega, q⟩⟩⟩
/-- place_text: the text, or what the place is not -/
def spText (K : PySem.W.Frag) (C : Addr) : Sp := fun vs H Q E => ∃ (N : Addr → Prop) (v : V) (d : PyData) (k : Nat), vs = [v] ∧ Dq N H v d ∧ Fine 200000 k d ∧
  (dPlace 4 d = true → ∃ (r : Int) (z : Str), d = .tuple [.int r, .str z] ∧ r.natAbs < 10 ^ 40 ∧ Q (.str (shownT r z)) H) ∧
  (dPlace 4 d = false → ∀ x, H x = none → E (.ref C) (some x) (upd H x (.xd [("value", v)])))
theorem ok_place_text (hP : PTx P) (T : Tx K mg C_InvalidArity C_InvalidPlace C_InvalidText) : HasX P w K mg base "place_text" a_place_text 4 (spText K C_InvalidPlace) := by
  have G_need_place := ok_need_place (P := P) (w := w) (base := base) hP T
  have G_shown := ok_shown (P := P) (w := w) (base := base) T
  refine T.d_place_text.hasX sc_place_text (fun vs H Q E h => ?_) (fun f cdv A outer s H vs Q E hr h => ?_)
  · obtain ⟨N, v, d, k, rfl, _⟩ := h
    rfl
  · obtain ⟨N, v, d, k, rfl, hd, fi, q1, q2⟩ := h
    refine ⟨_, (pss_cons (ps_expr (pe_callX G_need_place (takes_of rfl rfl rfl rfl) (hr.mono (by decide)) (by rfl) (pa_cons (pv 0) (pa_cons (pe_glob (v := .int 4) (by rfl) T.c_MOST_ARITY.choose_spec ⟨_, rfl⟩) pa_nil))))
      (pss_one (ps_ret (pe_callH G_shown (hr.mono (by decide)) (by rfl) (pa_cons (pv 0) pa_nil))))), ?_⟩
    refine ⟨_, rfl, N, v, d, 4, k, rfl, hd, by decide, by decide, fi, fun e => ?_, fun e x hx => q2 e x hx⟩
    obtain ⟨r, z, rfl, hr0, q⟩ := q1 e
    cases hd with
    | @tup a xs ds h n al =>
      match xs, al with
      | [x, y], .cons hx (.cons hy .nil) =>
        cases hx
        cases hy
        obtain ⟨j, rfl⟩ : ∃ j, k = j + 1 := ⟨k - 1, by have := fi.dp; simp only [PyData.depth] at this; omega⟩
        have fz : Fine 200000 j (.str z) := fineAll_of (fine_items fi) (by simp)
        have hz : z.length ≤ 200000 := fz.bk
        exact ⟨_, rfl, a, r, z, rfl, SqT.of h, hr0, hz, q⟩
/-! ### the flaw of a text -/
def optV : Option Nat → V
  | none => .non
  | some i => .int (i : Int)
def spFlaw : Sp := fun vs H Q _ => ∃ (x : Str) (ar : Int), vs = [.str x, .int ar] ∧ 2 ≤ ar ∧ ar ≤ 4 ∧ x.length ≤ 200000 ∧ Q (optV (flawN ar (tl x))) H
theorem ok_place_flaw (T : Tx K mg C_InvalidArity C_InvalidPlace C_InvalidText) : Has P w K mg base "place_flaw" a_place_flaw 1 spFlaw := by
  refine T.d_place_flaw.has sc_place_flaw (fun vs H Q E h => ?_) (fun f cdv A outer s H vs Q E hr h => ?_)
  · obtain ⟨x, ar, rfl, _⟩ := h
    rfl
  · obtain ⟨x, ar, rfl, a0, a1, hx, q⟩ := h
    refine ⟨_, (pss_cons (ps_set (i := 2) sc_place_flaw.nd rfl (.inl rfl) (pe_op op_sub (pe_callB call_len_str (by rfl) T.n_len (by decide +kernel) (pa_cons (pv 0) pa_nil)) (pe_callB call_len_str (by rfl) T.n_len (by decide +kernel) (pa_cons (pe_bm PySem.F.plainAttrs_str PySem.F.slot_str_lstrip PySem.F.type_str_lstrip mt_lstripChars (pv 0) (pa_cons (pe_glob (v := .str "0123456789") (by rfl) T.c_FIGURES.choose_spec ⟨_, rfl⟩) pa_nil)) pa_nil))))
      (pss_cons (ps_if (pt_cmpR op_eq (pv 2) pe_int (nomark _)) (pss_one (ps_ret pe_int)) pss_nil)
      (pss_cons (ps_if (PW.pt (pw_and (pt_cmpR op_eq (pe_ix ix_str (pv 0) pe_int (fun _ _ => rfl)) pe_str (nomark _)) (pw_and1 (pt_cmpR op_gt (pv 2) pe_int (nomark _))))) (pss_one (ps_ret pe_int)) pss_nil)
      (pss_cons (ps_if (pt_cmpR op_gt (pv 2) (pe_glob (v := .int 9) (by rfl) T.c_MOST_FIGURES.choose_spec ⟨_, rfl⟩) (nomark _)) (pss_one (ps_ret (pe_glob (v := .int 9) (by rfl) T.c_MOST_FIGURES.choose_spec ⟨_, rfl⟩))) pss_nil)
      (pss_cons (ps_if (pt_cmpR op_ne (pe_slice sl_str (pv 0) (po_some (pv 2)) (po_some (pe_op op_add (pv 2) pe_int))) pe_str (nomark _)) (pss_one (ps_ret (pv 2))) pss_nil)
      (pss_cons (ps_for PassesOwn.never rfl (pi_range2 (by rfl) T.n_range (pa_cons (pe_op op_add (pv 2) pe_int) (pa_cons (pe_callB call_len_str (by rfl) T.n_len (by decide +kernel) (pa_cons (pv 0) pa_nil)) pa_nil))) (pg_name (i := 3) sc_place_flaw.nd rfl (.inl rfl)) (pss_one (ps_if (pt_cmpR op_notIn_sign (pe_ix ix_str (pv 0) (pv 3) (fun _ _ => rfl)) (pe_slice sl_str (pe_glob (v := .str "0123") (by rfl) T.c_DIGITS.choose_spec ⟨_, rfl⟩) po_none (po_some (pv 1))) rfl) (pss_one (ps_ret (pv 3))) pss_nil)))
      (pss_one (ps_ret pe_non)))))))), ?_⟩
    have big : 200000 ≤ sizeLine := by rw [sizeLine_eq]; decide
    have hs : x.length ≤ sizeLine := by omega
    have hs2 : (Txt.lstripChars x "0123456789").length ≤ sizeLine := by
      have := lstrip_len x
      omega
    refine ⟨_, rfl, x, rfl, hs, _, rfl, rfl, x, _, rfl, rfl, hs, _, rfl, hs2, _, _, rfl, rfl, ?_⟩
    dsimp only [gName]
    rw [lstrip_len]
    have hle : lead (tl x) ≤ (tl x).length := tw_len
    have hxl := len_tl x
    unfold flawN at q
    generalize lead (tl x) = n at hle q ⊢
    refine ⟨_, rfl, rfl, _, rfl, ite2 (fun e => ?_) (fun e => ?_)⟩
    · have e' : (n : Int) = 0 := V.int.inj (of_decide_eq_true e)
      rw [if_pos (by omega)] at q
      exact q
    have e0 : n ≠ 0 := fun z => e (decide_eq_true (by rw [z]; rfl))
    rw [if_neg e0] at q
    obtain ⟨c, hc⟩ : ∃ c, (tl x)[0]? = some c := ⟨_, List.getElem?_eq_getElem (by omega)⟩
    have eT : decide (V.str ⟨#[c]⟩ = V.str "0") = decide (c = 48) := by
      have z0 : ("0" : Str) = ⟨#[48]⟩ := by decide +kernel
      rw [z0]
      exact decide_eq_decide.mpr ⟨fun z => by cases z; rfl, fun z => by rw [z]⟩
    refine ⟨_, rfl, x, 0, c, rfl, rfl, hs, atI_nat (j := 0) hc, rfl, _, rfl, ?_⟩
    rw [eT]
    apply share (¬ ((tl x)[0]? = some 48 ∧ 1 < n))
    · intro rest
      by_cases c48 : c = 48
      · rw [decide_eq_true c48]
        refine iteT ⟨_, rfl, _, _, rfl, rfl, _, rfl, ite2 (fun e => ?_) (fun e => ?_)⟩
        · clear rest
          have n1 : 1 < n := by
            have := of_decide_eq_true e
            omega
          rw [if_pos ⟨by rw [hc, c48], n1⟩] at q
          exact q
        · refine rest fun z => e (decide_eq_true ?_)
          clear rest
          have := z.2
          omega
      · rw [decide_eq_false c48]
        refine iteF (iteF (rest fun z => c48 ?_))
        clear rest
        rw [hc] at z
        exact Option.some.inj z.1
    intro hne
    rw [if_neg hne] at q
    refine ⟨_, rfl, _, _, rfl, rfl, _, rfl, ite2 (fun e => ?_) (fun e => ?_)⟩
    · have n9 : 9 < n := by
        have := of_decide_eq_true e
        omega
      rw [if_pos n9] at q
      exact q
    have n9 : ¬ 9 < n := fun z => e (decide_eq_true (by omega))
    rw [if_neg n9] at q
    refine ⟨_, rfl, _, rfl, _, rfl, _, rfl, _, _, rfl, rfl, _, rfl, x, rfl, hs, rfl, _, rfl, ?_⟩
    rw [cut_dot]
    by_cases hdot : (tl x)[n]? = some 46
    case neg =>
      rw [decide_eq_false hdot]
      rw [if_neg hdot] at q
      exact iteT ⟨_, rfl, q⟩
    rw [decide_eq_true hdot]
    rw [if_pos hdot] at q
    have hlt : n < (tl x).length := (List.getElem?_eq_some_iff.mp hdot).1
    refine iteF ⟨_, rfl, _, _, rfl, rfl, _, rfl, x, rfl, hs, _, _, rfl, ⟨by omega, by omega, by omega, by omega⟩, ?_⟩
    refine for_range (lo := (n : Int) + 1) (fun i σ H' => ∃ v, σ = [some (.str x), some (.int ar), some (.int n), v] ∧ H' = H ∧
      badAt ar (n + 1) ((tl x).drop (n + 1)) = badAt ar (n + 1 + i) ((tl x).drop (n + 1 + i))) ⟨none, rfl, rfl, rfl⟩ ?_ ?_
    · rintro i σ H' hi ⟨v, rfl, rfl, hb⟩
      have hi' : n + 1 + i < (tl x).length := by omega
      have hv : (tl x)[n + 1 + i]? = some (tl x)[n + 1 + i] := List.getElem?_eq_getElem hi'
      have ei : (n : Int) + 1 + i = ((n + 1 + i : Nat) : Int) := by omega
      rw [ei]
      refine ⟨_, rfl, _, rfl, x, _, _, rfl, rfl, hs, atI_nat hv, _, rfl, _, rfl, _, rfl, by rw [sizeLine_eq]; decide, _, _, rfl, rfl, _, rfl, ?_⟩
      rw [mem_cut a0 a1]
      have hstep : badAt ar (n + 1 + i) ((tl x).drop (n + 1 + i)) = if isDig ar (tl x)[n + 1 + i] then badAt ar (n + 1 + i + 1) ((tl x).drop (n + 1 + i + 1)) else some (n + 1 + i) := by
        rw [List.drop_eq_getElem_cons hi']
        rfl
      rw [hstep] at hb
      cases hd : isDig ar (tl x)[n + 1 + i] with
      | true =>
        rw [hd] at hb
        exact iteF ⟨_, rfl, rfl, hb⟩
      | false =>
        rw [hd] at hb
        rw [hb] at q
        exact iteT ⟨_, rfl, q⟩
    · rintro σ H' ⟨v, rfl, rfl, hb⟩
      have hend : (tl x).drop (n + 1 + ((x.length : Int) - ((n : Int) + 1)).toNat) = [] := List.drop_of_length_le (by omega)
      rw [hend] at hb
      rw [hb] at q
      exact q
/-! ### a text read -/
def spIn : Sp := fun vs H Q _ => ∃ (x : Str) (n : Int), vs = [.str x] ∧ x.length ≤ 200000 ∧ PySem.intText? (Txt.partition x ".").1 = some n ∧ (Txt.partition x ".").1.length ≤ 640 ∧
  ∀ p H', H p = none → Ext No H H' → H' p = some (.tup [.int n, .str (wordOf x)]) → Q (.ref p) H'
theorem ok_place_in (T : Tx K mg C_InvalidArity C_InvalidPlace C_InvalidText) : Has P w K mg base "place_in" a_place_in 1 spIn := by
  refine T.d_place_in.has sc_place_in (fun vs H Q E h => ?_) (fun f cdv A outer s H vs Q E hr h => ?_)
  · obtain ⟨x, n, rfl, _⟩ := h
    rfl
  · obtain ⟨x, n, rfl, hx, hn, hl, q⟩ := h
    refine ⟨_, (pss_cons (ps_asg (pe_partition (pv 0) pe_str) (pg_tup (by rfl) (pgs_cons (pg_name (i := 1) sc_place_in.nd rfl (.inl rfl)) (pgs_cons (pg_name (i := 2) sc_place_in.nd rfl (.inl rfl)) (pgs_cons (pg_name (i := 3) sc_place_in.nd rfl (.inl rfl)) pgs_nil)))))
      (pss_one (ps_ret (pe_tup (pa_cons (pe_callTy call_int_str (by rfl) T.n_int (by decide +kernel) (pa_cons (pv 1) pa_nil)) (pa_cons (pv 3) pa_nil)))))), ?_⟩
    have hs : x.length ≤ sizeLine := by rw [sizeLine_eq]; omega
    refine ⟨_, rfl, ⟨x, rfl⟩, x, _, rfl, rfl, rfl, hs, fun p hp => ?_⟩
    refine ⟨p, _, rfl, SqT.of upd_same, rfl, .str (Txt.partition x ".").1, _, rfl, .str (Txt.partition x ".").2.1, _, rfl, .str (Txt.partition x ".").2.2, _, rfl, rfl, ?_⟩
    refine ⟨_, rfl, _, _, rfl, hn, hl, _, rfl, (by decide : 2 ≤ sizeLine), fun p2 hp2 => ?_⟩
    have e1 : Ext No H (upd H p (.tup [.str (Txt.partition x ".").1, .str (Txt.partition x ".").2.1, .str (Txt.partition x ".").2.2])) := .new hp
    exact q p2 _ (e1.none hp2) (e1.trans (.new hp2)) upd_same
inductive PO
  | ar
  | pos (i : Int)
  | good (n : Int) (z : Str)
def readO (ar : Int) (z : Str) : PO := match flawN ar (tl z) with
  | some i => .pos (i : Int)
  | none => .good (rootOf z) (wordOf z)
def parseO (d e : PyData) : PO := if isAr e = true then (match d, e with
  | .str z, .int ar => readO ar z
  | _, _ => .pos (-1)) else .ar
def spParse (CA CT : Addr) : Sp := fun vs H Q E => ∃ (N : Addr → Prop) (v u : V) (d e : PyData) (k : Nat), vs = [v, u] ∧ Dq N H v d ∧ Dq N H u e ∧ Fine 200000 k d ∧
  (parseO d e = .ar → ∀ x, H x = none → E (.ref CA) (some x) (upd H x (.xd [("value", u)]))) ∧
  (∀ i, parseO d e = .pos i → ∀ x, H x = none → E (.ref CT) (some x) (upd H x (.xd [("position", .int i)]))) ∧
  ∀ n z, parseO d e = .good n z → ∀ p H', H p = none → Ext No H H' → H' p = some (.tup [.int n, .str z]) → Q (.ref p) H'
theorem ok_parse_place (hP : PTx P) (T : Tx K mg C_InvalidArity C_InvalidPlace C_InvalidText) : HasX P w K mg base "parse_place" a_parse_place 4 (spParse C_InvalidArity C_InvalidText) := by
  have G_need_arity := ok_need_arity (P := P) (w := w) (base := base) hP T
  have G_place_flaw := ok_place_flaw (P := P) (w := w) (base := base) T
  have G_place_in := ok_place_in (P := P) (w := w) (base := base) T
  refine T.d_parse_place.hasX sc_parse_place (fun vs H Q E h => ?_) (fun f cdv A outer s H vs Q E hr h => ?_)
  · obtain ⟨N, v, u, d, e, k, rfl, _⟩ := h
    rfl
  · obtain ⟨N, v, u, d, e, k, rfl, hd, he, fi, qa, qp, qg⟩ := h
    refine ⟨_, (pss_cons (ps_expr (pe_callX G_need_arity (takes_of rfl rfl rfl rfl) (hr.mono (by decide)) (by rfl) (pa_cons (pv 1) pa_nil)))
      (pss_cons (ps_if (pt_not (pt_val (pe_callB call_isiQ (by rfl) T.n_isinstance (by decide +kernel) (pa_cons (pv 0) (pa_cons (pe_bltn (v := .ty "str") (u := .type "str") (by rfl) T.n_str (by decide +kernel) rfl) pa_nil))))) (pss_one (ps_raise rfl (takes_of rfl rfl rfl rfl) (pmk_x T.x_InvalidText xi_InvalidText hP (hr.mono (by decide)) (by rfl) (pe_un un_neg pe_int)))) pss_nil)
      (pss_cons (ps_set (i := 2) sc_parse_place.nd rfl (.inl rfl) (pe_callH G_place_flaw (hr.mono (by decide)) (by rfl) (pa_cons (pv 0) (pa_cons (pv 1) pa_nil))))
      (pss_cons (ps_if (pt_cmpR op_notN (pv 2) pe_non (nomark _)) (pss_one (ps_raise rfl (takes_of rfl rfl rfl rfl) (pmk_x T.x_InvalidText xi_InvalidText hP (hr.mono (by decide)) (by rfl) (pv 2)))) pss_nil)
      (pss_one (ps_ret (pe_callH G_place_in (hr.mono (by decide)) (by rfl) (pa_cons (pv 0) pa_nil)))))))), ?_⟩
    refine ⟨_, rfl, N, u, e, rfl, he, fun ha => ?_, fun ha x hx => qa (if_neg (by rw [ha]; decide)) x hx⟩
    obtain ⟨ar, rfl, h0, h1⟩ : ∃ ar, e = .int ar ∧ 2 ≤ ar ∧ ar ≤ 4 := by
      cases e with
      | int i =>
        have z : (decide (2 ≤ i) && decide (i ≤ 4)) = true := ha
        rw [Bool.and_eq_true, decide_eq_true_eq, decide_eq_true_eq] at z
        exact ⟨i, rfl, z.1, z.2⟩
      | none => cases ha
      | bool b => cases ha
      | str x => cases ha
      | list x => cases ha
      | tuple x => cases ha
      | dict x => cases ha
    cases he
    refine ⟨_, rfl, N, _, d, "str", _, rfl, hd, kit_str d, _, rfl, ?_⟩
    have bad : ∀ {d' : PyData}, isi_str d' = false → parseO d' (.int ar) = .pos (-1) := fun {d'} hb => by
      unfold parseO
      rw [if_pos ha]
      cases d' with
      | str x => cases hb
      | int i => rfl
      | none => rfl
      | bool b => rfl
      | list x => rfl
      | tuple x => rfl
      | dict x => rfl
    cases hd with
    | str x =>
      refine iteF ⟨_, rfl, _, rfl, x, ar, rfl, h0, h1, fi.bk, ?_⟩
      have ep : parseO (.str x) (.int ar) = readO ar x := if_pos ha
      cases hf : flawN ar (tl x) with
      | some i =>
        have er : readO ar x = .pos (i : Int) := by unfold readO; rw [hf]
        exact ⟨_, rfl, rfl, _, rfl, iteT ⟨_, rfl, fun y hy => qp _ (ep.trans er) y hy⟩⟩
      | none =>
        have er : readO ar x = .good (rootOf x) (wordOf x) := by unfold readO; rw [hf]
        obtain ⟨a, b, g⟩ := good_of hf
        obtain ⟨g1, g2, _⟩ := good_root g
        exact ⟨_, rfl, rfl, _, rfl, iteF ⟨_, rfl, x, rootOf x, rfl, fi.bk, g1, g2, fun p H' hp eH hH => qg _ _ (ep.trans er) p H' hp eH hH⟩⟩
    | int i => exact iteT ⟨_, rfl, fun x hx => qp _ (bad rfl) x hx⟩
    | bl b => exact iteT ⟨_, rfl, fun x hx => qp _ (bad rfl) x hx⟩
    | non => exact iteT ⟨_, rfl, fun x hx => qp _ (bad rfl) x hx⟩
    | lst h n a => exact iteT ⟨_, rfl, fun x hx => qp _ (bad rfl) x hx⟩
    | tup h n a => exact iteT ⟨_, rfl, fun x hx => qp _ (bad rfl) x hx⟩
    | dct h n a b => exact iteT ⟨_, rfl, fun x hx => qp _ (bad rfl) x hx⟩
/-! ### the law: what is caught -/
def caughtD (d e : PyData) : PyData := match parseO d e with
  | .ar => .list [.str "arity", e]
  | .pos i => .list [.str "text", .int i]
  | .good n z => .list [.str "told", .tuple [.int n, .str z]]
def spCaught : Sp := fun vs H Q _ => ∃ (N : Addr → Prop) (v u : V) (d e : PyData) (k : Nat), vs = [v, u] ∧ Dq N H v d ∧ Dq N H u e ∧ Fine 200000 k d ∧ Live N H ∧
  ∀ x H', Ext No H H' → Dq N H' x (caughtD d e) → Q x H'
theorem ok_l_caught (hP : PTx P) (T : Tx K mg C_InvalidArity C_InvalidPlace C_InvalidText) : Has P w K mg base "_law_caught" a_l_caught 5 spCaught := by
  have G_parse_place := ok_parse_place (P := P) (w := w) (base := base) hP T
  refine T.d_l_caught.has sc_l_caught (fun vs H Q E h => ?_) (fun f cdv A outer s H vs Q E hr h => ?_)
  · obtain ⟨N, v, u, d, e, k, rfl, _⟩ := h
    rfl
  · obtain ⟨N, v, u, d, e, k, rfl, hd, he, fi, L, q⟩ := h
    refine ⟨_, (pss_one (ps_try_mix rfl rfl sc_l_caught.nd takes0 (fun W pn xe tk po => (pss_one (ps_ret (pe_lst (pa_cons pe_str (pa_cons (pe_callX G_parse_place tk (hr.mono (by decide)) (by rfl) (pa_cons (pv 0) (pa_cons (pv 1) pa_nil))) pa_nil))))))
      (MixOk.as (i := 2) ⟨rfl, by decide, Or.inl T.x_InvalidText.gC⟩ rfl rfl (fun a oe cls d pn hz hf => (pss_one (ps_ret (pe_lst (pa_cons pe_str (pa_cons (pe_xf T.x_InvalidText.F T.x_InvalidText.noF hz hf (pv 2)) pa_nil))))))
      (MixOk.as (i := 2) ⟨rfl, by decide, Or.inl T.x_InvalidArity.gC⟩ rfl rfl (fun a oe cls d pn hz hf => (pss_one (ps_ret (pe_lst (pa_cons pe_str (pa_cons (pe_xf T.x_InvalidArity.F T.x_InvalidArity.noF hz hf (pv 2)) pa_nil))))))
      MixOk.nil)))), ?_⟩
    have two : 2 ≤ sizeLine := by rw [sizeLine_eq]; decide
    refine ⟨_, rfl, _, rfl, N, v, u, d, e, k, rfl, hd, he, fi, fun ep x hx => ?_, fun i ep x hx => ?_, fun n z ep p H' hp eH hH => ?_⟩
    · refine ⟨false, T.x_InvalidText.catch T.e_InvalidArity_InvalidText, (fun z => nomatch z), fun _ => ⟨true, T.x_InvalidArity.catch T.e_InvalidArity_InvalidArity, fun _ a ha => ?_, (fun z => nomatch z)⟩⟩
      refine ⟨_, rfl, rfl, rfl, x, _, u, rfl, upd_same, rfl, two, fun p hp => ?_⟩
      have e1 : Ext N H (upd H x (.xd [("value", u)])) := .new hx
      have e2 : Ext N H (upd (upd H x (.xd [("value", u)])) p (.lst [.str "arity", u])) := e1.trans (.new hp)
      refine q _ _ ((Ext.new hx).trans (.new hp)) ?_
      have ec : caughtD d e = .list [.str "arity", e] := by unfold caughtD; rw [ep]
      rw [ec]
      exact .lst upd_same ((L.ext e1).not hp) (.cons (.str _) (.cons (he.ext e2) .nil))
    · refine ⟨true, T.x_InvalidText.catch T.e_InvalidText_InvalidText, fun _ a ha => ?_, (fun z => nomatch z)⟩
      refine ⟨_, rfl, rfl, rfl, x, _, .int i, rfl, upd_same, rfl, two, fun p hp => ?_⟩
      have e1 : Ext N H (upd H x (.xd [("position", .int i)])) := .new hx
      refine q _ _ ((Ext.new hx).trans (.new hp)) ?_
      have ec : caughtD d e = .list [.str "text", .int i] := by unfold caughtD; rw [ep]
      rw [ec]
      exact .lst upd_same ((L.ext e1).not hp) (.cons (.str _) (.cons (.int i) .nil))
    · refine ⟨two, fun p2 hp2 => ?_⟩
      have e1 : Ext N H H' := eH.any
      refine q _ _ (eH.trans (.new hp2)) ?_
      have ec : caughtD d e = .list [.str "told", .tuple [.int n, .str z]] := by unfold caughtD; rw [ep]
      rw [ec]
      have np : ¬ N p := L.not hp
      have hp3 : upd H' p2 (.lst [.str "told", .ref p]) p = some (.tup [.int n, .str z]) := by
        rw [upd_ne (ne_of_none hH hp2)]
        exact hH
      exact .lst upd_same ((L.ext e1).not hp2) (.cons (.str _) (.cons (.tup hp3 np (.cons (.int n) (.cons (.str z) .nil))) .nil))
end
end Y
set_option Elab.async false
set_option linter.all false
set_option maxRecDepth 100000
set_option maxHeartbeats 4000000
namespace Y
open PySem PySem.Spec PyProof.Rows L2 TL
section
variable {P : Program} {w : World} {K : PySem.W.Frag} {mg : Str → Option Value} {base : Heap}
variable {C_InvalidArity C_InvalidPlace C_InvalidText : Addr}
/-! ### the law's own walk over a text -/
def stT : Nat → Str
  | 0 => "begin"
  | 1 => "zero"
  | 2 => "root"
  | _ => "word"
theorem dS0 : ∀ {a : Nat}, a ≤ 3 → decide (V.str (stT a) = V.str "begin") = decide (a = 0)
  | 0, _ => rfl
  | 1, _ => by decide +kernel
  | 2, _ => by decide +kernel
  | 3, _ => by decide +kernel
theorem dS2 : ∀ {a : Nat}, a ≤ 3 → decide (V.str (stT a) = V.str "root") = decide (a = 2)
  | 0, _ => by decide +kernel
  | 1, _ => by decide +kernel
  | 2, _ => by decide +kernel
  | 3, _ => by decide +kernel
theorem dS3 : ∀ {a : Nat}, a ≤ 3 → decide (V.str (stT a) = V.str "word") = decide (a = 3)
  | 0, _ => by decide +kernel
  | 1, _ => by decide +kernel
  | 2, _ => by decide +kernel
  | 3, _ => by decide +kernel
theorem dS12 : ∀ {a : Nat}, a ≤ 3 → inV (V.str (stT a)) [V.str "zero", V.str "root"] = decide (a = 1 ∨ a = 2)
  | 0, _ => by decide +kernel
  | 1, _ => by decide +kernel
  | 2, _ => by decide +kernel
  | 3, _ => by decide +kernel
theorem dSign (c : Nat) (z : Str) (k : Nat) (h : z = ⟨#[k]⟩) : decide (V.str ⟨#[c]⟩ = V.str z) = decide (c = k) := by
  rw [h]
  exact decide_eq_decide.mpr ⟨fun z => by cases z; rfl, fun z => by rw [z]⟩
def dueD (ar : Int) (x : Str) : PyData := match flawN ar (tl x) with
  | some i => .list [.str "text", .int (i : Int)]
  | none => .list [.str "told", .tuple [.int (rootOf x), .str (wordOf x)]]
theorem due_caught {ar : Int} (h : isAr (.int ar) = true) (x : Str) : caughtD (.str x) (.int ar) = dueD ar x := by
  have e : parseO (.str x) (.int ar) = readO ar x := if_pos h
  unfold caughtD dueD
  rw [e]
  unfold readO
  cases flawN ar (tl x) <;> rfl
def spDue : Sp := fun vs H Q _ => ∃ (x : Str) (ar : Int), vs = [.str x, .int ar] ∧ 2 ≤ ar ∧ ar ≤ 4 ∧ x.length ≤ 200000 ∧ ∀ y H', Ext No H H' → (∀ N : Addr → Prop, Live N H → Dq N H' y (dueD ar x)) → Q y H'
theorem ok_l_due (T : Tx K mg C_InvalidArity C_InvalidPlace C_InvalidText) : Has P w K mg base "_law_due" a_l_due 1 spDue := by
  refine T.d_l_due.has sc_l_due (fun vs H Q E h => ?_) (fun f cdv A outer s H vs Q E hr h => ?_)
  · obtain ⟨x, ar, rfl, _⟩ := h
    rfl
  · obtain ⟨x, ar, rfl, a0, a1, hx, q⟩ := h
    refine ⟨_, (pss_cons (ps_set (i := 2) sc_l_due.nd rfl (.inl rfl) pe_str)
      (pss_cons (ps_for PassesOwn.never rfl (pi_enumS (by rfl) T.n_enumerate (pa_cons (pv 0) pa_nil)) (pg_tup (by rfl) (pgs_cons (pg_name (i := 3) sc_l_due.nd rfl (.inl rfl)) (pgs_cons (pg_name (i := 4) sc_l_due.nd rfl (.inl rfl)) pgs_nil))) (pss_one (ps_if (PW.pt (pw_and (pt_cmpR op_eq (pv 2) pe_str (nomark _)) (pw_and1 (pt_cmpR op_in_sign (pv 4) pe_str rfl)))) (pss_one (ps_set (i := 2) sc_l_due.nd rfl (.inl rfl) (pe_ifExp (pt_cmpR op_eq (pv 4) pe_str (nomark _)) pe_str pe_str))) (pss_one (ps_if (PW.pt (pw_and (pt_cmpR op_eq (pv 2) pe_str (nomark _)) (pw_and (pt_cmpR op_in_sign (pv 4) pe_str rfl) (pw_and1 (pt_cmpR op_lt (pv 3) pe_int (nomark _)))))) (pss_one (ps_set (i := 2) sc_l_due.nd rfl (.inl rfl) pe_str)) (pss_one (ps_if (PW.pt (pw_and (pt_cmpR op_in_seq (pv 2) (pe_tup (pa_cons pe_str (pa_cons pe_str pa_nil))) (by rfl)) (pw_and1 (pt_cmpR op_eq (pv 4) pe_str (nomark _))))) (pss_one (ps_set (i := 2) sc_l_due.nd rfl (.inl rfl) pe_str)) (pss_one (ps_if (PW.pt (pw_or (pt_cmpR op_ne (pv 2) pe_str (nomark _)) (pw_or1 (pt_cmpR op_notIn_sign (pv 4) (pe_slice sl_str pe_str po_none (po_some (pv 1))) rfl)))) (pss_one (ps_ret (pe_lst (pa_cons pe_str (pa_cons (pv 3) pa_nil))))) pss_nil)))))))))
      (pss_cons (ps_if (pt_cmpR op_ne (pv 2) pe_str (nomark _)) (pss_one (ps_ret (pe_lst (pa_cons pe_str (pa_cons (pe_callB call_len_str (by rfl) T.n_len (by decide +kernel) (pa_cons (pv 0) pa_nil)) pa_nil))))) pss_nil)
      (pss_cons (ps_asg (pe_partition (pv 0) pe_str) (pg_tup (by rfl) (pgs_cons (pg_name (i := 5) sc_l_due.nd rfl (.inl rfl)) (pgs_cons (pg_name (i := 6) sc_l_due.nd rfl (.inl rfl)) (pgs_cons (pg_name (i := 7) sc_l_due.nd rfl (.inl rfl)) pgs_nil)))))
      (pss_one (ps_ret (pe_lst (pa_cons pe_str (pa_cons (pe_tup (pa_cons (pe_callTy call_int_str (by rfl) T.n_int (by decide +kernel) (pa_cons (pv 5) pa_nil)) (pa_cons (pv 7) pa_nil))) pa_nil))))))))), ?_⟩
    have two : 2 ≤ sizeLine := by rw [sizeLine_eq]; decide
    have hs : x.length ≤ sizeLine := by rw [sizeLine_eq]; omega
    have hd0 : dueN ar 0 0 (tl x) = flawN ar (tl x) := due_is ar (tl x)
    refine ⟨_, rfl, x, rfl, for_enumS (fun i σ H' => ∃ st v3 v4, st ≤ 3 ∧ σ = [some (.str x), some (.int ar), some (.str (stT st)), v3, v4, none, none, none] ∧ Ext No H H' ∧
      dueN ar 0 0 (tl x) = dueN ar st i ((tl x).drop i)) ⟨0, none, none, by decide, rfl, .refl, rfl⟩ ?_ ?_⟩
    · rintro i c σ H1 t hc ⟨st, v3, v4, hst, rfl, eH, hi⟩ ht
      have hil : i < (tl x).length := (List.getElem?_eq_some_iff.mp hc).1
      have hil' : i < 200000 := by have := len_tl x; omega
      have eD : (tl x).drop i = c :: (tl x).drop (i + 1) := by
        rw [List.drop_eq_getElem_cons hil, (List.getElem?_eq_some_iff.mp hc).2]
      rw [eD, dueN_cons] at hi
      have e1 : Ext No H (upd H1 t (.tup [.int (i : Nat), .str ⟨#[c]⟩])) := eH.trans (.new ht)
      refine ⟨t, _, rfl, SqT.of upd_same, rfl, .int (i : Nat), _, rfl, .str ⟨#[c]⟩, _, rfl, rfl, ?_⟩
      refine ⟨_, rfl, rfl, _, rfl, ?_⟩
      rw [dS0 hst]
      apply share (¬ (st = 0 ∧ isFig c = true))
      · intro rest
        by_cases h0 : st = 0
        · rw [decide_eq_true h0]
          refine iteT ⟨_, rfl, c, _, rfl, rfl, _, rfl, ?_⟩
          rw [mem_fig]
          cases hf : isFig c with
          | false => exact iteF (rest fun z => by rw [hf] at z; cases z.2)
          | true =>
            refine iteT ⟨_, rfl, rfl, _, rfl, ?_⟩
            rw [dSign c "0" 48 (by decide +kernel)]
            by_cases c48 : c = 48
            · have hs1 : dueStep ar i c st = some 1 := by unfold dueStep; rw [if_pos ⟨h0, hf⟩, if_pos c48]
              rw [hs1] at hi
              rw [decide_eq_true c48]
              exact iteT ⟨1, _, _, by decide, rfl, e1, hi⟩
            · have hs1 : dueStep ar i c st = some 2 := by unfold dueStep; rw [if_pos ⟨h0, hf⟩, if_neg c48]
              rw [hs1] at hi
              rw [decide_eq_false c48]
              exact iteF ⟨2, _, _, by decide, rfl, e1, hi⟩
        · rw [decide_eq_false h0]
          exact iteF (iteF (rest fun z => h0 z.1))
      intro n1
      refine ⟨_, rfl, rfl, _, rfl, ?_⟩
      rw [dS2 hst]
      apply share (¬ (st = 2 ∧ isFig c = true ∧ i < 9))
      · intro rest
        by_cases h2 : st = 2
        · rw [decide_eq_true h2]
          refine iteT ⟨_, rfl, c, _, rfl, rfl, _, rfl, ?_⟩
          rw [mem_fig]
          cases hf : isFig c with
          | false => exact iteF (iteF (rest fun z => by rw [hf] at z; cases z.2.1))
          | true =>
            refine iteT ⟨_, rfl, _, _, rfl, rfl, _, rfl, ?_⟩
            by_cases h9 : i < 9
            · have hs1 : dueStep ar i c st = some 2 := by unfold dueStep; rw [if_neg n1, if_pos ⟨h2, hf, h9⟩]
              rw [hs1] at hi
              rw [show decide ((i : Int) < 9) = true from decide_eq_true (by omega)]
              exact iteT ⟨2, _, _, by decide, rfl, e1, hi⟩
            · rw [show decide ((i : Int) < 9) = false from decide_eq_false (by omega)]
              exact iteF (rest fun z => h9 z.2.2)
        · rw [decide_eq_false h2]
          exact iteF (iteF (rest fun z => h2 z.1))
      intro n2
      refine ⟨_, rfl, two, fun p hp => ?_⟩
      have e2 := e1.trans (.new (o := .tup [.str "zero", .str "root"]) hp)
      refine ⟨p, _, rfl, .inr (SqT.of upd_same), rfl, rfl, _, rfl, ?_⟩
      rw [dS12 hst]
      apply share (¬ ((st = 1 ∨ st = 2) ∧ c = 46))
      · intro rest
        by_cases h12 : st = 1 ∨ st = 2
        · rw [decide_eq_true h12]
          refine iteT ⟨_, rfl, rfl, _, rfl, ?_⟩
          rw [dSign c "." 46 (by decide +kernel)]
          by_cases c46 : c = 46
          · have hs1 : dueStep ar i c st = some 3 := by unfold dueStep; rw [if_neg n1, if_neg n2, if_pos ⟨h12, c46⟩]
            rw [hs1] at hi
            rw [decide_eq_true c46]
            exact iteT ⟨3, _, _, by decide, rfl, e2, hi⟩
          · rw [decide_eq_false c46]
            exact iteF (rest fun z => c46 z.2)
        · rw [decide_eq_false h12]
          exact iteF (iteF (rest fun z => h12 z.1))
      intro n3
      refine ⟨_, rfl, rfl, _, rfl, ?_⟩
      rw [dS3 hst]
      have gone : dueStep ar i c st = none → ∀ p2, upd (upd H1 t (.tup [.int (i : Nat), .str ⟨#[c]⟩])) p (.tup [.str "zero", .str "root"]) p2 = none →
          Q (.ref p2) (upd (upd (upd H1 t (.tup [.int (i : Nat), .str ⟨#[c]⟩])) p (.tup [.str "zero", .str "root"])) p2 (.lst [.str "text", .int (i : Nat)])) := by
        intro hn p2 hp2
        rw [hn] at hi
        have hfl : flawN ar (tl x) = some i := hd0.symm.trans hi
        have eD : dueD ar x = .list [.str "text", .int (i : Int)] := by unfold dueD; rw [hfl]
        refine q _ _ (e2.trans (.new hp2)) fun N L => ?_
        rw [eD]
        exact .lst upd_same ((L.ext e2).not hp2) (.cons (.str _) (.cons (.int _) .nil))
      by_cases h3 : st = 3
      · rw [decide_eq_true h3]
        refine iteF ⟨_, rfl, _, rfl, _, rfl, _, rfl, by rw [sizeLine_eq]; decide, c, _, rfl, rfl, _, rfl, ?_⟩
        rw [mem_cut a0 a1]
        cases hg : isDig ar c with
        | true =>
          have hs1 : dueStep ar i c st = some 3 := by unfold dueStep; rw [if_neg n1, if_neg n2, if_neg n3, if_pos ⟨h3, hg⟩]
          rw [hs1] at hi
          subst h3
          exact iteF ⟨3, _, _, by decide, rfl, e2, hi⟩
        | false =>
          have hs1 : dueStep ar i c st = none := by unfold dueStep; rw [if_neg n1, if_neg n2, if_neg n3, if_neg (fun z => by rw [hg] at z; cases z.2)]
          exact iteT ⟨_, rfl, two, gone hs1⟩
      · rw [decide_eq_false h3]
        have hs1 : dueStep ar i c st = none := by unfold dueStep; rw [if_neg n1, if_neg n2, if_neg n3, if_neg (fun z => h3 z.1)]
        exact iteT (iteT ⟨_, rfl, two, gone hs1⟩)
    · rintro σ H1 ⟨st, v3, v4, hst, rfl, eH, hi⟩
      have e0 : (tl x).drop (tl x).length = [] := List.drop_of_length_le (Nat.le_refl _)
      rw [e0] at hi
      refine ⟨_, rfl, rfl, _, rfl, ?_⟩
      rw [dS3 hst]
      by_cases h3 : st = 3
      · rw [decide_eq_true h3]
        subst h3
        have hfl : flawN ar (tl x) = none := hd0.symm.trans hi
        obtain ⟨a, b, g⟩ := good_of hfl
        obtain ⟨g1, g2, _⟩ := good_root g
        have eD : dueD ar x = .list [.str "told", .tuple [.int (rootOf x), .str (wordOf x)]] := by unfold dueD; rw [hfl]
        refine iteF ⟨_, rfl, ⟨x, rfl⟩, x, _, rfl, rfl, rfl, hs, fun p hp => ?_⟩
        refine ⟨p, _, rfl, SqT.of upd_same, rfl, .str (Txt.partition x ".").1, _, rfl, .str (Txt.partition x ".").2.1, _, rfl, .str (Txt.partition x ".").2.2, _, rfl, rfl, ?_⟩
        have e1 := eH.trans (.new (o := .tup [.str (Txt.partition x ".").1, .str (Txt.partition x ".").2.1, .str (Txt.partition x ".").2.2]) hp)
        refine ⟨_, rfl, _, _, rfl, g1, g2, _, rfl, two, fun p2 hp2 => ⟨two, fun p3 hp3 => ?_⟩⟩
        have e2 := e1.trans (.new (o := .tup [.int (rootOf x), .str (wordOf x)]) hp2)
        refine q _ _ (e2.trans (.new hp3)) fun N L => ?_
        rw [eD]
        refine .lst upd_same ((L.ext e2).not hp3) (.cons (.str _) (.cons (.tup (a := p2) (xs := [.int (rootOf x), .str (wordOf x)]) ?_ ((L.ext e1).not hp2) (.cons (.int _) (.cons (.str _) .nil))) .nil))
        rw [upd_ne (ne_of_none upd_same hp3)]
        exact upd_same
      · rw [decide_eq_false h3]
        have hfl : flawN ar (tl x) = some (tl x).length := by
          rw [← hd0, hi]
          exact if_neg h3
        have eD : dueD ar x = .list [.str "text", .int (x.length : Int)] := by unfold dueD; rw [hfl, len_tl]
        refine iteT ⟨_, rfl, x, rfl, hs, two, fun p2 hp2 => ?_⟩
        refine q _ _ (eH.trans (.new hp2)) fun N L => ?_
        rw [eD]
        exact .lst upd_same ((L.ext eH).not hp2) (.cons (.str _) (.cons (.int _) .nil))
end
end Y
set_option Elab.async false
set_option linter.all false
set_option maxRecDepth 100000
set_option maxHeartbeats 4000000
namespace Y
open PySem PySem.Spec PyProof.Rows L2 TL
section
variable {P : Program} {w : World} {K : PySem.W.Frag} {mg : Str → Option Value} {base : Heap}
variable {C_InvalidArity C_InvalidPlace C_InvalidText : Addr}
def Cps (x : Str) : Prop := ∀ c ∈ tl x, c < 1114112
theorem Cps.cut {z : Str} (h : Cps z) (lo hi : Option Int) : Cps (cutS z lo hi) := fun c hc => h c (cutS_mem hc)
theorem Cps.app {a b : Str} (h : Cps a) (k : Cps b) : Cps (a ++ b) := fun c hc => by
  rw [tl_append] at hc
  exact (List.mem_append.mp hc).elim (h c) (k c)
theorem cut_size (z : Str) (lo hi : Option Int) : (cutS z lo hi).length = min (HT.sIx z.length z.length hi - HT.sIx z.length 0 lo) (z.length - HT.sIx z.length 0 lo) := by
  show (((z.cps.toList.drop (HT.sIx z.length 0 lo)).take (HT.sIx z.length z.length hi - HT.sIx z.length 0 lo)).toArray).size = _
  rw [List.size_toArray, List.length_take, List.length_drop, Array.length_toList]
  rfl
theorem cut_sum (z : Str) {a b : Nat} (h : a ≤ b) : (cutS z none (some (a : Int))).length + (cutS z (some (b : Int)) none).length ≤ z.length := by
  rw [cut_size, cut_size, HT.sIx_none, HT.sIx_none, HT.sIx_nat, HT.sIx_nat]
  omega
theorem sign_ok {v : V} (h : v ∈ [V.str "0", V.str "1", V.str "3", V.str ".", V.str " ", V.str "-", V.str "9", V.str "x", V.str "\n", V.str "+"]) : ∃ z : Str, v = .str z ∧ z.length = 1 ∧ Cps z := by
  simp only [List.mem_cons, List.not_mem_nil, or_false] at h
  rcases h with rfl | rfl | rfl | rfl | rfl | rfl | rfl | rfl | rfl | rfl <;> exact ⟨_, rfl, by decide +kernel, by unfold Cps; decide +kernel⟩
def spBent : Sp := fun vs H Q _ => ∃ (b : Addr) (x : Str) (n : Nat), vs = [.ref b, .str x] ∧ Box H b n ∧ n ≤ 100000 ∧ x.length ≤ 1000 ∧ Cps x ∧
  ∀ (y : Str) (H' : Hp), y.length ≤ x.length + 2 → Cps y → Box H' b (n + 10) → Ext (At b) H H' → Q (.str y) H'
theorem ok_l_bent (T : Tx K mg C_InvalidArity C_InvalidPlace C_InvalidText) : Has P w K mg base "_law_bent" a_l_bent 2 spBent := by
  have G_l_take := ok_l_take (P := P) (w := w) (base := base) T
  refine T.d_l_bent.has sc_l_bent (fun vs H Q E h => ?_) (fun f cdv A outer s H vs Q E hr h => ?_)
  · obtain ⟨b, x, n, rfl, _⟩ := h
    rfl
  · obtain ⟨b, x, n, rfl, hB, hn, hx, cx, q⟩ := h
    refine ⟨_, (pss_cons (ps_for PassesOwn.never rfl (pi_range1 (by rfl) T.n_range (pa_cons (pe_op op_add pe_int (pe_callH G_l_take (hr.mono (by decide)) (by rfl) (pa_cons (pv 0) (pa_cons pe_int pa_nil)))) pa_nil)) (pg_name (i := 2) sc_l_bent.nd rfl (.inl rfl)) (pss_cons (ps_par (i := 3) (j := 4) (by rfl) sc_l_bent.nd rfl rfl (by decide) rfl rfl (pa_cons (pe_callH G_l_take (hr.mono (by decide)) (by rfl) (pa_cons (pv 0) (pa_cons (pe_op op_add (pe_callB call_len_str (by rfl) T.n_len (by decide +kernel) (pa_cons (pv 1) pa_nil)) pe_int) pa_nil))) (pa_cons (pe_callH G_l_take (hr.mono (by decide)) (by rfl) (pa_cons (pv 0) (pa_cons pe_int pa_nil))) pa_nil)) (by rfl))
      (pss_cons (ps_set (i := 5) sc_l_bent.nd rfl (.inl rfl) (pe_ix ix_list (pe_lst (pa_cons pe_str (pa_cons pe_str (pa_cons pe_str (pa_cons pe_str (pa_cons pe_str (pa_cons pe_str (pa_cons pe_str (pa_cons pe_str (pa_cons pe_str (pa_cons pe_str pa_nil))))))))))) (pe_callH G_l_take (hr.mono (by decide)) (by rfl) (pa_cons (pv 0) (pa_cons pe_int pa_nil))) (fun _ _ => rfl)))
      (pss_one (ps_if (pt_cmpR op_eq (pv 4) pe_int (nomark _)) (pss_one (ps_set (i := 1) sc_l_bent.nd rfl (.inl rfl) (pe_slice sl_str (pv 1) po_none (po_some (pv 3))))) (pss_one (ps_if (pt_cmpR op_eq (pv 4) pe_int (nomark _)) (pss_one (ps_set (i := 1) sc_l_bent.nd rfl (.inl rfl) (pe_op op_add_str (pe_slice sl_str (pv 1) po_none (po_some (pv 3))) (pe_slice sl_str (pv 1) (po_some (pe_op op_add (pv 3) pe_int)) po_none)))) (pss_one (ps_if (pt_cmpR op_eq (pv 4) pe_int (nomark _)) (pss_one (ps_set (i := 1) sc_l_bent.nd rfl (.inl rfl) (pe_op op_add_str (pe_op op_add_str (pe_slice sl_str (pv 1) po_none (po_some (pv 3))) (pv 5)) (pe_slice sl_str (pv 1) (po_some (pe_op op_add (pv 3) pe_int)) po_none)))) (pss_one (ps_set (i := 1) sc_l_bent.nd rfl (.inl rfl) (pe_op op_add_str (pe_op op_add_str (pe_slice sl_str (pv 1) po_none (po_some (pv 3))) (pv 5)) (pe_slice sl_str (pv 1) (po_some (pv 3)) po_none)))))))))))))
      (pss_one (ps_ret (pv 1)))), ?_⟩
    have ten : 10 ≤ sizeLine := by rw [sizeLine_eq]; decide
    have big : 100000 ≤ sizeLine := by rw [sizeLine_eq]; decide
    refine ⟨_, rfl, b, 2, n, rfl, hB, by omega, by decide, by decide, fun j H1 j0 j1 B1 E1 => ⟨_, _, rfl, rfl, ?_⟩⟩
    refine ⟨1 + j, rfl, by omega, by omega, ?_⟩
    refine for_range (lo := 0) (n := (1 + j).toNat) (fun i σ H' => ∃ z y2 y3 y4 y5, σ = [some (.ref b), some (.str z), y2, y3, y4, y5] ∧ z.length ≤ x.length + i ∧ Cps z ∧ Ext (At b) H H' ∧ Box H' b (n + 1 + 3 * i))
      ⟨x, _, _, _, _, rfl, by omega, cx, E1, B1⟩ ?_ ?_
    rotate_left
    · rintro σ H2 ⟨z, y2, y3, y4, y5, rfl, hz, cz, E2, B2⟩
      have h2 : (1 + j).toNat ≤ 2 := by omega
      exact ⟨_, rfl, q z H2 (by omega) cz (B2.mono (by omega)) E2⟩
    rintro i σ H2 hi ⟨z, y2, y3, y4, y5, rfl, hz, cz, E2, B2⟩
    have h2 : (1 + j).toNat ≤ 2 := by omega
    have hzs : z.length ≤ sizeLine := by omega
    refine ⟨_, rfl, _, rfl, z, rfl, hzs, _, _, rfl, rfl, b, (z.length : Int) + 1, n + 1 + 3 * i, rfl, B2, by omega, by omega, by omega, fun at_ H3 t0 t1 B3 E3 => ?_⟩
    refine ⟨_, rfl, b, 5, n + 1 + 3 * i + 1, rfl, B3, by omega, by decide, by decide, fun way H4 w0 w1 B4 E4 => ?_⟩
    obtain ⟨a, rfl⟩ : ∃ a : Nat, at_ = a := ⟨at_.toNat, by omega⟩
    refine ⟨_, _, rfl, ten, fun p hp => ?_⟩
    refine ⟨_, rfl, b, 10, n + 1 + 3 * i + 1 + 1, rfl, B4.new hp, by omega, by decide, by decide, fun k H5 k0 k1 B5 E5 => ?_⟩
    have hpb : p ≠ b := (B4.ne hp).symm
    obtain ⟨u, hu, um⟩ := atI_in (xs := [V.str "0", V.str "1", V.str "3", V.str ".", V.str " ", V.str "-", V.str "9", V.str "x", V.str "\n", V.str "+"]) k0 k1
    obtain ⟨sg1, rfl, l1, c1⟩ := sign_ok um
    refine ⟨p, _, k, _, rfl, rfl, SqL.of (E5.keep p _ hpb upd_same), hu, ?_⟩
    have E25 : Ext (At b) H H5 := E2.trans (E3.trans (E4.trans ((Ext.new hp).trans E5)))
    have B5' : Box H5 b (n + 1 + 3 * (i + 1)) := B5.mono (by omega)
    have s1 := cut_sum z (a := a) (b := a + 1) (by omega)
    have s2 := cut_sum z (a := a) (b := a) (by omega)
    have ea : (a : Int) + 1 = ((a + 1 : Nat) : Int) := by omega
    have i5 : ∀ z' : Str, z'.length ≤ z.length + 1 → Cps z' → ∃ z'' y2 y3 y4 y5, [some (V.ref b), some (V.str z'), some (V.int (0 + (i : Int))), some (V.int (a : Int)), some (V.int way), some (V.str sg1)] = [some (.ref b), some (.str z''), y2, y3, y4, y5] ∧
        z''.length ≤ x.length + (i + 1) ∧ Cps z'' ∧ Ext (At b) H H5 ∧ Box H5 b (n + 1 + 3 * (i + 1)) := fun z' h1 h2 => ⟨z', _, _, _, _, rfl, by omega, h2, E25, B5'⟩
    refine ⟨_, rfl, rfl, _, rfl, ite2 (fun e => ?_) (fun e => ?_)⟩
    · refine ⟨_, rfl, _, rfl, _, rfl, z, rfl, hzs, ?_⟩
      exact i5 _ (by omega) (cz.cut _ _)
    refine ⟨_, rfl, rfl, _, rfl, ite2 (fun e => ?_) (fun e => ?_)⟩
    · refine ⟨_, rfl, _, rfl, _, rfl, z, rfl, hzs, _, rfl, _, rfl, _, _, rfl, rfl, _, rfl, z, rfl, hzs, _, _, rfl, rfl, ?_, ?_⟩
      · rw [ea]
        omega
      · rw [ea]
        exact i5 _ (by rw [slen_app]; omega) ((cz.cut _ _).app (cz.cut _ _))
    refine ⟨_, rfl, rfl, _, rfl, ite2 (fun e => ?_) (fun e => ?_)⟩
    · refine ⟨_, rfl, _, rfl, _, rfl, z, rfl, hzs, _, rfl, _, _, rfl, rfl, ?_, _, rfl, _, rfl, _, _, rfl, rfl, _, rfl, z, rfl, hzs, _, _, rfl, rfl, ?_, ?_⟩
      · omega
      · rw [ea, slen_app]
        omega
      · rw [ea]
        exact i5 _ (by rw [slen_app, slen_app]; omega) (((cz.cut _ _).app c1).app (cz.cut _ _))
    · refine ⟨_, rfl, _, rfl, _, rfl, z, rfl, hzs, _, rfl, _, _, rfl, rfl, ?_, _, rfl, _, rfl, _, rfl, z, rfl, hzs, _, _, rfl, rfl, ?_, ?_⟩
      · omega
      · rw [slen_app]
        omega
      · exact i5 _ (by rw [slen_app, slen_app]; omega) (((cz.cut _ _).app c1).app (cz.cut _ _))
end
end Y
set_option Elab.async false
set_option linter.all false
set_option maxRecDepth 100000
set_option maxHeartbeats 4000000
namespace Y
open PySem PySem.Spec PyProof.Rows L2 TL
section
variable {P : Program} {w : World} {K : PySem.W.Frag} {mg : Str → Option Value} {base : Heap}
variable {C_InvalidArity C_InvalidPlace C_InvalidText : Addr}
def spOddR : Sp := fun vs H Q _ => ∃ (b : Addr) (ar : Int) (n : Nat), vs = [.ref b, .int ar] ∧ Box H b n ∧ n ≤ 100000 ∧ 2 ≤ ar ∧ ar ≤ 4 ∧
  ∀ H', Box H' b (n + 40) → Ext (At b) H H' → Q (.bl true) H'
/-- the odd things: none of them is a text -/
theorem odd_ok {d : PyData} (h : d ∈ [PyData.none, .int 7, .bool true, .tuple [.int 0, .str "0"], .list [.str "0.1"], .dict []]) : Fine 100 10 d ∧ isi_str d = false := by
  simp only [List.mem_cons, List.not_mem_nil, or_false] at h
  rcases h with rfl | rfl | rfl | rfl | rfl | rfl <;> exact ⟨fine_by (by decide +kernel), rfl⟩
theorem wrong_ok {d : PyData} (h : d ∈ [PyData.none, .int 1, .int 5, .bool true, .str "2", .list [.int 2]]) : Fine 100 10 d ∧ isAr d = false := by
  simp only [List.mem_cons, List.not_mem_nil, or_false] at h
  rcases h with rfl | rfl | rfl | rfl | rfl | rfl <;> exact ⟨fine_by (by decide +kernel), rfl⟩
theorem thing_ok {d : PyData} (h : d ∈ [PyData.none, .str "0.1", .list [.int 0, .str "1"], .tuple [.int 0, .str "4"], .tuple [.int (-1), .str "0"], .tuple [.bool true, .str "0"], .tuple [.int 0], .tuple [.int 0, .str "0", .str ""]]) : Fine 100 10 d ∧ dPlace 4 d = false := by
  simp only [List.mem_cons, List.not_mem_nil, or_false] at h
  rcases h with rfl | rfl | rfl | rfl | rfl | rfl | rfl | rfl <;> exact ⟨fine_by (by decide +kernel), by decide +kernel⟩
theorem caught_odd {d : PyData} {ar : Int} (ha : isAr (.int ar) = true) (h : isi_str d = false) : caughtD d (.int ar) = .list [.str "text", .int (-1)] := by
  have e : parseO d (.int ar) = .pos (-1) := by
    unfold parseO
    rw [if_pos ha]
    cases d with
    | str x => cases h
    | int i => rfl
    | none => rfl
    | bool b => rfl
    | list x => rfl
    | tuple x => rfl
    | dict x => rfl
  unfold caughtD
  rw [e]
theorem caught_wrong {d e : PyData} (h : isAr e = false) : caughtD d e = .list [.str "arity", e] := by
  have e1 : parseO d e = .ar := if_neg (by rw [h]; decide)
  unfold caughtD
  rw [e1]
theorem eqv_self {d : PyData} (h : SeqAt.shaped d = true) : PyData.eqv d d = true := SeqAt.eqv_refl d (SeqAt.canLay_of_shaped h)
theorem neq_same {d : PyData} {A B : Prop} (h : SeqAt.shaped d = true) (g : B) : if (if true = true then !PyData.eqv d d else PyData.eqv d d) = true then A else B := by
  rw [if_pos rfl, eqv_self h]
  exact iteF g
def EvT (te : TE) (σ : L2.St) (x : Str) : Prop := ∀ (H : Hp) (Q : VK), Q (.str x) H → te σ H Q
theorem evk_t {N : Addr → Prop} {te : TE} {σ : L2.St} {H : Hp} {x : Str} (h : EvT te σ x) : EvK N te σ H (.str x) := fun H1 e Q q => h H1 _ (q _ _ .refl (.str x))
theorem strOk_of {x : Str} (h : Cps x) : PyData.strOk x = true := by
  unfold PyData.strOk
  rw [← Array.all_toList]
  exact List.all_eq_true.mpr fun c hc => decide_eq_true (h c hc)
theorem shaped_by {d : PyData} (h1 : d.canLay0 = true) (h2 : d.depth ≤ 64) : SeqAt.shaped d = true := by
  unfold SeqAt.shaped
  rw [h1, decide_eq_true h2]
  rfl
theorem shaped_due {ar : Int} {x : Str} (h : Cps x) : SeqAt.shaped (dueD ar x) = true := by
  cases hf : flawN ar (tl x) with
  | some i =>
    have e : dueD ar x = .list [.str "text", .int (i : Int)] := by unfold dueD; rw [hf]
    rw [e]
    refine shaped_by ?_ ?_
    · simp only [PyData.canLay0, PyData.canLayAll0, Bool.and_true]
      decide +kernel
    · simp only [PyData.depth, PyData.depthAll]
      decide
  | none =>
    have e : dueD ar x = .list [.str "told", .tuple [.int (rootOf x), .str (wordOf x)]] := by unfold dueD; rw [hf]
    rw [e]
    obtain ⟨a, b, g⟩ := good_of hf
    have hw : Cps (wordOf x) := fun c hc => h c (by rw [(good_root g).2.2] at hc; rw [g.eq]; simp [hc])
    refine shaped_by ?_ ?_
    · simp only [PyData.canLay0, PyData.canLayAll0, Bool.and_true, Bool.true_and, strOk_of hw]
      decide +kernel
    · simp only [PyData.depth, PyData.depthAll]
      decide
theorem ar_ok {ar : Int} (a0 : 2 ≤ ar) (a1 : ar ≤ 4) : isAr (.int ar) = true := by
  show (decide (2 ≤ ar) && decide (ar ≤ 4)) = true
  rw [decide_eq_true a0, decide_eq_true a1]
  rfl
theorem ok_l_odd_right (hP : PTx P) (hsys : ∃ o, base.get? sysModules = some o) (T : Tx K mg C_InvalidArity C_InvalidPlace C_InvalidText) : HasG P w K mg base "_law_odd_right" a_l_odd_right 6 spOddR := by
  have G_l_take := ok_l_take (P := P) (w := w) (base := base) T
  have G_l_caught := ok_l_caught (P := P) (w := w) (base := base) hP T
  have G_l_due := ok_l_due (P := P) (w := w) (base := base) T
  have G_place_text := ok_place_text (P := P) (w := w) (base := base) hP T
  refine T.d_l_odd_right.hasG sc_l_odd_right (fun vs H Q E h => ?_) (fun f cdv A outer s H vs Q E hG hr h => ?_)
  · obtain ⟨b, ar, n, rfl, _⟩ := h
    rfl
  · obtain ⟨b, ar, n, rfl, hB, hn, a0, a1, q⟩ := h
    refine ⟨_, (pss_cons (ps_set (i := 2) sc_l_odd_right.nd rfl (.inl rfl) (pe_ix ix_list (pe_lst (pa_cons pe_non (pa_cons pe_int (pa_cons pe_bl (pa_cons (pe_tup (pa_cons pe_int (pa_cons pe_str pa_nil))) (pa_cons (pe_lst (pa_cons pe_str pa_nil)) (pa_cons pe_dnewK pa_nil))))))) (pe_callH G_l_take (hr.mono (by decide)) (by rfl) (pa_cons (pv 0) (pa_cons pe_int pa_nil))) (fun _ _ => rfl)))
      (pss_cons (ps_set (i := 3) sc_l_odd_right.nd rfl (.inl rfl) (pe_ix ix_list (pe_lst (pa_cons pe_non (pa_cons pe_int (pa_cons pe_int (pa_cons pe_bl (pa_cons pe_str (pa_cons (pe_lst (pa_cons pe_int pa_nil)) pa_nil))))))) (pe_callH G_l_take (hr.mono (by decide)) (by rfl) (pa_cons (pv 0) (pa_cons pe_int pa_nil))) (fun _ _ => rfl)))
      (pss_cons (ps_if (pt_cmpR (op_neQ hr.units) (pe_callH G_l_caught (hr.mono (by decide)) (by rfl) (pa_cons (pv 2) (pa_cons (pv 1) pa_nil))) (pe_lst (pa_cons pe_str (pa_cons (pe_un un_neg pe_int) pa_nil))) (nomark _)) (pss_one (ps_ret pe_bl)) pss_nil)
      (pss_cons (ps_for PassesOwn.never rfl (pi_list (pe_lst (pa_cons (pv 2) (pa_cons pe_str (pa_cons pe_str (pa_cons pe_str pa_nil)))))) (pg_name (i := 4) sc_l_odd_right.nd rfl (.inl rfl)) (pss_one (ps_if (pt_cmpR op_ne (pe_callB (call_reprD hG hr.units hsys) (by rfl) T.n_repr (by decide +kernel) (pa_cons (pe_callH G_l_caught (hr.mono (by decide)) (by rfl) (pa_cons (pv 4) (pa_cons (pv 3) pa_nil))) pa_nil)) (pe_callB (call_reprD hG hr.units hsys) (by rfl) T.n_repr (by decide +kernel) (pa_cons (pe_lst (pa_cons pe_str (pa_cons (pv 3) pa_nil))) pa_nil)) (nomark _)) (pss_one (ps_ret pe_bl)) pss_nil)))
      (pss_cons (ps_set (i := 5) sc_l_odd_right.nd rfl (.inl rfl) (pe_join pe_str (pe_lc (own := [("_law_turn", 9)]) (g := gName 9) (tt := tYes) (by rfl) sc_l_odd_right.nd (pi_range1 (by rfl) T.n_range (pa_cons pe_int pa_nil)) (blkOk_by (own := [("_law_turn", 9)]) (N := n_l_odd_right) (sc := defScope s_l_odd_right) (by decide +kernel)) (fun _ _ _ _ _ => (pg_name (i := 9) sc_l_odd_right.nd rfl (.inl rfl))) (fun _ _ _ _ _ => pts_nil) (fun _ _ _ _ _ => (pe_ix ix_str pe_str (pe_callH G_l_take (hr.mono (by decide)) (by rfl) (pa_cons (pv 0) (pa_cons (pv 1) pa_nil))) (fun _ _ => rfl))))))
      (pss_cons (ps_set (i := 6) sc_l_odd_right.nd rfl (.inl rfl) (pe_callH G_l_take (hr.mono (by decide)) (by rfl) (pa_cons (pv 0) (pa_cons pe_int pa_nil))))
      (pss_cons (ps_if (pt_cmpR op_ne (pe_callX G_place_text takes0 (hr.mono (by decide)) (by rfl) (pa_cons (pe_tup (pa_cons pe_int (pa_cons (pv 5) pa_nil))) pa_nil)) (pe_op op_add_str pe_str (pv 5)) (nomark _)) (pss_one (ps_ret pe_bl)) pss_nil)
      (pss_cons (ps_for PassesOwn.never rfl (pi_list (pe_lst (pa_cons (pe_op op_add_str pe_str (pv 5)) (pa_cons (pe_op op_add_str (pe_op op_add_str (pe_op op_add_str pe_str (pe_slice sl_str (pv 5) po_none (po_some (pv 6)))) pe_str) (pe_slice sl_str (pv 5) (po_some (pv 6)) po_none)) (pa_cons (pe_op op_add_str (pe_op op_add_str pe_str (pv 5)) pe_str) (pa_cons (pe_op op_add_str (pe_op op_add_str pe_str (pv 5)) pe_str) pa_nil)))))) (pg_name (i := 4) sc_l_odd_right.nd rfl (.inl rfl)) (pss_one (ps_if (pt_cmpR (op_neQ hr.units) (pe_callH G_l_caught (hr.mono (by decide)) (by rfl) (pa_cons (pv 4) (pa_cons (pv 1) pa_nil))) (pe_callH G_l_due (hr.mono (by decide)) (by rfl) (pa_cons (pv 4) (pa_cons (pv 1) pa_nil))) (nomark _)) (pss_one (ps_ret pe_bl)) pss_nil)))
      (pss_cons (ps_for PassesOwn.never rfl (pi_list (pe_lst (pa_cons pe_non (pa_cons pe_str (pa_cons (pe_lst (pa_cons pe_int (pa_cons pe_str pa_nil))) (pa_cons (pe_tup (pa_cons pe_int (pa_cons pe_str pa_nil))) (pa_cons (pe_tup (pa_cons (pe_un un_neg pe_int) (pa_cons pe_str pa_nil))) (pa_cons (pe_tup (pa_cons pe_bl (pa_cons pe_str pa_nil))) (pa_cons (pe_tup (pa_cons pe_int pa_nil)) (pa_cons (pe_tup (pa_cons pe_int (pa_cons pe_str (pa_cons pe_str pa_nil)))) pa_nil)))))))))) (pg_name (i := 7) sc_l_odd_right.nd rfl (.inl rfl)) (pss_cons (ps_try_mix rfl rfl sc_l_odd_right.nd takes0 (fun W pn xe tk po => (pss_one (ps_expr (pe_callX G_place_text tk (hr.mono (by decide)) (by rfl) (pa_cons (pv 7) pa_nil)))))
      (MixOk.as (i := 8) ⟨rfl, by decide, Or.inl T.x_InvalidPlace.gC⟩ rfl rfl (fun a oe cls d pn hz hf => (pss_cons (ps_if (pt_cmpR op_ne (pe_callB (call_reprD hG hr.units hsys) (by rfl) T.n_repr (by decide +kernel) (pa_cons (pe_xf T.x_InvalidPlace.F T.x_InvalidPlace.noF hz hf (pv 8)) pa_nil)) (pe_callB (call_reprD hG hr.units hsys) (by rfl) T.n_repr (by decide +kernel) (pa_cons (pv 7) pa_nil)) (nomark _)) (pss_one (ps_ret pe_bl)) pss_nil)
      (pss_one ps_continue)))
      MixOk.nil))
      (pss_one (ps_ret pe_bl))))
      (pss_one (ps_ret pe_bl))))))))))), ?_⟩
    have L : Live (At b) H := hB.live
    refine seq_set ?_
    refine lstK_use (N := At b) L (evks_cons evk_non (evks_cons (evk_int _) (evks_cons (evk_bl _) (evks_cons (evk_tup L (evks_cons (evk_int _) (evks_cons (evk_str _) evks_nil)) (by decide)) (evks_cons (evk_lst L (evks_cons (evk_str _) evks_nil) (by decide)) (evks_cons (evk_dnew L) evks_nil)))))) (by decide) fun xs p H1 qs hp np E1 => ?_
    refine ⟨_, rfl, b, 6, n, rfl, hB.ext E1 id, by omega, by decide, by decide, fun k H2 k0 k1 B2 E2 => ?_⟩
    obtain ⟨odd, dOdd, e1, m1, qOdd⟩ := (qs.ext E2).at k0 k1
    obtain ⟨fOdd, sOdd⟩ := odd_ok m1
    refine ⟨p, _, k, _, rfl, rfl, SqL.of (E2.keep p _ np hp), e1, ?_⟩
    have E02 : Ext (At b) H H2 := E1.any.trans E2
    clear qs hp np e1 E1 E2
    refine seq_set ?_
    have L2' : Live (At b) H2 := B2.live
    refine lstK_use (N := At b) L2' (by have L := L2'; exact (evks_cons evk_non (evks_cons (evk_int _) (evks_cons (evk_int _) (evks_cons (evk_bl _) (evks_cons (evk_str _) (evks_cons (evk_lst L (evks_cons (evk_int _) evks_nil) (by decide)) evks_nil))))))) (by decide) fun xs p H3 qs hp np E3 => ?_
    refine ⟨_, rfl, b, 6, n + 1, rfl, B2.ext E3 id, by omega, by decide, by decide, fun k2 H4 k0 k1 B4 E4 => ?_⟩
    obtain ⟨wrong, dWrong, e1, m2, qWrong⟩ := (qs.ext E4).at k0 k1
    obtain ⟨fWrong, sWrong⟩ := wrong_ok m2
    refine ⟨p, _, k2, _, rfl, rfl, SqL.of (E4.keep p _ np hp), e1, ?_⟩
    have E24 : Ext (At b) H2 H4 := E3.any.trans E4
    clear qs hp np e1 E3 E4
    have qOdd4 := qOdd.ext E24
    have E04 := E02.trans E24
    clear E24 E02 qOdd
    have L4 : Live (At b) H4 := B4.live
    -- caught(odd, arity) != ['text', -1]
    refine ⟨_, rfl, _, rfl, At b, odd, .int ar, dOdd, .int ar, 10, rfl, qOdd4, .int ar, fOdd.mono (by decide) (by decide), L4, fun v H5 E5 qv => ?_⟩
    rw [caught_odd (ar_ok a0 a1) sOdd] at qv
    have L5 : Live (At b) H5 := L4.ext E5
    refine evk_lst (N := At b) L5 (by have L := L5; exact (evks_cons (evk_str _) (evks_cons (evk_i (evi_neg (evi_c _))) evks_nil))) (by decide) H5 .refl _ fun v2 H6 E6 w2 => ?_
    refine ⟨At b, _, _, qv.ext E6.any, w2, by decide +kernel, by decide +kernel, _, rfl, ?_⟩
    refine neq_same (by decide +kernel) ?_
    have E46 : Ext No H4 H6 := E5.trans E6
    have qv2 : Dq (At b) H6 odd dOdd := qOdd4.ext E46.any
    have qv3 : Dq (At b) H6 wrong dWrong := qWrong.ext E46.any
    have L6 : Live (At b) H6 := L4.ext E46
    have E06 := E04.trans E46.any
    have B6 := B4.ext E46 id
    clear E5 E6 qv w2 qOdd4 E04 L4 L5 E46
    -- for text in [odd, '0.1', 'x', '']
    dsimp only [tNext]
    refine seq_forK (N := At b) (ds := [dOdd, .str "0.1", .str "x", .str ""]) L6 (evks_cons (evk_var rfl qv2) (evks_cons (evk_str _) (evks_cons (evk_str _) (evks_cons (evk_str _) evks_nil)))) (fun xs p H7 qs hp np E7 => ⟨fun i σ H' => ∃ y4, σ = [some (.ref b), some (.int ar), some odd, some wrong, y4, none, none, none, none, none] ∧ Ext No H7 H',
      ⟨none, rfl, .refl⟩, (fun i σ H' ⟨_, _, e⟩ => e.keep _ _ id hp), ?_, ?_⟩) (by simp)
    · rintro i y σ H8 hi ⟨y4, rfl, E8⟩
      obtain ⟨dy, hy, qy⟩ := qs.get hi
      have fy : Fine 100 10 dy := by
        have m := List.mem_of_getElem? hy
        simp only [List.mem_cons, List.not_mem_nil, or_false] at m
        rcases m with rfl | rfl | rfl | rfl
        · exact fOdd
        · exact fine_by (by decide +kernel)
        · exact fine_by (by decide +kernel)
        · exact fine_by (by decide +kernel)
      have L8 : Live (At b) H8 := (L6.ext E7).ext E8
      have qv3 : Dq (At b) H8 wrong dWrong := (qv3.ext E7.any).ext E8.any
      refine ⟨_, rfl, _, rfl, At b, y, wrong, dy, dWrong, 10, rfl, qy.ext E8.any, qv3, fy.mono (by decide) (by decide), L8, fun v H9 E9 qv => ?_⟩
      rw [caught_wrong sWrong] at qv
      have fA : Fine 200000 60 (.list [.str "arity", dWrong]) := (fine_list (fineAll_cons (w1 := 5) (fine_str (by decide +kernel) (by decide)) (fineAll_cons (w2 := 0) fWrong fineAll_nil))).mono (by decide) (by decide)
      refine ⟨At b, v, _, rfl, qv, fA, ?_⟩
      have L9 : Live (At b) H9 := L8.ext E9
      have qv3 : Dq (At b) H9 wrong dWrong := qv3.ext E9.any
      refine cb_arg ?_
      refine evk_lst (N := At b) L9 (ds := [.str "arity", dWrong]) (by have L := L9; exact (evks_cons (evk_str _) (evks_cons (evk_var rfl qv3) evks_nil))) (by simp) H9 .refl _ fun v2 H10 E10 w2 => ?_
      refine ⟨At b, v2, _, rfl, w2, fA, rfl, _, rfl, iteNS rfl ?_⟩
      exact ⟨_, rfl, E8.trans (E9.trans E10)⟩
    rintro σ H8 ⟨y4, rfl, E8⟩
    have E68 : Ext No H6 H8 := E7.trans E8
    have B8 := B6.ext E68 id
    have E08 := E06.trans E68.any
    clear qs hp np E7 E8 qv2 qv3 E06 B6 E68
    -- thirty digits
    refine seq_set ?_
    refine ⟨⟨_, rfl⟩, 30, rfl, by decide, by decide, fun D hD => ?_⟩
    have hbD : b ≠ D := B8.ne hD
    refine lc_range (lo := 0) (n := 30) (fun i H' => ∃ zs : List Nat, zs.length = i ∧ (∀ c ∈ zs, 48 ≤ c ∧ (c : Int) < 48 + ar) ∧ H' D = some (.lst ((zs.map sg).map V.str)) ∧ Box H' b (n + 2 + i) ∧ Ext (At b) H8 H')
      ⟨[], rfl, (fun _ z => nomatch z), upd_same, (B8.new hD).mono (by omega), .new hD⟩ ?_ ?_
    · rintro i H2 hi ⟨zs, hz, hc, hl, B2, E2⟩
      refine ⟨rfl, _, rfl, _, rfl, b, ar, n + 2 + i, rfl, B2, by omega, by omega, by omega, fun j H3 j0 j1 B3 E3 => ?_⟩
      have hl3 := E3.keep _ _ (fun z => hbD z.symm) hl
      refine ⟨_, _, _, rfl, rfl, (by decide), digit_at j0 (by omega), _, hl3, ?_, zs ++ [48 + j.toNat], by simp [hz], fun c hc' => ?_, ?_, (B3.ext (.put (N := At D) rfl) hbD).mono (by omega), ?_⟩
      · rw [List.length_map, List.length_map]
        exact small1000 (by omega)
      · rcases List.mem_append.mp hc' with z | z
        · exact hc c z
        · rw [List.mem_singleton.mp z]
          omega
      · rw [upd_same, List.map_append, List.map_append]
        rfl
      · refine ⟨fun c o nc e => ?_, fun c o e => ?_⟩
        · have nD : c ≠ D := ne_of_none e hD
          rw [upd_ne nD]
          exact E3.keep c o nc (E2.keep c o nc e)
        · have nD : c ≠ D := ne_of_none e hD
          obtain ⟨o', e'⟩ := (E2.trans E3).live c o e
          exact ⟨o', by rw [upd_ne nD]; exact e'⟩
    rintro H9 ⟨zs, hz, hc, hl, B9, E9⟩
    refine ⟨_, D, zs.map sg, rfl, rfl, .inl (SqL.of hl), ?_, ?_⟩
    · rw [sum_signs]
      show zs.length + (zs.map sg).length * 0 ≤ _
      omega
    have hz1 : tl (Txt.join "" (zs.map sg)) = zs := join_signs zs
    generalize Txt.join "" (zs.map sg) = z at hz1
    have zl : z.length = 30 := by rw [len_tl, hz1, hz]
    have zc : Cps z := fun c hc' => by
      have := hc c (by rw [← hz1]; exact hc')
      omega
    have za : ∀ c ∈ tl z, isDig 4 c = true := fun c hc' => by
      have := hc c (by rw [← hz1]; exact hc')
      unfold isDig
      rw [decide_eq_true this.1, decide_eq_true (by omega)]
      rfl
    have big : 100000 ≤ sizeLine := by rw [sizeLine_eq]; decide
    have two : 2 ≤ sizeLine := by rw [sizeLine_eq]; decide
    -- at
    dsimp only
    refine seq_set ?_
    refine ⟨_, rfl, b, 30, n + 2 + 30, rfl, B9, by omega, by decide, by decide, fun at_ H10 t0 t1 B10 E10 => ?_⟩
    obtain ⟨a, rfl⟩ : ∃ a : Nat, at_ = a := ⟨at_.toNat, by omega⟩
    have E010 : Ext (At b) H H10 := E08.trans (E9.trans E10)
    have L10 : Live (At b) H10 := B10.live
    -- place_text((7, word))
    refine ⟨_, rfl, two, fun p hp => ?_⟩
    have fz : Fine 200000 60 (.tuple [.int 7, .str z]) := (fine_tuple (fineAll_cons (w1 := 0) (fine_int (by decide)) (fineAll_cons (w1 := 30) (w2 := 0) (k := 0) (fine_str zc (by omega)) fineAll_nil))).mono (by decide) (by decide)
    have e11 : Ext No H10 (upd H10 p (.tup [.int 7, .str z])) := .new hp
    have dp : dPlace 4 (.tuple [.int 7, .str z]) = true := by
      show (dNat 0 (.int 7) && (tl z).all (isDig 4)) = true
      rw [List.all_eq_true.mpr za]
      rfl
    refine ⟨At b, .ref p, .tuple [.int 7, .str z], 60, rfl, .tup upd_same (L10.not hp) (.cons (.int _) (.cons (.str _) .nil)), fz, fun _ => ⟨7, z, rfl, by decide, ?_⟩, fun e => by rw [dp] at e; cases e⟩
    have eS : shownT 7 z = ("7." : Str) ++ z := by
      have e7 : (Str.empty ++ PySem.Str.ofString (toString (7 : Int))) ++ PySem.Str.ofString "." = ("7." : Str) := by decide +kernel
      unfold shownT
      rw [e7]
    have l2 : ("7." : Str).length = 2 := by decide +kernel
    rw [eS]
    refine ⟨_, rfl, _, _, rfl, rfl, by omega, rfl, _, rfl, iteNS rfl ?_⟩
    dsimp only [tNext]
    have B11 := B10.new (o := .tup [.int 7, .str z]) hp
    have E011 : Ext (At b) H (upd H10 p (.tup [.int 7, .str z])) := E010.trans (.new hp)
    generalize upd H10 p (.tup [.int 7, .str z]) = H11 at B11 E011 ⊢
    have L11 : Live (At b) H11 := B11.live
    clear E010 L10 B10 E10 E9 B9 e11 hp
    -- four texts
    have c1 := cutS_length z none (some (a : Int))
    have c2 := cutS_length z (some (a : Int)) none
    have k0 : Cps "0." := by unfold Cps; decide +kernel
    have k12 : Cps "12." := by unfold Cps; decide +kernel
    have k3 : Cps "3." := by unfold Cps; decide +kernel
    have kx : Cps "x" := by unfold Cps; decide +kernel
    have kn : Cps "\n" := by unfold Cps; decide +kernel
    have n0 : ("0." : Str).length = 2 := by decide +kernel
    have n12 : ("12." : Str).length = 3 := by decide +kernel
    have n3 : ("3." : Str).length = 2 := by decide +kernel
    have nx : ("x" : Str).length = 1 := by decide +kernel
    have nn : ("\n" : Str).length = 1 := by decide +kernel
    refine seq_forK (N := At b) (ds := [.str ("0." ++ z), .str ((("12." ++ cutS z none (some (a : Int))) ++ "x") ++ cutS z (some (a : Int)) none), .str (("3." ++ z) ++ "\n"), .str (("0." ++ z) ++ "x")]) L11
      (by
        exact evks_cons (evk_t fun H Q q => ⟨_, rfl, _, _, rfl, rfl, by omega, q⟩)
          (evks_cons (evk_t fun H Q q => ⟨_, rfl, _, rfl, _, rfl, z, rfl, by omega, _, _, rfl, rfl, by omega, _, _, rfl, rfl, by rw [slen_app]; omega, _, rfl, _, rfl, _, rfl, z, rfl, by omega, _, _, rfl, rfl, by rw [slen_app, slen_app]; omega, q⟩)
          (evks_cons (evk_t fun H Q q => ⟨_, rfl, _, _, rfl, rfl, by omega, _, _, rfl, rfl, by rw [slen_app]; omega, q⟩)
          (evks_cons (evk_t fun H Q q => ⟨_, rfl, _, _, rfl, rfl, by omega, _, _, rfl, rfl, by rw [slen_app]; omega, q⟩) evks_nil))))
      (fun xs p H12 qs hp np E12 => ⟨fun i σ H' => ∃ y4, σ = [some (.ref b), some (.int ar), some odd, some wrong, y4, some (.str z), some (.int a), none, none, none] ∧ Ext No H12 H',
        ⟨_, rfl, .refl⟩, (fun i σ H' ⟨_, _, e⟩ => e.keep _ _ id hp), ?_, ?_⟩) (by simp)
    · rintro i y σ H13 hi ⟨y4, rfl, E13⟩
      obtain ⟨dy, hy, qy⟩ := qs.get hi
      obtain ⟨x, rfl, cx, lx⟩ : ∃ x, dy = .str x ∧ Cps x ∧ x.length ≤ 200 := by
        have m := List.mem_of_getElem? hy
        simp only [List.mem_cons, List.not_mem_nil, or_false] at m
        rcases m with rfl | rfl | rfl | rfl
        · exact ⟨_, rfl, k0.app zc, by rw [slen_app]; omega⟩
        · exact ⟨_, rfl, ((k12.app (zc.cut _ _)).app kx).app (zc.cut _ _), by rw [slen_app, slen_app, slen_app]; omega⟩
        · exact ⟨_, rfl, (k3.app zc).app kn, by rw [slen_app, slen_app]; omega⟩
        · exact ⟨_, rfl, (k0.app zc).app kx, by rw [slen_app, slen_app]; omega⟩
      cases qy
      have L13 : Live (At b) H13 := (L11.ext E12).ext E13
      refine ⟨_, rfl, _, rfl, At b, .str x, .int ar, .str x, .int ar, 10, rfl, .str x, .int ar, fine_str cx (by omega), L13, fun v H14 E14 qv => ?_⟩
      rw [due_caught (ar_ok a0 a1)] at qv
      refine ⟨_, rfl, _, rfl, x, ar, rfl, a0, a1, by omega, fun v2 H15 E15 w2 => ?_⟩
      have L14 : Live (At b) H14 := L13.ext E14
      refine ⟨At b, _, _, qv.ext E15.any, w2 _ L14, shaped_due cx, shaped_due cx, _, rfl, neq_same (shaped_due cx) ?_⟩
      exact ⟨_, rfl, E13.trans (E14.trans E15)⟩
    rintro σ H13 ⟨y4, rfl, E13⟩
    have B13 := B11.ext (E12.trans E13) id
    have E013 := E011.trans (E12.trans E13).any
    have L13 : Live (At b) H13 := B13.live
    clear qs hp np E12 E13 L11 B11 E011
    -- things that are no places
    refine seq_forK (N := At b) (ds := [PyData.none, .str "0.1", .list [.int 0, .str "1"], .tuple [.int 0, .str "4"], .tuple [.int (-1), .str "0"], .tuple [.bool true, .str "0"], .tuple [.int 0], .tuple [.int 0, .str "0", .str ""]]) L13 (by have L := L13; exact (evks_cons evk_non (evks_cons (evk_str _) (evks_cons (evk_lst L (evks_cons (evk_int _) (evks_cons (evk_str _) evks_nil)) (by decide)) (evks_cons (evk_tup L (evks_cons (evk_int _) (evks_cons (evk_str _) evks_nil)) (by decide)) (evks_cons (evk_tup L (evks_cons (evk_i (evi_neg (evi_c _))) (evks_cons (evk_str _) evks_nil)) (by decide)) (evks_cons (evk_tup L (evks_cons (evk_bl _) (evks_cons (evk_str _) evks_nil)) (by decide)) (evks_cons (evk_tup L (evks_cons (evk_int _) evks_nil) (by decide)) (evks_cons (evk_tup L (evks_cons (evk_int _) (evks_cons (evk_str _) (evks_cons (evk_str _) evks_nil))) (by decide)) evks_nil)))))))))
      (fun xs p H14 qs hp np E14 => ⟨fun i σ H' => ∃ y4 y7, σ = [some (.ref b), some (.int ar), some odd, some wrong, y4, some (.str z), some (.int a), y7, none, none] ∧ Ext No H14 H',
        ⟨_, _, rfl, .refl⟩, (fun i σ H' ⟨_, _, _, e⟩ => e.keep _ _ id hp), ?_, ?_⟩) (by simp)
    · rintro i y σ H15 hi ⟨y4, y7, rfl, E15⟩
      obtain ⟨dy, hy, qy⟩ := qs.get hi
      obtain ⟨fy, ny⟩ := thing_ok (List.mem_of_getElem? hy)
      have fy := fy.mono (w' := 200000) (k' := 60) (by decide) (by decide)
      have qy := qy.ext E15.any
      refine ⟨_, rfl, At b, y, dy, 60, rfl, qy, fy, fun e => absurd (ny.symm.trans e) (by decide), fun _ xx hx => ?_⟩
      refine ⟨true, T.x_InvalidPlace.catch T.e_InvalidPlace_InvalidPlace, fun _ a0 ha0 => ?_, (fun z => nomatch z)⟩
      have e2 : Ext No H15 (upd H15 xx (.xd [("value", y)])) := .new hx
      refine ⟨_, rfl, rfl, rfl, xx, _, y, rfl, upd_same, rfl, At b, y, dy, rfl, qy.ext e2.any, fy, ?_⟩
      refine ⟨_, rfl, At b, y, dy, rfl, qy.ext e2.any, fy, rfl, _, rfl, iteNS rfl ?_⟩
      exact ⟨_, _, rfl, E15.trans e2⟩
    rintro σ H15 ⟨y4, y7, rfl, E15⟩
    have E1 := E14.trans E15
    exact q _ ((B13.ext E1 id).mono (by omega)) (E013.trans E1.any)
end
end Y
set_option Elab.async false
set_option linter.all false
set_option maxRecDepth 100000
set_option maxHeartbeats 4000000
namespace Y
open PySem PySem.Spec PyProof.Rows L2 TL
section
variable {P : Program} {w : World} {K : PySem.W.Frag} {mg : Str → Option Value} {base : Heap}
variable {C_InvalidArity C_InvalidPlace C_InvalidText : Addr}
theorem shownT_eq (r : Int) (z : Str) : shownT r z = (PySem.Str.ofString (toString r) ++ PySem.Str.ofString ".") ++ z := by
  unfold shownT
  have e : Str.empty ++ PySem.Str.ofString (toString r) = PySem.Str.ofString (toString r) := ext_tl (by rw [tl_append]; rfl)
  rw [e]
theorem cps_num (r : Int) (h : 0 ≤ r) : Cps (PySem.Str.ofString (toString r)) := by
  obtain ⟨m, rfl⟩ := Int.eq_ofNat_of_zero_le h
  intro c hc
  have hc' : c ∈ (Nat.toDigits 10 m).map Char.toNat := by rw [← tl_num m]; exact hc
  have := fig_bounds (num_fig hc')
  omega
theorem few_ok {d : PyData} (h : d ∈ [PyData.str "", .str ".", .str "0", .str "00.", .str "01.1", .str "1234567890.", .str "123456789.", .str "1234567890", .str "0.4", .str "0. ", .str " 0."]) : ∃ x, d = .str x ∧ Cps x ∧ x.length ≤ 200 := by
  simp only [List.mem_cons, List.not_mem_nil, or_false] at h
  rcases h with rfl | rfl | rfl | rfl | rfl | rfl | rfl | rfl | rfl | rfl | rfl <;> exact ⟨_, rfl, by unfold Cps; decide +kernel, by decide +kernel⟩
def spLaw (K : PySem.W.Frag) : Sp := fun vs H Q _ => ∃ (a : Addr) (ns : List Int), vs = [.ref a] ∧ SqL K H a (ns.map V.int) ∧ ns.length ≤ 63 ∧ ∀ H', Q (.bl true) H'
theorem ok_law (hP : PTx P) (T : Tx K mg C_InvalidArity C_InvalidPlace C_InvalidText) (hsys : ∃ o, base.get? sysModules = some o) {f : Addr} {fd : FuncData} (F : Fun K "law" "law" s_law f fd) : FnG P w K mg base CX0 8 f fd a_law (spLaw K) := by
  have G_l_cell := ok_l_cell (P := P) (w := w) (base := base) T
  have G_l_box := ok_l_box (P := P) (w := w) (base := base) T
  have G_l_take := ok_l_take (P := P) (w := w) (base := base) T
  have G_l_word := ok_l_word (P := P) (w := w) (base := base) T
  have G_l_caught := ok_l_caught (P := P) (w := w) (base := base) hP T
  have G_l_due := ok_l_due (P := P) (w := w) (base := base) T
  have G_l_bent := ok_l_bent (P := P) (w := w) (base := base) T
  have G_l_odd_right := ok_l_odd_right (P := P) (w := w) (base := base) hP hsys T
  have G_place_text := ok_place_text (P := P) (w := w) (base := base) hP T
  have G_parse_place := ok_parse_place (P := P) (w := w) (base := base) hP T
  refine okG F sc_law (fun vs H Q E h => ?_) (fun cdv A outer s H vs Q E hG hr h => ?_)
  · obtain ⟨a, ns, rfl, _⟩ := h
    rfl
  · obtain ⟨a, ns, rfl, hS, hl, q⟩ := h
    refine ⟨_, (pss_cons (ps_for PassesOwn.never rfl (pi_range1 (by rfl) T.n_range (pa_cons (pe_callB (call_max2 rfl) (by rfl) T.n_max (by decide +kernel) (pa_cons pe_int (pa_cons (pe_callB (call_min2 rfl) (by rfl) T.n_min (by decide +kernel) (pa_cons pe_int (pa_cons (pe_callB call_len_seq (by rfl) T.n_len (by decide +kernel) (pa_cons (pv 0) pa_nil)) pa_nil))) pa_nil))) pa_nil)) (pg_name (i := 1) sc_law.nd rfl (.inl rfl)) (pss_cons (ps_set (i := 2) sc_law.nd rfl (.inl rfl) (pe_callH G_l_box (hr.mono (by decide)) (by rfl) (pa_cons (pe_callH G_l_cell (hr.mono (by decide)) (by rfl) (pa_cons (pv 0) (pa_cons (pv 1) pa_nil))) pa_nil)))
      (pss_cons (ps_set (i := 3) sc_law.nd rfl (.inl rfl) (pe_op op_add pe_int (pe_callH G_l_take (hr.mono (by decide)) (by rfl) (pa_cons (pv 2) (pa_cons pe_int pa_nil)))))
      (pss_cons (ps_set (i := 4) sc_law.nd rfl (.inl rfl) (pe_ix ix_list (pe_lst (pa_cons (pe_callH G_l_take (hr.mono (by decide)) (by rfl) (pa_cons (pv 2) (pa_cons pe_int pa_nil))) (pa_cons (pe_callH G_l_take (hr.mono (by decide)) (by rfl) (pa_cons (pv 2) (pa_cons (pe_op op_pow pe_int pe_int) pa_nil))) pa_nil))) (pe_callH G_l_take (hr.mono (by decide)) (by rfl) (pa_cons (pv 2) (pa_cons pe_int pa_nil))) (fun _ _ => rfl)))
      (pss_cons (ps_set (i := 5) sc_law.nd rfl (.inl rfl) (pe_tup (pa_cons (pv 4) (pa_cons (pe_callH G_l_word (hr.mono (by decide)) (by rfl) (pa_cons (pv 2) (pa_cons (pv 3) (pa_cons pe_int pa_nil)))) pa_nil))))
      (pss_cons (ps_set (i := 6) sc_law.nd rfl (.inl rfl) (pe_op op_add_str (pe_op op_add_str (pe_callTy call_str_int (by rfl) T.n_str (by decide +kernel) (pa_cons (pe_ix ix_tup (pv 5) pe_int (fun _ _ => rfl)) pa_nil)) pe_str) (pe_ix ix_tup (pv 5) pe_int (fun _ _ => rfl))))
      (pss_cons (ps_if (PW.pt (pw_or (pt_cmpR op_ne (pe_callX G_place_text takes0 (hr.mono (by decide)) (by rfl) (pa_cons (pv 5) pa_nil)) (pv 6) (nomark _)) (pw_or1 (pt_cmpR (op_neQ hr.units) (pe_callX G_parse_place takes0 (hr.mono (by decide)) (by rfl) (pa_cons (pv 6) (pa_cons (pv 3) pa_nil))) (pv 5) (nomark _))))) (pss_one (ps_ret pe_bl)) pss_nil)
      (pss_cons (ps_for PassesOwn.never rfl (pi_range1 (by rfl) T.n_range (pa_cons pe_int pa_nil)) (pg_name (i := 7) sc_law.nd rfl (.inl rfl)) (pss_cons (ps_set (i := 8) sc_law.nd rfl (.inl rfl) (pe_callH G_l_bent (hr.mono (by decide)) (by rfl) (pa_cons (pv 2) (pa_cons (pv 6) pa_nil))))
      (pss_one (ps_if (pt_cmpR (op_neQ hr.units) (pe_callH G_l_caught (hr.mono (by decide)) (by rfl) (pa_cons (pv 8) (pa_cons (pv 3) pa_nil))) (pe_callH G_l_due (hr.mono (by decide)) (by rfl) (pa_cons (pv 8) (pa_cons (pv 3) pa_nil))) (nomark _)) (pss_one (ps_ret pe_bl)) pss_nil))))
      (pss_cons (ps_for PassesOwn.never rfl (pi_list (pe_lst (pa_cons pe_str (pa_cons pe_str (pa_cons pe_str (pa_cons pe_str (pa_cons pe_str (pa_cons pe_str (pa_cons pe_str (pa_cons pe_str (pa_cons pe_str (pa_cons pe_str (pa_cons pe_str pa_nil))))))))))))) (pg_name (i := 8) sc_law.nd rfl (.inl rfl)) (pss_one (ps_if (pt_cmpR (op_neQ hr.units) (pe_callH G_l_caught (hr.mono (by decide)) (by rfl) (pa_cons (pv 8) (pa_cons (pv 3) pa_nil))) (pe_callH G_l_due (hr.mono (by decide)) (by rfl) (pa_cons (pv 8) (pa_cons (pv 3) pa_nil))) (nomark _)) (pss_one (ps_ret pe_bl)) pss_nil)))
      (pss_one (ps_if (pt_not (pt_val (pe_callHG G_l_odd_right hG (hr.mono (by decide)) (by rfl) (pa_cons (pv 2) (pa_cons (pv 3) pa_nil))))) (pss_one (ps_ret pe_bl)) pss_nil)))))))))))
      (pss_one (ps_ret pe_bl))), ?_⟩
    have two : 2 ≤ sizeLine := by rw [sizeLine_eq]; decide
    have big : 100000 ≤ sizeLine := by rw [sizeLine_eq]; decide
    -- the cells
    refine ⟨_, rfl, a, _, rfl, .inl hS, _, _, rfl, _, _, rfl, ?_⟩
    rw [List.length_map]
    have hmx : ∀ j : Int, j = (if (if (ns.length : Int) < 15 then (ns.length : Int) else 15) > 2 then (if (ns.length : Int) < 15 then (ns.length : Int) else 15) else 2) → 0 ≤ j ∧ j ≤ 15 := fun j e => by
      subst e
      split <;> split <;> omega
    generalize (if (if (ns.length : Int) < 15 then (ns.length : Int) else 15) > 2 then (if (ns.length : Int) < 15 then (ns.length : Int) else 15) else 2) = jj at hmx ⊢
    obtain ⟨jj0, jj1⟩ := hmx jj rfl
    refine ⟨jj, rfl, by omega, by omega, ?_⟩
    refine for_range (lo := 0) (n := jj.toNat) (fun i σ H' => ∃ y1 y2 y3 y4 y5 y6 y7 y8, σ = [some (.ref a), y1, y2, y3, y4, y5, y6, y7, y8] ∧ Ext No H H')
      ⟨_, _, _, _, _, _, _, _, rfl, .refl⟩ ?_ (fun σ H' _ => q H')
    rintro i σ H1 hi ⟨y1, y2, y3, y4, y5, y6, y7, y8, rfl, E1⟩
    -- the box
    refine ⟨_, rfl, _, rfl, a, ns, 0 + i, rfl, (Same.ext0 E1).seq hS, by omega, by omega, by omega, fun c => ⟨c, rfl, fun b H2 hb s2 B2 => ?_⟩⟩
    -- the arity, the root
    refine ⟨_, rfl, b, 3, 0, rfl, B2, by omega, by decide, by decide, fun r H3 r0 r1 B3 E3 => ⟨_, _, rfl, rfl, ?_⟩⟩
    refine ⟨_, rfl, b, 12, 1, rfl, B3, by omega, by decide, by decide, fun u1 H4 u10 u11 B4 E4 => ?_⟩
    refine ⟨_, rfl, _, _, rfl, rfl, ⟨by decide, by decide, by decide⟩, b, _, 2, rfl, B4, by omega, by decide, by decide, fun u2 H5 u20 u21 B5 E5 => ⟨two, fun p hp => ?_⟩⟩
    refine ⟨_, rfl, b, 2, 3, rfl, B5.new hp, by omega, by decide, by decide, fun j H6 j0 j1 B6 E6 => ?_⟩
    have hpb : p ≠ b := (B5.ne hp).symm
    obtain ⟨v, hv, vm⟩ := atI_in (xs := [V.int u1, .int u2]) j0 j1
    have e9 : (10 : Int) ^ (9 : Int).toNat = 1000000000 := by decide
    obtain ⟨root, rfl, g0, g1⟩ : ∃ z, v = .int z ∧ 0 ≤ z ∧ z < 1000000000 := by
      simp only [List.mem_cons, List.not_mem_nil, or_false] at vm
      rcases vm with rfl | rfl
      · exact ⟨_, rfl, u10, by omega⟩
      · exact ⟨_, rfl, u20, by omega⟩
    refine ⟨p, _, j, _, rfl, rfl, SqL.of (E6.keep p _ hpb upd_same), hv, ?_⟩
    have E26 : Ext (At b) H2 H6 := E3.trans (E4.trans (E5.trans ((Ext.new hp).trans E6)))
    clear hp hpb hv vm E3 E4 E5 E6 B3 B4 B5
    -- the place
    dsimp only
    refine seq_set ?_
    refine ⟨_, rfl, _, rfl, _, rfl, b, 2 + r, 9, 4, rfl, B6, by omega, by omega, by omega, by decide, by decide, fun z H7 n7 dz lz l7 B7 E7 => ⟨two, fun pl hpl => ?_⟩⟩
    have npl : ¬ At b pl := B7.live.not hpl
    have E27 : Ext (At b) H2 (upd H7 pl (.tup [.int root, .str z])) := (E26.trans E7).trans (.new hpl)
    have B8 := B7.new (o := .tup [.int root, .str z]) hpl
    have h8 : upd H7 pl (.tup [.int root, .str z]) pl = some (.tup [.int root, .str z]) := upd_same
    generalize upd H7 pl (.tup [.int root, .str z]) = H8 at B8 E27 h8 ⊢
    -- its text
    have hr40 : root.natAbs < 10 ^ 40 := by
      have : (1000000000 : Nat) < 10 ^ 40 := by decide
      omega
    have ln := slen_num hr40
    have ld : (PySem.Str.ofString ".").length = 1 := by decide +kernel
    have kd : Cps (PySem.Str.ofString ".") := by unfold Cps; decide +kernel
    have zc : Cps z := fun c hc => by
      have := dz c hc
      omega
    have za : ∀ ar : Int, 2 + r ≤ ar → ∀ c ∈ tl z, isDig ar c = true := fun ar har c hc => by
      have := dz c hc
      unfold isDig
      rw [decide_eq_true this.1, decide_eq_true (by omega)]
      rfl
    dsimp only
    refine seq_set ?_
    refine ⟨_, rfl, pl, _, 0, _, rfl, rfl, SqT.of h8, rfl, root, rfl, (int_short hr40).1, _, _, rfl, rfl, by omega, _, rfl, pl, _, 1, _, rfl, rfl, SqT.of h8, rfl, _, _, rfl, rfl, by rw [slen_app]; omega, ?_⟩
    have eS := shownT_eq root z
    have tx : tl ((PySem.Str.ofString (toString root) ++ PySem.Str.ofString ".") ++ z) = tl (toString root : String) ++ 46 :: tl z := by
      rw [tl_append, tl_append]
      have e : tl (PySem.Str.ofString ".") = [46] := by decide +kernel
      rw [e, List.append_assoc]
      rfl
    have tlen : ((PySem.Str.ofString (toString root) ++ PySem.Str.ofString ".") ++ z).length ≤ 100 := by rw [slen_app, slen_app]; omega
    have tc : Cps ((PySem.Str.ofString (toString root) ++ PySem.Str.ofString ".") ++ z) := ((cps_num root g0).app kd).app zc
    generalize (PySem.Str.ofString (toString root) ++ PySem.Str.ofString ".") ++ z = t0 at eS tx tlen tc ⊢
    have ha : isAr (.int (2 + r)) = true := ar_ok (by omega) (by omega)
    have L8 : Live (At b) H8 := B8.live
    have qpl : Dq (At b) H8 (.ref pl) (.tuple [.int root, .str z]) := .tup h8 npl (.cons (.int _) (.cons (.str _) .nil))
    have fpl : Fine 200000 60 (.tuple [.int root, .str z]) := (fine_tuple (fineAll_cons (w1 := 0) (fine_int hr40) (fineAll_cons (w1 := 30) (w2 := 0) (k := 0) (fine_str zc (by omega)) fineAll_nil))).mono (by decide) (by decide)
    have dp : dPlace 4 (.tuple [.int root, .str z]) = true := by
      show (decide (0 ≤ root) && (tl z).all (isDig 4)) = true
      rw [List.all_eq_true.mpr (za 4 (by omega)), decide_eq_true g0]
      rfl
    obtain ⟨pt1, pt2, pt3⟩ := place_text (ar := 2 + r) g0 g1 (List.all_eq_true.mpr (za (2 + r) (by omega))) tx
    have ep : parseO (.str t0) (.int (2 + r)) = .good root z := by
      have e : parseO (.str t0) (.int (2 + r)) = readO (2 + r) t0 := if_pos ha
      rw [e]
      unfold readO
      rw [pt1, pt2, pt3]
    have sh : SeqAt.shaped (.tuple [.int root, .str z]) = true := by
      refine shaped_by ?_ ?_
      · simp only [PyData.canLay0, PyData.canLayAll0, Bool.and_true, Bool.true_and, strOk_of zc]
      · simp only [PyData.depth, PyData.depthAll]
        decide
    refine ⟨_, rfl, At b, .ref pl, _, 60, rfl, qpl, fpl, fun _ => ⟨root, z, rfl, hr40, ?_⟩, fun e => absurd (dp.symm.trans e) (by decide)⟩
    rw [eS]
    refine ⟨_, rfl, rfl, _, rfl, iteNS rfl ?_⟩
    refine ⟨_, rfl, _, rfl, At b, .str t0, .int (2 + r), _, _, 10, rfl, .str _, .int _, fine_str tc (by omega), (fun e => absurd (ep.symm.trans e) (fun z => nomatch z)), (fun i e => absurd (ep.symm.trans e) (fun z => nomatch z)), fun n' z' e p H9 hp9 e9 h9 => ?_⟩
    cases ep.symm.trans e
    have q9 : Dq (At b) H9 (.ref p) (.tuple [.int root, .str z]) := .tup h9 (L8.not hp9) (.cons (.int _) (.cons (.str _) .nil))
    refine ⟨_, rfl, At b, _, _, q9, qpl.ext e9.any, sh, sh, _, rfl, neq_same sh ?_⟩
    have B9 := B8.ext e9 id
    have E29 : Ext (At b) H2 H9 := E27.trans e9.any
    dsimp only [tNext]
    clear ep pt1 pt2 pt3 tx eS dp fpl qpl q9 e9 h9 hp9 L8 B8 E27 h8 npl sh
    -- six bent texts
    refine ⟨6, rfl, by decide, by decide, ?_⟩
    refine for_range (lo := 0) (n := 6) (fun m σ H' => ∃ y7 y8, σ = [some (.ref a), some (.int (0 + (i : Int))), some (.ref b), some (.int (2 + r)), some (.int root), some (.ref pl), some (.str t0), y7, y8] ∧ Ext (At b) H2 H' ∧ Box H' b (n7 + 10 * m))
      ⟨_, _, rfl, E29, B9⟩ ?_ ?_
    · rintro m σ H10 hm ⟨y7, y8, rfl, E10, B10⟩
      refine ⟨_, rfl, _, rfl, b, t0, n7 + 10 * m, rfl, B10, by omega, by omega, tc, fun y H11 ly cy B11 E11 => ?_⟩
      have L11 : Live (At b) H11 := B11.live
      refine ⟨_, rfl, _, rfl, At b, .str y, .int (2 + r), .str y, .int (2 + r), 10, rfl, .str y, .int _, fine_str cy (by omega), L11, fun v H12 E12 qv => ?_⟩
      rw [due_caught ha] at qv
      refine ⟨_, rfl, _, rfl, y, 2 + r, rfl, by omega, by omega, by omega, fun v2 H13 E13 w2 => ?_⟩
      have L12 : Live (At b) H12 := L11.ext E12
      refine ⟨At b, _, _, qv.ext E13.any, w2 _ L12, shaped_due cy, shaped_due cy, _, rfl, neq_same (shaped_due cy) ?_⟩
      have E14 := E12.trans E13
      exact ⟨_, _, rfl, E10.trans (E11.trans E14.any), (B11.ext E14 id).mono (by omega)⟩
    rintro σ H10 ⟨y7, y8, rfl, E10, B10⟩
    -- eleven texts
    have L10 : Live (At b) H10 := B10.live
    refine seq_forK (N := At b) (ds := [PyData.str "", .str ".", .str "0", .str "00.", .str "01.1", .str "1234567890.", .str "123456789.", .str "1234567890", .str "0.4", .str "0. ", .str " 0."]) L10 (by have L := L10; exact (evks_cons (evk_str _) (evks_cons (evk_str _) (evks_cons (evk_str _) (evks_cons (evk_str _) (evks_cons (evk_str _) (evks_cons (evk_str _) (evks_cons (evk_str _) (evks_cons (evk_str _) (evks_cons (evk_str _) (evks_cons (evk_str _) (evks_cons (evk_str _) evks_nil))))))))))))
      (fun xs p H11 qs hp np E11 => ⟨fun i' σ H' => ∃ y8, σ = [some (.ref a), some (.int (0 + (i : Int))), some (.ref b), some (.int (2 + r)), some (.int root), some (.ref pl), some (.str t0), y7, y8] ∧ Ext No H11 H',
        ⟨_, rfl, .refl⟩, (fun i' σ H' ⟨_, _, e⟩ => e.keep _ _ id hp), ?_, ?_⟩) (by simp)
    · rintro i' y σ H12 hi' ⟨y8, rfl, E12⟩
      obtain ⟨dy, hy, qy⟩ := qs.get hi'
      obtain ⟨x, rfl, cx, lx⟩ := few_ok (List.mem_of_getElem? hy)
      cases qy
      have L12 : Live (At b) H12 := (L10.ext E11).ext E12
      refine ⟨_, rfl, _, rfl, At b, .str x, .int (2 + r), .str x, .int (2 + r), 10, rfl, .str x, .int _, fine_str cx (by omega), L12, fun v H13 E13 qv => ?_⟩
      rw [due_caught ha] at qv
      refine ⟨_, rfl, _, rfl, x, 2 + r, rfl, by omega, by omega, by omega, fun v2 H14 E14 w2 => ?_⟩
      have L13 : Live (At b) H13 := L12.ext E13
      refine ⟨At b, _, _, qv.ext E14.any, w2 _ L13, shaped_due cx, shaped_due cx, _, rfl, neq_same (shaped_due cx) ?_⟩
      exact ⟨_, rfl, E12.trans (E13.trans E14)⟩
    rintro σ H12 ⟨y8, rfl, E12⟩
    have B12 := B10.ext (E11.trans E12) id
    have E12' := E10.trans (E11.trans E12).any
    -- the odd ones
    refine ⟨_, rfl, _, rfl, b, 2 + r, n7 + 10 * 6, rfl, B12, by omega, by omega, by omega, fun H13 B13 E13 => ⟨_, rfl, iteF ?_⟩⟩
    have E213 := E12'.trans E13
    refine ⟨_, _, _, _, _, _, _, _, rfl, E1.trans ⟨fun c o _ e => ?_, fun c o e => ?_⟩⟩
    · exact E213.keep c o (ne_of_none e hb) (s2 c o e)
    · exact E213.live c o (s2 c o e)
end
theorem tx_mk {K : PySem.W.Frag} {h : Heap} {mg : Str → Option Value} (X : K.In h) (G : h.Ns mainGlobals mg)
    {t_DIGITS t_FIGURES t_LEAST_ARITY t_MOST_ARITY t_MOST_FIGURES tf_InvalidArity tf_InvalidPlace tf_InvalidText : Tok}
    {f_is_integer f_is_natural f_is_arity f_is_word f_is_place f_need_arity f_need_place f_shown f_place_text f_place_flaw f_place_in f_parse_place f_l_cell f_l_box f_l_take f_l_word f_l_due f_l_caught f_l_bent f_l_odd_right f_law C_InvalidArity NN_InvalidArity fI_InvalidArity cda_InvalidArity cc_InvalidArity C_InvalidPlace NN_InvalidPlace fI_InvalidPlace cda_InvalidPlace cc_InvalidPlace C_InvalidText NN_InvalidText fI_InvalidText cda_InvalidText cc_InvalidText : Addr}
    {oc_is_integer kV_is_integer dc_is_integer pm_is_integer cd_is_integer ct_is_integer oc_is_natural kV_is_natural dc_is_natural pm_is_natural cd_is_natural ct_is_natural oc_is_arity kV_is_arity dc_is_arity pm_is_arity cd_is_arity ct_is_arity oc_is_word kV_is_word dc_is_word pm_is_word cd_is_word ct_is_word oc_is_place kV_is_place dc_is_place pm_is_place cd_is_place ct_is_place oc_need_arity kV_need_arity dc_need_arity pm_need_arity cd_need_arity ct_need_arity oc_need_place kV_need_place dc_need_place pm_need_place cd_need_place ct_need_place oc_shown kV_shown dc_shown pm_shown cd_shown ct_shown oc_place_text kV_place_text dc_place_text pm_place_text cd_place_text ct_place_text oc_place_flaw kV_place_flaw dc_place_flaw pm_place_flaw cd_place_flaw ct_place_flaw oc_place_in kV_place_in dc_place_in pm_place_in cd_place_in ct_place_in oc_parse_place kV_parse_place dc_parse_place pm_parse_place cd_parse_place ct_parse_place oc_l_cell kV_l_cell dc_l_cell pm_l_cell cd_l_cell ct_l_cell oc_l_box kV_l_box dc_l_box pm_l_box cd_l_box ct_l_box oc_l_take kV_l_take dc_l_take pm_l_take cd_l_take ct_l_take oc_l_word kV_l_word dc_l_word pm_l_word cd_l_word ct_l_word oc_l_due kV_l_due dc_l_due pm_l_due cd_l_due ct_l_due oc_l_caught kV_l_caught dc_l_caught pm_l_caught cd_l_caught ct_l_caught oc_l_bent kV_l_bent dc_l_bent pm_l_bent cd_l_bent ct_l_bent oc_l_odd_right kV_l_odd_right dc_l_odd_right pm_l_odd_right cd_l_odd_right ct_l_odd_right oc_law kV_law dc_law pm_law cd_law ct_law oc_InvalidArity kV_InvalidArity dc_InvalidArity pm_InvalidArity ct_InvalidArity cl_InvalidArity ccl_InvalidArity oc_InvalidPlace kV_InvalidPlace dc_InvalidPlace pm_InvalidPlace ct_InvalidPlace cl_InvalidPlace ccl_InvalidPlace oc_InvalidText kV_InvalidText dc_InvalidText pm_InvalidText ct_InvalidText cl_InvalidText ccl_InvalidText : Value}
    {od_is_integer an_is_integer od_is_natural an_is_natural od_is_arity an_is_arity od_is_word an_is_word od_is_place an_is_place od_need_arity an_need_arity od_need_place an_need_place od_shown an_shown od_place_text an_place_text od_place_flaw an_place_flaw od_place_in an_place_in od_parse_place an_parse_place od_l_cell an_l_cell od_l_box an_l_box od_l_take an_l_take od_l_word an_l_word od_l_due an_l_due od_l_caught an_l_caught od_l_bent an_l_bent od_l_odd_right an_l_odd_right od_law an_law dd_InvalidArity od_InvalidArity an_InvalidArity cld_InvalidArity cdd_InvalidArity dd_InvalidPlace od_InvalidPlace an_InvalidPlace cld_InvalidPlace cdd_InvalidPlace dd_InvalidText od_InvalidText an_InvalidText cld_InvalidText cdd_InvalidText : Option Addr}
    {sl_is_integer sl_is_natural sl_is_arity sl_is_word sl_is_place sl_need_arity sl_need_place sl_shown sl_place_text sl_place_flaw sl_place_in sl_parse_place sl_l_cell sl_l_box sl_l_take sl_l_word sl_l_due sl_l_caught sl_l_bent sl_l_odd_right sl_law sl_InvalidArity csl_InvalidArity ccs_InvalidArity sl_InvalidPlace csl_InvalidPlace ccs_InvalidPlace sl_InvalidText csl_InvalidText ccs_InvalidText : Array (Option Value)}
    {nm_InvalidArity qn_InvalidArity nm_InvalidPlace qn_InvalidPlace nm_InvalidText qn_InvalidText : Str}
    {bs_InvalidArity bm_InvalidArity sub_InvalidArity bs_InvalidPlace bm_InvalidPlace sub_InvalidPlace bs_InvalidText bm_InvalidText sub_InvalidText : List Value}
    {sn_InvalidArity sn_InvalidPlace sn_InvalidText : List Str}
    {ab_InvalidArity ab_InvalidPlace ab_InvalidText : Bool}
    {col_InvalidArity col_InvalidPlace col_InvalidText : Option Bool}
    {m0_InvalidArity m1_InvalidArity m2_InvalidArity m3_InvalidArity m5_InvalidArity m0_InvalidPlace m1_InvalidPlace m2_InvalidPlace m3_InvalidPlace m5_InvalidPlace m0_InvalidText m1_InvalidText m2_InvalidText m3_InvalidText m5_InvalidText : Option Value}
    {vs_InvalidArity vs_InvalidPlace vs_InvalidText : Array Value}
    (c_DIGITS : PySem.W.nsIn K mainGlobals "DIGITS" = some (some (.str "0123" t_DIGITS)))
    (c_FIGURES : PySem.W.nsIn K mainGlobals "FIGURES" = some (some (.str "0123456789" t_FIGURES)))
    (c_LEAST_ARITY : PySem.W.nsIn K mainGlobals "LEAST_ARITY" = some (some (.int 2 t_LEAST_ARITY)))
    (c_MOST_ARITY : PySem.W.nsIn K mainGlobals "MOST_ARITY" = some (some (.int 4 t_MOST_ARITY)))
    (c_MOST_FIGURES : PySem.W.nsIn K mainGlobals "MOST_FIGURES" = some (some (.int 9 t_MOST_FIGURES)))
    (n_isinstance : PySem.W.nsIn K mainGlobals "isinstance" = some none)
    (n_bool : PySem.W.nsIn K mainGlobals "bool" = some none)
    (n_int : PySem.W.nsIn K mainGlobals "int" = some none)
    (n_str : PySem.W.nsIn K mainGlobals "str" = some none)
    (n_len : PySem.W.nsIn K mainGlobals "len" = some none)
    (n_tuple : PySem.W.nsIn K mainGlobals "tuple" = some none)
    (n_range : PySem.W.nsIn K mainGlobals "range" = some none)
    (n_max : PySem.W.nsIn K mainGlobals "max" = some none)
    (n_enumerate : PySem.W.nsIn K mainGlobals "enumerate" = some none)
    (n_repr : PySem.W.nsIn K mainGlobals "repr" = some none)
    (n_min : PySem.W.nsIn K mainGlobals "min" = some none)
    (a_is_integer' : PySem.W.nsIn K mainGlobals "is_integer" = some (some (.ref f_is_integer)))
    (l_is_integer' : K.lookup f_is_integer = some ⟨oc_is_integer, od_is_integer, .func (PySem.W.fnOf "is_integer" "is_integer" (defArgs s_is_integer) (defBody s_is_integer) (defScope s_is_integer) .none kV_is_integer dc_is_integer pm_is_integer an_is_integer cd_is_integer ct_is_integer), sl_is_integer⟩)
    (k_is_integer' : PySem.W.codeIn K cd_is_integer "is_integer" = true)
    (q_is_integer' : PySem.W.keepIn K (.ref f_is_integer) = true)
    (a_is_natural' : PySem.W.nsIn K mainGlobals "is_natural" = some (some (.ref f_is_natural)))
    (l_is_natural' : K.lookup f_is_natural = some ⟨oc_is_natural, od_is_natural, .func (PySem.W.fnOf "is_natural" "is_natural" (defArgs s_is_natural) (defBody s_is_natural) (defScope s_is_natural) .none kV_is_natural dc_is_natural pm_is_natural an_is_natural cd_is_natural ct_is_natural), sl_is_natural⟩)
    (k_is_natural' : PySem.W.codeIn K cd_is_natural "is_natural" = true)
    (q_is_natural' : PySem.W.keepIn K (.ref f_is_natural) = true)
    (a_is_arity' : PySem.W.nsIn K mainGlobals "is_arity" = some (some (.ref f_is_arity)))
    (l_is_arity' : K.lookup f_is_arity = some ⟨oc_is_arity, od_is_arity, .func (PySem.W.fnOf "is_arity" "is_arity" (defArgs s_is_arity) (defBody s_is_arity) (defScope s_is_arity) .none kV_is_arity dc_is_arity pm_is_arity an_is_arity cd_is_arity ct_is_arity), sl_is_arity⟩)
    (k_is_arity' : PySem.W.codeIn K cd_is_arity "is_arity" = true)
    (q_is_arity' : PySem.W.keepIn K (.ref f_is_arity) = true)
    (a_is_word' : PySem.W.nsIn K mainGlobals "is_word" = some (some (.ref f_is_word)))
    (l_is_word' : K.lookup f_is_word = some ⟨oc_is_word, od_is_word, .func (PySem.W.fnOf "is_word" "is_word" (defArgs s_is_word) (defBody s_is_word) (defScope s_is_word) .none kV_is_word dc_is_word pm_is_word an_is_word cd_is_word ct_is_word), sl_is_word⟩)
    (k_is_word' : PySem.W.codeIn K cd_is_word "is_word" = true)
    (q_is_word' : PySem.W.keepIn K (.ref f_is_word) = true)
    (a_is_place' : PySem.W.nsIn K mainGlobals "is_place" = some (some (.ref f_is_place)))
    (l_is_place' : K.lookup f_is_place = some ⟨oc_is_place, od_is_place, .func (PySem.W.fnOf "is_place" "is_place" (defArgs s_is_place) (defBody s_is_place) (defScope s_is_place) .none kV_is_place dc_is_place pm_is_place an_is_place cd_is_place ct_is_place), sl_is_place⟩)
    (k_is_place' : PySem.W.codeIn K cd_is_place "is_place" = true)
    (q_is_place' : PySem.W.keepIn K (.ref f_is_place) = true)
    (a_need_arity' : PySem.W.nsIn K mainGlobals "need_arity" = some (some (.ref f_need_arity)))
    (l_need_arity' : K.lookup f_need_arity = some ⟨oc_need_arity, od_need_arity, .func (PySem.W.fnOf "need_arity" "need_arity" (defArgs s_need_arity) (defBody s_need_arity) (defScope s_need_arity) .none kV_need_arity dc_need_arity pm_need_arity an_need_arity cd_need_arity ct_need_arity), sl_need_arity⟩)
    (k_need_arity' : PySem.W.codeIn K cd_need_arity "need_arity" = true)
    (q_need_arity' : PySem.W.keepIn K (.ref f_need_arity) = true)
    (a_need_place' : PySem.W.nsIn K mainGlobals "need_place" = some (some (.ref f_need_place)))
    (l_need_place' : K.lookup f_need_place = some ⟨oc_need_place, od_need_place, .func (PySem.W.fnOf "need_place" "need_place" (defArgs s_need_place) (defBody s_need_place) (defScope s_need_place) .none kV_need_place dc_need_place pm_need_place an_need_place cd_need_place ct_need_place), sl_need_place⟩)
    (k_need_place' : PySem.W.codeIn K cd_need_place "need_place" = true)
    (q_need_place' : PySem.W.keepIn K (.ref f_need_place) = true)
    (a_shown' : PySem.W.nsIn K mainGlobals "shown" = some (some (.ref f_shown)))
    (l_shown' : K.lookup f_shown = some ⟨oc_shown, od_shown, .func (PySem.W.fnOf "shown" "shown" (defArgs s_shown) (defBody s_shown) (defScope s_shown) .none kV_shown dc_shown pm_shown an_shown cd_shown ct_shown), sl_shown⟩)
    (k_shown' : PySem.W.codeIn K cd_shown "shown" = true)
    (q_shown' : PySem.W.keepIn K (.ref f_shown) = true)
    (a_place_text' : PySem.W.nsIn K mainGlobals "place_text" = some (some (.ref f_place_text)))
    (l_place_text' : K.lookup f_place_text = some ⟨oc_place_text, od_place_text, .func (PySem.W.fnOf "place_text" "place_text" (defArgs s_place_text) (defBody s_place_text) (defScope s_place_text) .none kV_place_text dc_place_text pm_place_text an_place_text cd_place_text ct_place_text), sl_place_text⟩)
    (k_place_text' : PySem.W.codeIn K cd_place_text "place_text" = true)
    (q_place_text' : PySem.W.keepIn K (.ref f_place_text) = true)
    (a_place_flaw' : PySem.W.nsIn K mainGlobals "place_flaw" = some (some (.ref f_place_flaw)))
    (l_place_flaw' : K.lookup f_place_flaw = some ⟨oc_place_flaw, od_place_flaw, .func (PySem.W.fnOf "place_flaw" "place_flaw" (defArgs s_place_flaw) (defBody s_place_flaw) (defScope s_place_flaw) .none kV_place_flaw dc_place_flaw pm_place_flaw an_place_flaw cd_place_flaw ct_place_flaw), sl_place_flaw⟩)
    (k_place_flaw' : PySem.W.codeIn K cd_place_flaw "place_flaw" = true)
    (q_place_flaw' : PySem.W.keepIn K (.ref f_place_flaw) = true)
    (a_place_in' : PySem.W.nsIn K mainGlobals "place_in" = some (some (.ref f_place_in)))
    (l_place_in' : K.lookup f_place_in = some ⟨oc_place_in, od_place_in, .func (PySem.W.fnOf "place_in" "place_in" (defArgs s_place_in) (defBody s_place_in) (defScope s_place_in) .none kV_place_in dc_place_in pm_place_in an_place_in cd_place_in ct_place_in), sl_place_in⟩)
    (k_place_in' : PySem.W.codeIn K cd_place_in "place_in" = true)
    (q_place_in' : PySem.W.keepIn K (.ref f_place_in) = true)
    (a_parse_place' : PySem.W.nsIn K mainGlobals "parse_place" = some (some (.ref f_parse_place)))
    (l_parse_place' : K.lookup f_parse_place = some ⟨oc_parse_place, od_parse_place, .func (PySem.W.fnOf "parse_place" "parse_place" (defArgs s_parse_place) (defBody s_parse_place) (defScope s_parse_place) .none kV_parse_place dc_parse_place pm_parse_place an_parse_place cd_parse_place ct_parse_place), sl_parse_place⟩)
    (k_parse_place' : PySem.W.codeIn K cd_parse_place "parse_place" = true)
    (q_parse_place' : PySem.W.keepIn K (.ref f_parse_place) = true)
    (a_l_cell' : PySem.W.nsIn K mainGlobals "_law_cell" = some (some (.ref f_l_cell)))
    (l_l_cell' : K.lookup f_l_cell = some ⟨oc_l_cell, od_l_cell, .func (PySem.W.fnOf "_law_cell" "_law_cell" (defArgs s_l_cell) (defBody s_l_cell) (defScope s_l_cell) .none kV_l_cell dc_l_cell pm_l_cell an_l_cell cd_l_cell ct_l_cell), sl_l_cell⟩)
    (k_l_cell' : PySem.W.codeIn K cd_l_cell "_law_cell" = true)
    (q_l_cell' : PySem.W.keepIn K (.ref f_l_cell) = true)
    (a_l_box' : PySem.W.nsIn K mainGlobals "_law_box" = some (some (.ref f_l_box)))
    (l_l_box' : K.lookup f_l_box = some ⟨oc_l_box, od_l_box, .func (PySem.W.fnOf "_law_box" "_law_box" (defArgs s_l_box) (defBody s_l_box) (defScope s_l_box) .none kV_l_box dc_l_box pm_l_box an_l_box cd_l_box ct_l_box), sl_l_box⟩)
    (k_l_box' : PySem.W.codeIn K cd_l_box "_law_box" = true)
    (q_l_box' : PySem.W.keepIn K (.ref f_l_box) = true)
    (a_l_take' : PySem.W.nsIn K mainGlobals "_law_take" = some (some (.ref f_l_take)))
    (l_l_take' : K.lookup f_l_take = some ⟨oc_l_take, od_l_take, .func (PySem.W.fnOf "_law_take" "_law_take" (defArgs s_l_take) (defBody s_l_take) (defScope s_l_take) .none kV_l_take dc_l_take pm_l_take an_l_take cd_l_take ct_l_take), sl_l_take⟩)
    (k_l_take' : PySem.W.codeIn K cd_l_take "_law_take" = true)
    (q_l_take' : PySem.W.keepIn K (.ref f_l_take) = true)
    (a_l_word' : PySem.W.nsIn K mainGlobals "_law_word" = some (some (.ref f_l_word)))
    (l_l_word' : K.lookup f_l_word = some ⟨oc_l_word, od_l_word, .func (PySem.W.fnOf "_law_word" "_law_word" (defArgs s_l_word) (defBody s_l_word) (defScope s_l_word) .none kV_l_word dc_l_word pm_l_word an_l_word cd_l_word ct_l_word), sl_l_word⟩)
    (k_l_word' : PySem.W.codeIn K cd_l_word "_law_word" = true)
    (q_l_word' : PySem.W.keepIn K (.ref f_l_word) = true)
    (a_l_due' : PySem.W.nsIn K mainGlobals "_law_due" = some (some (.ref f_l_due)))
    (l_l_due' : K.lookup f_l_due = some ⟨oc_l_due, od_l_due, .func (PySem.W.fnOf "_law_due" "_law_due" (defArgs s_l_due) (defBody s_l_due) (defScope s_l_due) .none kV_l_due dc_l_due pm_l_due an_l_due cd_l_due ct_l_due), sl_l_due⟩)
    (k_l_due' : PySem.W.codeIn K cd_l_due "_law_due" = true)
    (q_l_due' : PySem.W.keepIn K (.ref f_l_due) = true)
    (a_l_caught' : PySem.W.nsIn K mainGlobals "_law_caught" = some (some (.ref f_l_caught)))
    (l_l_caught' : K.lookup f_l_caught = some ⟨oc_l_caught, od_l_caught, .func (PySem.W.fnOf "_law_caught" "_law_caught" (defArgs s_l_caught) (defBody s_l_caught) (defScope s_l_caught) .none kV_l_caught dc_l_caught pm_l_caught an_l_caught cd_l_caught ct_l_caught), sl_l_caught⟩)
    (k_l_caught' : PySem.W.codeIn K cd_l_caught "_law_caught" = true)
    (q_l_caught' : PySem.W.keepIn K (.ref f_l_caught) = true)
    (a_l_bent' : PySem.W.nsIn K mainGlobals "_law_bent" = some (some (.ref f_l_bent)))
    (l_l_bent' : K.lookup f_l_bent = some ⟨oc_l_bent, od_l_bent, .func (PySem.W.fnOf "_law_bent" "_law_bent" (defArgs s_l_bent) (defBody s_l_bent) (defScope s_l_bent) .none kV_l_bent dc_l_bent pm_l_bent an_l_bent cd_l_bent ct_l_bent), sl_l_bent⟩)
    (k_l_bent' : PySem.W.codeIn K cd_l_bent "_law_bent" = true)
    (q_l_bent' : PySem.W.keepIn K (.ref f_l_bent) = true)
    (a_l_odd_right' : PySem.W.nsIn K mainGlobals "_law_odd_right" = some (some (.ref f_l_odd_right)))
    (l_l_odd_right' : K.lookup f_l_odd_right = some ⟨oc_l_odd_right, od_l_odd_right, .func (PySem.W.fnOf "_law_odd_right" "_law_odd_right" (defArgs s_l_odd_right) (defBody s_l_odd_right) (defScope s_l_odd_right) .none kV_l_odd_right dc_l_odd_right pm_l_odd_right an_l_odd_right cd_l_odd_right ct_l_odd_right), sl_l_odd_right⟩)
    (k_l_odd_right' : PySem.W.codeIn K cd_l_odd_right "_law_odd_right" = true)
    (q_l_odd_right' : PySem.W.keepIn K (.ref f_l_odd_right) = true)
    (a_law' : PySem.W.nsIn K mainGlobals "law" = some (some (.ref f_law)))
    (l_law' : K.lookup f_law = some ⟨oc_law, od_law, .func (PySem.W.fnOf "law" "law" (defArgs s_law) (defBody s_law) (defScope s_law) .none kV_law dc_law pm_law an_law cd_law ct_law), sl_law⟩)
    (k_law' : PySem.W.codeIn K cd_law "law" = true)
    (q_law' : PySem.W.keepIn K (.ref f_law) = true)
    (noS : PySem.W.nsIn K mainGlobals "super" = some none)
    (opq : PySem.W.nsIn K cStatics "thirdparty.any" = some none)
    (g_InvalidArity : PySem.W.nsIn K mainGlobals "InvalidArity" = some (some (.ref C_InvalidArity)))
    (y_InvalidArity : K.lookup C_InvalidArity = some (excClassObj nm_InvalidArity qn_InvalidArity C_InvalidArity NN_InvalidArity bs_InvalidArity bm_InvalidArity true sn_InvalidArity sub_InvalidArity ab_InvalidArity col_InvalidArity dd_InvalidArity m0_InvalidArity m1_InvalidArity m2_InvalidArity m3_InvalidArity m5_InvalidArity "ValueError.__new__"))
    (v_InvalidArity : PySem.HandSPX.refsVE bm_InvalidArity = true)
    (sa_InvalidArity : PySem.W.findIn K (.ref C_InvalidArity) "__setattr__" = some (some (.builtin "object.__setattr__")))
    (eC_InvalidArity : PySem.W.subIn K (.ref C_InvalidArity) (.type "BaseException") = some true)
    (tC_InvalidArity : PySem.W.typeIn K (.ref C_InvalidArity) = some (.type "type"))
    (kC_InvalidArity : PySem.W.keepIn K (.ref C_InvalidArity) = true)
    (ga_InvalidArity : PySem.W.findIn K (.ref C_InvalidArity) "__getattribute__" = some (some (.builtin "BaseException.__getattribute__")))
    (gg_InvalidArity : PySem.W.findIn K (.ref C_InvalidArity) "__getattr__" = some none)
    (hC_InvalidArity : PySem.W.hasDictIn K C_InvalidArity = true)
    (nf_InvalidArity : PySem.W.findIn K (.ref C_InvalidArity) "value" = some none)
    (iC_InvalidArity : PySem.W.isClsIn K C_InvalidArity = true)
    (su_InvalidArity : PySem.W.ks_superIn K C_InvalidArity C_InvalidArity "__init__" = some (some (.builtin "ValueError.__init__")))
    (iB_InvalidArity : PySem.W.subIn K (.ref C_InvalidArity) (.type "ValueError") = some true)
    (ini_InvalidArity : PySem.W.findIn K (.ref C_InvalidArity) "__init__" = some (some (.ref fI_InvalidArity)))
    (ti_InvalidArity : PySem.W.typeIn K (.ref fI_InvalidArity) = some (.type "function"))
    (li_InvalidArity : K.lookup fI_InvalidArity = some ⟨oc_InvalidArity, od_InvalidArity, .func (PySem.W.ksFn "__init__" "InvalidArity.__init__" (defArgs s_x_InvalidArity) (defBody s_x_InvalidArity) (defScope s_x_InvalidArity) .none kV_InvalidArity dc_InvalidArity pm_InvalidArity an_InvalidArity (.ref cda_InvalidArity) ct_InvalidArity cc_InvalidArity), sl_InvalidArity⟩)
    (ci_InvalidArity : PySem.W.codeIn K (.ref cda_InvalidArity) "InvalidArity.__init__" = true)
    (ce_InvalidArity : K.lookup cc_InvalidArity = some ⟨cl_InvalidArity, cld_InvalidArity, .cell (some (.ref C_InvalidArity)), csl_InvalidArity⟩)
    (co_InvalidArity : K.lookup cda_InvalidArity = some ⟨ccl_InvalidArity, cdd_InvalidArity, .fields vs_InvalidArity, ccs_InvalidArity⟩)
    (fi_InvalidArity : vs_InvalidArity[2]? = some (.str ("/claim/cut.py" : Str) tf_InvalidArity))
    (g_InvalidPlace : PySem.W.nsIn K mainGlobals "InvalidPlace" = some (some (.ref C_InvalidPlace)))
    (y_InvalidPlace : K.lookup C_InvalidPlace = some (excClassObj nm_InvalidPlace qn_InvalidPlace C_InvalidPlace NN_InvalidPlace bs_InvalidPlace bm_InvalidPlace true sn_InvalidPlace sub_InvalidPlace ab_InvalidPlace col_InvalidPlace dd_InvalidPlace m0_InvalidPlace m1_InvalidPlace m2_InvalidPlace m3_InvalidPlace m5_InvalidPlace "ValueError.__new__"))
    (v_InvalidPlace : PySem.HandSPX.refsVE bm_InvalidPlace = true)
    (sa_InvalidPlace : PySem.W.findIn K (.ref C_InvalidPlace) "__setattr__" = some (some (.builtin "object.__setattr__")))
    (eC_InvalidPlace : PySem.W.subIn K (.ref C_InvalidPlace) (.type "BaseException") = some true)
    (tC_InvalidPlace : PySem.W.typeIn K (.ref C_InvalidPlace) = some (.type "type"))
    (kC_InvalidPlace : PySem.W.keepIn K (.ref C_InvalidPlace) = true)
    (ga_InvalidPlace : PySem.W.findIn K (.ref C_InvalidPlace) "__getattribute__" = some (some (.builtin "BaseException.__getattribute__")))
    (gg_InvalidPlace : PySem.W.findIn K (.ref C_InvalidPlace) "__getattr__" = some none)
    (hC_InvalidPlace : PySem.W.hasDictIn K C_InvalidPlace = true)
    (nf_InvalidPlace : PySem.W.findIn K (.ref C_InvalidPlace) "value" = some none)
    (iC_InvalidPlace : PySem.W.isClsIn K C_InvalidPlace = true)
    (su_InvalidPlace : PySem.W.ks_superIn K C_InvalidPlace C_InvalidPlace "__init__" = some (some (.builtin "ValueError.__init__")))
    (iB_InvalidPlace : PySem.W.subIn K (.ref C_InvalidPlace) (.type "ValueError") = some true)
    (ini_InvalidPlace : PySem.W.findIn K (.ref C_InvalidPlace) "__init__" = some (some (.ref fI_InvalidPlace)))
    (ti_InvalidPlace : PySem.W.typeIn K (.ref fI_InvalidPlace) = some (.type "function"))
    (li_InvalidPlace : K.lookup fI_InvalidPlace = some ⟨oc_InvalidPlace, od_InvalidPlace, .func (PySem.W.ksFn "__init__" "InvalidPlace.__init__" (defArgs s_x_InvalidPlace) (defBody s_x_InvalidPlace) (defScope s_x_InvalidPlace) .none kV_InvalidPlace dc_InvalidPlace pm_InvalidPlace an_InvalidPlace (.ref cda_InvalidPlace) ct_InvalidPlace cc_InvalidPlace), sl_InvalidPlace⟩)
    (ci_InvalidPlace : PySem.W.codeIn K (.ref cda_InvalidPlace) "InvalidPlace.__init__" = true)
    (ce_InvalidPlace : K.lookup cc_InvalidPlace = some ⟨cl_InvalidPlace, cld_InvalidPlace, .cell (some (.ref C_InvalidPlace)), csl_InvalidPlace⟩)
    (co_InvalidPlace : K.lookup cda_InvalidPlace = some ⟨ccl_InvalidPlace, cdd_InvalidPlace, .fields vs_InvalidPlace, ccs_InvalidPlace⟩)
    (fi_InvalidPlace : vs_InvalidPlace[2]? = some (.str ("/claim/cut.py" : Str) tf_InvalidPlace))
    (g_InvalidText : PySem.W.nsIn K mainGlobals "InvalidText" = some (some (.ref C_InvalidText)))
    (y_InvalidText : K.lookup C_InvalidText = some (excClassObj nm_InvalidText qn_InvalidText C_InvalidText NN_InvalidText bs_InvalidText bm_InvalidText true sn_InvalidText sub_InvalidText ab_InvalidText col_InvalidText dd_InvalidText m0_InvalidText m1_InvalidText m2_InvalidText m3_InvalidText m5_InvalidText "ValueError.__new__"))
    (v_InvalidText : PySem.HandSPX.refsVE bm_InvalidText = true)
    (sa_InvalidText : PySem.W.findIn K (.ref C_InvalidText) "__setattr__" = some (some (.builtin "object.__setattr__")))
    (eC_InvalidText : PySem.W.subIn K (.ref C_InvalidText) (.type "BaseException") = some true)
    (tC_InvalidText : PySem.W.typeIn K (.ref C_InvalidText) = some (.type "type"))
    (kC_InvalidText : PySem.W.keepIn K (.ref C_InvalidText) = true)
    (ga_InvalidText : PySem.W.findIn K (.ref C_InvalidText) "__getattribute__" = some (some (.builtin "BaseException.__getattribute__")))
    (gg_InvalidText : PySem.W.findIn K (.ref C_InvalidText) "__getattr__" = some none)
    (hC_InvalidText : PySem.W.hasDictIn K C_InvalidText = true)
    (nf_InvalidText : PySem.W.findIn K (.ref C_InvalidText) "position" = some none)
    (iC_InvalidText : PySem.W.isClsIn K C_InvalidText = true)
    (su_InvalidText : PySem.W.ks_superIn K C_InvalidText C_InvalidText "__init__" = some (some (.builtin "ValueError.__init__")))
    (iB_InvalidText : PySem.W.subIn K (.ref C_InvalidText) (.type "ValueError") = some true)
    (ini_InvalidText : PySem.W.findIn K (.ref C_InvalidText) "__init__" = some (some (.ref fI_InvalidText)))
    (ti_InvalidText : PySem.W.typeIn K (.ref fI_InvalidText) = some (.type "function"))
    (li_InvalidText : K.lookup fI_InvalidText = some ⟨oc_InvalidText, od_InvalidText, .func (PySem.W.ksFn "__init__" "InvalidText.__init__" (defArgs s_x_InvalidText) (defBody s_x_InvalidText) (defScope s_x_InvalidText) .none kV_InvalidText dc_InvalidText pm_InvalidText an_InvalidText (.ref cda_InvalidText) ct_InvalidText cc_InvalidText), sl_InvalidText⟩)
    (ci_InvalidText : PySem.W.codeIn K (.ref cda_InvalidText) "InvalidText.__init__" = true)
    (ce_InvalidText : K.lookup cc_InvalidText = some ⟨cl_InvalidText, cld_InvalidText, .cell (some (.ref C_InvalidText)), csl_InvalidText⟩)
    (co_InvalidText : K.lookup cda_InvalidText = some ⟨ccl_InvalidText, cdd_InvalidText, .fields vs_InvalidText, ccs_InvalidText⟩)
    (fi_InvalidText : vs_InvalidText[2]? = some (.str ("/claim/cut.py" : Str) tf_InvalidText))
    (e_InvalidArity_InvalidArity : PySem.W.subIn K (.ref C_InvalidArity) (.ref C_InvalidArity) = some true)
    (e_InvalidArity_InvalidPlace : PySem.W.subIn K (.ref C_InvalidArity) (.ref C_InvalidPlace) = some false)
    (e_InvalidArity_InvalidText : PySem.W.subIn K (.ref C_InvalidArity) (.ref C_InvalidText) = some false)
    (e_InvalidPlace_InvalidArity : PySem.W.subIn K (.ref C_InvalidPlace) (.ref C_InvalidArity) = some false)
    (e_InvalidPlace_InvalidPlace : PySem.W.subIn K (.ref C_InvalidPlace) (.ref C_InvalidPlace) = some true)
    (e_InvalidPlace_InvalidText : PySem.W.subIn K (.ref C_InvalidPlace) (.ref C_InvalidText) = some false)
    (e_InvalidText_InvalidArity : PySem.W.subIn K (.ref C_InvalidText) (.ref C_InvalidArity) = some false)
    (e_InvalidText_InvalidPlace : PySem.W.subIn K (.ref C_InvalidText) (.ref C_InvalidPlace) = some false)
    (e_InvalidText_InvalidText : PySem.W.subIn K (.ref C_InvalidText) (.ref C_InvalidText) = some true)
    : Tx K mg C_InvalidArity C_InvalidPlace C_InvalidText where
  c_DIGITS := ⟨_, PySem.W.mg_of X G c_DIGITS⟩
  c_FIGURES := ⟨_, PySem.W.mg_of X G c_FIGURES⟩
  c_LEAST_ARITY := ⟨_, PySem.W.mg_of X G c_LEAST_ARITY⟩
  c_MOST_ARITY := ⟨_, PySem.W.mg_of X G c_MOST_ARITY⟩
  c_MOST_FIGURES := ⟨_, PySem.W.mg_of X G c_MOST_FIGURES⟩
  n_isinstance := PySem.W.mg_none_of X G n_isinstance
  n_bool := PySem.W.mg_none_of X G n_bool
  n_int := PySem.W.mg_none_of X G n_int
  n_str := PySem.W.mg_none_of X G n_str
  n_len := PySem.W.mg_none_of X G n_len
  n_tuple := PySem.W.mg_none_of X G n_tuple
  n_range := PySem.W.mg_none_of X G n_range
  n_max := PySem.W.mg_none_of X G n_max
  n_enumerate := PySem.W.mg_none_of X G n_enumerate
  n_repr := PySem.W.mg_none_of X G n_repr
  n_min := PySem.W.mg_none_of X G n_min
  d_is_integer := ⟨_, _, fun_mk (st := s_is_integer) l_is_integer' k_is_integer' q_is_integer', PySem.W.mg_of X G a_is_integer', (fun_mk (st := s_is_integer) l_is_integer' k_is_integer' q_is_integer').binds (ps := a_is_integer) fun _ _ _ _ _ _ us hl => match us, hl with | [_, _, _], _ => rfl⟩
  d_is_natural := ⟨_, _, fun_mk (st := s_is_natural) l_is_natural' k_is_natural' q_is_natural', PySem.W.mg_of X G a_is_natural', (fun_mk (st := s_is_natural) l_is_natural' k_is_natural' q_is_natural').binds (ps := a_is_natural) fun _ _ _ _ _ _ us hl => match us, hl with | [_, _], _ => rfl⟩
  d_is_arity := ⟨_, _, fun_mk (st := s_is_arity) l_is_arity' k_is_arity' q_is_arity', PySem.W.mg_of X G a_is_arity', (fun_mk (st := s_is_arity) l_is_arity' k_is_arity' q_is_arity').binds (ps := a_is_arity) fun _ _ _ _ _ _ us hl => match us, hl with | [_], _ => rfl⟩
  d_is_word := ⟨_, _, fun_mk (st := s_is_word) l_is_word' k_is_word' q_is_word', PySem.W.mg_of X G a_is_word', (fun_mk (st := s_is_word) l_is_word' k_is_word' q_is_word').binds (ps := a_is_word) fun _ _ _ _ _ _ us hl => match us, hl with | [_, _], _ => rfl⟩
  d_is_place := ⟨_, _, fun_mk (st := s_is_place) l_is_place' k_is_place' q_is_place', PySem.W.mg_of X G a_is_place', (fun_mk (st := s_is_place) l_is_place' k_is_place' q_is_place').binds (ps := a_is_place) fun _ _ _ _ _ _ us hl => match us, hl with | [_, _], _ => rfl⟩
  d_need_arity := ⟨_, _, fun_mk (st := s_need_arity) l_need_arity' k_need_arity' q_need_arity', PySem.W.mg_of X G a_need_arity', (fun_mk (st := s_need_arity) l_need_arity' k_need_arity' q_need_arity').binds (ps := a_need_arity) fun _ _ _ _ _ _ us hl => match us, hl with | [_], _ => rfl⟩
  d_need_place := ⟨_, _, fun_mk (st := s_need_place) l_need_place' k_need_place' q_need_place', PySem.W.mg_of X G a_need_place', (fun_mk (st := s_need_place) l_need_place' k_need_place' q_need_place').binds (ps := a_need_place) fun _ _ _ _ _ _ us hl => match us, hl with | [_, _], _ => rfl⟩
  d_shown := ⟨_, _, fun_mk (st := s_shown) l_shown' k_shown' q_shown', PySem.W.mg_of X G a_shown', (fun_mk (st := s_shown) l_shown' k_shown' q_shown').binds (ps := a_shown) fun _ _ _ _ _ _ us hl => match us, hl with | [_], _ => rfl⟩
  d_place_text := ⟨_, _, fun_mk (st := s_place_text) l_place_text' k_place_text' q_place_text', PySem.W.mg_of X G a_place_text', (fun_mk (st := s_place_text) l_place_text' k_place_text' q_place_text').binds (ps := a_place_text) fun _ _ _ _ _ _ us hl => match us, hl with | [_], _ => rfl⟩
  d_place_flaw := ⟨_, _, fun_mk (st := s_place_flaw) l_place_flaw' k_place_flaw' q_place_flaw', PySem.W.mg_of X G a_place_flaw', (fun_mk (st := s_place_flaw) l_place_flaw' k_place_flaw' q_place_flaw').binds (ps := a_place_flaw) fun _ _ _ _ _ _ us hl => match us, hl with | [_, _], _ => rfl⟩
  d_place_in := ⟨_, _, fun_mk (st := s_place_in) l_place_in' k_place_in' q_place_in', PySem.W.mg_of X G a_place_in', (fun_mk (st := s_place_in) l_place_in' k_place_in' q_place_in').binds (ps := a_place_in) fun _ _ _ _ _ _ us hl => match us, hl with | [_], _ => rfl⟩
  d_parse_place := ⟨_, _, fun_mk (st := s_parse_place) l_parse_place' k_parse_place' q_parse_place', PySem.W.mg_of X G a_parse_place', (fun_mk (st := s_parse_place) l_parse_place' k_parse_place' q_parse_place').binds (ps := a_parse_place) fun _ _ _ _ _ _ us hl => match us, hl with | [_, _], _ => rfl⟩
  d_l_cell := ⟨_, _, fun_mk (st := s_l_cell) l_l_cell' k_l_cell' q_l_cell', PySem.W.mg_of X G a_l_cell', (fun_mk (st := s_l_cell) l_l_cell' k_l_cell' q_l_cell').binds (ps := a_l_cell) fun _ _ _ _ _ _ us hl => match us, hl with | [_, _], _ => rfl⟩
  d_l_box := ⟨_, _, fun_mk (st := s_l_box) l_l_box' k_l_box' q_l_box', PySem.W.mg_of X G a_l_box', (fun_mk (st := s_l_box) l_l_box' k_l_box' q_l_box').binds (ps := a_l_box) fun _ _ _ _ _ _ us hl => match us, hl with | [_], _ => rfl⟩
  d_l_take := ⟨_, _, fun_mk (st := s_l_take) l_l_take' k_l_take' q_l_take', PySem.W.mg_of X G a_l_take', (fun_mk (st := s_l_take) l_l_take' k_l_take' q_l_take').binds (ps := a_l_take) fun _ _ _ _ _ _ us hl => match us, hl with | [_, _], _ => rfl⟩
  d_l_word := ⟨_, _, fun_mk (st := s_l_word) l_l_word' k_l_word' q_l_word', PySem.W.mg_of X G a_l_word', (fun_mk (st := s_l_word) l_l_word' k_l_word' q_l_word').binds (ps := a_l_word) fun _ _ _ _ _ _ us hl => match us, hl with | [_, _, _], _ => rfl⟩
  d_l_due := ⟨_, _, fun_mk (st := s_l_due) l_l_due' k_l_due' q_l_due', PySem.W.mg_of X G a_l_due', (fun_mk (st := s_l_due) l_l_due' k_l_due' q_l_due').binds (ps := a_l_due) fun _ _ _ _ _ _ us hl => match us, hl with | [_, _], _ => rfl⟩
  d_l_caught := ⟨_, _, fun_mk (st := s_l_caught) l_l_caught' k_l_caught' q_l_caught', PySem.W.mg_of X G a_l_caught', (fun_mk (st := s_l_caught) l_l_caught' k_l_caught' q_l_caught').binds (ps := a_l_caught) fun _ _ _ _ _ _ us hl => match us, hl with | [_, _], _ => rfl⟩
  d_l_bent := ⟨_, _, fun_mk (st := s_l_bent) l_l_bent' k_l_bent' q_l_bent', PySem.W.mg_of X G a_l_bent', (fun_mk (st := s_l_bent) l_l_bent' k_l_bent' q_l_bent').binds (ps := a_l_bent) fun _ _ _ _ _ _ us hl => match us, hl with | [_, _], _ => rfl⟩
  d_l_odd_right := ⟨_, _, fun_mk (st := s_l_odd_right) l_l_odd_right' k_l_odd_right' q_l_odd_right', PySem.W.mg_of X G a_l_odd_right', (fun_mk (st := s_l_odd_right) l_l_odd_right' k_l_odd_right' q_l_odd_right').binds (ps := a_l_odd_right) fun _ _ _ _ _ _ us hl => match us, hl with | [_, _], _ => rfl⟩
  d_law := ⟨_, _, fun_mk (st := s_law) l_law' k_law' q_law', PySem.W.mg_of X G a_law', (fun_mk (st := s_law) l_law' k_law' q_law').binds (ps := a_law) fun _ _ _ _ _ _ us hl => match us, hl with | [_], _ => rfl⟩
  x_InvalidArity := ⟨PySem.W.mg_of X G g_InvalidArity, ⟨⟨_, _, _, _, _, _, _, _, _, _, _, _, _, _, _, y_InvalidArity, v_InvalidArity⟩, sa_InvalidArity, eC_InvalidArity, tC_InvalidArity, kC_InvalidArity⟩, ⟨ga_InvalidArity, gg_InvalidArity, eC_InvalidArity, hC_InvalidArity⟩, nf_InvalidArity, iC_InvalidArity, PySem.W.mg_none_of X G noS, opq, su_InvalidArity, iB_InvalidArity,
    ⟨_, _, _, _, _, _, _, _, _, _, _, _, ini_InvalidArity, ti_InvalidArity, li_InvalidArity, ci_InvalidArity, ⟨_, _, _, ce_InvalidArity⟩, _, _, _, _, _, co_InvalidArity, fi_InvalidArity⟩⟩
  e_InvalidArity_InvalidArity := e_InvalidArity_InvalidArity
  e_InvalidArity_InvalidPlace := e_InvalidArity_InvalidPlace
  e_InvalidArity_InvalidText := e_InvalidArity_InvalidText
  x_InvalidPlace := ⟨PySem.W.mg_of X G g_InvalidPlace, ⟨⟨_, _, _, _, _, _, _, _, _, _, _, _, _, _, _, y_InvalidPlace, v_InvalidPlace⟩, sa_InvalidPlace, eC_InvalidPlace, tC_InvalidPlace, kC_InvalidPlace⟩, ⟨ga_InvalidPlace, gg_InvalidPlace, eC_InvalidPlace, hC_InvalidPlace⟩, nf_InvalidPlace, iC_InvalidPlace, PySem.W.mg_none_of X G noS, opq, su_InvalidPlace, iB_InvalidPlace,
    ⟨_, _, _, _, _, _, _, _, _, _, _, _, ini_InvalidPlace, ti_InvalidPlace, li_InvalidPlace, ci_InvalidPlace, ⟨_, _, _, ce_InvalidPlace⟩, _, _, _, _, _, co_InvalidPlace, fi_InvalidPlace⟩⟩
  e_InvalidPlace_InvalidArity := e_InvalidPlace_InvalidArity
  e_InvalidPlace_InvalidPlace := e_InvalidPlace_InvalidPlace
  e_InvalidPlace_InvalidText := e_InvalidPlace_InvalidText
  x_InvalidText := ⟨PySem.W.mg_of X G g_InvalidText, ⟨⟨_, _, _, _, _, _, _, _, _, _, _, _, _, _, _, y_InvalidText, v_InvalidText⟩, sa_InvalidText, eC_InvalidText, tC_InvalidText, kC_InvalidText⟩, ⟨ga_InvalidText, gg_InvalidText, eC_InvalidText, hC_InvalidText⟩, nf_InvalidText, iC_InvalidText, PySem.W.mg_none_of X G noS, opq, su_InvalidText, iB_InvalidText,
    ⟨_, _, _, _, _, _, _, _, _, _, _, _, ini_InvalidText, ti_InvalidText, li_InvalidText, ci_InvalidText, ⟨_, _, _, ce_InvalidText⟩, _, _, _, _, _, co_InvalidText, fi_InvalidText⟩⟩
  e_InvalidText_InvalidArity := e_InvalidText_InvalidArity
  e_InvalidText_InvalidPlace := e_InvalidText_InvalidPlace
  e_InvalidText_InvalidText := e_InvalidText_InvalidText
theorem law_mk {l : PySem.W.OpenLaw} {w : World} {K : PySem.W.Frag} {mg : Str → Option Value} {fa C_InvalidArity C_InvalidPlace C_InvalidText : Addr} (T : Tx K mg C_InvalidArity C_InvalidPlace C_InvalidText) (hP : PTx l.prog) (hfa : mg "law" = some (.ref fa)) :
    ∃ fd : FuncData, (∀ (s : Shared) (v : Value), BindsTo s fd ⟨[v], []⟩ [("_law_script", v)]) ∧ ∀ base : Heap, K.In base → base.Ns mainGlobals mg → (∃ o, base.get? sysModules = some o) → FnG l.prog w K mg base CX0 8 fa fd ["_law_script"] (spLaw K) := by
  obtain ⟨f, fd, F, hm, hb⟩ := T.d_law
  cases hfa.symm.trans hm
  refine ⟨fd, fun s v => ?_, fun base hK hN hsys => ok_law hP T hsys F⟩
  obtain ⟨oc, od, kV, doc, pm, an, cdv, ct, osl, rfl, lk, hcd⟩ := F.ex
  exact .of_eq rfl
end Y
open PySem PySem.W PyProof.Rows
set_option maxHeartbeats 0 in
theorem PySem.Challenge.cw_strandclasses_k06_places_as_text_holds : PySem.Challenge.rw_strandclasses_k06_places_as_text.Holds := by
  w_on; o_law; k_head; (case hw => w_witness2)
  k_fill
  refine Y.walkG (l := PySem.Challenge.rw_strandclasses_k06_places_as_text) (n := 63) (k := 8) (x := "_law_script") (CX := L2.CX0) (sp := Y.spLaw) rfl (by decide) rfl ⟨rfl, by decide, by decide⟩ (by rfl) (fun w h Y => PySem.W.kIn_of Y) ?F (fun _ _ a ns hl _ hS => ⟨a, ns, rfl, hS, hl, fun _ => rfl⟩) (fun _ _ _ _ h => h)
  case F =>
    intro w mg fa h KX G hmg
    refine' Y.law_mk (Y.tx_mk KX G ?c_DIGITS ?c_FIGURES ?c_LEAST_ARITY ?c_MOST_ARITY ?c_MOST_FIGURES ?n_isinstance ?n_bool ?n_int ?n_str ?n_len ?n_tuple ?n_range ?n_max ?n_enumerate ?n_repr ?n_min ?a_is_integer ?l_is_integer ?k_is_integer ?q_is_integer ?a_is_natural ?l_is_natural ?k_is_natural ?q_is_natural ?a_is_arity ?l_is_arity ?k_is_arity ?q_is_arity ?a_is_word ?l_is_word ?k_is_word ?q_is_word ?a_is_place ?l_is_place ?k_is_place ?q_is_place ?a_need_arity ?l_need_arity ?k_need_arity ?q_need_arity ?a_need_place ?l_need_place ?k_need_place ?q_need_place ?a_shown ?l_shown ?k_shown ?q_shown ?a_place_text ?l_place_text ?k_place_text ?q_place_text ?a_place_flaw ?l_place_flaw ?k_place_flaw ?q_place_flaw ?a_place_in ?l_place_in ?k_place_in ?q_place_in ?a_parse_place ?l_parse_place ?k_parse_place ?q_parse_place ?a_l_cell ?l_l_cell ?k_l_cell ?q_l_cell ?a_l_box ?l_l_box ?k_l_box ?q_l_box ?a_l_take ?l_l_take ?k_l_take ?q_l_take ?a_l_word ?l_l_word ?k_l_word ?q_l_word ?a_l_due ?l_l_due ?k_l_due ?q_l_due ?a_l_caught ?l_l_caught ?k_l_caught ?q_l_caught ?a_l_bent ?l_l_bent ?k_l_bent ?q_l_bent ?a_l_odd_right ?l_l_odd_right ?k_l_odd_right ?q_l_odd_right ?a_law ?l_law ?k_law ?q_law ?noS ?opq ?g_InvalidArity ?y_InvalidArity ?v_InvalidArity ?sa_InvalidArity ?eC_InvalidArity ?tC_InvalidArity ?kC_InvalidArity ?ga_InvalidArity ?gg_InvalidArity ?hC_InvalidArity ?nf_InvalidArity ?iC_InvalidArity ?su_InvalidArity ?iB_InvalidArity ?ini_InvalidArity ?ti_InvalidArity ?li_InvalidArity ?ci_InvalidArity ?ce_InvalidArity ?co_InvalidArity ?fi_InvalidArity ?g_InvalidPlace ?y_InvalidPlace ?v_InvalidPlace ?sa_InvalidPlace ?eC_InvalidPlace ?tC_InvalidPlace ?kC_InvalidPlace ?ga_InvalidPlace ?gg_InvalidPlace ?hC_InvalidPlace ?nf_InvalidPlace ?iC_InvalidPlace ?su_InvalidPlace ?iB_InvalidPlace ?ini_InvalidPlace ?ti_InvalidPlace ?li_InvalidPlace ?ci_InvalidPlace ?ce_InvalidPlace ?co_InvalidPlace ?fi_InvalidPlace ?g_InvalidText ?y_InvalidText ?v_InvalidText ?sa_InvalidText ?eC_InvalidText ?tC_InvalidText ?kC_InvalidText ?ga_InvalidText ?gg_InvalidText ?hC_InvalidText ?nf_InvalidText ?iC_InvalidText ?su_InvalidText ?iB_InvalidText ?ini_InvalidText ?ti_InvalidText ?li_InvalidText ?ci_InvalidText ?ce_InvalidText ?co_InvalidText ?fi_InvalidText ?e_InvalidArity_InvalidArity ?e_InvalidArity_InvalidPlace ?e_InvalidArity_InvalidText ?e_InvalidPlace_InvalidArity ?e_InvalidPlace_InvalidPlace ?e_InvalidPlace_InvalidText ?e_InvalidText_InvalidArity ?e_InvalidText_InvalidPlace ?e_InvalidText_InvalidText) ⟨rfl, rfl⟩ hmg
    (case c_DIGITS => k_is); (case c_FIGURES => k_is); (case c_LEAST_ARITY => k_is); (case c_MOST_ARITY => k_is); (case c_MOST_FIGURES => k_is); (case n_isinstance => k_is); (case n_bool => k_is); (case n_int => k_is); (case n_str => k_is); (case n_len => k_is); (case n_tuple => k_is); (case n_range => k_is); (case n_max => k_is); (case n_enumerate => k_is); (case n_repr => k_is); (case n_min => k_is); (case a_is_integer => k_is); (case l_is_integer => k_is); (case k_is_integer => k_is); (case q_is_integer => k_is); (case a_is_natural => k_is); (case l_is_natural => k_is); (case k_is_natural => k_is); (case q_is_natural => k_is); (case a_is_arity => k_is); (case l_is_arity => k_is); (case k_is_arity => k_is); (case q_is_arity => k_is); (case a_is_word => k_is); (case l_is_word => k_is); (case k_is_word => k_is); (case q_is_word => k_is); (case a_is_place => k_is); (case l_is_place => k_is); (case k_is_place => k_is); (case q_is_place => k_is); (case a_need_arity => k_is); (case l_need_arity => k_is); (case k_need_arity => k_is); (case q_need_arity => k_is); (case a_need_place => k_is); (case l_need_place => k_is); (case k_need_place => k_is); (case q_need_place => k_is); (case a_shown => k_is); (case l_shown => k_is); (case k_shown => k_is); (case q_shown => k_is); (case a_place_text => k_is); (case l_place_text => k_is); (case k_place_text => k_is); (case q_place_text => k_is); (case a_place_flaw => k_is); (case l_place_flaw => k_is); (case k_place_flaw => k_is); (case q_place_flaw => k_is); (case a_place_in => k_is); (case l_place_in => k_is); (case k_place_in => k_is); (case q_place_in => k_is); (case a_parse_place => k_is); (case l_parse_place => k_is); (case k_parse_place => k_is); (case q_parse_place => k_is); (case a_l_cell => k_is); (case l_l_cell => k_is); (case k_l_cell => k_is); (case q_l_cell => k_is); (case a_l_box => k_is); (case l_l_box => k_is); (case k_l_box => k_is); (case q_l_box => k_is); (case a_l_take => k_is); (case l_l_take => k_is); (case k_l_take => k_is); (case q_l_take => k_is); (case a_l_word => k_is); (case l_l_word => k_is); (case k_l_word => k_is); (case q_l_word => k_is); (case a_l_due => k_is); (case l_l_due => k_is); (case k_l_due => k_is); (case q_l_due => k_is); (case a_l_caught => k_is); (case l_l_caught => k_is); (case k_l_caught => k_is); (case q_l_caught => k_is); (case a_l_bent => k_is); (case l_l_bent => k_is); (case k_l_bent => k_is); (case q_l_bent => k_is); (case a_l_odd_right => k_is); (case l_l_odd_right => k_is); (case k_l_odd_right => k_is); (case q_l_odd_right => k_is); (case a_law => k_is); (case l_law => k_is); (case k_law => k_is); (case q_law => k_is); (case noS => k_is); (case opq => k_is); (case g_InvalidArity => k_is); (case y_InvalidArity => k_is); (case v_InvalidArity => decide +kernel); (case sa_InvalidArity => k_is); (case eC_InvalidArity => k_is); (case tC_InvalidArity => k_is); (case kC_InvalidArity => k_is); (case ga_InvalidArity => k_is); (case gg_InvalidArity => k_is); (case hC_InvalidArity => k_is); (case nf_InvalidArity => k_is); (case iC_InvalidArity => k_is); (case su_InvalidArity => ks_is); (case iB_InvalidArity => k_is); (case ini_InvalidArity => k_is); (case ti_InvalidArity => k_is); (case li_InvalidArity => k_is); (case ci_InvalidArity => k_is); (case ce_InvalidArity => k_is); (case co_InvalidArity => k_is); (case fi_InvalidArity => rfl); (case g_InvalidPlace => k_is); (case y_InvalidPlace => k_is); (case v_InvalidPlace => decide +kernel); (case sa_InvalidPlace => k_is); (case eC_InvalidPlace => k_is); (case tC_InvalidPlace => k_is); (case kC_InvalidPlace => k_is); (case ga_InvalidPlace => k_is); (case gg_InvalidPlace => k_is); (case hC_InvalidPlace => k_is); (case nf_InvalidPlace => k_is); (case iC_InvalidPlace => k_is); (case su_InvalidPlace => ks_is); (case iB_InvalidPlace => k_is); (case ini_InvalidPlace => k_is); (case ti_InvalidPlace => k_is); (case li_InvalidPlace => k_is); (case ci_InvalidPlace => k_is); (case ce_InvalidPlace => k_is); (case co_InvalidPlace => k_is); (case fi_InvalidPlace => rfl); (case g_InvalidText => k_is); (case y_InvalidText => k_is); (case v_InvalidText => decide +kernel); (case sa_InvalidText => k_is); (case eC_InvalidText => k_is); (case tC_InvalidText => k_is); (case kC_InvalidText => k_is); (case ga_InvalidText => k_is); (case gg_InvalidText => k_is); (case hC_InvalidText => k_is); (case nf_InvalidText => k_is); (case iC_InvalidText => k_is); (case su_InvalidText => ks_is); (case iB_InvalidText => k_is); (case ini_InvalidText => k_is); (case ti_InvalidText => k_is); (case li_InvalidText => k_is); (case ci_InvalidText => k_is); (case ce_InvalidText => k_is); (case co_InvalidText => k_is); (case fi_InvalidText => rfl); (case e_InvalidArity_InvalidArity => first | rfl | k_is); (case e_InvalidArity_InvalidPlace => first | rfl | k_is); (case e_InvalidArity_InvalidText => first | rfl | k_is); (case e_InvalidPlace_InvalidArity => first | rfl | k_is); (case e_InvalidPlace_InvalidPlace => first | rfl | k_is); (case e_InvalidPlace_InvalidText => first | rfl | k_is); (case e_InvalidText_InvalidArity => first | rfl | k_is); (case e_InvalidText_InvalidPlace => first | rfl | k_is); (case e_InvalidText_InvalidText => first | rfl | k_is)
