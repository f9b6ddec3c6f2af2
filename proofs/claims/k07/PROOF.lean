import PyProof.Rows.All
import Wide.All
import OpenK.AllK
import Wide.FinOn
import KE.KNestM
import KE.OsRunLaw
import HandS.ForMost
import HandS.IsInst
import HandS.StrMore
import PyProof.ReprBulk
import HandS.Exc
import HandS.ExcInit
import HandS.TryMany
import KE.KExcSuper
import HandS.ExcField
import HandS.WordsExc
import KE.GoesMore
import PyProof.P3Eq
import HandS.EndTab
import HandS.Lambda
import HandS.Deep
import HandS.Flow
import HandS.FStr
import HandS.TupAny
import HandS.Style
import HandS.Walk
import HandS.Zip
import KE.KUnpack
import HandS.CallSlots
import KE.SortData
import HandS.DictComp
import HandS.Conv
import HandS.Star
import HandS.Property
import HandS.More
import HandS.SlotsOwn
import KE.KFmtOwn
import PyProof.InstNe
import HandS.DictTup
import HandS.TupLen
import PyProof.DictMoreH
import HandS.Small
import KE.KItemsList
import HandS.ListItems
import HandS.MapObj
import HandS.Defaults
import HandS.MakeKwOnly
import HandS.ClsMeth
import KE.KOpsOwn
import KE.KCallOwn
import KE.KDictWalk
import HandS.OwnEq
import PyProof.NeKinds
import PyProof.ReprNest
import HandS.ExcIs
import KE.DataMinMax
import PyProof.ListRange
import HandS.Finally
import KE.KDictCopyH
import PySem.Challenge.RW_strandclasses_k07_exceptions_by_class
set_option Elab.async false
set_option linter.all false
set_option maxRecDepth 100000
set_option maxHeartbeats 4000000
/-! the head of a law in parts: the top's run is cut between two of its statements, the state there is written out; each part is one run in the kernel (over KE.HD0, HD1) -/
noncomputable section
namespace Cut
open PySem PySem.W PySem.Calls PyProof.Rows HeadRun
def exQ : List Stmt → Env → Sem Flow := PySem.W.Fast.tw12563942051412417395
def bsQ : List Stmt → Env → Sem Unit := PySem.W.Fast.tw1066825118222455980
theorem exQ_eq : @PySem.execs = exQ := PySem.W.Fast.te12563942051412417395
theorem bsQ_eq : @PySem.blockStart = bsQ := PySem.W.Fast.te1066825118222455980
section
variable (st : SharedT → Thread → Option (SharedT × Thread)) (n0 : Nat) (ann : Option Value)
/-- so many steps -/
def goP : Nat → SharedT → Thread → Option (SharedT × Thread)
  | 0, s, t => some (s, t)
  | m + 1, s, t => match through t with
    | true => none
    | false => match stepOk n0 ann t with
      | false => none
      | true => match st s t with
        | some (s', t') => frS s' fun s' => goP m s' t'
        | none => none
/-- some statements, to their end -/
def segF (b : Nat) : Nat → SharedT → Thread → Option (Flow × SharedT × Code × Pos)
  | 0, _, _ => none
  | m + 1, s, t => match endAt b t with
    | some f => some (f, s, t.code, t.pos)
    | none => match stepOk n0 ann t with
      | false => none
      | true => match st s t with
        | some (s', t') => frS s' fun s' => segF b m s' t'
        | none => none
end
section
variable {tb : String → Option Builtin} {p : Program} {w : World} {n0 : Nat} {ann : Option Value}
theorem goP_ok : ∀ {m : Nat} {s s' : SharedT} {t t' : Thread}, goP (stepT (denote tb) p w) n0 ann m s t = some (s', t') → topGo tb p w n0 ann m s.abs t = some (s'.abs, t')
  | 0, s, s', t, t', h => by cases h; rfl
  | m + 1, s, s', t, t', h => by
    have h1 : (match through t with
      | true => none
      | false => match stepOk n0 ann t with
        | false => none
        | true => match stepT (denote tb) p w s t with
          | some (s', t') => frS s' fun s' => goP (stepT (denote tb) p w) n0 ann m s' t'
          | none => none) = some (s', t') := h
    unfold topGo
    cases ht : through t with
    | true => rw [ht] at h1; cases h1
    | false =>
      rw [ht] at h1
      cases hk : stepOk n0 ann t with
      | false => rw [hk] at h1; cases h1
      | true =>
        rw [hk] at h1
        have h2 : (match stepT (denote tb) p w s t with
          | some (s', t') => frS s' fun s' => goP (stepT (denote tb) p w) n0 ann m s' t'
          | none => none) = some (s', t') := h1
        cases hs : stepT (denote tb) p w s t with
        | none => rw [hs] at h2; cases h2
        | some r =>
          obtain ⟨s2, t2⟩ := r
          rw [hs] at h2
          have h3 : (frS s2 fun s' => goP (stepT (denote tb) p w) n0 ann m s' t2) = some (s', t') := h2
          rw [frS_eq] at h3
          have q := goP_ok h3
          show (match step (denote tb) p w s.abs t with
            | .go s' t' => topGo tb p w n0 ann m s' t'
            | .halt _ _ => none) = some (s'.abs, t')
          rw [stepT_spec hs]
          exact q
theorem segF_ok {b : Nat} : ∀ {m : Nat} {s s' : SharedT} {t : Thread} {f : Flow} {c : Code} {q : Pos}, segF (stepT (denote tb) p w) n0 ann b m s t = some (f, s', c, q) → segRun tb p w n0 ann b m s.abs t = some (f, s'.abs, c, q)
  | 0, s, s', t, f, c, q, h => by cases h
  | m + 1, s, s', t, f, c, q, h => by
    have h1 : (match endAt b t with
      | some f => some (f, s, t.code, t.pos)
      | none => match stepOk n0 ann t with
        | false => none
        | true => match stepT (denote tb) p w s t with
          | some (s', t') => frS s' fun s' => segF (stepT (denote tb) p w) n0 ann b m s' t'
          | none => none) = some (f, s', c, q) := h
    unfold segRun
    cases ht : endAt b t with
    | some g => rw [ht] at h1; cases h1; rfl
    | none =>
      rw [ht] at h1
      cases hk : stepOk n0 ann t with
      | false => rw [hk] at h1; cases h1
      | true =>
        rw [hk] at h1
        have h2 : (match stepT (denote tb) p w s t with
          | some (s', t') => frS s' fun s' => segF (stepT (denote tb) p w) n0 ann b m s' t'
          | none => none) = some (f, s', c, q) := h1
        cases hs : stepT (denote tb) p w s t with
        | none => rw [hs] at h2; cases h2
        | some r =>
          obtain ⟨s2, t2⟩ := r
          rw [hs] at h2
          have h3 : (frS s2 fun s' => segF (stepT (denote tb) p w) n0 ann b m s' t2) = some (f, s', c, q) := h2
          rw [frS_eq] at h3
          have z := segF_ok h3
          show (match step (denote tb) p w s.abs t with
            | .go s' t' => segRun tb p w n0 ann b m s' t'
            | .halt _ _ => none) = some (f, s'.abs, c, q)
          rw [stepT_spec hs]
          exact z
end
/-- the boot's heap as a tree -/
def bt0 (P : Params) : PySem.W.BT := match putAll (boot_heap P).objs.toList .nil 0 with
  | some (t, _) => t
  | none => .nil
def st0 (n : Nat) (w : World) (os : OsState) : SharedT := bootT w os (bt0 w.params, n)
/-- the parts of a program's text by their places -/
def nthS (l : List Stmt) (i : Nat) : Stmt := (l[i]?).getD (.Pass default)
def fb : Stmt → List Stmt
  | .FunctionDef (body := b) .. => b
  | .ClassDef (body := b) .. => b
  | _ => []
def fa : Stmt → Arguments
  | .FunctionDef (args := a) .. => a
  | _ => ⟨[], [], none, [], [], none, []⟩
def fs : Stmt → Scope
  | .FunctionDef (scope := s) .. => s
  | .ClassDef (scope := s) .. => s
  | _ => ⟨.function, [], false, false, []⟩
/-- some objects put into a tree -/
def insL : List (Nat × Obj) → PySem.W.BT → PySem.W.BT
  | [], t => t
  | x :: xs, t => insL xs (t.ins x.1 x.2)
/-- the state at a cut: the boot's tree with these objects -/
def cutS (L : Params → List (Nat × Obj)) (n : Nat) (life : Life) (gens : Array GenState) (dr : Drawn) (toks : Nat) (w : World) (os : OsState) : SharedT := ⟨insL (L w.params) (bt0 w.params), n, life, gens, dr, toks, os⟩
def pcQ (l : List Stmt) (env : Env) (c : Code) (x fp : Pos) : Thread := ⟨(exQ l env).wrap doneF deadEnd id id, c, x, [topFrame fp]⟩
def blQ (b : List Stmt) (env : Env) (c : Code) (x fp : Pos) : Thread := ⟨(bsQ b env).wrap (fun _ => doneF .next) deadEnd id id, c, x, [topFrame fp]⟩
def rsQ (l : List Stmt) (env : Env) (c : Code) (x fp : Pos) : Thread := ⟨(exQ l env).wrap doneF (leaveH env) id id, c, x, [topFrame fp]⟩
def bdQ (b : List Stmt) (env : Env) (c : Code) (x fp : Pos) : Thread := ⟨denQ tabQ (.body b env), c, x, [topFrame fp]⟩
section
variable {p q : Program} {n0 : Nat} {env : Env} {c : Code} {fp : Pos}
/-- a run to the top's end, from the state at a cut -/
def TopOk (p : Program) (n0 N : Nat) (env : Env) (c : Code) (fp : Pos) (S : World → OsState → SharedT) (l : List Stmt) (x : Pos) (R : World → OsState → SharedT → Prop) : Prop :=
  ∀ (w : World) (os : OsState), ∃ s : SharedT, topRun treeTable p w n0 (bootAnn w) N (S w os).abs (restOf l env c x [topFrame fp]) = some s.abs ∧ R w os s
theorem top_last {M : Nat} {S : World → OsState → SharedT} {l : List Stmt} {x : Pos} {α : Type} {A : World → SharedT → α} {a : World → α} (h : ∀ (w : World) (os : OsState), (goF (stepQ (denQ tabQ) p w) n0 (bootAnn w) M (S w os) (rsQ l env c x fp)).map (A w) = some (a w)) :
    TopOk p n0 M env c fp S l x fun w _ s => A w s = a w := fun w os => by
  obtain ⟨s, hs, hv⟩ := Option.map_eq_some_iff.mp (h w os)
  refine ⟨s, ?_, hv⟩
  unfold restOf
  rw [exQ_eq]
  refine goF_ok ?_
  rw [stepQ_eq, denQ_eq, tabQ_eq]
  exact hs
theorem top_end {M : Nat} {S : World → OsState → SharedT} {x : Pos} (h : ∀ (w : World) (os : OsState), goF (stepQ (denQ tabQ) p w) n0 (bootAnn w) M (S w os) (rsQ [] env c x fp) = some (S w os)) :
    TopOk p n0 M env c fp S [] x fun w os s => s = S w os := fun w os => by
  refine ⟨S w os, ?_, rfl⟩
  unfold restOf
  rw [exQ_eq]
  refine goF_ok ?_
  rw [stepQ_eq, denQ_eq, tabQ_eq]
  exact h w os
theorem TopOk.imp {N : Nat} {S : World → OsState → SharedT} {l : List Stmt} {x : Pos} {R R' : World → OsState → SharedT → Prop} (t : TopOk p n0 N env c fp S l x R) (i : ∀ w os s, R w os s → R' w os s) : TopOk p n0 N env c fp S l x R' := fun w os => by
  obtain ⟨s, hs, hr⟩ := t w os
  exact ⟨s, hs, i w os s hr⟩
theorem top_seg {M N : Nat} {S S' : World → OsState → SharedT} {l l' : List Stmt} {x x' : Pos} {R : World → OsState → SharedT → Prop} (h : ∀ (w : World) (os : OsState), segF (stepQ (denQ tabQ) p w) n0 (bootAnn w) 1 M (S w os) (pcQ l env c x fp) = some (.next, S' w os, c, x'))
    (k : TopOk p n0 N env c fp S' l' x' R) : TopOk p n0 (M + N) env c fp S (l ++ l') x R := fun w os => by
  obtain ⟨s, hs, hR⟩ := k w os
  refine ⟨s, piece_app (q := fp) ?_ hs, hR⟩
  have z := h w os
  unfold pcQ at z
  rw [← stepQ_eq, ← denQ_eq, ← tabQ_eq, ← exQ_eq] at z
  exact segF_ok z
theorem left_cut {N M k mb : Nat} {loose : List Str} {Xt : Shared → Bool} {α : Type} {Yf : Shared → α} {Ya : World → α} {b : List Stmt} {x0 x1 : Pos} {Sa : World → OsState → SharedT}
    (e : opening p = plainProg p.main.scope.names) (hN : Nat.ble 600 N = true) (f : ∀ s, fenceModules? p s = some s) (le : Nat.ble (k + (mb + M)) N = true) (sz : ∀ P, (boot_heap P).objs.size = n0) (pa : ∀ P, (putAll (boot_heap P).objs.toList .nil 0).isSome = true)
    (pre : ∀ (w : World) (os : OsState), goP (stepQ (denQ tabQ) p w) n0 (bootAnn w) k (st0 n0 w os) (topStub p) = some (Sa w os, bdQ b env c x0 fp))
    (blk : ∀ (w : World) (os : OsState), segF (stepQ (denQ tabQ) p w) n0 (bootAnn w) 1 mb (Sa w os) (blQ b env c x0 fp) = some (.next, Sa w os, c, x1))
    (run : TopOk p n0 M env c fp Sa b x1 fun w _ s => (looksF p (boot_heap w.params) s.abs, seenQ q loose (importedModules p.main.body) Xt s.abs, Yf s.abs) = (true, openGood q loose, Ya w)) :
    LeftO p q loose Xt Yf Ya N true := fun w => by
  obtain ⟨⟨h, gs, d, k', os⟩, a, a'⟩ := Option.map_eq_some_iff.mp (boot_open e hN f w)
  obtain ⟨rfl, rfl, rfl, rfl⟩ : h = boot_heap w.params ∧ gs = Array.mk [] ∧ d = boot_drawn ∧ k' = boot_toks := by simpa using a'
  obtain ⟨s, hs, hv⟩ := run w os
  obtain ⟨l1, l2, l3⟩ : _ ∧ _ ∧ _ := by simpa only [Prod.mk.injEq] using hv
  rw [← seenQ_eq] at l2
  have hb : topRun treeTable p w n0 (bootAnn w) (mb + M) (Sa w os).abs ⟨denote treeTable (.body b env), c, x0, [topFrame fp]⟩ = some s.abs := by
    refine piece_block (q := fp) ?_ hs
    have z := blk w os
    unfold blQ at z
    rw [← stepQ_eq, ← denQ_eq, ← tabQ_eq, ← bsQ_eq] at z
    exact segF_ok z
  have hp : topRun treeTable p w n0 (bootAnn w) (k + (mb + M)) (st0 n0 w os).abs (topStub p) = some s.abs := by
    refine go_top ?_ hb
    have z := pre w os
    unfold bdQ at z
    rw [← stepQ_eq, ← denQ_eq, ← tabQ_eq] at z
    exact goP_ok z
  have e0 : (st0 n0 w os).abs = ⟨boot_heap w.params, #[], boot_drawn, boot_toks, os⟩ := by
    unfold st0 bt0
    have pw := pa w.params
    cases c0 : putAll (boot_heap w.params).objs.toList .nil 0 with
    | none => rw [c0] at pw; cases pw
    | some r =>
      obtain ⟨t, n⟩ := r
      have eh := putAll_heap c0
      have en : (boot_heap w.params).objs.size = n := by
        rw [← eh]
        exact absHeap_size t n _
      rw [sz] at en
      subst en
      show (⟨absHeap t n0 (boot_heap w.params).life, #[], boot_drawn, boot_toks, os⟩ : Shared) = _
      rw [eh]
  rw [e0] at hp
  rw [← sz w.params] at hp
  have r := topRun_mono (N - (k + (mb + M))) _ _ _ _ hp
  rw [show k + (mb + M) + (N - (k + (mb + M))) = N by have := Nat.le_of_ble_eq_true le; omega] at r
  have l1' : (staticsOk (importedModules p.main.body) (boot_heap w.params) s.abs.heap && namesBound p s.abs.heap && gensDone s.abs && laidKept (boot_heap w.params) s.abs.heap) = true := l1
  have t : topFrom treeTable p w N ⟨boot_heap w.params, Array.mk [], boot_drawn, boot_toks, os⟩ = some s.abs := by
    unfold topFrom
    dsimp only
    rw [boot_ns]
    show (topRun treeTable p w (boot_heap w.params).objs.size (bootAnn w) N ⟨boot_heap w.params, #[], boot_drawn, boot_toks, os⟩ (topStub p)).bind _ = _
    rw [r]
    show (match staticsOk (importedModules p.main.body) (boot_heap w.params) s.abs.heap && namesBound p s.abs.heap && gensDone s.abs && laidKept (boot_heap w.params) s.abs.heap with | true => some s.abs | false => none) = _
    rw [l1']
  unfold openEnds
  rw [a]
  show (topFrom treeTable p w N _).map _ = _
  rw [t]
  exact congrArg some (Prod.ext l2 l3)
/-- the tables of the lambdas' makers beside the written part -/
theorem kl_in {K : Params → Frag} {ts as : List Addr} {e : ∀ P, as = (K P ++ List.map (fun a => (a, tabObj #[])) ts).map (·.1)} {w : World} {h : Heap} (Y : (kHook (fun P => K P ++ List.map (fun a => (a, tabObj #[])) ts) as e).says w h) : (K w.params).In h := fun a o hk => by
  refine Y a o ?_
  show (K w.params ++ _).lookup a = some o
  rw [List.lookup_append, hk]
  rfl
theorem tab_lk {P : Addr} : ∀ {ts : List Addr}, P ∈ ts → (List.map (fun a => (a, tabObj #[])) ts).lookup P = some (tabObj #[])
  | a :: ts, h => by
    rw [List.map_cons, List.lookup_cons]
    by_cases e : P = a
    · rw [show (P == a) = true from beq_iff_eq.mpr e]
    · rw [show (P == a) = false from beq_eq_false_iff_ne.mpr e]
      rcases List.mem_cons.mp h with h | h
      · exact absurd h e
      · exact tab_lk h
theorem kl_tabs {K : Params → Frag} {ts as : List Addr} {e : ∀ P, as = (K P ++ List.map (fun a => (a, tabObj #[])) ts).map (·.1)} {w : World} {h : Heap} (Y : (kHook (fun P => K P ++ List.map (fun a => (a, tabObj #[])) ts) as e).says w h) (P : Addr) (hP : P ∈ ts) (n : (K w.params).lookup P = none) : h.get? P = some (tabObj #[]) := by
  refine Y P _ ?_
  show (K w.params ++ _).lookup P = _
  rw [List.lookup_append, n, tab_lk hP]
  rfl
end
end Cut

end
set_option Elab.async false
set_option linter.all false
set_option maxRecDepth 100000
set_option maxHeartbeats 0
noncomputable section
namespace Hd
open PySem PySem.W PySem.Calls PyProof.Rows HeadRun Cut
abbrev R : OpenRow := OpenLaw.row PySem.Challenge.rw_strandclasses_k07_exceptions_by_class
abbrev pg : Program := R.prog
abbrev bd : List Stmt := behindTheImports pg
abbrev q : Program := view pg [1, 2, 3, 4, 5, 6, 7, 8, 9, 10, 11, 12, 13, 14, 15, 16, 17, 18, 19, 20, 21, 22, 23, 24, 25, 26, 27, 28, 29, 30, 31, 32, 33, 34, 35, 37, 38, 39, 40, 41, 42, 43, 44, 45, 46, 47]
def loose : List Str := []
abbrev kh (P : Params) (s : Str) := PyData.keyHash P s
def env : Env := { scope := pg.main.scope, locals := mainNs, globals := mainNs, cells := [], code := (.ref 13), frame := some 14 }
def cd : Code := .body bd env
abbrev de (P : Params) (x : Str) (n : Nat) (v : Value) : DictEntry := ⟨kh P x, .str x n, v⟩
abbrev em : Obj := .mk .none none (.fields #[]) #[]
abbrev tu (xs : Array Value) : Obj := .mk (.type "tuple") none (.seq xs 0) #[]
abbrev dc (xs : Array DictEntry) (n : Nat) : Obj := .mk (.type "dict") none (.dict xs n) #[]
abbrev co (x : Str) (n : Nat) (y : Str) (m : Nat) (z : Str) (k : Nat) (a b c d e : Int) (r : Addr) (f : Bool) (i : Int) (s : Addr) (xs : Array Value) : Obj := .mk (.type "code") none (.fields (#[.str x n, .str y m, .str z k, .int a 0, .int b 0, .int c 0, .int d 0, .int e 0, .ref r, .bool f, .int i 0, .ref s] ++ xs)) #[]
abbrev fu (x y : Str) (s t : Stmt) (cl : List (Str × Addr)) (a b c d : Value) (an : Option Addr) (cd ct : Value) (bi : Addr) : Obj := .mk (.type "function") none (.func (.mk x y (fa s) (.stmts (fb s)) (fs t) 3 cl a b c d an cd ct bi)) #[]
def La (P : Params) : List (Nat × Obj) := [(11, (tu #[])),
  (12, em),
  (13, (co "<module>" 182 "<module>" 183 "/claim/cut.py" 184 1 0 0 0 0 11 false 181 12 #[.none, .none, .none, .none, (.int 185 0), (.int 1 0), (.str "/claim/cut.py" 186)])),
  (14, (.mk (.type "frame") none .plain #[(some (.ref 13)), (some (.ref 3)), (some (.ref 3)), none, (some (.str "__main__" 164)), none, (some (.ref 0))]))]
def Ma (P : Params) : List (Nat × Obj) := La P
def Sa : World → OsState → SharedT := cutS Ma 15 (.mk [] [] [] 0 [] [] false #[] [] 0 false false false 0 [2000, 10, 10] false 0 true [] [] 0 false) #[] (.mk 0 0 0 0) 187
def L0 (P : Params) : List (Nat × Obj) := [(2, (.mk .none none (.dict #[(de P "type.__subclasses__.KeyError.0" 223 (.int 37 0)), (de P "type.__subclasses__.KeyError.n" 224 (.int 1 0))] 2) #[])),
  (3, (dc #[(de P "__name__" 165 (.str "strandclasses.errors" 187)), (de P "__doc__" 166 .none), (de P "__package__" 167 .none), (de P "__loader__" 168 (.builtin "__main__.__loader__#opaque")), (de P "__spec__" 169 .none), (de P "__annotations__" 170 (.ref 6)), (de P "__builtins__" 171 (.ref 4)), (de P "__file__" 173 (.str "/claim/cut.py" 172)), (de P "__cached__" 174 .none), (de P "StrandError" 206 (.ref 24)), (de P "Missing" 226 (.ref 37)), (de P "Blocked" 244 (.ref 50)), (de P "InvalidInteger" 271 (.ref 72)), (de P "InvalidArity" 298 (.ref 93)), (de P "InvalidPlace" 325 (.ref 114)), (de P "InvalidPlaces" 352 (.ref 135)), (de P "InvalidCover" 379 (.ref 156)), (de P "InvalidPairs" 406 (.ref 177)), (de P "InvalidTable" 433 (.ref 198)), (de P "Mismatch" 462 (.ref 219)), (de P "InvalidWord" 489 (.ref 240)), (de P "InvalidPath" 516 (.ref 261)), (de P "InvalidText" 543 (.ref 282)), (de P "InvalidDiagram" 570 (.ref 303)), (de P "InvalidStep" 597 (.ref 324))] 25)),
  (12, (.mk .none none (.fields #[(.int 2 0), (.int 0 0), (.ref 20), (.int 4 0), (.int 0 0), (.ref 33), (.int 6 0), (.int 0 0), (.ref 46), (.int 8 0), (.int 0 0), (.ref 60), (.int 13 0), (.int 0 0), (.ref 81), (.int 18 0), (.int 0 0), (.ref 102), (.int 23 0), (.int 0 0), (.ref 123), (.int 28 0), (.int 0 0), (.ref 144), (.int 33 0), (.int 0 0), (.ref 165), (.int 38 0), (.int 0 0), (.ref 186), (.int 43 0), (.int 0 0), (.ref 207), (.int 49 0), (.int 0 0), (.ref 228), (.int 54 0), (.int 0 0), (.ref 249), (.int 59 0), (.int 0 0), (.ref 270), (.int 64 0), (.int 0 0), (.ref 291), (.int 69 0), (.int 0 0), (.ref 312)]) #[])),
  (15, (tu #[(.type "ValueError")])),
  (16, (.mk (.type "builtin_function_or_method") none (.fields #[(.builtin "type.__prepare__"), (.type "type")]) #[])),
  (17, (dc #[(de P "__module__" 196 (.str "strandclasses.errors" 187)), (de P "__qualname__" 198 (.str "StrandError" 197)), (de P "__firstlineno__" 200 (.int 2 199)), (de P "__static_attributes__" 201 (.ref 22))] 4)),
  (18, (tu #[])),
  (19, em),
  (20, (co "StrandError" 191 "StrandError" 192 "/claim/cut.py" 193 2 0 0 0 0 18 false 181 19 #[.none, .none, .none, .none, (.int 194 0), (.int 2 0), (.str "/claim/cut.py" 195)])),
  (21, (.mk (.type "frame") none .plain #[(some (.ref 20)), (some (.ref 3)), (some (.ref 17)), none, (some (.str "strandclasses.errors" 187)), none, (some (.ref 0))])),
  (22, (tu #[])),
  (23, (dc #[(de P "__module__" 196 (.str "strandclasses.errors" 187)), (de P "__firstlineno__" 200 (.int 2 199)), (de P "__static_attributes__" 201 (.ref 22)), (de P "__weakref__" 203 (.ref 25)), (de P "__doc__" 204 .none)] 3)),
  (24, (.mk (.type "type") none (.cls (.mk "StrandError" [(.type "ValueError")] [(.ref 24), (.type "ValueError"), (.type "Exception"), (.type "BaseException"), (.type "object")] 23 "StrandError" true [] [(.ref 72), (.ref 93), (.ref 114), (.ref 135), (.ref 156), (.ref 177), (.ref 198), (.ref 219), (.ref 240), (.ref 261), (.ref 282), (.ref 303), (.ref 324)] false none false)) #[(some (.ref 15)), none, (some (.str "StrandError" 189)), (some (.str "StrandError" 197)), (some (.builtin "ValueError.__new__")), (some (.bool true))])),
  (25, (.mk (.type "getset_descriptor") none (.fields #[(.str "__weakref__" 202), (.ref 24), (.builtin "ExceptionGroup.__weakref__"), .none]) #[])),
  (26, (.mk (.type "super") none (.fields #[(.ref 24), (.ref 24), (.ref 24)]) #[])),
  (27, (.mk (.type "builtin_function_or_method") none (.fields #[(.builtin "object.__init_subclass__"), (.ref 24)]) #[])),
  (28, (tu #[(.type "KeyError")])),
  (29, (.mk (.type "builtin_function_or_method") none (.fields #[(.builtin "type.__prepare__"), (.type "type")]) #[])),
  (30, (dc #[(de P "__module__" 214 (.str "strandclasses.errors" 187)), (de P "__qualname__" 216 (.str "Missing" 215)), (de P "__firstlineno__" 218 (.int 4 217)), (de P "__static_attributes__" 219 (.ref 35))] 4)),
  (31, (tu #[])),
  (32, em),
  (33, (co "Missing" 209 "Missing" 210 "/claim/cut.py" 211 4 0 0 0 0 31 false 181 32 #[.none, .none, .none, .none, (.int 212 0), (.int 4 0), (.str "/claim/cut.py" 213)])),
  (34, (.mk (.type "frame") none .plain #[(some (.ref 33)), (some (.ref 3)), (some (.ref 30)), none, (some (.str "strandclasses.errors" 187)), none, (some (.ref 0))])),
  (35, (tu #[])),
  (36, (dc #[(de P "__module__" 214 (.str "strandclasses.errors" 187)), (de P "__firstlineno__" 218 (.int 4 217)), (de P "__static_attributes__" 219 (.ref 35)), (de P "__weakref__" 221 (.ref 38)), (de P "__doc__" 222 .none)] 3)),
  (37, (.mk (.type "type") none (.cls (.mk "Missing" [(.type "KeyError")] [(.ref 37), (.type "KeyError"), (.type "LookupError"), (.type "Exception"), (.type "BaseException"), (.type "object")] 36 "Missing" true [] [] false none false)) #[(some (.ref 28)), none, (some (.str "Missing" 207)), (some (.str "Missing" 215)), (some (.builtin "LookupError.__new__")), (some (.bool true))])),
  (38, (.mk (.type "getset_descriptor") none (.fields #[(.str "__weakref__" 220), (.ref 37), (.builtin "ExceptionGroup.__weakref__"), .none]) #[])),
  (39, (.mk (.type "super") none (.fields #[(.ref 37), (.ref 37), (.ref 37)]) #[])),
  (40, (.mk (.type "builtin_function_or_method") none (.fields #[(.builtin "object.__init_subclass__"), (.ref 37)]) #[])),
  (41, (tu #[(.type "LookupError")])),
  (42, (.mk (.type "builtin_function_or_method") none (.fields #[(.builtin "type.__prepare__"), (.type "type")]) #[])),
  (43, (dc #[(de P "__module__" 234 (.str "strandclasses.errors" 187)), (de P "__qualname__" 236 (.str "Blocked" 235)), (de P "__firstlineno__" 238 (.int 6 237)), (de P "__static_attributes__" 239 (.ref 48))] 4)),
  (44, (tu #[])),
  (45, em),
  (46, (co "Blocked" 229 "Blocked" 230 "/claim/cut.py" 231 6 0 0 0 0 44 false 181 45 #[.none, .none, .none, .none, (.int 232 0), (.int 6 0), (.str "/claim/cut.py" 233)])),
  (47, (.mk (.type "frame") none .plain #[(some (.ref 46)), (some (.ref 3)), (some (.ref 43)), none, (some (.str "strandclasses.errors" 187)), none, (some (.ref 0))])),
  (48, (tu #[])),
  (49, (dc #[(de P "__module__" 234 (.str "strandclasses.errors" 187)), (de P "__firstlineno__" 238 (.int 6 237)), (de P "__static_attributes__" 239 (.ref 48)), (de P "__weakref__" 241 (.ref 51)), (de P "__doc__" 242 .none)] 3)),
  (50, (.mk (.type "type") none (.cls (.mk "Blocked" [(.type "LookupError")] [(.ref 50), (.type "LookupError"), (.type "Exception"), (.type "BaseException"), (.type "object")] 49 "Blocked" true [] [] false none false)) #[(some (.ref 41)), none, (some (.str "Blocked" 227)), (some (.str "Blocked" 235)), (some (.builtin "LookupError.__new__")), (some (.bool true))])),
  (51, (.mk (.type "getset_descriptor") none (.fields #[(.str "__weakref__" 240), (.ref 50), (.builtin "ExceptionGroup.__weakref__"), .none]) #[])),
  (52, (.mk (.type "super") none (.fields #[(.ref 50), (.ref 50), (.ref 50)]) #[])),
  (53, (.mk (.type "builtin_function_or_method") none (.fields #[(.builtin "object.__init_subclass__"), (.ref 50)]) #[])),
  (54, (tu #[(.ref 24)])),
  (55, (.mk (.type "builtin_function_or_method") none (.fields #[(.builtin "type.__prepare__"), (.type "type")]) #[])),
  (56, (dc #[(de P "__module__" 252 (.str "strandclasses.errors" 187)), (de P "__qualname__" 254 (.str "InvalidInteger" 253)), (de P "__firstlineno__" 256 (.int 8 255)), (de P "__init__" 265 (.ref 69)), (de P "__static_attributes__" 267 (.ref 70)), (de P "__classcell__" 268 (.ref 57))] 6)),
  (57, (.mk (.type "cell") none (.cell (some (.ref 72))) #[])),
  (58, (tu #[])),
  (59, (.mk .none none (.fields #[(.int 10 0), (.int 4 0), (.ref 68)]) #[])),
  (60, (co "InvalidInteger" 247 "InvalidInteger" 248 "/claim/cut.py" 249 8 0 0 0 0 58 false 181 59 #[.none, .none, .none, .none, (.int 250 0), (.int 8 0), (.str "/claim/cut.py" 251)])),
  (61, (.mk (.type "frame") none .plain #[(some (.ref 60)), (some (.ref 3)), (some (.ref 56)), none, (some (.str "strandclasses.errors" 187)), none, (some (.ref 0))])),
  (62, (tu #[(.ref 57)])),
  (63, (tu #[(.str "__class__" 260)])),
  (64, em),
  (65, (tu #[(.str "self" 261), (.str "value" 262)])),
  (66, (tu #[])),
  (67, (.mk .none none (.func (.mk "__init__" "InvalidInteger.__init__" (fa (nthS (fb (nthS bd 4)) 0)) (.stmts (fb (nthS (fb (nthS bd 4)) 0))) (fs (nthS (fb (nthS bd 32)) 0)) 0 [] .none .none .none .none none .none .none 0)) #[])),
  (68, (co "__init__" 257 "InvalidInteger.__init__" 258 "/claim/cut.py" 259 10 2 0 0 3 63 true 181 64 #[.none, (.ref 65), (.ref 66), (.ref 67), (.int 263 0), (.int 10 0), (.str "/claim/cut.py" 264)])),
  (69, (fu "__init__" "InvalidInteger.__init__" (nthS (fb (nthS bd 4)) 0) (nthS (fb (nthS bd 32)) 0) [("__class__", 57)] .none .none .none (.str "strandclasses.errors" 187) none (.ref 68) (.ref 62) 0)),
  (70, (tu #[(.str "value" 266)])),
  (71, (dc #[(de P "__module__" 252 (.str "strandclasses.errors" 187)), (de P "__firstlineno__" 256 (.int 8 255)), (de P "__init__" 265 (.ref 69)), (de P "__static_attributes__" 267 (.ref 70)), (de P "__doc__" 269 .none)] 3)),
  (72, (.mk (.type "type") none (.cls (.mk "InvalidInteger" [(.ref 24)] [(.ref 72), (.ref 24), (.type "ValueError"), (.type "Exception"), (.type "BaseException"), (.type "object")] 71 "InvalidInteger" true [] [] false none false)) #[(some (.ref 54)), none, (some (.str "InvalidInteger" 245)), (some (.str "InvalidInteger" 253)), (some (.builtin "ValueError.__new__")), (some (.bool true))])),
  (73, (.mk (.type "super") none (.fields #[(.ref 72), (.ref 72), (.ref 72)]) #[])),
  (74, (.mk (.type "builtin_function_or_method") none (.fields #[(.builtin "object.__init_subclass__"), (.ref 72)]) #[])),
  (75, (tu #[(.ref 24)])),
  (76, (.mk (.type "builtin_function_or_method") none (.fields #[(.builtin "type.__prepare__"), (.type "type")]) #[])),
  (77, (dc #[(de P "__module__" 279 (.str "strandclasses.errors" 187)), (de P "__qualname__" 281 (.str "InvalidArity" 280)), (de P "__firstlineno__" 283 (.int 13 282)), (de P "__init__" 292 (.ref 90)), (de P "__static_attributes__" 294 (.ref 91)), (de P "__classcell__" 295 (.ref 78))] 6)),
  (78, (.mk (.type "cell") none (.cell (some (.ref 93))) #[])),
  (79, (tu #[])),
  (80, (.mk .none none (.fields #[(.int 15 0), (.int 4 0), (.ref 89)]) #[])),
  (81, (co "InvalidArity" 274 "InvalidArity" 275 "/claim/cut.py" 276 13 0 0 0 0 79 false 181 80 #[.none, .none, .none, .none, (.int 277 0), (.int 13 0), (.str "/claim/cut.py" 278)])),
  (82, (.mk (.type "frame") none .plain #[(some (.ref 81)), (some (.ref 3)), (some (.ref 77)), none, (some (.str "strandclasses.errors" 187)), none, (some (.ref 0))])),
  (83, (tu #[(.ref 78)])),
  (84, (tu #[(.str "__class__" 287)])),
  (85, em),
  (86, (tu #[(.str "self" 288), (.str "value" 289)])),
  (87, (tu #[])),
  (88, (.mk .none none (.func (.mk "__init__" "InvalidArity.__init__" (fa (nthS (fb (nthS bd 5)) 0)) (.stmts (fb (nthS (fb (nthS bd 5)) 0))) (fs (nthS (fb (nthS bd 32)) 0)) 0 [] .none .none .none .none none .none .none 0)) #[])),
  (89, (co "__init__" 284 "InvalidArity.__init__" 285 "/claim/cut.py" 286 15 2 0 0 3 84 true 181 85 #[.none, (.ref 86), (.ref 87), (.ref 88), (.int 290 0), (.int 15 0), (.str "/claim/cut.py" 291)])),
  (90, (fu "__init__" "InvalidArity.__init__" (nthS (fb (nthS bd 5)) 0) (nthS (fb (nthS bd 32)) 0) [("__class__", 78)] .none .none .none (.str "strandclasses.errors" 187) none (.ref 89) (.ref 83) 0)),
  (91, (tu #[(.str "value" 293)])),
  (92, (dc #[(de P "__module__" 279 (.str "strandclasses.errors" 187)), (de P "__firstlineno__" 283 (.int 13 282)), (de P "__init__" 292 (.ref 90)), (de P "__static_attributes__" 294 (.ref 91)), (de P "__doc__" 296 .none)] 3)),
  (93, (.mk (.type "type") none (.cls (.mk "InvalidArity" [(.ref 24)] [(.ref 93), (.ref 24), (.type "ValueError"), (.type "Exception"), (.type "BaseException"), (.type "object")] 92 "InvalidArity" true [] [] false none false)) #[(some (.ref 75)), none, (some (.str "InvalidArity" 272)), (some (.str "InvalidArity" 280)), (some (.builtin "ValueError.__new__")), (some (.bool true))])),
  (94, (.mk (.type "super") none (.fields #[(.ref 93), (.ref 93), (.ref 93)]) #[])),
  (95, (.mk (.type "builtin_function_or_method") none (.fields #[(.builtin "object.__init_subclass__"), (.ref 93)]) #[])),
  (96, (tu #[(.ref 24)])),
  (97, (.mk (.type "builtin_function_or_method") none (.fields #[(.builtin "type.__prepare__"), (.type "type")]) #[])),
  (98, (dc #[(de P "__module__" 306 (.str "strandclasses.errors" 187)), (de P "__qualname__" 308 (.str "InvalidPlace" 307)), (de P "__firstlineno__" 310 (.int 18 309)), (de P "__init__" 319 (.ref 111)), (de P "__static_attributes__" 321 (.ref 112)), (de P "__classcell__" 322 (.ref 99))] 6)),
  (99, (.mk (.type "cell") none (.cell (some (.ref 114))) #[])),
  (100, (tu #[])),
  (101, (.mk .none none (.fields #[(.int 20 0), (.int 4 0), (.ref 110)]) #[])),
  (102, (co "InvalidPlace" 301 "InvalidPlace" 302 "/claim/cut.py" 303 18 0 0 0 0 100 false 181 101 #[.none, .none, .none, .none, (.int 304 0), (.int 18 0), (.str "/claim/cut.py" 305)])),
  (103, (.mk (.type "frame") none .plain #[(some (.ref 102)), (some (.ref 3)), (some (.ref 98)), none, (some (.str "strandclasses.errors" 187)), none, (some (.ref 0))])),
  (104, (tu #[(.ref 99)])),
  (105, (tu #[(.str "__class__" 314)])),
  (106, em),
  (107, (tu #[(.str "self" 315), (.str "value" 316)])),
  (108, (tu #[])),
  (109, (.mk .none none (.func (.mk "__init__" "InvalidPlace.__init__" (fa (nthS (fb (nthS bd 6)) 0)) (.stmts (fb (nthS (fb (nthS bd 6)) 0))) (fs (nthS (fb (nthS bd 32)) 0)) 0 [] .none .none .none .none none .none .none 0)) #[])),
  (110, (co "__init__" 311 "InvalidPlace.__init__" 312 "/claim/cut.py" 313 20 2 0 0 3 105 true 181 106 #[.none, (.ref 107), (.ref 108), (.ref 109), (.int 317 0), (.int 20 0), (.str "/claim/cut.py" 318)])),
  (111, (fu "__init__" "InvalidPlace.__init__" (nthS (fb (nthS bd 6)) 0) (nthS (fb (nthS bd 32)) 0) [("__class__", 99)] .none .none .none (.str "strandclasses.errors" 187) none (.ref 110) (.ref 104) 0)),
  (112, (tu #[(.str "value" 320)])),
  (113, (dc #[(de P "__module__" 306 (.str "strandclasses.errors" 187)), (de P "__firstlineno__" 310 (.int 18 309)), (de P "__init__" 319 (.ref 111)), (de P "__static_attributes__" 321 (.ref 112)), (de P "__doc__" 323 .none)] 3)),
  (114, (.mk (.type "type") none (.cls (.mk "InvalidPlace" [(.ref 24)] [(.ref 114), (.ref 24), (.type "ValueError"), (.type "Exception"), (.type "BaseException"), (.type "object")] 113 "InvalidPlace" true [] [] false none false)) #[(some (.ref 96)), none, (some (.str "InvalidPlace" 299)), (some (.str "InvalidPlace" 307)), (some (.builtin "ValueError.__new__")), (some (.bool true))])),
  (115, (.mk (.type "super") none (.fields #[(.ref 114), (.ref 114), (.ref 114)]) #[])),
  (116, (.mk (.type "builtin_function_or_method") none (.fields #[(.builtin "object.__init_subclass__"), (.ref 114)]) #[])),
  (117, (tu #[(.ref 24)])),
  (118, (.mk (.type "builtin_function_or_method") none (.fields #[(.builtin "type.__prepare__"), (.type "type")]) #[])),
  (119, (dc #[(de P "__module__" 333 (.str "strandclasses.errors" 187)), (de P "__qualname__" 335 (.str "InvalidPlaces" 334)), (de P "__firstlineno__" 337 (.int 23 336)), (de P "__init__" 346 (.ref 132)), (de P "__static_attributes__" 348 (.ref 133)), (de P "__classcell__" 349 (.ref 120))] 6)),
  (120, (.mk (.type "cell") none (.cell (some (.ref 135))) #[])),
  (121, (tu #[])),
  (122, (.mk .none none (.fields #[(.int 25 0), (.int 4 0), (.ref 131)]) #[])),
  (123, (co "InvalidPlaces" 328 "InvalidPlaces" 329 "/claim/cut.py" 330 23 0 0 0 0 121 false 181 122 #[.none, .none, .none, .none, (.int 331 0), (.int 23 0), (.str "/claim/cut.py" 332)])),
  (124, (.mk (.type "frame") none .plain #[(some (.ref 123)), (some (.ref 3)), (some (.ref 119)), none, (some (.str "strandclasses.errors" 187)), none, (some (.ref 0))])),
  (125, (tu #[(.ref 120)])),
  (126, (tu #[(.str "__class__" 341)])),
  (127, em),
  (128, (tu #[(.str "self" 342), (.str "value" 343)])),
  (129, (tu #[])),
  (130, (.mk .none none (.func (.mk "__init__" "InvalidPlaces.__init__" (fa (nthS (fb (nthS bd 7)) 0)) (.stmts (fb (nthS (fb (nthS bd 7)) 0))) (fs (nthS (fb (nthS bd 32)) 0)) 0 [] .none .none .none .none none .none .none 0)) #[])),
  (131, (co "__init__" 338 "InvalidPlaces.__init__" 339 "/claim/cut.py" 340 25 2 0 0 3 126 true 181 127 #[.none, (.ref 128), (.ref 129), (.ref 130), (.int 344 0), (.int 25 0), (.str "/claim/cut.py" 345)])),
  (132, (fu "__init__" "InvalidPlaces.__init__" (nthS (fb (nthS bd 7)) 0) (nthS (fb (nthS bd 32)) 0) [("__class__", 120)] .none .none .none (.str "strandclasses.errors" 187) none (.ref 131) (.ref 125) 0)),
  (133, (tu #[(.str "value" 347)])),
  (134, (dc #[(de P "__module__" 333 (.str "strandclasses.errors" 187)), (de P "__firstlineno__" 337 (.int 23 336)), (de P "__init__" 346 (.ref 132)), (de P "__static_attributes__" 348 (.ref 133)), (de P "__doc__" 350 .none)] 3)),
  (135, (.mk (.type "type") none (.cls (.mk "InvalidPlaces" [(.ref 24)] [(.ref 135), (.ref 24), (.type "ValueError"), (.type "Exception"), (.type "BaseException"), (.type "object")] 134 "InvalidPlaces" true [] [] false none false)) #[(some (.ref 117)), none, (some (.str "InvalidPlaces" 326)), (some (.str "InvalidPlaces" 334)), (some (.builtin "ValueError.__new__")), (some (.bool true))])),
  (136, (.mk (.type "super") none (.fields #[(.ref 135), (.ref 135), (.ref 135)]) #[])),
  (137, (.mk (.type "builtin_function_or_method") none (.fields #[(.builtin "object.__init_subclass__"), (.ref 135)]) #[])),
  (138, (tu #[(.ref 24)])),
  (139, (.mk (.type "builtin_function_or_method") none (.fields #[(.builtin "type.__prepare__"), (.type "type")]) #[])),
  (140, (dc #[(de P "__module__" 360 (.str "strandclasses.errors" 187)), (de P "__qualname__" 362 (.str "InvalidCover" 361)), (de P "__firstlineno__" 364 (.int 28 363)), (de P "__init__" 373 (.ref 153)), (de P "__static_attributes__" 375 (.ref 154)), (de P "__classcell__" 376 (.ref 141))] 6)),
  (141, (.mk (.type "cell") none (.cell (some (.ref 156))) #[])),
  (142, (tu #[])),
  (143, (.mk .none none (.fields #[(.int 30 0), (.int 4 0), (.ref 152)]) #[])),
  (144, (co "InvalidCover" 355 "InvalidCover" 356 "/claim/cut.py" 357 28 0 0 0 0 142 false 181 143 #[.none, .none, .none, .none, (.int 358 0), (.int 28 0), (.str "/claim/cut.py" 359)])),
  (145, (.mk (.type "frame") none .plain #[(some (.ref 144)), (some (.ref 3)), (some (.ref 140)), none, (some (.str "strandclasses.errors" 187)), none, (some (.ref 0))])),
  (146, (tu #[(.ref 141)])),
  (147, (tu #[(.str "__class__" 368)])),
  (148, em),
  (149, (tu #[(.str "self" 369), (.str "value" 370)])),
  (150, (tu #[])),
  (151, (.mk .none none (.func (.mk "__init__" "InvalidCover.__init__" (fa (nthS (fb (nthS bd 8)) 0)) (.stmts (fb (nthS (fb (nthS bd 8)) 0))) (fs (nthS (fb (nthS bd 32)) 0)) 0 [] .none .none .none .none none .none .none 0)) #[])),
  (152, (co "__init__" 365 "InvalidCover.__init__" 366 "/claim/cut.py" 367 30 2 0 0 3 147 true 181 148 #[.none, (.ref 149), (.ref 150), (.ref 151), (.int 371 0), (.int 30 0), (.str "/claim/cut.py" 372)])),
  (153, (fu "__init__" "InvalidCover.__init__" (nthS (fb (nthS bd 8)) 0) (nthS (fb (nthS bd 32)) 0) [("__class__", 141)] .none .none .none (.str "strandclasses.errors" 187) none (.ref 152) (.ref 146) 0)),
  (154, (tu #[(.str "value" 374)])),
  (155, (dc #[(de P "__module__" 360 (.str "strandclasses.errors" 187)), (de P "__firstlineno__" 364 (.int 28 363)), (de P "__init__" 373 (.ref 153)), (de P "__static_attributes__" 375 (.ref 154)), (de P "__doc__" 377 .none)] 3)),
  (156, (.mk (.type "type") none (.cls (.mk "InvalidCover" [(.ref 24)] [(.ref 156), (.ref 24), (.type "ValueError"), (.type "Exception"), (.type "BaseException"), (.type "object")] 155 "InvalidCover" true [] [] false none false)) #[(some (.ref 138)), none, (some (.str "InvalidCover" 353)), (some (.str "InvalidCover" 361)), (some (.builtin "ValueError.__new__")), (some (.bool true))])),
  (157, (.mk (.type "super") none (.fields #[(.ref 156), (.ref 156), (.ref 156)]) #[])),
  (158, (.mk (.type "builtin_function_or_method") none (.fields #[(.builtin "object.__init_subclass__"), (.ref 156)]) #[])),
  (159, (tu #[(.ref 24)])),
  (160, (.mk (.type "builtin_function_or_method") none (.fields #[(.builtin "type.__prepare__"), (.type "type")]) #[])),
  (161, (dc #[(de P "__module__" 387 (.str "strandclasses.errors" 187)), (de P "__qualname__" 389 (.str "InvalidPairs" 388)), (de P "__firstlineno__" 391 (.int 33 390)), (de P "__init__" 400 (.ref 174)), (de P "__static_attributes__" 402 (.ref 175)), (de P "__classcell__" 403 (.ref 162))] 6)),
  (162, (.mk (.type "cell") none (.cell (some (.ref 177))) #[])),
  (163, (tu #[])),
  (164, (.mk .none none (.fields #[(.int 35 0), (.int 4 0), (.ref 173)]) #[])),
  (165, (co "InvalidPairs" 382 "InvalidPairs" 383 "/claim/cut.py" 384 33 0 0 0 0 163 false 181 164 #[.none, .none, .none, .none, (.int 385 0), (.int 33 0), (.str "/claim/cut.py" 386)])),
  (166, (.mk (.type "frame") none .plain #[(some (.ref 165)), (some (.ref 3)), (some (.ref 161)), none, (some (.str "strandclasses.errors" 187)), none, (some (.ref 0))])),
  (167, (tu #[(.ref 162)])),
  (168, (tu #[(.str "__class__" 395)])),
  (169, em),
  (170, (tu #[(.str "self" 396), (.str "value" 397)])),
  (171, (tu #[])),
  (172, (.mk .none none (.func (.mk "__init__" "InvalidPairs.__init__" (fa (nthS (fb (nthS bd 9)) 0)) (.stmts (fb (nthS (fb (nthS bd 9)) 0))) (fs (nthS (fb (nthS bd 32)) 0)) 0 [] .none .none .none .none none .none .none 0)) #[])),
  (173, (co "__init__" 392 "InvalidPairs.__init__" 393 "/claim/cut.py" 394 35 2 0 0 3 168 true 181 169 #[.none, (.ref 170), (.ref 171), (.ref 172), (.int 398 0), (.int 35 0), (.str "/claim/cut.py" 399)])),
  (174, (fu "__init__" "InvalidPairs.__init__" (nthS (fb (nthS bd 9)) 0) (nthS (fb (nthS bd 32)) 0) [("__class__", 162)] .none .none .none (.str "strandclasses.errors" 187) none (.ref 173) (.ref 167) 0)),
  (175, (tu #[(.str "value" 401)])),
  (176, (dc #[(de P "__module__" 387 (.str "strandclasses.errors" 187)), (de P "__firstlineno__" 391 (.int 33 390)), (de P "__init__" 400 (.ref 174)), (de P "__static_attributes__" 402 (.ref 175)), (de P "__doc__" 404 .none)] 3)),
  (177, (.mk (.type "type") none (.cls (.mk "InvalidPairs" [(.ref 24)] [(.ref 177), (.ref 24), (.type "ValueError"), (.type "Exception"), (.type "BaseException"), (.type "object")] 176 "InvalidPairs" true [] [] false none false)) #[(some (.ref 159)), none, (some (.str "InvalidPairs" 380)), (some (.str "InvalidPairs" 388)), (some (.builtin "ValueError.__new__")), (some (.bool true))])),
  (178, (.mk (.type "super") none (.fields #[(.ref 177), (.ref 177), (.ref 177)]) #[])),
  (179, (.mk (.type "builtin_function_or_method") none (.fields #[(.builtin "object.__init_subclass__"), (.ref 177)]) #[])),
  (180, (tu #[(.ref 24)])),
  (181, (.mk (.type "builtin_function_or_method") none (.fields #[(.builtin "type.__prepare__"), (.type "type")]) #[])),
  (182, (dc #[(de P "__module__" 414 (.str "strandclasses.errors" 187)), (de P "__qualname__" 416 (.str "InvalidTable" 415)), (de P "__firstlineno__" 418 (.int 38 417)), (de P "__init__" 427 (.ref 195)), (de P "__static_attributes__" 429 (.ref 196)), (de P "__classcell__" 430 (.ref 183))] 6)),
  (183, (.mk (.type "cell") none (.cell (some (.ref 198))) #[])),
  (184, (tu #[])),
  (185, (.mk .none none (.fields #[(.int 40 0), (.int 4 0), (.ref 194)]) #[])),
  (186, (co "InvalidTable" 409 "InvalidTable" 410 "/claim/cut.py" 411 38 0 0 0 0 184 false 181 185 #[.none, .none, .none, .none, (.int 412 0), (.int 38 0), (.str "/claim/cut.py" 413)])),
  (187, (.mk (.type "frame") none .plain #[(some (.ref 186)), (some (.ref 3)), (some (.ref 182)), none, (some (.str "strandclasses.errors" 187)), none, (some (.ref 0))])),
  (188, (tu #[(.ref 183)])),
  (189, (tu #[(.str "__class__" 422)])),
  (190, em),
  (191, (tu #[(.str "self" 423), (.str "value" 424)])),
  (192, (tu #[])),
  (193, (.mk .none none (.func (.mk "__init__" "InvalidTable.__init__" (fa (nthS (fb (nthS bd 10)) 0)) (.stmts (fb (nthS (fb (nthS bd 10)) 0))) (fs (nthS (fb (nthS bd 32)) 0)) 0 [] .none .none .none .none none .none .none 0)) #[])),
  (194, (co "__init__" 419 "InvalidTable.__init__" 420 "/claim/cut.py" 421 40 2 0 0 3 189 true 181 190 #[.none, (.ref 191), (.ref 192), (.ref 193), (.int 425 0), (.int 40 0), (.str "/claim/cut.py" 426)])),
  (195, (fu "__init__" "InvalidTable.__init__" (nthS (fb (nthS bd 10)) 0) (nthS (fb (nthS bd 32)) 0) [("__class__", 183)] .none .none .none (.str "strandclasses.errors" 187) none (.ref 194) (.ref 188) 0)),
  (196, (tu #[(.str "value" 428)])),
  (197, (dc #[(de P "__module__" 414 (.str "strandclasses.errors" 187)), (de P "__firstlineno__" 418 (.int 38 417)), (de P "__init__" 427 (.ref 195)), (de P "__static_attributes__" 429 (.ref 196)), (de P "__doc__" 431 .none)] 3)),
  (198, (.mk (.type "type") none (.cls (.mk "InvalidTable" [(.ref 24)] [(.ref 198), (.ref 24), (.type "ValueError"), (.type "Exception"), (.type "BaseException"), (.type "object")] 197 "InvalidTable" true [] [] false none false)) #[(some (.ref 180)), none, (some (.str "InvalidTable" 407)), (some (.str "InvalidTable" 415)), (some (.builtin "ValueError.__new__")), (some (.bool true))])),
  (199, (.mk (.type "super") none (.fields #[(.ref 198), (.ref 198), (.ref 198)]) #[])),
  (200, (.mk (.type "builtin_function_or_method") none (.fields #[(.builtin "object.__init_subclass__"), (.ref 198)]) #[])),
  (201, (tu #[(.ref 24)])),
  (202, (.mk (.type "builtin_function_or_method") none (.fields #[(.builtin "type.__prepare__"), (.type "type")]) #[])),
  (203, (dc #[(de P "__module__" 441 (.str "strandclasses.errors" 187)), (de P "__qualname__" 443 (.str "Mismatch" 442)), (de P "__firstlineno__" 445 (.int 43 444)), (de P "__init__" 455 (.ref 216)), (de P "__static_attributes__" 458 (.ref 217)), (de P "__classcell__" 459 (.ref 204))] 6)),
  (204, (.mk (.type "cell") none (.cell (some (.ref 219))) #[])),
  (205, (tu #[])),
  (206, (.mk .none none (.fields #[(.int 45 0), (.int 4 0), (.ref 215)]) #[])),
  (207, (co "Mismatch" 436 "Mismatch" 437 "/claim/cut.py" 438 43 0 0 0 0 205 false 181 206 #[.none, .none, .none, .none, (.int 439 0), (.int 43 0), (.str "/claim/cut.py" 440)])),
  (208, (.mk (.type "frame") none .plain #[(some (.ref 207)), (some (.ref 3)), (some (.ref 203)), none, (some (.str "strandclasses.errors" 187)), none, (some (.ref 0))])),
  (209, (tu #[(.ref 204)])),
  (210, (tu #[(.str "__class__" 449)])),
  (211, em),
  (212, (tu #[(.str "self" 450), (.str "one" 451), (.str "other" 452)])),
  (213, (tu #[])),
  (214, (.mk .none none (.func (.mk "__init__" "Mismatch.__init__" (fa (nthS (fb (nthS bd 11)) 0)) (.stmts (fb (nthS (fb (nthS bd 11)) 0))) (fs (nthS (fb (nthS bd 30)) 0)) 0 [] .none .none .none .none none .none .none 0)) #[])),
  (215, (co "__init__" 446 "Mismatch.__init__" 447 "/claim/cut.py" 448 45 3 0 0 3 210 true 181 211 #[.none, (.ref 212), (.ref 213), (.ref 214), (.int 453 0), (.int 45 0), (.str "/claim/cut.py" 454)])),
  (216, (fu "__init__" "Mismatch.__init__" (nthS (fb (nthS bd 11)) 0) (nthS (fb (nthS bd 30)) 0) [("__class__", 204)] .none .none .none (.str "strandclasses.errors" 187) none (.ref 215) (.ref 209) 0)),
  (217, (tu #[(.str "one" 456), (.str "other" 457)])),
  (218, (dc #[(de P "__module__" 441 (.str "strandclasses.errors" 187)), (de P "__firstlineno__" 445 (.int 43 444)), (de P "__init__" 455 (.ref 216)), (de P "__static_attributes__" 458 (.ref 217)), (de P "__doc__" 460 .none)] 3)),
  (219, (.mk (.type "type") none (.cls (.mk "Mismatch" [(.ref 24)] [(.ref 219), (.ref 24), (.type "ValueError"), (.type "Exception"), (.type "BaseException"), (.type "object")] 218 "Mismatch" true [] [] false none false)) #[(some (.ref 201)), none, (some (.str "Mismatch" 434)), (some (.str "Mismatch" 442)), (some (.builtin "ValueError.__new__")), (some (.bool true))])),
  (220, (.mk (.type "super") none (.fields #[(.ref 219), (.ref 219), (.ref 219)]) #[])),
  (221, (.mk (.type "builtin_function_or_method") none (.fields #[(.builtin "object.__init_subclass__"), (.ref 219)]) #[])),
  (222, (tu #[(.ref 24)])),
  (223, (.mk (.type "builtin_function_or_method") none (.fields #[(.builtin "type.__prepare__"), (.type "type")]) #[])),
  (224, (dc #[(de P "__module__" 470 (.str "strandclasses.errors" 187)), (de P "__qualname__" 472 (.str "InvalidWord" 471)), (de P "__firstlineno__" 474 (.int 49 473)), (de P "__init__" 483 (.ref 237)), (de P "__static_attributes__" 485 (.ref 238)), (de P "__classcell__" 486 (.ref 225))] 6)),
  (225, (.mk (.type "cell") none (.cell (some (.ref 240))) #[])),
  (226, (tu #[])),
  (227, (.mk .none none (.fields #[(.int 51 0), (.int 4 0), (.ref 236)]) #[])),
  (228, (co "InvalidWord" 465 "InvalidWord" 466 "/claim/cut.py" 467 49 0 0 0 0 226 false 181 227 #[.none, .none, .none, .none, (.int 468 0), (.int 49 0), (.str "/claim/cut.py" 469)])),
  (229, (.mk (.type "frame") none .plain #[(some (.ref 228)), (some (.ref 3)), (some (.ref 224)), none, (some (.str "strandclasses.errors" 187)), none, (some (.ref 0))])),
  (230, (tu #[(.ref 225)])),
  (231, (tu #[(.str "__class__" 478)])),
  (232, em),
  (233, (tu #[(.str "self" 479), (.str "value" 480)])),
  (234, (tu #[])),
  (235, (.mk .none none (.func (.mk "__init__" "InvalidWord.__init__" (fa (nthS (fb (nthS bd 12)) 0)) (.stmts (fb (nthS (fb (nthS bd 12)) 0))) (fs (nthS (fb (nthS bd 32)) 0)) 0 [] .none .none .none .none none .none .none 0)) #[])),
  (236, (co "__init__" 475 "InvalidWord.__init__" 476 "/claim/cut.py" 477 51 2 0 0 3 231 true 181 232 #[.none, (.ref 233), (.ref 234), (.ref 235), (.int 481 0), (.int 51 0), (.str "/claim/cut.py" 482)])),
  (237, (fu "__init__" "InvalidWord.__init__" (nthS (fb (nthS bd 12)) 0) (nthS (fb (nthS bd 32)) 0) [("__class__", 225)] .none .none .none (.str "strandclasses.errors" 187) none (.ref 236) (.ref 230) 0)),
  (238, (tu #[(.str "value" 484)])),
  (239, (dc #[(de P "__module__" 470 (.str "strandclasses.errors" 187)), (de P "__firstlineno__" 474 (.int 49 473)), (de P "__init__" 483 (.ref 237)), (de P "__static_attributes__" 485 (.ref 238)), (de P "__doc__" 487 .none)] 3)),
  (240, (.mk (.type "type") none (.cls (.mk "InvalidWord" [(.ref 24)] [(.ref 240), (.ref 24), (.type "ValueError"), (.type "Exception"), (.type "BaseException"), (.type "object")] 239 "InvalidWord" true [] [] false none false)) #[(some (.ref 222)), none, (some (.str "InvalidWord" 463)), (some (.str "InvalidWord" 471)), (some (.builtin "ValueError.__new__")), (some (.bool true))])),
  (241, (.mk (.type "super") none (.fields #[(.ref 240), (.ref 240), (.ref 240)]) #[])),
  (242, (.mk (.type "builtin_function_or_method") none (.fields #[(.builtin "object.__init_subclass__"), (.ref 240)]) #[])),
  (243, (tu #[(.ref 24)])),
  (244, (.mk (.type "builtin_function_or_method") none (.fields #[(.builtin "type.__prepare__"), (.type "type")]) #[])),
  (245, (dc #[(de P "__module__" 497 (.str "strandclasses.errors" 187)), (de P "__qualname__" 499 (.str "InvalidPath" 498)), (de P "__firstlineno__" 501 (.int 54 500)), (de P "__init__" 510 (.ref 258)), (de P "__static_attributes__" 512 (.ref 259)), (de P "__classcell__" 513 (.ref 246))] 6)),
  (246, (.mk (.type "cell") none (.cell (some (.ref 261))) #[])),
  (247, (tu #[])),
  (248, (.mk .none none (.fields #[(.int 56 0), (.int 4 0), (.ref 257)]) #[])),
  (249, (co "InvalidPath" 492 "InvalidPath" 493 "/claim/cut.py" 494 54 0 0 0 0 247 false 181 248 #[.none, .none, .none, .none, (.int 495 0), (.int 54 0), (.str "/claim/cut.py" 496)])),
  (250, (.mk (.type "frame") none .plain #[(some (.ref 249)), (some (.ref 3)), (some (.ref 245)), none, (some (.str "strandclasses.errors" 187)), none, (some (.ref 0))])),
  (251, (tu #[(.ref 246)])),
  (252, (tu #[(.str "__class__" 505)])),
  (253, em),
  (254, (tu #[(.str "self" 506), (.str "value" 507)])),
  (255, (tu #[])),
  (256, (.mk .none none (.func (.mk "__init__" "InvalidPath.__init__" (fa (nthS (fb (nthS bd 13)) 0)) (.stmts (fb (nthS (fb (nthS bd 13)) 0))) (fs (nthS (fb (nthS bd 32)) 0)) 0 [] .none .none .none .none none .none .none 0)) #[])),
  (257, (co "__init__" 502 "InvalidPath.__init__" 503 "/claim/cut.py" 504 56 2 0 0 3 252 true 181 253 #[.none, (.ref 254), (.ref 255), (.ref 256), (.int 508 0), (.int 56 0), (.str "/claim/cut.py" 509)])),
  (258, (fu "__init__" "InvalidPath.__init__" (nthS (fb (nthS bd 13)) 0) (nthS (fb (nthS bd 32)) 0) [("__class__", 246)] .none .none .none (.str "strandclasses.errors" 187) none (.ref 257) (.ref 251) 0)),
  (259, (tu #[(.str "value" 511)])),
  (260, (dc #[(de P "__module__" 497 (.str "strandclasses.errors" 187)), (de P "__firstlineno__" 501 (.int 54 500)), (de P "__init__" 510 (.ref 258)), (de P "__static_attributes__" 512 (.ref 259)), (de P "__doc__" 514 .none)] 3)),
  (261, (.mk (.type "type") none (.cls (.mk "InvalidPath" [(.ref 24)] [(.ref 261), (.ref 24), (.type "ValueError"), (.type "Exception"), (.type "BaseException"), (.type "object")] 260 "InvalidPath" true [] [] false none false)) #[(some (.ref 243)), none, (some (.str "InvalidPath" 490)), (some (.str "InvalidPath" 498)), (some (.builtin "ValueError.__new__")), (some (.bool true))])),
  (262, (.mk (.type "super") none (.fields #[(.ref 261), (.ref 261), (.ref 261)]) #[])),
  (263, (.mk (.type "builtin_function_or_method") none (.fields #[(.builtin "object.__init_subclass__"), (.ref 261)]) #[])),
  (264, (tu #[(.ref 24)])),
  (265, (.mk (.type "builtin_function_or_method") none (.fields #[(.builtin "type.__prepare__"), (.type "type")]) #[])),
  (266, (dc #[(de P "__module__" 524 (.str "strandclasses.errors" 187)), (de P "__qualname__" 526 (.str "InvalidText" 525)), (de P "__firstlineno__" 528 (.int 59 527)), (de P "__init__" 537 (.ref 279)), (de P "__static_attributes__" 539 (.ref 280)), (de P "__classcell__" 540 (.ref 267))] 6)),
  (267, (.mk (.type "cell") none (.cell (some (.ref 282))) #[])),
  (268, (tu #[])),
  (269, (.mk .none none (.fields #[(.int 61 0), (.int 4 0), (.ref 278)]) #[])),
  (270, (co "InvalidText" 519 "InvalidText" 520 "/claim/cut.py" 521 59 0 0 0 0 268 false 181 269 #[.none, .none, .none, .none, (.int 522 0), (.int 59 0), (.str "/claim/cut.py" 523)])),
  (271, (.mk (.type "frame") none .plain #[(some (.ref 270)), (some (.ref 3)), (some (.ref 266)), none, (some (.str "strandclasses.errors" 187)), none, (some (.ref 0))])),
  (272, (tu #[(.ref 267)])),
  (273, (tu #[(.str "__class__" 532)])),
  (274, em),
  (275, (tu #[(.str "self" 533), (.str "position" 534)])),
  (276, (tu #[])),
  (277, (.mk .none none (.func (.mk "__init__" "InvalidText.__init__" (fa (nthS (fb (nthS bd 14)) 0)) (.stmts (fb (nthS (fb (nthS bd 14)) 0))) (fs (nthS (fb (nthS bd 19)) 0)) 0 [] .none .none .none .none none .none .none 0)) #[])),
  (278, (co "__init__" 529 "InvalidText.__init__" 530 "/claim/cut.py" 531 61 2 0 0 3 273 true 181 274 #[.none, (.ref 275), (.ref 276), (.ref 277), (.int 535 0), (.int 61 0), (.str "/claim/cut.py" 536)])),
  (279, (fu "__init__" "InvalidText.__init__" (nthS (fb (nthS bd 14)) 0) (nthS (fb (nthS bd 19)) 0) [("__class__", 267)] .none .none .none (.str "strandclasses.errors" 187) none (.ref 278) (.ref 272) 0)),
  (280, (tu #[(.str "position" 538)])),
  (281, (dc #[(de P "__module__" 524 (.str "strandclasses.errors" 187)), (de P "__firstlineno__" 528 (.int 59 527)), (de P "__init__" 537 (.ref 279)), (de P "__static_attributes__" 539 (.ref 280)), (de P "__doc__" 541 .none)] 3)),
  (282, (.mk (.type "type") none (.cls (.mk "InvalidText" [(.ref 24)] [(.ref 282), (.ref 24), (.type "ValueError"), (.type "Exception"), (.type "BaseException"), (.type "object")] 281 "InvalidText" true [] [] false none false)) #[(some (.ref 264)), none, (some (.str "InvalidText" 517)), (some (.str "InvalidText" 525)), (some (.builtin "ValueError.__new__")), (some (.bool true))])),
  (283, (.mk (.type "super") none (.fields #[(.ref 282), (.ref 282), (.ref 282)]) #[])),
  (284, (.mk (.type "builtin_function_or_method") none (.fields #[(.builtin "object.__init_subclass__"), (.ref 282)]) #[])),
  (285, (tu #[(.ref 24)])),
  (286, (.mk (.type "builtin_function_or_method") none (.fields #[(.builtin "type.__prepare__"), (.type "type")]) #[])),
  (287, (dc #[(de P "__module__" 551 (.str "strandclasses.errors" 187)), (de P "__qualname__" 553 (.str "InvalidDiagram" 552)), (de P "__firstlineno__" 555 (.int 64 554)), (de P "__init__" 564 (.ref 300)), (de P "__static_attributes__" 566 (.ref 301)), (de P "__classcell__" 567 (.ref 288))] 6)),
  (288, (.mk (.type "cell") none (.cell (some (.ref 303))) #[])),
  (289, (tu #[])),
  (290, (.mk .none none (.fields #[(.int 66 0), (.int 4 0), (.ref 299)]) #[])),
  (291, (co "InvalidDiagram" 546 "InvalidDiagram" 547 "/claim/cut.py" 548 64 0 0 0 0 289 false 181 290 #[.none, .none, .none, .none, (.int 549 0), (.int 64 0), (.str "/claim/cut.py" 550)])),
  (292, (.mk (.type "frame") none .plain #[(some (.ref 291)), (some (.ref 3)), (some (.ref 287)), none, (some (.str "strandclasses.errors" 187)), none, (some (.ref 0))])),
  (293, (tu #[(.ref 288)])),
  (294, (tu #[(.str "__class__" 559)])),
  (295, em),
  (296, (tu #[(.str "self" 560), (.str "value" 561)])),
  (297, (tu #[])),
  (298, (.mk .none none (.func (.mk "__init__" "InvalidDiagram.__init__" (fa (nthS (fb (nthS bd 15)) 0)) (.stmts (fb (nthS (fb (nthS bd 15)) 0))) (fs (nthS (fb (nthS bd 32)) 0)) 0 [] .none .none .none .none none .none .none 0)) #[])),
  (299, (co "__init__" 556 "InvalidDiagram.__init__" 557 "/claim/cut.py" 558 66 2 0 0 3 294 true 181 295 #[.none, (.ref 296), (.ref 297), (.ref 298), (.int 562 0), (.int 66 0), (.str "/claim/cut.py" 563)])),
  (300, (fu "__init__" "InvalidDiagram.__init__" (nthS (fb (nthS bd 15)) 0) (nthS (fb (nthS bd 32)) 0) [("__class__", 288)] .none .none .none (.str "strandclasses.errors" 187) none (.ref 299) (.ref 293) 0)),
  (301, (tu #[(.str "value" 565)])),
  (302, (dc #[(de P "__module__" 551 (.str "strandclasses.errors" 187)), (de P "__firstlineno__" 555 (.int 64 554)), (de P "__init__" 564 (.ref 300)), (de P "__static_attributes__" 566 (.ref 301)), (de P "__doc__" 568 .none)] 3)),
  (303, (.mk (.type "type") none (.cls (.mk "InvalidDiagram" [(.ref 24)] [(.ref 303), (.ref 24), (.type "ValueError"), (.type "Exception"), (.type "BaseException"), (.type "object")] 302 "InvalidDiagram" true [] [] false none false)) #[(some (.ref 285)), none, (some (.str "InvalidDiagram" 544)), (some (.str "InvalidDiagram" 552)), (some (.builtin "ValueError.__new__")), (some (.bool true))])),
  (304, (.mk (.type "super") none (.fields #[(.ref 303), (.ref 303), (.ref 303)]) #[])),
  (305, (.mk (.type "builtin_function_or_method") none (.fields #[(.builtin "object.__init_subclass__"), (.ref 303)]) #[])),
  (306, (tu #[(.ref 24)])),
  (307, (.mk (.type "builtin_function_or_method") none (.fields #[(.builtin "type.__prepare__"), (.type "type")]) #[])),
  (308, (dc #[(de P "__module__" 578 (.str "strandclasses.errors" 187)), (de P "__qualname__" 580 (.str "InvalidStep" 579)), (de P "__firstlineno__" 582 (.int 69 581)), (de P "__init__" 591 (.ref 321)), (de P "__static_attributes__" 593 (.ref 322)), (de P "__classcell__" 594 (.ref 309))] 6)),
  (309, (.mk (.type "cell") none (.cell (some (.ref 324))) #[])),
  (310, (tu #[])),
  (311, (.mk .none none (.fields #[(.int 71 0), (.int 4 0), (.ref 320)]) #[])),
  (312, (co "InvalidStep" 573 "InvalidStep" 574 "/claim/cut.py" 575 69 0 0 0 0 310 false 181 311 #[.none, .none, .none, .none, (.int 576 0), (.int 69 0), (.str "/claim/cut.py" 577)])),
  (313, (.mk (.type "frame") none .plain #[(some (.ref 312)), (some (.ref 3)), (some (.ref 308)), none, (some (.str "strandclasses.errors" 187)), none, (some (.ref 0))])),
  (314, (tu #[(.ref 309)])),
  (315, (tu #[(.str "__class__" 586)])),
  (316, em),
  (317, (tu #[(.str "self" 587), (.str "value" 588)])),
  (318, (tu #[])),
  (319, (.mk .none none (.func (.mk "__init__" "InvalidStep.__init__" (fa (nthS (fb (nthS bd 16)) 0)) (.stmts (fb (nthS (fb (nthS bd 16)) 0))) (fs (nthS (fb (nthS bd 32)) 0)) 0 [] .none .none .none .none none .none .none 0)) #[])),
  (320, (co "__init__" 583 "InvalidStep.__init__" 584 "/claim/cut.py" 585 71 2 0 0 3 315 true 181 316 #[.none, (.ref 317), (.ref 318), (.ref 319), (.int 589 0), (.int 71 0), (.str "/claim/cut.py" 590)])),
  (321, (fu "__init__" "InvalidStep.__init__" (nthS (fb (nthS bd 16)) 0) (nthS (fb (nthS bd 32)) 0) [("__class__", 309)] .none .none .none (.str "strandclasses.errors" 187) none (.ref 320) (.ref 314) 0)),
  (322, (tu #[(.str "value" 592)])),
  (323, (dc #[(de P "__module__" 578 (.str "strandclasses.errors" 187)), (de P "__firstlineno__" 582 (.int 69 581)), (de P "__init__" 591 (.ref 321)), (de P "__static_attributes__" 593 (.ref 322)), (de P "__doc__" 595 .none)] 3)),
  (324, (.mk (.type "type") none (.cls (.mk "InvalidStep" [(.ref 24)] [(.ref 324), (.ref 24), (.type "ValueError"), (.type "Exception"), (.type "BaseException"), (.type "object")] 323 "InvalidStep" true [] [] false none false)) #[(some (.ref 306)), none, (some (.str "InvalidStep" 571)), (some (.str "InvalidStep" 579)), (some (.builtin "ValueError.__new__")), (some (.bool true))])),
  (325, (.mk (.type "super") none (.fields #[(.ref 324), (.ref 324), (.ref 324)]) #[])),
  (326, (.mk (.type "builtin_function_or_method") none (.fields #[(.builtin "object.__init_subclass__"), (.ref 324)]) #[]))]
def M0 (P : Params) : List (Nat × Obj) := Ma P ++ L0 P
def S0 : World → OsState → SharedT := cutS M0 327 (.mk [] [] [] 0 [] [] false #[] [] 0 false false false 0 [2000, 10, 10] false 0 true [] [] 0 false) #[] (.mk 0 0 0 0) 598
def L1 (P : Params) : List (Nat × Obj) := [(3, (dc #[(de P "__name__" 165 (.str "strandclasses.errors" 187)), (de P "__doc__" 166 .none), (de P "__package__" 167 .none), (de P "__loader__" 168 (.builtin "__main__.__loader__#opaque")), (de P "__spec__" 169 .none), (de P "__annotations__" 170 (.ref 6)), (de P "__builtins__" 171 (.ref 4)), (de P "__file__" 173 (.str "/claim/cut.py" 172)), (de P "__cached__" 174 .none), (de P "StrandError" 206 (.ref 24)), (de P "Missing" 226 (.ref 37)), (de P "Blocked" 244 (.ref 50)), (de P "InvalidInteger" 271 (.ref 72)), (de P "InvalidArity" 298 (.ref 93)), (de P "InvalidPlace" 325 (.ref 114)), (de P "InvalidPlaces" 352 (.ref 135)), (de P "InvalidCover" 379 (.ref 156)), (de P "InvalidPairs" 406 (.ref 177)), (de P "InvalidTable" 433 (.ref 198)), (de P "Mismatch" 462 (.ref 219)), (de P "InvalidWord" 489 (.ref 240)), (de P "InvalidPath" 516 (.ref 261)), (de P "InvalidText" 543 (.ref 282)), (de P "InvalidDiagram" 570 (.ref 303)), (de P "InvalidStep" 597 (.ref 324)), (de P "InvalidLog" 624 (.ref 345)), (de P "InvalidName" 651 (.ref 366)), (de P "InvalidFormula" 678 (.ref 387)), (de P "InvalidLine" 705 (.ref 408)), (de P "InvalidTree" 732 (.ref 429)), (de P "InvalidBook" 759 (.ref 450)), (de P "UnknownPlace" 786 (.ref 471)), (de P "UnknownVertex" 813 (.ref 492)), (de P "UnknownName" 840 (.ref 513)), (de P "UnknownMember" 867 (.ref 534)), (de P "NotApplicable" 896 (.ref 555)), (de P "NotSelf" 923 (.ref 576)), (de P "NotNormal" 950 (.ref 597)), (de P "Unrelated" 979 (.ref 618)), (de P "DuplicateName" 1006 (.ref 639)), (de P "InUse" 1033 (.ref 660))] 41)),
  (12, (.mk .none none (.fields #[(.int 2 0), (.int 0 0), (.ref 20), (.int 4 0), (.int 0 0), (.ref 33), (.int 6 0), (.int 0 0), (.ref 46), (.int 8 0), (.int 0 0), (.ref 60), (.int 13 0), (.int 0 0), (.ref 81), (.int 18 0), (.int 0 0), (.ref 102), (.int 23 0), (.int 0 0), (.ref 123), (.int 28 0), (.int 0 0), (.ref 144), (.int 33 0), (.int 0 0), (.ref 165), (.int 38 0), (.int 0 0), (.ref 186), (.int 43 0), (.int 0 0), (.ref 207), (.int 49 0), (.int 0 0), (.ref 228), (.int 54 0), (.int 0 0), (.ref 249), (.int 59 0), (.int 0 0), (.ref 270), (.int 64 0), (.int 0 0), (.ref 291), (.int 69 0), (.int 0 0), (.ref 312), (.int 74 0), (.int 0 0), (.ref 333), (.int 79 0), (.int 0 0), (.ref 354), (.int 84 0), (.int 0 0), (.ref 375), (.int 89 0), (.int 0 0), (.ref 396), (.int 94 0), (.int 0 0), (.ref 417), (.int 99 0), (.int 0 0), (.ref 438), (.int 104 0), (.int 0 0), (.ref 459), (.int 109 0), (.int 0 0), (.ref 480), (.int 114 0), (.int 0 0), (.ref 501), (.int 119 0), (.int 0 0), (.ref 522), (.int 124 0), (.int 0 0), (.ref 543), (.int 130 0), (.int 0 0), (.ref 564), (.int 135 0), (.int 0 0), (.ref 585), (.int 140 0), (.int 0 0), (.ref 606), (.int 146 0), (.int 0 0), (.ref 627), (.int 151 0), (.int 0 0), (.ref 648)]) #[])),
  (24, (.mk (.type "type") none (.cls (.mk "StrandError" [(.type "ValueError")] [(.ref 24), (.type "ValueError"), (.type "Exception"), (.type "BaseException"), (.type "object")] 23 "StrandError" true [] [(.ref 72), (.ref 93), (.ref 114), (.ref 135), (.ref 156), (.ref 177), (.ref 198), (.ref 219), (.ref 240), (.ref 261), (.ref 282), (.ref 303), (.ref 324), (.ref 345), (.ref 366), (.ref 387), (.ref 408), (.ref 429), (.ref 450)] false none false)) #[(some (.ref 15)), none, (some (.str "StrandError" 189)), (some (.str "StrandError" 197)), (some (.builtin "ValueError.__new__")), (some (.bool true))])),
  (37, (.mk (.type "type") none (.cls (.mk "Missing" [(.type "KeyError")] [(.ref 37), (.type "KeyError"), (.type "LookupError"), (.type "Exception"), (.type "BaseException"), (.type "object")] 36 "Missing" true [] [(.ref 471), (.ref 492), (.ref 513), (.ref 534)] false none false)) #[(some (.ref 28)), none, (some (.str "Missing" 207)), (some (.str "Missing" 215)), (some (.builtin "LookupError.__new__")), (some (.bool true))])),
  (50, (.mk (.type "type") none (.cls (.mk "Blocked" [(.type "LookupError")] [(.ref 50), (.type "LookupError"), (.type "Exception"), (.type "BaseException"), (.type "object")] 49 "Blocked" true [] [(.ref 555), (.ref 576), (.ref 597), (.ref 618), (.ref 639), (.ref 660)] false none false)) #[(some (.ref 41)), none, (some (.str "Blocked" 227)), (some (.str "Blocked" 235)), (some (.builtin "LookupError.__new__")), (some (.bool true))])),
  (327, (tu #[(.ref 24)])),
  (328, (.mk (.type "builtin_function_or_method") none (.fields #[(.builtin "type.__prepare__"), (.type "type")]) #[])),
  (329, (dc #[(de P "__module__" 605 (.str "strandclasses.errors" 187)), (de P "__qualname__" 607 (.str "InvalidLog" 606)), (de P "__firstlineno__" 609 (.int 74 608)), (de P "__init__" 618 (.ref 342)), (de P "__static_attributes__" 620 (.ref 343)), (de P "__classcell__" 621 (.ref 330))] 6)),
  (330, (.mk (.type "cell") none (.cell (some (.ref 345))) #[])),
  (331, (tu #[])),
  (332, (.mk .none none (.fields #[(.int 76 0), (.int 4 0), (.ref 341)]) #[])),
  (333, (co "InvalidLog" 600 "InvalidLog" 601 "/claim/cut.py" 602 74 0 0 0 0 331 false 181 332 #[.none, .none, .none, .none, (.int 603 0), (.int 74 0), (.str "/claim/cut.py" 604)])),
  (334, (.mk (.type "frame") none .plain #[(some (.ref 333)), (some (.ref 3)), (some (.ref 329)), none, (some (.str "strandclasses.errors" 187)), none, (some (.ref 0))])),
  (335, (tu #[(.ref 330)])),
  (336, (tu #[(.str "__class__" 613)])),
  (337, em),
  (338, (tu #[(.str "self" 614), (.str "value" 615)])),
  (339, (tu #[])),
  (340, (.mk .none none (.func (.mk "__init__" "InvalidLog.__init__" (fa (nthS (fb (nthS bd 17)) 0)) (.stmts (fb (nthS (fb (nthS bd 17)) 0))) (fs (nthS (fb (nthS bd 32)) 0)) 0 [] .none .none .none .none none .none .none 0)) #[])),
  (341, (co "__init__" 610 "InvalidLog.__init__" 611 "/claim/cut.py" 612 76 2 0 0 3 336 true 181 337 #[.none, (.ref 338), (.ref 339), (.ref 340), (.int 616 0), (.int 76 0), (.str "/claim/cut.py" 617)])),
  (342, (fu "__init__" "InvalidLog.__init__" (nthS (fb (nthS bd 17)) 0) (nthS (fb (nthS bd 32)) 0) [("__class__", 330)] .none .none .none (.str "strandclasses.errors" 187) none (.ref 341) (.ref 335) 0)),
  (343, (tu #[(.str "value" 619)])),
  (344, (dc #[(de P "__module__" 605 (.str "strandclasses.errors" 187)), (de P "__firstlineno__" 609 (.int 74 608)), (de P "__init__" 618 (.ref 342)), (de P "__static_attributes__" 620 (.ref 343)), (de P "__doc__" 622 .none)] 3)),
  (345, (.mk (.type "type") none (.cls (.mk "InvalidLog" [(.ref 24)] [(.ref 345), (.ref 24), (.type "ValueError"), (.type "Exception"), (.type "BaseException"), (.type "object")] 344 "InvalidLog" true [] [] false none false)) #[(some (.ref 327)), none, (some (.str "InvalidLog" 598)), (some (.str "InvalidLog" 606)), (some (.builtin "ValueError.__new__")), (some (.bool true))])),
  (346, (.mk (.type "super") none (.fields #[(.ref 345), (.ref 345), (.ref 345)]) #[])),
  (347, (.mk (.type "builtin_function_or_method") none (.fields #[(.builtin "object.__init_subclass__"), (.ref 345)]) #[])),
  (348, (tu #[(.ref 24)])),
  (349, (.mk (.type "builtin_function_or_method") none (.fields #[(.builtin "type.__prepare__"), (.type "type")]) #[])),
  (350, (dc #[(de P "__module__" 632 (.str "strandclasses.errors" 187)), (de P "__qualname__" 634 (.str "InvalidName" 633)), (de P "__firstlineno__" 636 (.int 79 635)), (de P "__init__" 645 (.ref 363)), (de P "__static_attributes__" 647 (.ref 364)), (de P "__classcell__" 648 (.ref 351))] 6)),
  (351, (.mk (.type "cell") none (.cell (some (.ref 366))) #[])),
  (352, (tu #[])),
  (353, (.mk .none none (.fields #[(.int 81 0), (.int 4 0), (.ref 362)]) #[])),
  (354, (co "InvalidName" 627 "InvalidName" 628 "/claim/cut.py" 629 79 0 0 0 0 352 false 181 353 #[.none, .none, .none, .none, (.int 630 0), (.int 79 0), (.str "/claim/cut.py" 631)])),
  (355, (.mk (.type "frame") none .plain #[(some (.ref 354)), (some (.ref 3)), (some (.ref 350)), none, (some (.str "strandclasses.errors" 187)), none, (some (.ref 0))])),
  (356, (tu #[(.ref 351)])),
  (357, (tu #[(.str "__class__" 640)])),
  (358, em),
  (359, (tu #[(.str "self" 641), (.str "value" 642)])),
  (360, (tu #[])),
  (361, (.mk .none none (.func (.mk "__init__" "InvalidName.__init__" (fa (nthS (fb (nthS bd 18)) 0)) (.stmts (fb (nthS (fb (nthS bd 18)) 0))) (fs (nthS (fb (nthS bd 32)) 0)) 0 [] .none .none .none .none none .none .none 0)) #[])),
  (362, (co "__init__" 637 "InvalidName.__init__" 638 "/claim/cut.py" 639 81 2 0 0 3 357 true 181 358 #[.none, (.ref 359), (.ref 360), (.ref 361), (.int 643 0), (.int 81 0), (.str "/claim/cut.py" 644)])),
  (363, (fu "__init__" "InvalidName.__init__" (nthS (fb (nthS bd 18)) 0) (nthS (fb (nthS bd 32)) 0) [("__class__", 351)] .none .none .none (.str "strandclasses.errors" 187) none (.ref 362) (.ref 356) 0)),
  (364, (tu #[(.str "value" 646)])),
  (365, (dc #[(de P "__module__" 632 (.str "strandclasses.errors" 187)), (de P "__firstlineno__" 636 (.int 79 635)), (de P "__init__" 645 (.ref 363)), (de P "__static_attributes__" 647 (.ref 364)), (de P "__doc__" 649 .none)] 3)),
  (366, (.mk (.type "type") none (.cls (.mk "InvalidName" [(.ref 24)] [(.ref 366), (.ref 24), (.type "ValueError"), (.type "Exception"), (.type "BaseException"), (.type "object")] 365 "InvalidName" true [] [] false none false)) #[(some (.ref 348)), none, (some (.str "InvalidName" 625)), (some (.str "InvalidName" 633)), (some (.builtin "ValueError.__new__")), (some (.bool true))])),
  (367, (.mk (.type "super") none (.fields #[(.ref 366), (.ref 366), (.ref 366)]) #[])),
  (368, (.mk (.type "builtin_function_or_method") none (.fields #[(.builtin "object.__init_subclass__"), (.ref 366)]) #[])),
  (369, (tu #[(.ref 24)])),
  (370, (.mk (.type "builtin_function_or_method") none (.fields #[(.builtin "type.__prepare__"), (.type "type")]) #[])),
  (371, (dc #[(de P "__module__" 659 (.str "strandclasses.errors" 187)), (de P "__qualname__" 661 (.str "InvalidFormula" 660)), (de P "__firstlineno__" 663 (.int 84 662)), (de P "__init__" 672 (.ref 384)), (de P "__static_attributes__" 674 (.ref 385)), (de P "__classcell__" 675 (.ref 372))] 6)),
  (372, (.mk (.type "cell") none (.cell (some (.ref 387))) #[])),
  (373, (tu #[])),
  (374, (.mk .none none (.fields #[(.int 86 0), (.int 4 0), (.ref 383)]) #[])),
  (375, (co "InvalidFormula" 654 "InvalidFormula" 655 "/claim/cut.py" 656 84 0 0 0 0 373 false 181 374 #[.none, .none, .none, .none, (.int 657 0), (.int 84 0), (.str "/claim/cut.py" 658)])),
  (376, (.mk (.type "frame") none .plain #[(some (.ref 375)), (some (.ref 3)), (some (.ref 371)), none, (some (.str "strandclasses.errors" 187)), none, (some (.ref 0))])),
  (377, (tu #[(.ref 372)])),
  (378, (tu #[(.str "__class__" 667)])),
  (379, em),
  (380, (tu #[(.str "self" 668), (.str "position" 669)])),
  (381, (tu #[])),
  (382, (.mk .none none (.func (.mk "__init__" "InvalidFormula.__init__" (fa (nthS (fb (nthS bd 19)) 0)) (.stmts (fb (nthS (fb (nthS bd 19)) 0))) (fs (nthS (fb (nthS bd 19)) 0)) 0 [] .none .none .none .none none .none .none 0)) #[])),
  (383, (co "__init__" 664 "InvalidFormula.__init__" 665 "/claim/cut.py" 666 86 2 0 0 3 378 true 181 379 #[.none, (.ref 380), (.ref 381), (.ref 382), (.int 670 0), (.int 86 0), (.str "/claim/cut.py" 671)])),
  (384, (fu "__init__" "InvalidFormula.__init__" (nthS (fb (nthS bd 19)) 0) (nthS (fb (nthS bd 19)) 0) [("__class__", 372)] .none .none .none (.str "strandclasses.errors" 187) none (.ref 383) (.ref 377) 0)),
  (385, (tu #[(.str "position" 673)])),
  (386, (dc #[(de P "__module__" 659 (.str "strandclasses.errors" 187)), (de P "__firstlineno__" 663 (.int 84 662)), (de P "__init__" 672 (.ref 384)), (de P "__static_attributes__" 674 (.ref 385)), (de P "__doc__" 676 .none)] 3)),
  (387, (.mk (.type "type") none (.cls (.mk "InvalidFormula" [(.ref 24)] [(.ref 387), (.ref 24), (.type "ValueError"), (.type "Exception"), (.type "BaseException"), (.type "object")] 386 "InvalidFormula" true [] [] false none false)) #[(some (.ref 369)), none, (some (.str "InvalidFormula" 652)), (some (.str "InvalidFormula" 660)), (some (.builtin "ValueError.__new__")), (some (.bool true))])),
  (388, (.mk (.type "super") none (.fields #[(.ref 387), (.ref 387), (.ref 387)]) #[])),
  (389, (.mk (.type "builtin_function_or_method") none (.fields #[(.builtin "object.__init_subclass__"), (.ref 387)]) #[])),
  (390, (tu #[(.ref 24)])),
  (391, (.mk (.type "builtin_function_or_method") none (.fields #[(.builtin "type.__prepare__"), (.type "type")]) #[])),
  (392, (dc #[(de P "__module__" 686 (.str "strandclasses.errors" 187)), (de P "__qualname__" 688 (.str "InvalidLine" 687)), (de P "__firstlineno__" 690 (.int 89 689)), (de P "__init__" 699 (.ref 405)), (de P "__static_attributes__" 701 (.ref 406)), (de P "__classcell__" 702 (.ref 393))] 6)),
  (393, (.mk (.type "cell") none (.cell (some (.ref 408))) #[])),
  (394, (tu #[])),
  (395, (.mk .none none (.fields #[(.int 91 0), (.int 4 0), (.ref 404)]) #[])),
  (396, (co "InvalidLine" 681 "InvalidLine" 682 "/claim/cut.py" 683 89 0 0 0 0 394 false 181 395 #[.none, .none, .none, .none, (.int 684 0), (.int 89 0), (.str "/claim/cut.py" 685)])),
  (397, (.mk (.type "frame") none .plain #[(some (.ref 396)), (some (.ref 3)), (some (.ref 392)), none, (some (.str "strandclasses.errors" 187)), none, (some (.ref 0))])),
  (398, (tu #[(.ref 393)])),
  (399, (tu #[(.str "__class__" 694)])),
  (400, em),
  (401, (tu #[(.str "self" 695), (.str "value" 696)])),
  (402, (tu #[])),
  (403, (.mk .none none (.func (.mk "__init__" "InvalidLine.__init__" (fa (nthS (fb (nthS bd 20)) 0)) (.stmts (fb (nthS (fb (nthS bd 20)) 0))) (fs (nthS (fb (nthS bd 32)) 0)) 0 [] .none .none .none .none none .none .none 0)) #[])),
  (404, (co "__init__" 691 "InvalidLine.__init__" 692 "/claim/cut.py" 693 91 2 0 0 3 399 true 181 400 #[.none, (.ref 401), (.ref 402), (.ref 403), (.int 697 0), (.int 91 0), (.str "/claim/cut.py" 698)])),
  (405, (fu "__init__" "InvalidLine.__init__" (nthS (fb (nthS bd 20)) 0) (nthS (fb (nthS bd 32)) 0) [("__class__", 393)] .none .none .none (.str "strandclasses.errors" 187) none (.ref 404) (.ref 398) 0)),
  (406, (tu #[(.str "value" 700)])),
  (407, (dc #[(de P "__module__" 686 (.str "strandclasses.errors" 187)), (de P "__firstlineno__" 690 (.int 89 689)), (de P "__init__" 699 (.ref 405)), (de P "__static_attributes__" 701 (.ref 406)), (de P "__doc__" 703 .none)] 3)),
  (408, (.mk (.type "type") none (.cls (.mk "InvalidLine" [(.ref 24)] [(.ref 408), (.ref 24), (.type "ValueError"), (.type "Exception"), (.type "BaseException"), (.type "object")] 407 "InvalidLine" true [] [] false none false)) #[(some (.ref 390)), none, (some (.str "InvalidLine" 679)), (some (.str "InvalidLine" 687)), (some (.builtin "ValueError.__new__")), (some (.bool true))])),
  (409, (.mk (.type "super") none (.fields #[(.ref 408), (.ref 408), (.ref 408)]) #[])),
  (410, (.mk (.type "builtin_function_or_method") none (.fields #[(.builtin "object.__init_subclass__"), (.ref 408)]) #[])),
  (411, (tu #[(.ref 24)])),
  (412, (.mk (.type "builtin_function_or_method") none (.fields #[(.builtin "type.__prepare__"), (.type "type")]) #[])),
  (413, (dc #[(de P "__module__" 713 (.str "strandclasses.errors" 187)), (de P "__qualname__" 715 (.str "InvalidTree" 714)), (de P "__firstlineno__" 717 (.int 94 716)), (de P "__init__" 726 (.ref 426)), (de P "__static_attributes__" 728 (.ref 427)), (de P "__classcell__" 729 (.ref 414))] 6)),
  (414, (.mk (.type "cell") none (.cell (some (.ref 429))) #[])),
  (415, (tu #[])),
  (416, (.mk .none none (.fields #[(.int 96 0), (.int 4 0), (.ref 425)]) #[])),
  (417, (co "InvalidTree" 708 "InvalidTree" 709 "/claim/cut.py" 710 94 0 0 0 0 415 false 181 416 #[.none, .none, .none, .none, (.int 711 0), (.int 94 0), (.str "/claim/cut.py" 712)])),
  (418, (.mk (.type "frame") none .plain #[(some (.ref 417)), (some (.ref 3)), (some (.ref 413)), none, (some (.str "strandclasses.errors" 187)), none, (some (.ref 0))])),
  (419, (tu #[(.ref 414)])),
  (420, (tu #[(.str "__class__" 721)])),
  (421, em),
  (422, (tu #[(.str "self" 722), (.str "value" 723)])),
  (423, (tu #[])),
  (424, (.mk .none none (.func (.mk "__init__" "InvalidTree.__init__" (fa (nthS (fb (nthS bd 21)) 0)) (.stmts (fb (nthS (fb (nthS bd 21)) 0))) (fs (nthS (fb (nthS bd 32)) 0)) 0 [] .none .none .none .none none .none .none 0)) #[])),
  (425, (co "__init__" 718 "InvalidTree.__init__" 719 "/claim/cut.py" 720 96 2 0 0 3 420 true 181 421 #[.none, (.ref 422), (.ref 423), (.ref 424), (.int 724 0), (.int 96 0), (.str "/claim/cut.py" 725)])),
  (426, (fu "__init__" "InvalidTree.__init__" (nthS (fb (nthS bd 21)) 0) (nthS (fb (nthS bd 32)) 0) [("__class__", 414)] .none .none .none (.str "strandclasses.errors" 187) none (.ref 425) (.ref 419) 0)),
  (427, (tu #[(.str "value" 727)])),
  (428, (dc #[(de P "__module__" 713 (.str "strandclasses.errors" 187)), (de P "__firstlineno__" 717 (.int 94 716)), (de P "__init__" 726 (.ref 426)), (de P "__static_attributes__" 728 (.ref 427)), (de P "__doc__" 730 .none)] 3)),
  (429, (.mk (.type "type") none (.cls (.mk "InvalidTree" [(.ref 24)] [(.ref 429), (.ref 24), (.type "ValueError"), (.type "Exception"), (.type "BaseException"), (.type "object")] 428 "InvalidTree" true [] [] false none false)) #[(some (.ref 411)), none, (some (.str "InvalidTree" 706)), (some (.str "InvalidTree" 714)), (some (.builtin "ValueError.__new__")), (some (.bool true))])),
  (430, (.mk (.type "super") none (.fields #[(.ref 429), (.ref 429), (.ref 429)]) #[])),
  (431, (.mk (.type "builtin_function_or_method") none (.fields #[(.builtin "object.__init_subclass__"), (.ref 429)]) #[])),
  (432, (tu #[(.ref 24)])),
  (433, (.mk (.type "builtin_function_or_method") none (.fields #[(.builtin "type.__prepare__"), (.type "type")]) #[])),
  (434, (dc #[(de P "__module__" 740 (.str "strandclasses.errors" 187)), (de P "__qualname__" 742 (.str "InvalidBook" 741)), (de P "__firstlineno__" 744 (.int 99 743)), (de P "__init__" 753 (.ref 447)), (de P "__static_attributes__" 755 (.ref 448)), (de P "__classcell__" 756 (.ref 435))] 6)),
  (435, (.mk (.type "cell") none (.cell (some (.ref 450))) #[])),
  (436, (tu #[])),
  (437, (.mk .none none (.fields #[(.int 101 0), (.int 4 0), (.ref 446)]) #[])),
  (438, (co "InvalidBook" 735 "InvalidBook" 736 "/claim/cut.py" 737 99 0 0 0 0 436 false 181 437 #[.none, .none, .none, .none, (.int 738 0), (.int 99 0), (.str "/claim/cut.py" 739)])),
  (439, (.mk (.type "frame") none .plain #[(some (.ref 438)), (some (.ref 3)), (some (.ref 434)), none, (some (.str "strandclasses.errors" 187)), none, (some (.ref 0))])),
  (440, (tu #[(.ref 435)])),
  (441, (tu #[(.str "__class__" 748)])),
  (442, em),
  (443, (tu #[(.str "self" 749), (.str "value" 750)])),
  (444, (tu #[])),
  (445, (.mk .none none (.func (.mk "__init__" "InvalidBook.__init__" (fa (nthS (fb (nthS bd 22)) 0)) (.stmts (fb (nthS (fb (nthS bd 22)) 0))) (fs (nthS (fb (nthS bd 32)) 0)) 0 [] .none .none .none .none none .none .none 0)) #[])),
  (446, (co "__init__" 745 "InvalidBook.__init__" 746 "/claim/cut.py" 747 101 2 0 0 3 441 true 181 442 #[.none, (.ref 443), (.ref 444), (.ref 445), (.int 751 0), (.int 101 0), (.str "/claim/cut.py" 752)])),
  (447, (fu "__init__" "InvalidBook.__init__" (nthS (fb (nthS bd 22)) 0) (nthS (fb (nthS bd 32)) 0) [("__class__", 435)] .none .none .none (.str "strandclasses.errors" 187) none (.ref 446) (.ref 440) 0)),
  (448, (tu #[(.str "value" 754)])),
  (449, (dc #[(de P "__module__" 740 (.str "strandclasses.errors" 187)), (de P "__firstlineno__" 744 (.int 99 743)), (de P "__init__" 753 (.ref 447)), (de P "__static_attributes__" 755 (.ref 448)), (de P "__doc__" 757 .none)] 3)),
  (450, (.mk (.type "type") none (.cls (.mk "InvalidBook" [(.ref 24)] [(.ref 450), (.ref 24), (.type "ValueError"), (.type "Exception"), (.type "BaseException"), (.type "object")] 449 "InvalidBook" true [] [] false none false)) #[(some (.ref 432)), none, (some (.str "InvalidBook" 733)), (some (.str "InvalidBook" 741)), (some (.builtin "ValueError.__new__")), (some (.bool true))])),
  (451, (.mk (.type "super") none (.fields #[(.ref 450), (.ref 450), (.ref 450)]) #[])),
  (452, (.mk (.type "builtin_function_or_method") none (.fields #[(.builtin "object.__init_subclass__"), (.ref 450)]) #[])),
  (453, (tu #[(.ref 37)])),
  (454, (.mk (.type "builtin_function_or_method") none (.fields #[(.builtin "type.__prepare__"), (.type "type")]) #[])),
  (455, (dc #[(de P "__module__" 767 (.str "strandclasses.errors" 187)), (de P "__qualname__" 769 (.str "UnknownPlace" 768)), (de P "__firstlineno__" 771 (.int 104 770)), (de P "__init__" 780 (.ref 468)), (de P "__static_attributes__" 782 (.ref 469)), (de P "__classcell__" 783 (.ref 456))] 6)),
  (456, (.mk (.type "cell") none (.cell (some (.ref 471))) #[])),
  (457, (tu #[])),
  (458, (.mk .none none (.fields #[(.int 106 0), (.int 4 0), (.ref 467)]) #[])),
  (459, (co "UnknownPlace" 762 "UnknownPlace" 763 "/claim/cut.py" 764 104 0 0 0 0 457 false 181 458 #[.none, .none, .none, .none, (.int 765 0), (.int 104 0), (.str "/claim/cut.py" 766)])),
  (460, (.mk (.type "frame") none .plain #[(some (.ref 459)), (some (.ref 3)), (some (.ref 455)), none, (some (.str "strandclasses.errors" 187)), none, (some (.ref 0))])),
  (461, (tu #[(.ref 456)])),
  (462, (tu #[(.str "__class__" 775)])),
  (463, em),
  (464, (tu #[(.str "self" 776), (.str "value" 777)])),
  (465, (tu #[])),
  (466, (.mk .none none (.func (.mk "__init__" "UnknownPlace.__init__" (fa (nthS (fb (nthS bd 23)) 0)) (.stmts (fb (nthS (fb (nthS bd 23)) 0))) (fs (nthS (fb (nthS bd 32)) 0)) 0 [] .none .none .none .none none .none .none 0)) #[])),
  (467, (co "__init__" 772 "UnknownPlace.__init__" 773 "/claim/cut.py" 774 106 2 0 0 3 462 true 181 463 #[.none, (.ref 464), (.ref 465), (.ref 466), (.int 778 0), (.int 106 0), (.str "/claim/cut.py" 779)])),
  (468, (fu "__init__" "UnknownPlace.__init__" (nthS (fb (nthS bd 23)) 0) (nthS (fb (nthS bd 32)) 0) [("__class__", 456)] .none .none .none (.str "strandclasses.errors" 187) none (.ref 467) (.ref 461) 0)),
  (469, (tu #[(.str "value" 781)])),
  (470, (dc #[(de P "__module__" 767 (.str "strandclasses.errors" 187)), (de P "__firstlineno__" 771 (.int 104 770)), (de P "__init__" 780 (.ref 468)), (de P "__static_attributes__" 782 (.ref 469)), (de P "__doc__" 784 .none)] 3)),
  (471, (.mk (.type "type") none (.cls (.mk "UnknownPlace" [(.ref 37)] [(.ref 471), (.ref 37), (.type "KeyError"), (.type "LookupError"), (.type "Exception"), (.type "BaseException"), (.type "object")] 470 "UnknownPlace" true [] [] false none false)) #[(some (.ref 453)), none, (some (.str "UnknownPlace" 760)), (some (.str "UnknownPlace" 768)), (some (.builtin "LookupError.__new__")), (some (.bool true))])),
  (472, (.mk (.type "super") none (.fields #[(.ref 471), (.ref 471), (.ref 471)]) #[])),
  (473, (.mk (.type "builtin_function_or_method") none (.fields #[(.builtin "object.__init_subclass__"), (.ref 471)]) #[])),
  (474, (tu #[(.ref 37)])),
  (475, (.mk (.type "builtin_function_or_method") none (.fields #[(.builtin "type.__prepare__"), (.type "type")]) #[])),
  (476, (dc #[(de P "__module__" 794 (.str "strandclasses.errors" 187)), (de P "__qualname__" 796 (.str "UnknownVertex" 795)), (de P "__firstlineno__" 798 (.int 109 797)), (de P "__init__" 807 (.ref 489)), (de P "__static_attributes__" 809 (.ref 490)), (de P "__classcell__" 810 (.ref 477))] 6)),
  (477, (.mk (.type "cell") none (.cell (some (.ref 492))) #[])),
  (478, (tu #[])),
  (479, (.mk .none none (.fields #[(.int 111 0), (.int 4 0), (.ref 488)]) #[])),
  (480, (co "UnknownVertex" 789 "UnknownVertex" 790 "/claim/cut.py" 791 109 0 0 0 0 478 false 181 479 #[.none, .none, .none, .none, (.int 792 0), (.int 109 0), (.str "/claim/cut.py" 793)])),
  (481, (.mk (.type "frame") none .plain #[(some (.ref 480)), (some (.ref 3)), (some (.ref 476)), none, (some (.str "strandclasses.errors" 187)), none, (some (.ref 0))])),
  (482, (tu #[(.ref 477)])),
  (483, (tu #[(.str "__class__" 802)])),
  (484, em),
  (485, (tu #[(.str "self" 803), (.str "value" 804)])),
  (486, (tu #[])),
  (487, (.mk .none none (.func (.mk "__init__" "UnknownVertex.__init__" (fa (nthS (fb (nthS bd 24)) 0)) (.stmts (fb (nthS (fb (nthS bd 24)) 0))) (fs (nthS (fb (nthS bd 32)) 0)) 0 [] .none .none .none .none none .none .none 0)) #[])),
  (488, (co "__init__" 799 "UnknownVertex.__init__" 800 "/claim/cut.py" 801 111 2 0 0 3 483 true 181 484 #[.none, (.ref 485), (.ref 486), (.ref 487), (.int 805 0), (.int 111 0), (.str "/claim/cut.py" 806)])),
  (489, (fu "__init__" "UnknownVertex.__init__" (nthS (fb (nthS bd 24)) 0) (nthS (fb (nthS bd 32)) 0) [("__class__", 477)] .none .none .none (.str "strandclasses.errors" 187) none (.ref 488) (.ref 482) 0)),
  (490, (tu #[(.str "value" 808)])),
  (491, (dc #[(de P "__module__" 794 (.str "strandclasses.errors" 187)), (de P "__firstlineno__" 798 (.int 109 797)), (de P "__init__" 807 (.ref 489)), (de P "__static_attributes__" 809 (.ref 490)), (de P "__doc__" 811 .none)] 3)),
  (492, (.mk (.type "type") none (.cls (.mk "UnknownVertex" [(.ref 37)] [(.ref 492), (.ref 37), (.type "KeyError"), (.type "LookupError"), (.type "Exception"), (.type "BaseException"), (.type "object")] 491 "UnknownVertex" true [] [] false none false)) #[(some (.ref 474)), none, (some (.str "UnknownVertex" 787)), (some (.str "UnknownVertex" 795)), (some (.builtin "LookupError.__new__")), (some (.bool true))])),
  (493, (.mk (.type "super") none (.fields #[(.ref 492), (.ref 492), (.ref 492)]) #[])),
  (494, (.mk (.type "builtin_function_or_method") none (.fields #[(.builtin "object.__init_subclass__"), (.ref 492)]) #[])),
  (495, (tu #[(.ref 37)])),
  (496, (.mk (.type "builtin_function_or_method") none (.fields #[(.builtin "type.__prepare__"), (.type "type")]) #[])),
  (497, (dc #[(de P "__module__" 821 (.str "strandclasses.errors" 187)), (de P "__qualname__" 823 (.str "UnknownName" 822)), (de P "__firstlineno__" 825 (.int 114 824)), (de P "__init__" 834 (.ref 510)), (de P "__static_attributes__" 836 (.ref 511)), (de P "__classcell__" 837 (.ref 498))] 6)),
  (498, (.mk (.type "cell") none (.cell (some (.ref 513))) #[])),
  (499, (tu #[])),
  (500, (.mk .none none (.fields #[(.int 116 0), (.int 4 0), (.ref 509)]) #[])),
  (501, (co "UnknownName" 816 "UnknownName" 817 "/claim/cut.py" 818 114 0 0 0 0 499 false 181 500 #[.none, .none, .none, .none, (.int 819 0), (.int 114 0), (.str "/claim/cut.py" 820)])),
  (502, (.mk (.type "frame") none .plain #[(some (.ref 501)), (some (.ref 3)), (some (.ref 497)), none, (some (.str "strandclasses.errors" 187)), none, (some (.ref 0))])),
  (503, (tu #[(.ref 498)])),
  (504, (tu #[(.str "__class__" 829)])),
  (505, em),
  (506, (tu #[(.str "self" 830), (.str "value" 831)])),
  (507, (tu #[])),
  (508, (.mk .none none (.func (.mk "__init__" "UnknownName.__init__" (fa (nthS (fb (nthS bd 25)) 0)) (.stmts (fb (nthS (fb (nthS bd 25)) 0))) (fs (nthS (fb (nthS bd 32)) 0)) 0 [] .none .none .none .none none .none .none 0)) #[])),
  (509, (co "__init__" 826 "UnknownName.__init__" 827 "/claim/cut.py" 828 116 2 0 0 3 504 true 181 505 #[.none, (.ref 506), (.ref 507), (.ref 508), (.int 832 0), (.int 116 0), (.str "/claim/cut.py" 833)])),
  (510, (fu "__init__" "UnknownName.__init__" (nthS (fb (nthS bd 25)) 0) (nthS (fb (nthS bd 32)) 0) [("__class__", 498)] .none .none .none (.str "strandclasses.errors" 187) none (.ref 509) (.ref 503) 0)),
  (511, (tu #[(.str "value" 835)])),
  (512, (dc #[(de P "__module__" 821 (.str "strandclasses.errors" 187)), (de P "__firstlineno__" 825 (.int 114 824)), (de P "__init__" 834 (.ref 510)), (de P "__static_attributes__" 836 (.ref 511)), (de P "__doc__" 838 .none)] 3)),
  (513, (.mk (.type "type") none (.cls (.mk "UnknownName" [(.ref 37)] [(.ref 513), (.ref 37), (.type "KeyError"), (.type "LookupError"), (.type "Exception"), (.type "BaseException"), (.type "object")] 512 "UnknownName" true [] [] false none false)) #[(some (.ref 495)), none, (some (.str "UnknownName" 814)), (some (.str "UnknownName" 822)), (some (.builtin "LookupError.__new__")), (some (.bool true))])),
  (514, (.mk (.type "super") none (.fields #[(.ref 513), (.ref 513), (.ref 513)]) #[])),
  (515, (.mk (.type "builtin_function_or_method") none (.fields #[(.builtin "object.__init_subclass__"), (.ref 513)]) #[])),
  (516, (tu #[(.ref 37)])),
  (517, (.mk (.type "builtin_function_or_method") none (.fields #[(.builtin "type.__prepare__"), (.type "type")]) #[])),
  (518, (dc #[(de P "__module__" 848 (.str "strandclasses.errors" 187)), (de P "__qualname__" 850 (.str "UnknownMember" 849)), (de P "__firstlineno__" 852 (.int 119 851)), (de P "__init__" 861 (.ref 531)), (de P "__static_attributes__" 863 (.ref 532)), (de P "__classcell__" 864 (.ref 519))] 6)),
  (519, (.mk (.type "cell") none (.cell (some (.ref 534))) #[])),
  (520, (tu #[])),
  (521, (.mk .none none (.fields #[(.int 121 0), (.int 4 0), (.ref 530)]) #[])),
  (522, (co "UnknownMember" 843 "UnknownMember" 844 "/claim/cut.py" 845 119 0 0 0 0 520 false 181 521 #[.none, .none, .none, .none, (.int 846 0), (.int 119 0), (.str "/claim/cut.py" 847)])),
  (523, (.mk (.type "frame") none .plain #[(some (.ref 522)), (some (.ref 3)), (some (.ref 518)), none, (some (.str "strandclasses.errors" 187)), none, (some (.ref 0))])),
  (524, (tu #[(.ref 519)])),
  (525, (tu #[(.str "__class__" 856)])),
  (526, em),
  (527, (tu #[(.str "self" 857), (.str "value" 858)])),
  (528, (tu #[])),
  (529, (.mk .none none (.func (.mk "__init__" "UnknownMember.__init__" (fa (nthS (fb (nthS bd 26)) 0)) (.stmts (fb (nthS (fb (nthS bd 26)) 0))) (fs (nthS (fb (nthS bd 32)) 0)) 0 [] .none .none .none .none none .none .none 0)) #[])),
  (530, (co "__init__" 853 "UnknownMember.__init__" 854 "/claim/cut.py" 855 121 2 0 0 3 525 true 181 526 #[.none, (.ref 527), (.ref 528), (.ref 529), (.int 859 0), (.int 121 0), (.str "/claim/cut.py" 860)])),
  (531, (fu "__init__" "UnknownMember.__init__" (nthS (fb (nthS bd 26)) 0) (nthS (fb (nthS bd 32)) 0) [("__class__", 519)] .none .none .none (.str "strandclasses.errors" 187) none (.ref 530) (.ref 524) 0)),
  (532, (tu #[(.str "value" 862)])),
  (533, (dc #[(de P "__module__" 848 (.str "strandclasses.errors" 187)), (de P "__firstlineno__" 852 (.int 119 851)), (de P "__init__" 861 (.ref 531)), (de P "__static_attributes__" 863 (.ref 532)), (de P "__doc__" 865 .none)] 3)),
  (534, (.mk (.type "type") none (.cls (.mk "UnknownMember" [(.ref 37)] [(.ref 534), (.ref 37), (.type "KeyError"), (.type "LookupError"), (.type "Exception"), (.type "BaseException"), (.type "object")] 533 "UnknownMember" true [] [] false none false)) #[(some (.ref 516)), none, (some (.str "UnknownMember" 841)), (some (.str "UnknownMember" 849)), (some (.builtin "LookupError.__new__")), (some (.bool true))])),
  (535, (.mk (.type "super") none (.fields #[(.ref 534), (.ref 534), (.ref 534)]) #[])),
  (536, (.mk (.type "builtin_function_or_method") none (.fields #[(.builtin "object.__init_subclass__"), (.ref 534)]) #[])),
  (537, (tu #[(.ref 50)])),
  (538, (.mk (.type "builtin_function_or_method") none (.fields #[(.builtin "type.__prepare__"), (.type "type")]) #[])),
  (539, (dc #[(de P "__module__" 875 (.str "strandclasses.errors" 187)), (de P "__qualname__" 877 (.str "NotApplicable" 876)), (de P "__firstlineno__" 879 (.int 124 878)), (de P "__init__" 889 (.ref 552)), (de P "__static_attributes__" 892 (.ref 553)), (de P "__classcell__" 893 (.ref 540))] 6)),
  (540, (.mk (.type "cell") none (.cell (some (.ref 555))) #[])),
  (541, (tu #[])),
  (542, (.mk .none none (.fields #[(.int 126 0), (.int 4 0), (.ref 551)]) #[])),
  (543, (co "NotApplicable" 870 "NotApplicable" 871 "/claim/cut.py" 872 124 0 0 0 0 541 false 181 542 #[.none, .none, .none, .none, (.int 873 0), (.int 124 0), (.str "/claim/cut.py" 874)])),
  (544, (.mk (.type "frame") none .plain #[(some (.ref 543)), (some (.ref 3)), (some (.ref 539)), none, (some (.str "strandclasses.errors" 187)), none, (some (.ref 0))])),
  (545, (tu #[(.ref 540)])),
  (546, (tu #[(.str "__class__" 883)])),
  (547, em),
  (548, (tu #[(.str "self" 884), (.str "step" 885), (.str "reason" 886)])),
  (549, (tu #[])),
  (550, (.mk .none none (.func (.mk "__init__" "NotApplicable.__init__" (fa (nthS (fb (nthS bd 27)) 0)) (.stmts (fb (nthS (fb (nthS bd 27)) 0))) (fs (nthS (fb (nthS bd 27)) 0)) 0 [] .none .none .none .none none .none .none 0)) #[])),
  (551, (co "__init__" 880 "NotApplicable.__init__" 881 "/claim/cut.py" 882 126 3 0 0 3 546 true 181 547 #[.none, (.ref 548), (.ref 549), (.ref 550), (.int 887 0), (.int 126 0), (.str "/claim/cut.py" 888)])),
  (552, (fu "__init__" "NotApplicable.__init__" (nthS (fb (nthS bd 27)) 0) (nthS (fb (nthS bd 27)) 0) [("__class__", 540)] .none .none .none (.str "strandclasses.errors" 187) none (.ref 551) (.ref 545) 0)),
  (553, (tu #[(.str "reason" 890), (.str "step" 891)])),
  (554, (dc #[(de P "__module__" 875 (.str "strandclasses.errors" 187)), (de P "__firstlineno__" 879 (.int 124 878)), (de P "__init__" 889 (.ref 552)), (de P "__static_attributes__" 892 (.ref 553)), (de P "__doc__" 894 .none)] 3)),
  (555, (.mk (.type "type") none (.cls (.mk "NotApplicable" [(.ref 50)] [(.ref 555), (.ref 50), (.type "LookupError"), (.type "Exception"), (.type "BaseException"), (.type "object")] 554 "NotApplicable" true [] [] false none false)) #[(some (.ref 537)), none, (some (.str "NotApplicable" 868)), (some (.str "NotApplicable" 876)), (some (.builtin "LookupError.__new__")), (some (.bool true))])),
  (556, (.mk (.type "super") none (.fields #[(.ref 555), (.ref 555), (.ref 555)]) #[])),
  (557, (.mk (.type "builtin_function_or_method") none (.fields #[(.builtin "object.__init_subclass__"), (.ref 555)]) #[])),
  (558, (tu #[(.ref 50)])),
  (559, (.mk (.type "builtin_function_or_method") none (.fields #[(.builtin "type.__prepare__"), (.type "type")]) #[])),
  (560, (dc #[(de P "__module__" 904 (.str "strandclasses.errors" 187)), (de P "__qualname__" 906 (.str "NotSelf" 905)), (de P "__firstlineno__" 908 (.int 130 907)), (de P "__init__" 917 (.ref 573)), (de P "__static_attributes__" 919 (.ref 574)), (de P "__classcell__" 920 (.ref 561))] 6)),
  (561, (.mk (.type "cell") none (.cell (some (.ref 576))) #[])),
  (562, (tu #[])),
  (563, (.mk .none none (.fields #[(.int 132 0), (.int 4 0), (.ref 572)]) #[])),
  (564, (co "NotSelf" 899 "NotSelf" 900 "/claim/cut.py" 901 130 0 0 0 0 562 false 181 563 #[.none, .none, .none, .none, (.int 902 0), (.int 130 0), (.str "/claim/cut.py" 903)])),
  (565, (.mk (.type "frame") none .plain #[(some (.ref 564)), (some (.ref 3)), (some (.ref 560)), none, (some (.str "strandclasses.errors" 187)), none, (some (.ref 0))])),
  (566, (tu #[(.ref 561)])),
  (567, (tu #[(.str "__class__" 912)])),
  (568, em),
  (569, (tu #[(.str "self" 913), (.str "value" 914)])),
  (570, (tu #[])),
  (571, (.mk .none none (.func (.mk "__init__" "NotSelf.__init__" (fa (nthS (fb (nthS bd 28)) 0)) (.stmts (fb (nthS (fb (nthS bd 28)) 0))) (fs (nthS (fb (nthS bd 32)) 0)) 0 [] .none .none .none .none none .none .none 0)) #[])),
  (572, (co "__init__" 909 "NotSelf.__init__" 910 "/claim/cut.py" 911 132 2 0 0 3 567 true 181 568 #[.none, (.ref 569), (.ref 570), (.ref 571), (.int 915 0), (.int 132 0), (.str "/claim/cut.py" 916)])),
  (573, (fu "__init__" "NotSelf.__init__" (nthS (fb (nthS bd 28)) 0) (nthS (fb (nthS bd 32)) 0) [("__class__", 561)] .none .none .none (.str "strandclasses.errors" 187) none (.ref 572) (.ref 566) 0)),
  (574, (tu #[(.str "value" 918)])),
  (575, (dc #[(de P "__module__" 904 (.str "strandclasses.errors" 187)), (de P "__firstlineno__" 908 (.int 130 907)), (de P "__init__" 917 (.ref 573)), (de P "__static_attributes__" 919 (.ref 574)), (de P "__doc__" 921 .none)] 3)),
  (576, (.mk (.type "type") none (.cls (.mk "NotSelf" [(.ref 50)] [(.ref 576), (.ref 50), (.type "LookupError"), (.type "Exception"), (.type "BaseException"), (.type "object")] 575 "NotSelf" true [] [] false none false)) #[(some (.ref 558)), none, (some (.str "NotSelf" 897)), (some (.str "NotSelf" 905)), (some (.builtin "LookupError.__new__")), (some (.bool true))])),
  (577, (.mk (.type "super") none (.fields #[(.ref 576), (.ref 576), (.ref 576)]) #[])),
  (578, (.mk (.type "builtin_function_or_method") none (.fields #[(.builtin "object.__init_subclass__"), (.ref 576)]) #[])),
  (579, (tu #[(.ref 50)])),
  (580, (.mk (.type "builtin_function_or_method") none (.fields #[(.builtin "type.__prepare__"), (.type "type")]) #[])),
  (581, (dc #[(de P "__module__" 931 (.str "strandclasses.errors" 187)), (de P "__qualname__" 933 (.str "NotNormal" 932)), (de P "__firstlineno__" 935 (.int 135 934)), (de P "__init__" 944 (.ref 594)), (de P "__static_attributes__" 946 (.ref 595)), (de P "__classcell__" 947 (.ref 582))] 6)),
  (582, (.mk (.type "cell") none (.cell (some (.ref 597))) #[])),
  (583, (tu #[])),
  (584, (.mk .none none (.fields #[(.int 137 0), (.int 4 0), (.ref 593)]) #[])),
  (585, (co "NotNormal" 926 "NotNormal" 927 "/claim/cut.py" 928 135 0 0 0 0 583 false 181 584 #[.none, .none, .none, .none, (.int 929 0), (.int 135 0), (.str "/claim/cut.py" 930)])),
  (586, (.mk (.type "frame") none .plain #[(some (.ref 585)), (some (.ref 3)), (some (.ref 581)), none, (some (.str "strandclasses.errors" 187)), none, (some (.ref 0))])),
  (587, (tu #[(.ref 582)])),
  (588, (tu #[(.str "__class__" 939)])),
  (589, em),
  (590, (tu #[(.str "self" 940), (.str "value" 941)])),
  (591, (tu #[])),
  (592, (.mk .none none (.func (.mk "__init__" "NotNormal.__init__" (fa (nthS (fb (nthS bd 29)) 0)) (.stmts (fb (nthS (fb (nthS bd 29)) 0))) (fs (nthS (fb (nthS bd 32)) 0)) 0 [] .none .none .none .none none .none .none 0)) #[])),
  (593, (co "__init__" 936 "NotNormal.__init__" 937 "/claim/cut.py" 938 137 2 0 0 3 588 true 181 589 #[.none, (.ref 590), (.ref 591), (.ref 592), (.int 942 0), (.int 137 0), (.str "/claim/cut.py" 943)])),
  (594, (fu "__init__" "NotNormal.__init__" (nthS (fb (nthS bd 29)) 0) (nthS (fb (nthS bd 32)) 0) [("__class__", 582)] .none .none .none (.str "strandclasses.errors" 187) none (.ref 593) (.ref 587) 0)),
  (595, (tu #[(.str "value" 945)])),
  (596, (dc #[(de P "__module__" 931 (.str "strandclasses.errors" 187)), (de P "__firstlineno__" 935 (.int 135 934)), (de P "__init__" 944 (.ref 594)), (de P "__static_attributes__" 946 (.ref 595)), (de P "__doc__" 948 .none)] 3)),
  (597, (.mk (.type "type") none (.cls (.mk "NotNormal" [(.ref 50)] [(.ref 597), (.ref 50), (.type "LookupError"), (.type "Exception"), (.type "BaseException"), (.type "object")] 596 "NotNormal" true [] [] false none false)) #[(some (.ref 579)), none, (some (.str "NotNormal" 924)), (some (.str "NotNormal" 932)), (some (.builtin "LookupError.__new__")), (some (.bool true))])),
  (598, (.mk (.type "super") none (.fields #[(.ref 597), (.ref 597), (.ref 597)]) #[])),
  (599, (.mk (.type "builtin_function_or_method") none (.fields #[(.builtin "object.__init_subclass__"), (.ref 597)]) #[])),
  (600, (tu #[(.ref 50)])),
  (601, (.mk (.type "builtin_function_or_method") none (.fields #[(.builtin "type.__prepare__"), (.type "type")]) #[])),
  (602, (dc #[(de P "__module__" 958 (.str "strandclasses.errors" 187)), (de P "__qualname__" 960 (.str "Unrelated" 959)), (de P "__firstlineno__" 962 (.int 140 961)), (de P "__init__" 972 (.ref 615)), (de P "__static_attributes__" 975 (.ref 616)), (de P "__classcell__" 976 (.ref 603))] 6)),
  (603, (.mk (.type "cell") none (.cell (some (.ref 618))) #[])),
  (604, (tu #[])),
  (605, (.mk .none none (.fields #[(.int 142 0), (.int 4 0), (.ref 614)]) #[])),
  (606, (co "Unrelated" 953 "Unrelated" 954 "/claim/cut.py" 955 140 0 0 0 0 604 false 181 605 #[.none, .none, .none, .none, (.int 956 0), (.int 140 0), (.str "/claim/cut.py" 957)])),
  (607, (.mk (.type "frame") none .plain #[(some (.ref 606)), (some (.ref 3)), (some (.ref 602)), none, (some (.str "strandclasses.errors" 187)), none, (some (.ref 0))])),
  (608, (tu #[(.ref 603)])),
  (609, (tu #[(.str "__class__" 966)])),
  (610, em),
  (611, (tu #[(.str "self" 967), (.str "one" 968), (.str "other" 969)])),
  (612, (tu #[])),
  (613, (.mk .none none (.func (.mk "__init__" "Unrelated.__init__" (fa (nthS (fb (nthS bd 30)) 0)) (.stmts (fb (nthS (fb (nthS bd 30)) 0))) (fs (nthS (fb (nthS bd 30)) 0)) 0 [] .none .none .none .none none .none .none 0)) #[])),
  (614, (co "__init__" 963 "Unrelated.__init__" 964 "/claim/cut.py" 965 142 3 0 0 3 609 true 181 610 #[.none, (.ref 611), (.ref 612), (.ref 613), (.int 970 0), (.int 142 0), (.str "/claim/cut.py" 971)])),
  (615, (fu "__init__" "Unrelated.__init__" (nthS (fb (nthS bd 30)) 0) (nthS (fb (nthS bd 30)) 0) [("__class__", 603)] .none .none .none (.str "strandclasses.errors" 187) none (.ref 614) (.ref 608) 0)),
  (616, (tu #[(.str "one" 973), (.str "other" 974)])),
  (617, (dc #[(de P "__module__" 958 (.str "strandclasses.errors" 187)), (de P "__firstlineno__" 962 (.int 140 961)), (de P "__init__" 972 (.ref 615)), (de P "__static_attributes__" 975 (.ref 616)), (de P "__doc__" 977 .none)] 3)),
  (618, (.mk (.type "type") none (.cls (.mk "Unrelated" [(.ref 50)] [(.ref 618), (.ref 50), (.type "LookupError"), (.type "Exception"), (.type "BaseException"), (.type "object")] 617 "Unrelated" true [] [] false none false)) #[(some (.ref 600)), none, (some (.str "Unrelated" 951)), (some (.str "Unrelated" 959)), (some (.builtin "LookupError.__new__")), (some (.bool true))])),
  (619, (.mk (.type "super") none (.fields #[(.ref 618), (.ref 618), (.ref 618)]) #[])),
  (620, (.mk (.type "builtin_function_or_method") none (.fields #[(.builtin "object.__init_subclass__"), (.ref 618)]) #[])),
  (621, (tu #[(.ref 50)])),
  (622, (.mk (.type "builtin_function_or_method") none (.fields #[(.builtin "type.__prepare__"), (.type "type")]) #[])),
  (623, (dc #[(de P "__module__" 987 (.str "strandclasses.errors" 187)), (de P "__qualname__" 989 (.str "DuplicateName" 988)), (de P "__firstlineno__" 991 (.int 146 990)), (de P "__init__" 1000 (.ref 636)), (de P "__static_attributes__" 1002 (.ref 637)), (de P "__classcell__" 1003 (.ref 624))] 6)),
  (624, (.mk (.type "cell") none (.cell (some (.ref 639))) #[])),
  (625, (tu #[])),
  (626, (.mk .none none (.fields #[(.int 148 0), (.int 4 0), (.ref 635)]) #[])),
  (627, (co "DuplicateName" 982 "DuplicateName" 983 "/claim/cut.py" 984 146 0 0 0 0 625 false 181 626 #[.none, .none, .none, .none, (.int 985 0), (.int 146 0), (.str "/claim/cut.py" 986)])),
  (628, (.mk (.type "frame") none .plain #[(some (.ref 627)), (some (.ref 3)), (some (.ref 623)), none, (some (.str "strandclasses.errors" 187)), none, (some (.ref 0))])),
  (629, (tu #[(.ref 624)])),
  (630, (tu #[(.str "__class__" 995)])),
  (631, em),
  (632, (tu #[(.str "self" 996), (.str "value" 997)])),
  (633, (tu #[])),
  (634, (.mk .none none (.func (.mk "__init__" "DuplicateName.__init__" (fa (nthS (fb (nthS bd 31)) 0)) (.stmts (fb (nthS (fb (nthS bd 31)) 0))) (fs (nthS (fb (nthS bd 32)) 0)) 0 [] .none .none .none .none none .none .none 0)) #[])),
  (635, (co "__init__" 992 "DuplicateName.__init__" 993 "/claim/cut.py" 994 148 2 0 0 3 630 true 181 631 #[.none, (.ref 632), (.ref 633), (.ref 634), (.int 998 0), (.int 148 0), (.str "/claim/cut.py" 999)])),
  (636, (fu "__init__" "DuplicateName.__init__" (nthS (fb (nthS bd 31)) 0) (nthS (fb (nthS bd 32)) 0) [("__class__", 624)] .none .none .none (.str "strandclasses.errors" 187) none (.ref 635) (.ref 629) 0)),
  (637, (tu #[(.str "value" 1001)])),
  (638, (dc #[(de P "__module__" 987 (.str "strandclasses.errors" 187)), (de P "__firstlineno__" 991 (.int 146 990)), (de P "__init__" 1000 (.ref 636)), (de P "__static_attributes__" 1002 (.ref 637)), (de P "__doc__" 1004 .none)] 3)),
  (639, (.mk (.type "type") none (.cls (.mk "DuplicateName" [(.ref 50)] [(.ref 639), (.ref 50), (.type "LookupError"), (.type "Exception"), (.type "BaseException"), (.type "object")] 638 "DuplicateName" true [] [] false none false)) #[(some (.ref 621)), none, (some (.str "DuplicateName" 980)), (some (.str "DuplicateName" 988)), (some (.builtin "LookupError.__new__")), (some (.bool true))])),
  (640, (.mk (.type "super") none (.fields #[(.ref 639), (.ref 639), (.ref 639)]) #[])),
  (641, (.mk (.type "builtin_function_or_method") none (.fields #[(.builtin "object.__init_subclass__"), (.ref 639)]) #[])),
  (642, (tu #[(.ref 50)])),
  (643, (.mk (.type "builtin_function_or_method") none (.fields #[(.builtin "type.__prepare__"), (.type "type")]) #[])),
  (644, (dc #[(de P "__module__" 1014 (.str "strandclasses.errors" 187)), (de P "__qualname__" 1016 (.str "InUse" 1015)), (de P "__firstlineno__" 1018 (.int 151 1017)), (de P "__init__" 1027 (.ref 657)), (de P "__static_attributes__" 1029 (.ref 658)), (de P "__classcell__" 1030 (.ref 645))] 6)),
  (645, (.mk (.type "cell") none (.cell (some (.ref 660))) #[])),
  (646, (tu #[])),
  (647, (.mk .none none (.fields #[(.int 153 0), (.int 4 0), (.ref 656)]) #[])),
  (648, (co "InUse" 1009 "InUse" 1010 "/claim/cut.py" 1011 151 0 0 0 0 646 false 181 647 #[.none, .none, .none, .none, (.int 1012 0), (.int 151 0), (.str "/claim/cut.py" 1013)])),
  (649, (.mk (.type "frame") none .plain #[(some (.ref 648)), (some (.ref 3)), (some (.ref 644)), none, (some (.str "strandclasses.errors" 187)), none, (some (.ref 0))])),
  (650, (tu #[(.ref 645)])),
  (651, (tu #[(.str "__class__" 1022)])),
  (652, em),
  (653, (tu #[(.str "self" 1023), (.str "value" 1024)])),
  (654, (tu #[])),
  (655, (.mk .none none (.func (.mk "__init__" "InUse.__init__" (fa (nthS (fb (nthS bd 32)) 0)) (.stmts (fb (nthS (fb (nthS bd 32)) 0))) (fs (nthS (fb (nthS bd 32)) 0)) 0 [] .none .none .none .none none .none .none 0)) #[])),
  (656, (co "__init__" 1019 "InUse.__init__" 1020 "/claim/cut.py" 1021 153 2 0 0 3 651 true 181 652 #[.none, (.ref 653), (.ref 654), (.ref 655), (.int 1025 0), (.int 153 0), (.str "/claim/cut.py" 1026)])),
  (657, (fu "__init__" "InUse.__init__" (nthS (fb (nthS bd 32)) 0) (nthS (fb (nthS bd 32)) 0) [("__class__", 645)] .none .none .none (.str "strandclasses.errors" 187) none (.ref 656) (.ref 650) 0)),
  (658, (tu #[(.str "value" 1028)])),
  (659, (dc #[(de P "__module__" 1014 (.str "strandclasses.errors" 187)), (de P "__firstlineno__" 1018 (.int 151 1017)), (de P "__init__" 1027 (.ref 657)), (de P "__static_attributes__" 1029 (.ref 658)), (de P "__doc__" 1031 .none)] 3)),
  (660, (.mk (.type "type") none (.cls (.mk "InUse" [(.ref 50)] [(.ref 660), (.ref 50), (.type "LookupError"), (.type "Exception"), (.type "BaseException"), (.type "object")] 659 "InUse" true [] [] false none false)) #[(some (.ref 642)), none, (some (.str "InUse" 1007)), (some (.str "InUse" 1015)), (some (.builtin "LookupError.__new__")), (some (.bool true))])),
  (661, (.mk (.type "super") none (.fields #[(.ref 660), (.ref 660), (.ref 660)]) #[])),
  (662, (.mk (.type "builtin_function_or_method") none (.fields #[(.builtin "object.__init_subclass__"), (.ref 660)]) #[]))]
def M1 (P : Params) : List (Nat × Obj) := M0 P ++ L1 P
def S1 : World → OsState → SharedT := cutS M1 663 (.mk [] [] [] 0 [] [] false #[] [] 0 false false false 0 [2000, 10, 10] false 0 true [] [] 0 false) #[] (.mk 0 0 0 0) 1034
def L2 (P : Params) : List (Nat × Obj) := [(3, (dc #[(de P "__name__" 165 (.str "law_strandclasses_k07_exceptions_by_class" 1113)), (de P "__doc__" 166 .none), (de P "__package__" 167 .none), (de P "__loader__" 168 (.builtin "__main__.__loader__#opaque")), (de P "__spec__" 169 .none), (de P "__annotations__" 170 (.ref 6)), (de P "__builtins__" 171 (.ref 4)), (de P "__file__" 173 (.str "/claim/cut.py" 172)), (de P "__cached__" 174 .none), (de P "StrandError" 206 (.ref 24)), (de P "Missing" 226 (.ref 37)), (de P "Blocked" 244 (.ref 50)), (de P "InvalidInteger" 271 (.ref 72)), (de P "InvalidArity" 298 (.ref 93)), (de P "InvalidPlace" 325 (.ref 114)), (de P "InvalidPlaces" 352 (.ref 135)), (de P "InvalidCover" 379 (.ref 156)), (de P "InvalidPairs" 406 (.ref 177)), (de P "InvalidTable" 433 (.ref 198)), (de P "Mismatch" 462 (.ref 219)), (de P "InvalidWord" 489 (.ref 240)), (de P "InvalidPath" 516 (.ref 261)), (de P "InvalidText" 543 (.ref 282)), (de P "InvalidDiagram" 570 (.ref 303)), (de P "InvalidStep" 597 (.ref 324)), (de P "InvalidLog" 624 (.ref 345)), (de P "InvalidName" 651 (.ref 366)), (de P "InvalidFormula" 678 (.ref 387)), (de P "InvalidLine" 705 (.ref 408)), (de P "InvalidTree" 732 (.ref 429)), (de P "InvalidBook" 759 (.ref 450)), (de P "UnknownPlace" 786 (.ref 471)), (de P "UnknownVertex" 813 (.ref 492)), (de P "UnknownName" 840 (.ref 513)), (de P "UnknownMember" 867 (.ref 534)), (de P "NotApplicable" 896 (.ref 555)), (de P "NotSelf" 923 (.ref 576)), (de P "NotNormal" 950 (.ref 597)), (de P "Unrelated" 979 (.ref 618)), (de P "DuplicateName" 1006 (.ref 639)), (de P "InUse" 1033 (.ref 660)), (de P "Cyclic" 1060 (.ref 681)), (de P "TooLarge" 1087 (.ref 702)), (de P "NothingToUndo" 1112 (.ref 723)), (de P "_law_cell" 1122 (.ref 732)), (de P "_law_box" 1129 (.ref 739)), (de P "_law_take" 1139 (.ref 746)), (de P "_law_mixed" 1145 (.ref 751)), (de P "_law_thing" 1153 (.ref 758)), (de P "_law_with_value" 1161 (.ref 765)), (de P "_law_under" 1170 (.ref 772)), (de P "_law_alone" 1176 (.ref 777)), (de P "_law_right" 1182 (.ref 782)), (de P "_law_bases_right" 1191 (.ref 789)), (de P "law" 1197 (.ref 794))] 55)),
  (12, (.mk .none none (.fields #[(.int 2 0), (.int 0 0), (.ref 20), (.int 4 0), (.int 0 0), (.ref 33), (.int 6 0), (.int 0 0), (.ref 46), (.int 8 0), (.int 0 0), (.ref 60), (.int 13 0), (.int 0 0), (.ref 81), (.int 18 0), (.int 0 0), (.ref 102), (.int 23 0), (.int 0 0), (.ref 123), (.int 28 0), (.int 0 0), (.ref 144), (.int 33 0), (.int 0 0), (.ref 165), (.int 38 0), (.int 0 0), (.ref 186), (.int 43 0), (.int 0 0), (.ref 207), (.int 49 0), (.int 0 0), (.ref 228), (.int 54 0), (.int 0 0), (.ref 249), (.int 59 0), (.int 0 0), (.ref 270), (.int 64 0), (.int 0 0), (.ref 291), (.int 69 0), (.int 0 0), (.ref 312), (.int 74 0), (.int 0 0), (.ref 333), (.int 79 0), (.int 0 0), (.ref 354), (.int 84 0), (.int 0 0), (.ref 375), (.int 89 0), (.int 0 0), (.ref 396), (.int 94 0), (.int 0 0), (.ref 417), (.int 99 0), (.int 0 0), (.ref 438), (.int 104 0), (.int 0 0), (.ref 459), (.int 109 0), (.int 0 0), (.ref 480), (.int 114 0), (.int 0 0), (.ref 501), (.int 119 0), (.int 0 0), (.ref 522), (.int 124 0), (.int 0 0), (.ref 543), (.int 130 0), (.int 0 0), (.ref 564), (.int 135 0), (.int 0 0), (.ref 585), (.int 140 0), (.int 0 0), (.ref 606), (.int 146 0), (.int 0 0), (.ref 627), (.int 151 0), (.int 0 0), (.ref 648), (.int 156 0), (.int 0 0), (.ref 669), (.int 161 0), (.int 0 0), (.ref 690), (.int 166 0), (.int 0 0), (.ref 711), (.int 171 0), (.int 0 0), (.ref 731), (.int 175 0), (.int 0 0), (.ref 738), (.int 177 0), (.int 0 0), (.ref 745), (.int 186 0), (.int 0 0), (.ref 750), (.int 189 0), (.int 0 0), (.ref 757), (.int 192 0), (.int 0 0), (.ref 764), (.int 199 0), (.int 0 0), (.ref 771), (.int 204 0), (.int 0 0), (.ref 776), (.int 217 0), (.int 0 0), (.ref 781), (.int 235 0), (.int 0 0), (.ref 788), (.int 238 0), (.int 0 0), (.ref 793)]) #[])),
  (50, (.mk (.type "type") none (.cls (.mk "Blocked" [(.type "LookupError")] [(.ref 50), (.type "LookupError"), (.type "Exception"), (.type "BaseException"), (.type "object")] 49 "Blocked" true [] [(.ref 555), (.ref 576), (.ref 597), (.ref 618), (.ref 639), (.ref 660), (.ref 681), (.ref 702), (.ref 723)] false none false)) #[(some (.ref 41)), none, (some (.str "Blocked" 227)), (some (.str "Blocked" 235)), (some (.builtin "LookupError.__new__")), (some (.bool true))])),
  (663, (tu #[(.ref 50)])),
  (664, (.mk (.type "builtin_function_or_method") none (.fields #[(.builtin "type.__prepare__"), (.type "type")]) #[])),
  (665, (dc #[(de P "__module__" 1041 (.str "strandclasses.errors" 187)), (de P "__qualname__" 1043 (.str "Cyclic" 1042)), (de P "__firstlineno__" 1045 (.int 156 1044)), (de P "__init__" 1054 (.ref 678)), (de P "__static_attributes__" 1056 (.ref 679)), (de P "__classcell__" 1057 (.ref 666))] 6)),
  (666, (.mk (.type "cell") none (.cell (some (.ref 681))) #[])),
  (667, (tu #[])),
  (668, (.mk .none none (.fields #[(.int 158 0), (.int 4 0), (.ref 677)]) #[])),
  (669, (co "Cyclic" 1036 "Cyclic" 1037 "/claim/cut.py" 1038 156 0 0 0 0 667 false 181 668 #[.none, .none, .none, .none, (.int 1039 0), (.int 156 0), (.str "/claim/cut.py" 1040)])),
  (670, (.mk (.type "frame") none .plain #[(some (.ref 669)), (some (.ref 3)), (some (.ref 665)), none, (some (.str "strandclasses.errors" 187)), none, (some (.ref 0))])),
  (671, (tu #[(.ref 666)])),
  (672, (tu #[(.str "__class__" 1049)])),
  (673, em),
  (674, (tu #[(.str "self" 1050), (.str "cycle" 1051)])),
  (675, (tu #[])),
  (676, (.mk .none none (.func (.mk "__init__" "Cyclic.__init__" (fa (nthS (fb (nthS bd 33)) 0)) (.stmts (fb (nthS (fb (nthS bd 33)) 0))) (fs (nthS (fb (nthS bd 33)) 0)) 0 [] .none .none .none .none none .none .none 0)) #[])),
  (677, (co "__init__" 1046 "Cyclic.__init__" 1047 "/claim/cut.py" 1048 158 2 0 0 3 672 true 181 673 #[.none, (.ref 674), (.ref 675), (.ref 676), (.int 1052 0), (.int 158 0), (.str "/claim/cut.py" 1053)])),
  (678, (fu "__init__" "Cyclic.__init__" (nthS (fb (nthS bd 33)) 0) (nthS (fb (nthS bd 33)) 0) [("__class__", 666)] .none .none .none (.str "strandclasses.errors" 187) none (.ref 677) (.ref 671) 0)),
  (679, (tu #[(.str "cycle" 1055)])),
  (680, (dc #[(de P "__module__" 1041 (.str "strandclasses.errors" 187)), (de P "__firstlineno__" 1045 (.int 156 1044)), (de P "__init__" 1054 (.ref 678)), (de P "__static_attributes__" 1056 (.ref 679)), (de P "__doc__" 1058 .none)] 3)),
  (681, (.mk (.type "type") none (.cls (.mk "Cyclic" [(.ref 50)] [(.ref 681), (.ref 50), (.type "LookupError"), (.type "Exception"), (.type "BaseException"), (.type "object")] 680 "Cyclic" true [] [] false none false)) #[(some (.ref 663)), none, (some (.str "Cyclic" 1034)), (some (.str "Cyclic" 1042)), (some (.builtin "LookupError.__new__")), (some (.bool true))])),
  (682, (.mk (.type "super") none (.fields #[(.ref 681), (.ref 681), (.ref 681)]) #[])),
  (683, (.mk (.type "builtin_function_or_method") none (.fields #[(.builtin "object.__init_subclass__"), (.ref 681)]) #[])),
  (684, (tu #[(.ref 50)])),
  (685, (.mk (.type "builtin_function_or_method") none (.fields #[(.builtin "type.__prepare__"), (.type "type")]) #[])),
  (686, (dc #[(de P "__module__" 1068 (.str "strandclasses.errors" 187)), (de P "__qualname__" 1070 (.str "TooLarge" 1069)), (de P "__firstlineno__" 1072 (.int 161 1071)), (de P "__init__" 1081 (.ref 699)), (de P "__static_attributes__" 1083 (.ref 700)), (de P "__classcell__" 1084 (.ref 687))] 6)),
  (687, (.mk (.type "cell") none (.cell (some (.ref 702))) #[])),
  (688, (tu #[])),
  (689, (.mk .none none (.fields #[(.int 163 0), (.int 4 0), (.ref 698)]) #[])),
  (690, (co "TooLarge" 1063 "TooLarge" 1064 "/claim/cut.py" 1065 161 0 0 0 0 688 false 181 689 #[.none, .none, .none, .none, (.int 1066 0), (.int 161 0), (.str "/claim/cut.py" 1067)])),
  (691, (.mk (.type "frame") none .plain #[(some (.ref 690)), (some (.ref 3)), (some (.ref 686)), none, (some (.str "strandclasses.errors" 187)), none, (some (.ref 0))])),
  (692, (tu #[(.ref 687)])),
  (693, (tu #[(.str "__class__" 1076)])),
  (694, em),
  (695, (tu #[(.str "self" 1077), (.str "total" 1078)])),
  (696, (tu #[])),
  (697, (.mk .none none (.func (.mk "__init__" "TooLarge.__init__" (fa (nthS (fb (nthS bd 34)) 0)) (.stmts (fb (nthS (fb (nthS bd 34)) 0))) (fs (nthS (fb (nthS bd 34)) 0)) 0 [] .none .none .none .none none .none .none 0)) #[])),
  (698, (co "__init__" 1073 "TooLarge.__init__" 1074 "/claim/cut.py" 1075 163 2 0 0 3 693 true 181 694 #[.none, (.ref 695), (.ref 696), (.ref 697), (.int 1079 0), (.int 163 0), (.str "/claim/cut.py" 1080)])),
  (699, (fu "__init__" "TooLarge.__init__" (nthS (fb (nthS bd 34)) 0) (nthS (fb (nthS bd 34)) 0) [("__class__", 687)] .none .none .none (.str "strandclasses.errors" 187) none (.ref 698) (.ref 692) 0)),
  (700, (tu #[(.str "total" 1082)])),
  (701, (dc #[(de P "__module__" 1068 (.str "strandclasses.errors" 187)), (de P "__firstlineno__" 1072 (.int 161 1071)), (de P "__init__" 1081 (.ref 699)), (de P "__static_attributes__" 1083 (.ref 700)), (de P "__doc__" 1085 .none)] 3)),
  (702, (.mk (.type "type") none (.cls (.mk "TooLarge" [(.ref 50)] [(.ref 702), (.ref 50), (.type "LookupError"), (.type "Exception"), (.type "BaseException"), (.type "object")] 701 "TooLarge" true [] [] false none false)) #[(some (.ref 684)), none, (some (.str "TooLarge" 1061)), (some (.str "TooLarge" 1069)), (some (.builtin "LookupError.__new__")), (some (.bool true))])),
  (703, (.mk (.type "super") none (.fields #[(.ref 702), (.ref 702), (.ref 702)]) #[])),
  (704, (.mk (.type "builtin_function_or_method") none (.fields #[(.builtin "object.__init_subclass__"), (.ref 702)]) #[])),
  (705, (tu #[(.ref 50)])),
  (706, (.mk (.type "builtin_function_or_method") none (.fields #[(.builtin "type.__prepare__"), (.type "type")]) #[])),
  (707, (dc #[(de P "__module__" 1095 (.str "strandclasses.errors" 187)), (de P "__qualname__" 1097 (.str "NothingToUndo" 1096)), (de P "__firstlineno__" 1099 (.int 166 1098)), (de P "__init__" 1107 (.ref 720)), (de P "__static_attributes__" 1108 (.ref 721)), (de P "__classcell__" 1109 (.ref 708))] 6)),
  (708, (.mk (.type "cell") none (.cell (some (.ref 723))) #[])),
  (709, (tu #[])),
  (710, (.mk .none none (.fields #[(.int 168 0), (.int 4 0), (.ref 719)]) #[])),
  (711, (co "NothingToUndo" 1090 "NothingToUndo" 1091 "/claim/cut.py" 1092 166 0 0 0 0 709 false 181 710 #[.none, .none, .none, .none, (.int 1093 0), (.int 166 0), (.str "/claim/cut.py" 1094)])),
  (712, (.mk (.type "frame") none .plain #[(some (.ref 711)), (some (.ref 3)), (some (.ref 707)), none, (some (.str "strandclasses.errors" 187)), none, (some (.ref 0))])),
  (713, (tu #[(.ref 708)])),
  (714, (tu #[(.str "__class__" 1103)])),
  (715, em),
  (716, (tu #[(.str "self" 1104)])),
  (717, (tu #[])),
  (718, (.mk .none none (.func (.mk "__init__" "NothingToUndo.__init__" (fa (nthS (fb (nthS bd 35)) 0)) (.stmts (fb (nthS (fb (nthS bd 35)) 0))) (fs (nthS (fb (nthS bd 35)) 0)) 0 [] .none .none .none .none none .none .none 0)) #[])),
  (719, (co "__init__" 1100 "NothingToUndo.__init__" 1101 "/claim/cut.py" 1102 168 1 0 0 3 714 true 181 715 #[.none, (.ref 716), (.ref 717), (.ref 718), (.int 1105 0), (.int 168 0), (.str "/claim/cut.py" 1106)])),
  (720, (fu "__init__" "NothingToUndo.__init__" (nthS (fb (nthS bd 35)) 0) (nthS (fb (nthS bd 35)) 0) [("__class__", 708)] .none .none .none (.str "strandclasses.errors" 187) none (.ref 719) (.ref 713) 0)),
  (721, (tu #[])),
  (722, (dc #[(de P "__module__" 1095 (.str "strandclasses.errors" 187)), (de P "__firstlineno__" 1099 (.int 166 1098)), (de P "__init__" 1107 (.ref 720)), (de P "__static_attributes__" 1108 (.ref 721)), (de P "__doc__" 1110 .none)] 3)),
  (723, (.mk (.type "type") none (.cls (.mk "NothingToUndo" [(.ref 50)] [(.ref 723), (.ref 50), (.type "LookupError"), (.type "Exception"), (.type "BaseException"), (.type "object")] 722 "NothingToUndo" true [] [] false none false)) #[(some (.ref 705)), none, (some (.str "NothingToUndo" 1088)), (some (.str "NothingToUndo" 1096)), (some (.builtin "LookupError.__new__")), (some (.bool true))])),
  (724, (.mk (.type "super") none (.fields #[(.ref 723), (.ref 723), (.ref 723)]) #[])),
  (725, (.mk (.type "builtin_function_or_method") none (.fields #[(.builtin "object.__init_subclass__"), (.ref 723)]) #[])),
  (726, (tu #[])),
  (727, em),
  (728, (tu #[(.str "_law_script" 1118), (.str "_law_k" 1119)])),
  (729, (tu #[])),
  (730, (.mk .none none (.func (.mk "_law_cell" "_law_cell" (fa (nthS bd 37)) (.stmts (fb (nthS bd 37))) (fs (nthS bd 37)) 0 [] .none .none .none .none none .none .none 0)) #[])),
  (731, (co "_law_cell" 1115 "_law_cell" 1116 "/claim/cut.py" 1117 171 2 0 0 3 726 true 181 727 #[.none, (.ref 728), (.ref 729), (.ref 730), (.int 1120 0), (.int 171 0), (.str "/claim/cut.py" 1121)])),
  (732, (fu "_law_cell" "_law_cell" (nthS bd 37) (nthS bd 37) [] .none .none .none (.str "law_strandclasses_k07_exceptions_by_class" 1113) none (.ref 731) .none 0)),
  (733, (tu #[])),
  (734, em),
  (735, (tu #[(.str "_law_cell_here" 1126)])),
  (736, (tu #[])),
  (737, (.mk .none none (.func (.mk "_law_box" "_law_box" (fa (nthS bd 38)) (.stmts (fb (nthS bd 38))) (fs (nthS bd 38)) 0 [] .none .none .none .none none .none .none 0)) #[])),
  (738, (co "_law_box" 1123 "_law_box" 1124 "/claim/cut.py" 1125 175 1 0 0 3 733 true 181 734 #[.none, (.ref 735), (.ref 736), (.ref 737), (.int 1127 0), (.int 175 0), (.str "/claim/cut.py" 1128)])),
  (739, (fu "_law_box" "_law_box" (nthS bd 38) (nthS bd 38) [] .none .none .none (.str "law_strandclasses_k07_exceptions_by_class" 1113) none (.ref 738) .none 0)),
  (740, (tu #[])),
  (741, em),
  (742, (tu #[(.str "_law_box_here" 1133), (.str "_law_many" 1134), (.str "_law_digit" 1135), (.str "_law_number" 1136)])),
  (743, (tu #[])),
  (744, (.mk .none none (.func (.mk "_law_take" "_law_take" (fa (nthS bd 39)) (.stmts (fb (nthS bd 39))) (fs (nthS bd 39)) 0 [] .none .none .none .none none .none .none 0)) #[])),
  (745, (co "_law_take" 1130 "_law_take" 1131 "/claim/cut.py" 1132 177 2 0 0 3 740 true 181 741 #[.none, (.ref 742), (.ref 743), (.ref 744), (.int 1137 0), (.int 177 0), (.str "/claim/cut.py" 1138)])),
  (746, (fu "_law_take" "_law_take" (nthS bd 39) (nthS bd 39) [] .none .none .none (.str "law_strandclasses_k07_exceptions_by_class" 1113) none (.ref 745) .none 0)),
  (747, (tu #[])),
  (748, em),
  (749, (.mk .none none (.func (.mk "_law_mixed" "_law_mixed" (fa (nthS bd 40)) (.stmts (fb (nthS bd 40))) (fs (nthS bd 40)) 0 [] .none .none .none .none none .none .none 0)) #[])),
  (750, (co "_law_mixed" 1140 "_law_mixed" 1141 "/claim/cut.py" 1142 186 2 0 0 3 747 true 181 748 #[.none, .none, .none, (.ref 749), (.int 1143 0), (.int 186 0), (.str "/claim/cut.py" 1144)])),
  (751, (fu "_law_mixed" "_law_mixed" (nthS bd 40) (nthS bd 40) [] .none .none .none (.str "law_strandclasses_k07_exceptions_by_class" 1113) none (.ref 750) .none 0)),
  (752, (tu #[])),
  (753, em),
  (754, (tu #[(.str "_law_box_here" 1149), (.str "_law_some" 1150)])),
  (755, (tu #[])),
  (756, (.mk .none none (.func (.mk "_law_thing" "_law_thing" (fa (nthS bd 41)) (.stmts (fb (nthS bd 41))) (fs (nthS bd 41)) 0 [] .none .none .none .none none .none .none 0)) #[])),
  (757, (co "_law_thing" 1146 "_law_thing" 1147 "/claim/cut.py" 1148 189 1 0 0 3 752 true 181 753 #[.none, (.ref 754), (.ref 755), (.ref 756), (.int 1151 0), (.int 189 0), (.str "/claim/cut.py" 1152)])),
  (758, (fu "_law_thing" "_law_thing" (nthS bd 41) (nthS bd 41) [] .none .none .none (.str "law_strandclasses_k07_exceptions_by_class" 1113) none (.ref 757) .none 0)),
  (759, (tu #[])),
  (760, em),
  (761, (tu #[(.str "_law_thing_here" 1157), (.str "_law_some" 1158)])),
  (762, (tu #[])),
  (763, (.mk .none none (.func (.mk "_law_with_value" "_law_with_value" (fa (nthS bd 42)) (.stmts (fb (nthS bd 42))) (fs (nthS bd 42)) 0 [] .none .none .none .none none .none .none 0)) #[])),
  (764, (co "_law_with_value" 1154 "_law_with_value" 1155 "/claim/cut.py" 1156 192 1 0 0 3 759 true 181 760 #[.none, (.ref 761), (.ref 762), (.ref 763), (.int 1159 0), (.int 192 0), (.str "/claim/cut.py" 1160)])),
  (765, (fu "_law_with_value" "_law_with_value" (nthS bd 42) (nthS bd 42) [] .none .none .none (.str "law_strandclasses_k07_exceptions_by_class" 1113) none (.ref 764) .none 0)),
  (766, (tu #[])),
  (767, em),
  (768, (tu #[(.str "_law_error" 1165), (.str "_law_at" 1166), (.str "_law_found" 1167)])),
  (769, (tu #[])),
  (770, (.mk .none none (.func (.mk "_law_under" "_law_under" (fa (nthS bd 43)) (.stmts (fb (nthS bd 43))) (fs (nthS bd 43)) 0 [] .none .none .none .none none .none .none 0)) #[])),
  (771, (co "_law_under" 1162 "_law_under" 1163 "/claim/cut.py" 1164 199 2 0 0 3 766 true 181 767 #[.none, (.ref 768), (.ref 769), (.ref 770), (.int 1168 0), (.int 199 0), (.str "/claim/cut.py" 1169)])),
  (772, (fu "_law_under" "_law_under" (nthS bd 43) (nthS bd 43) [] .none .none .none (.str "law_strandclasses_k07_exceptions_by_class" 1113) none (.ref 771) .none 0)),
  (773, (tu #[])),
  (774, em),
  (775, (.mk .none none (.func (.mk "_law_alone" "_law_alone" (fa (nthS bd 44)) (.stmts (fb (nthS bd 44))) (fs (nthS bd 44)) 0 [] .none .none .none .none none .none .none 0)) #[])),
  (776, (co "_law_alone" 1171 "_law_alone" 1172 "/claim/cut.py" 1173 204 1 0 0 3 773 true 181 774 #[.none, .none, .none, (.ref 775), (.int 1174 0), (.int 204 0), (.str "/claim/cut.py" 1175)])),
  (777, (fu "_law_alone" "_law_alone" (nthS bd 44) (nthS bd 44) [] .none .none .none (.str "law_strandclasses_k07_exceptions_by_class" 1113) none (.ref 776) .none 0)),
  (778, (tu #[])),
  (779, em),
  (780, (.mk .none none (.func (.mk "_law_right" "_law_right" (fa (nthS bd 45)) (.stmts (fb (nthS bd 45))) (fs (nthS bd 45)) 0 [] .none .none .none .none none .none .none 0)) #[])),
  (781, (co "_law_right" 1177 "_law_right" 1178 "/claim/cut.py" 1179 217 2 0 0 3 778 true 181 779 #[.none, .none, .none, (.ref 780), (.int 1180 0), (.int 217 0), (.str "/claim/cut.py" 1181)])),
  (782, (fu "_law_right" "_law_right" (nthS bd 45) (nthS bd 45) [] .none .none .none (.str "law_strandclasses_k07_exceptions_by_class" 1113) none (.ref 781) .none 0)),
  (783, (tu #[])),
  (784, em),
  (785, (tu #[(.str "_law_first" 1186), (.str "_law_second" 1187), (.str "_law_third" 1188)])),
  (786, (tu #[])),
  (787, (.mk .none none (.func (.mk "_law_bases_right" "_law_bases_right" (fa (nthS bd 46)) (.stmts (fb (nthS bd 46))) (fs (nthS bd 46)) 0 [] .none .none .none .none none .none .none 0)) #[])),
  (788, (co "_law_bases_right" 1183 "_law_bases_right" 1184 "/claim/cut.py" 1185 235 0 0 0 3 783 true 181 784 #[.none, (.ref 785), (.ref 786), (.ref 787), (.int 1189 0), (.int 235 0), (.str "/claim/cut.py" 1190)])),
  (789, (fu "_law_bases_right" "_law_bases_right" (nthS bd 46) (nthS bd 46) [] .none .none .none (.str "law_strandclasses_k07_exceptions_by_class" 1113) none (.ref 788) .none 0)),
  (790, (tu #[])),
  (791, em),
  (792, (.mk .none none (.func (.mk "law" "law" (fa (nthS bd 47)) (.stmts (fb (nthS bd 47))) (fs (nthS bd 47)) 0 [] .none .none .none .none none .none .none 0)) #[])),
  (793, (co "law" 1192 "law" 1193 "/claim/cut.py" 1194 238 1 0 0 3 790 true 181 791 #[.none, .none, .none, (.ref 792), (.int 1195 0), (.int 238 0), (.str "/claim/cut.py" 1196)])),
  (794, (fu "law" "law" (nthS bd 47) (nthS bd 47) [] .none .none .none (.str "law_strandclasses_k07_exceptions_by_class" 1113) none (.ref 793) .none 0))]
def M2 (P : Params) : List (Nat × Obj) := M1 P ++ L2 P
def S2 : World → OsState → SharedT := cutS M2 795 (.mk [] [] [] 0 [] [] false #[] [] 0 false false false 0 [2000, 10, 10] false 0 true [] [] 0 false) #[] (.mk 0 0 0 0) 1198
theorem pre (w : World) (os : OsState) : goP (stepQ (denQ tabQ) pg w) 11 (bootAnn w) 12 (st0 11 w os) (topStub pg) = some (Sa w os, bdQ bd env cd (.mk 0 0 0 0) (.mk 0 0 0 0)) := by kernel_rfl
theorem blk (w : World) (os : OsState) : segF (stepQ (denQ tabQ) pg w) 11 (bootAnn w) 1 1 (Sa w os) (blQ bd env cd (.mk 0 0 0 0) (.mk 0 0 0 0)) = some (.next, Sa w os, cd, (.mk 0 0 0 0)) := by kernel_rfl
abbrev l0 : List Stmt := (bd.drop 0).take 17
theorem seg0 (w : World) (os : OsState) : segF (stepQ (denQ tabQ) pg w) 11 (bootAnn w) 1 7994 (Sa w os) (pcQ l0 env cd (.mk 0 0 0 0) (.mk 0 0 0 0)) = some (.next, S0 w os, cd, (.mk 69 0 73 26)) := by kernel_rfl
abbrev l1 : List Stmt := (bd.drop 17).take 16
theorem seg1 (w : World) (os : OsState) : segF (stepQ (denQ tabQ) pg w) 11 (bootAnn w) 1 8410 (S0 w os) (pcQ l1 env cd (.mk 69 0 73 26) (.mk 0 0 0 0)) = some (.next, S1 w os, cd, (.mk 151 0 155 26)) := by kernel_rfl
abbrev l2 : List Stmt := (bd.drop 33).take 15
theorem seg2 (w : World) (os : OsState) : segF (stepQ (denQ tabQ) pg w) 11 (bootAnn w) 1 2264 (S1 w os) (pcQ l2 env cd (.mk 151 0 155 26) (.mk 0 0 0 0)) = some (.next, S2 w os, cd, (.mk 238 0 254 29)) := by kernel_rfl
theorem bd_eq : bd = l0 ++ (l1 ++ (l2 ++ ([]))) := by kernel_rfl
theorem fin (w : World) (os : OsState) : goF (stepQ (denQ tabQ) pg w) 11 (bootAnn w) 50 (S2 w os) (rsQ [] env cd (.mk 238 0 254 29) (.mk 0 0 0 0)) = some (S2 w os) := by kernel_rfl
abbrev Xt : Shared → Bool := fun s => xlAt q [] s && recOk (RowW.records R.toRowW) s
theorem lk1 (w : World) (os : OsState) : looksF pg (boot_heap w.params) (S2 w os).abs = true := by kernel_rfl
theorem lk2 (w : World) (os : OsState) : seenQ q loose (importedModules pg.main.body) Xt (S2 w os).abs = openGood q loose := by kernel_rfl
theorem left {K : Params → Frag} {as : List Addr} {ek : ∀ P, as = (K P).map (·.1)} (last : ∀ (w : World) (os : OsState), as.map (getT (S2 w os)) = (K w.params).map fun x => some x.2) :
    LeftO pg q loose Xt (Hook.obs (kHook K as ek)) (Hook.val (kHook K as ek)) 18732 true := by
  have eo : ∀ s : SharedT, as.map (getT s) = Hook.obs (kHook K as ek) s.abs := fun s => List.map_congr_left fun a _ => getT_eq s a
  simp only [eo] at last
  have run : TopOk pg 11 (7994 + (8410 + (2264 + 50))) env cd (.mk 0 0 0 0) Sa bd (.mk 0 0 0 0) fun w _ s => (looksF pg (boot_heap w.params) s.abs, seenQ q loose (importedModules pg.main.body) Xt s.abs, Hook.obs (kHook K as ek) s.abs) = (true, openGood q loose, Hook.val (kHook K as ek) w) := by
    rw [bd_eq]
    refine TopOk.imp (top_seg seg0 (top_seg seg1 (top_seg seg2 (top_end fin)))) fun w os s h => ?_
    rw [h, lk1, lk2, last]
    rfl
  exact left_cut (n0 := 11) (k := 12) (mb := 1) (by kernel_rfl) rfl (fun s => by kernel_rfl) (by rfl) (fun P => by kernel_rfl) (fun P => by kernel_rfl) pre blk run
end Hd
end
section
open PySem PySem.W PySem.Calls PyProof.Rows
local macro_rules | `(tactic| o_head ($_f $k $as $_e)) => `(tactic| refine PySem.W.holds_open (q := Hd.q) (loose := Hd.loose) (Xt := Hd.Xt) (XP := XL Hd.q []) (Yf := Hook.obs (PySem.W.kHook $k $as (fun _ => by kernel_rfl))) (Ya := Hook.val (PySem.W.kHook $k $as (fun _ => by kernel_rfl))) (YP := Hook.says (PySem.W.kHook $k $as (fun _ => by kernel_rfl))) (N := 18732) (Hd.left (fun w os => by kernel_rfl)) (Hook.of (PySem.W.kHook $k $as (fun _ => by kernel_rfl))) (Hook.keeps (PySem.W.kHook $k $as (fun _ => by kernel_rfl))) (fun s e => xl_of s (Bool.and_eq_true_iff.mp e).1) XL.keeps (by rfl) (by rfl) (by rfl) (fun s e => recFacts_of (Bool.and_eq_true_iff.mp e).2) (by rfl) (by first | assumption | decide +kernel) (by decide +kernel) ⟨rfl, rfl, rfl, rfl, rfl, by decide +kernel⟩ ?hw ?hc)
open_top topH for PySem.Challenge.rw_strandclasses_k07_exceptions_by_class
end

set_option Elab.async false
set_option linter.all false
set_option maxRecDepth 100000
set_option maxHeartbeats 4000000
namespace Y
open PySem PySem.Spec PyProof.Rows L2
structure FnG (P : Program) (w : World) (K : PySem.W.Frag)
    (mg : Str → Option Value) (base : Heap) (CX : CXT) (k : Nat)
    (f : Addr) (fd : FuncData) (ps : List Str) (sp : Sp) : Prop where
  len : ∀ vs H Q E, sp vs H Q E → vs.length = ps.length
  go : ∀ (A : Around) (outer : List Env) (s : Shared) (H : Hp) (args : Args) (us : List Value) (vs : List V) (Q : VK) (E : XK),
    A.guards = some [] → Room k A → Env0 P w K mg base A outer s H → BindsTo s fd args (ps.zip us) → Vals vs us → sp vs H Q E →
    codeAny (model P w) A (.call (.ref f) args) (CR CX outer P w H s Q E) s
section
variable {P : Program} {w : World} {K : PySem.W.Frag} {mg : Str → Option Value} {base : Heap} {CX : CXT}
theorem FnG.of {k : Nat} {f : Addr} {fd : FuncData} {ps : List Str} {sp : Sp}
    (F : FnOk P w K mg base CX k f fd ps sp) : FnG P w K mg base CX k f fd ps sp :=
  ⟨F.len, fun A outer s H args us vs Q E _ hr he hb hv hs => F.run A outer s H args us vs Q E hr he hb hv hs⟩
theorem FnG.mono {j k : Nat} {f : Addr} {fd : FuncData} {ps : List Str} {sp : Sp}
    (F : FnG P w K mg base CX j f fd ps sp) (h : j ≤ k) : FnG P w K mg base CX k f fd ps sp :=
  ⟨F.len, fun A outer s H args us vs Q E hg hr => F.go A outer s H args us vs Q E hg (hr.mono h)⟩
theorem kro_ {k : Nat} {f : Addr} {name qual : Str} {params : Arguments} {body : List Stmt} {scope : Scope}
    {dV kV doc pm cdv ct oc : Value} {an od : Option Addr} {osl : Array (Option Value)} {N ps : List Str} {sp : Sp}
    (lk : K.lookup f = some ⟨oc, od, .func (PySem.W.fnOf name qual params body scope dV kV doc pm an cdv ct), osl⟩)
    (hcd : PySem.W.codeIn K cdv qual = true) (S : FnScope N ps scope)
    (len : ∀ vs H Q E, sp vs H Q E → vs.length = ps.length)
    (hbody : ∀ (A : Around) (outer : List Env) (s : Shared) (H : Hp) (vs : List V) (Q : VK) (E : XK), A.guards = some [] →
      Room k (A.deeper (envOfC qual scope s.heap.objs.size f cdv)) → sp vs H Q E →
      ∃ t, PSs (cxOf CX P w K mg base N qual scope f cdv A outer s H E) body t ∧
        t { nx := fun _ H' => Q .non H', rt := Q } (start N vs) H) :
    FnG P w K mg base CX (k + 1) f (PySem.W.fnOf name qual params body scope dV kV doc pm an cdv ct) ps sp := by
  refine ⟨len, fun A outer s H args us vs Q E hgd hr env0 hbind rel hsp => ?_⟩
  have hlen := len _ _ _ _ hsp
  have KH : K.In s.heap := env0.mod.kin.keeps fun b o e => (env0.bs b o e).1
  have limit : s.heap.NoLimit := env0.mod.nolimit.keeps fun b o e => (env0.bs b o e).1
  have kinds : ∀ y ∈ ps.zip us, scope.names.lookup y.1 = some .local ∨
      (scope.names.lookup y.1 = some .cell ∧ ((cellsFrom (s.heap.objs.size + 1) scope.names []).lookup y.1).isSome = true) := by
    rintro ⟨n, v⟩ hy
    cases S.par n (List.of_mem_zip hy).1 with
    | inl q => exact Or.inl q
    | inr q => exact Or.inr ⟨q, PySem.W.cellsFrom_some _ _ _ (.inl q)⟩
  refine codeAny_call_function hr.depth (KH _ _ lk) rfl S.co S.gen rfl
    (PySem.W.codeRec_of KH hcd) (hbind _ _ _ _ ?_)
  refine wpAny_newFunctionEnv_cells S.kind kinds fun env henv s1 x => ?_
  subst henv
  refine ⟨limit.keeps x.toInCall.keep, codeAny_func ?_⟩
  obtain ⟨t, ht, hq⟩ := hbody A outer s H vs Q E hgd (hr.deeper _) hsp
  have II : Inv (cxOf CX P w K mg base N qual scope f cdv A outer s H E) [] (start N vs) H s1 :=
    inv_start S hr.hd env0 hlen rel x
  refine wpAny_mono (ht.run [] s1 (start N vs) H _ II hq) (fun fl s' hs => ?_) fun e s' hs => hs
  cases fl with
  | ret u =>
    obtain ⟨v, σ', H', J, rv, q⟩ := hs
    exact ⟨v, H', J.os, J.bare, J.base, J.hok, rv, q⟩
  | next =>
    obtain ⟨σ', H', J, q⟩ := hs
    exact ⟨V.non, H', J.os, J.bare, J.base, J.hok, rfl, q⟩
  | brk => exact hs.elim fun _ z => z.elim fun _ y => False.elim y.2
  | cont => exact hs.elim fun _ z => z.elim fun _ y => False.elim y.2
end
structure Ext (N : Addr → Prop) (H H' : Hp) : Prop where
  keep : ∀ c o, ¬ N c → H c = some o → H' c = some o
  live : ∀ c o, H c = some o → ∃ o', H' c = some o'
theorem Ext.refl {N : Addr → Prop} {H : Hp} : Ext N H H := ⟨fun _ _ _ e => e, fun _ o e => ⟨o, e⟩⟩
theorem Ext.trans {N : Addr → Prop} {H H1 H2 : Hp} (a : Ext N H H1) (b : Ext N H1 H2) : Ext N H H2 :=
  ⟨fun c o n e => b.keep c o n (a.keep c o n e), fun c o e => let ⟨u, h⟩ := a.live c o e; b.live c u h⟩
theorem Ext.new {N : Addr → Prop} {H : Hp} {p : Addr} {o : HO} (h : H p = none) : Ext N H (upd H p o) :=
  ⟨fun c u _ e => by rw [upd_ne (ne_of_none e h)]; exact e, fun c u e => ⟨u, by rw [upd_ne (ne_of_none e h)]; exact e⟩⟩
theorem Ext.put {N : Addr → Prop} {H : Hp} {p : Addr} {o : HO} (h : N p) : Ext N H (upd H p o) :=
  ⟨fun c u n e => by
    rw [upd_ne (fun z => n (by rw [z]; exact h))]
    exact e, fun c u e => by
    by_cases hc : c = p
    · exact ⟨o, by rw [hc, upd_same]⟩
    · exact ⟨u, by rw [upd_ne hc]; exact e⟩⟩
theorem Ext.more {N N' : Addr → Prop} {H H' : Hp} (a : Ext N H H') (h : ∀ c, N c → N' c) : Ext N' H H' :=
  ⟨fun c o n e => a.keep c o (fun z => n (h c z)) e, a.live⟩
theorem Ext.none {N : Addr → Prop} {H H' : Hp} {p : Addr} (a : Ext N H H') (h : H' p = Option.none) : H p = Option.none := by
  cases e : H p with
  | none => rfl
  | some o => obtain ⟨u, q⟩ := a.live p o e; rw [h] at q; cases q
abbrev No : Addr → Prop := fun _ => False
theorem Ext.any {N : Addr → Prop} {H H' : Hp} (a : Ext No H H') : Ext N H H' := a.more fun _ z => z.elim
def Live (N : Addr → Prop) (H : Hp) : Prop := ∀ c, N c → ∃ o, H c = some o
theorem Live.ext {N N' : Addr → Prop} {H H' : Hp} (l : Live N H) (e : Ext N' H H') : Live N H' := fun c h => let ⟨o, q⟩ := l c h; e.live c o q
theorem Live.not {N : Addr → Prop} {H : Hp} {p : Addr} (l : Live N H) (h : H p = Option.none) : ¬ N p := fun n => by
  obtain ⟨o, q⟩ := l p n
  rw [h] at q
  cases q
def kPd : Key → PyData
  | .inl i => .int i
  | .inr x => .str x
inductive Lf where
  | non | bl (b : Bool) | int (i : Int) | str (x : Str)
  deriving DecidableEq
def lfV : Lf → V
  | .non => .non
  | .bl b => .bl b
  | .int i => .int i
  | .str x => .str x
def lfP : Lf → PyData
  | .non => .none
  | .bl b => .bool b
  | .int i => .int i
  | .str x => .str x
abbrev mixO (od : Obj) : HO := .frz od (.ext fun _ => True)
def RawD (od : Obj) (kvs : List (Lf × V)) : Prop := od.ExactDict ∧ ∃ es ep, od.data = .dict es ep ∧ Paired (fun (p : Lf × V) (en : DictEntry) => RelV (lfV p.1) en.key ∧ RelV p.2 en.val) kvs es.toList
mutual
inductive Dq (N : Addr → Prop) (H : Hp) : V → PyData → Prop
  | non : Dq N H .non .none
  | bl (b : Bool) : Dq N H (.bl b) (.bool b)
  | int (i : Int) : Dq N H (.int i) (.int i)
  | str (x : Str) : Dq N H (.str x) (.str x)
  | lst {a : Addr} {xs : List V} {ds : List PyData} : H a = some (.lst xs) → ¬ N a → ka5_ N H xs ds → Dq N H (.ref a) (.list ds)
  | tup {a : Addr} {xs : List V} {ds : List PyData} : H a = some (.tup xs) → ¬ N a → ka5_ N H xs ds → Dq N H (.ref a) (.tuple ds)
  | dct {a : Addr} {kvs : List (Key × V)} {ps : List (PyData × PyData)} : Rd H a (.dK kvs) → ¬ N a →
      ka5_ N H (kvs.map fun p => kV p.1) (ps.map fun p => p.1) → ka5_ N H (kvs.map fun p => p.2) (ps.map fun p => p.2) → Dq N H (.ref a) (.dict ps)
  | dT {a : Addr} {kvs : List (List Key × V)} {ps : List (PyData × PyData)} : Rd H a (.dT kvs) → ¬ N a →
      (ps.map fun p => p.1) = (kvs.map fun p => PyData.tuple (p.1.map kPd)) → ka5_ N H (kvs.map fun p => p.2) (ps.map fun p => p.2) → Dq N H (.ref a) (.dict ps)
  | dM {a : Addr} {od : Obj} {kvs : List (Lf × V)} {ps : List (PyData × PyData)} : H a = some (mixO od) → ¬ N a → RawD od kvs →
      (ps.map fun p => p.1) = (kvs.map fun p => lfP p.1) → ka5_ N H (kvs.map fun p => p.2) (ps.map fun p => p.2) → Dq N H (.ref a) (.dict ps)
inductive ka5_ (N : Addr → Prop) (H : Hp) : List V → List PyData → Prop
  | nil : ka5_ N H [] []
  | cons {v : V} {vs : List V} {d : PyData} {ds : List PyData} : Dq N H v d → ka5_ N H vs ds → ka5_ N H (v :: vs) (d :: ds)
end
theorem ko1_ {N : Addr → Prop} {H H' : Hp} {a : Addr} {u : HO} (e : Ext N H H') (n : ¬ N a) (r : Rd H a u) : Rd H' a u := r.elim (fun z => .inl (e.keep _ _ n z)) fun ⟨o, z⟩ => .inr ⟨o, e.keep _ _ n z⟩
theorem ko2_ {H : Hp} {a : Addr} {u : HO} (r : Rd H a u) : ∃ o, H a = some o := r.elim (fun z => ⟨_, z⟩) fun ⟨_, z⟩ => ⟨_, z⟩
mutual
theorem Dq.mono {N N' : Addr → Prop} {H H' : Hp} (e : Ext N H H') (hn : ∀ a, N' a → N a) : ∀ {v : V} {d : PyData}, Dq N H v d → Dq N' H' v d
  | _, _, .non => .non
  | _, _, .bl b => .bl b
  | _, _, .int i => .int i
  | _, _, .str x => .str x
  | _, _, .lst h n a => .lst (e.keep _ _ n h) (fun z => n (hn _ z)) (ka5_.mono e hn a)
  | _, _, .tup h n a => .tup (e.keep _ _ n h) (fun z => n (hn _ z)) (ka5_.mono e hn a)
  | _, _, .dct h n a b => .dct (ko1_ e n h) (fun z => n (hn _ z)) (ka5_.mono e hn a) (ka5_.mono e hn b)
  | _, _, .dT h n a b => .dT (ko1_ e n h) (fun z => n (hn _ z)) a (ka5_.mono e hn b)
  | _, _, .dM h n r a b => .dM (e.keep _ _ n h) (fun z => n (hn _ z)) r a (ka5_.mono e hn b)
theorem ka5_.mono {N N' : Addr → Prop} {H H' : Hp} (e : Ext N H H') (hn : ∀ a, N' a → N a) : ∀ {vs : List V} {ds : List PyData}, ka5_ N H vs ds → ka5_ N' H' vs ds
  | _, _, .nil => .nil
  | _, _, .cons h t => .cons (Dq.mono e hn h) (ka5_.mono e hn t)
end
theorem Dq.ext {N : Addr → Prop} {H H' : Hp} {v : V} {d : PyData} (h : Dq N H v d) (e : Ext N H H') : Dq N H' v d := h.mono e fun _ z => z
theorem ka5_.ext {N : Addr → Prop} {H H' : Hp} {vs : List V} {ds : List PyData} (h : ka5_ N H vs ds) (e : Ext N H H') : ka5_ N H' vs ds := h.mono e fun _ z => z
theorem ka5_.append {N : Addr → Prop} {H : Hp} : ∀ {vs ws : List V} {ds es : List PyData}, ka5_ N H vs ds → ka5_ N H ws es → ka5_ N H (vs ++ ws) (ds ++ es)
  | _, _, _, _, .nil, h => h
  | _, _, _, _, .cons a b, h => .cons a (ka5_.append b h)
theorem ka5_.get {N : Addr → Prop} {H : Hp} : ∀ {vs : List V} {ds : List PyData} {i : Nat} {v : V}, ka5_ N H vs ds → vs[i]? = some v → ∃ d, ds[i]? = some d ∧ Dq N H v d
  | _, _, 0, _, .cons a _, h => by simp at h; subst h; exact ⟨_, rfl, a⟩
  | _, _, i + 1, _, .cons _ b, h => by
    obtain ⟨d, e, q⟩ := ka5_.get (i := i) b (by simpa using h)
    exact ⟨d, by simpa using e, q⟩
theorem ka5_.length {N : Addr → Prop} {H : Hp} : ∀ {vs : List V} {ds : List PyData}, ka5_ N H vs ds → vs.length = ds.length
  | _, _, .nil => rfl
  | _, _, .cons _ b => by simp [b.length]
def Trk (H : Hp) (as : List Addr) : Prop := ∀ b ∈ as, ∃ o, H b = some o
theorem Trk.app {H : Hp} {as bs : List Addr} (a : Trk H as) (b : Trk H bs) : Trk H (as ++ bs) :=
  fun c hc => (List.mem_append.mp hc).elim (a c) (b c)
theorem krp_ {h : Heap} {k : Key} {v : Value} {d : PyData} {N : Addr → Prop} {H : Hp} (hk : keyIs k v = true) (q : Dq N H (kV k) d) : Reads h v d [] := by
  rcases keyIs_shape hk with ⟨i, t, rfl, rfl⟩ | ⟨x, t, rfl, rfl⟩
  · cases q; exact .int i t
  · cases q; exact .str x t
theorem kmo_ {h : Heap} {N : Addr → Prop} {H : Hp} {prog : Program} {w : World} : ∀ {es : List DictEntry} {vs : List (Key × Value)} {kvs : List (Key × V)} {ks : List PyData},
    PySem.Pairs (mixKind prog w) es vs → KV kvs vs → ka5_ N H (kvs.map fun p => kV p.1) ks → ReadsAll h (es.map (·.key)) ks []
  | _, _, _, _, .nil, .nil, .nil => .nil
  | _, _, _, _, .cons (e := e) (kv := kv) h1 h2 t, .cons r r', .cons q q' => by
    have q0 := q
    simp only [r.1] at q0
    exact ReadsAll.cons (as := []) (bs := []) (krp_ h1 q0) (kmo_ t r' q')
theorem ko3_ : ∀ {kvs : List (Key × V)} {vs : List (Key × Value)}, KV kvs vs → Vals (kvs.map fun p => p.2) (vs.map fun p => p.2)
  | _, _, .nil => .nil
  | _, _, .cons r t => .cons r.2 (ko3_ t)
theorem klf_ {prog : Program} {w : World} : ∀ {es : List DictEntry} {vs : List (Key × Value)}, PySem.Pairs (mixKind prog w) es vs → es.map (·.val) = vs.map fun p => p.2
  | _, _, .nil => rfl
  | _, _, .cons _ h2 t => by rw [List.map_cons, List.map_cons, klf_ t, h2]
section
variable {X : Cx} {pins : List (Addr × Obj)} {σ : L2.St} {H : Hp} {s : Shared} {N : Addr → Prop}
theorem kmp_ {h : Heap} : ∀ {k : List Key} {its : List Value}, Vals (k.map kV) its → ReadsAll h its (k.map kPd) []
  | [], _, .nil => .nil
  | .inl i :: r, _, .cons q q' => by
    obtain ⟨t, rfl⟩ := (show ∃ t, _ = Value.int i t from q)
    exact ReadsAll.cons (as := []) (bs := []) (.int i t) (kmp_ q')
  | .inr x :: r, _, .cons q q' => by
    obtain ⟨t, rfl⟩ := (show ∃ t, _ = Value.str x t from q)
    exact ReadsAll.cons (as := []) (bs := []) (.str x t) (kmp_ q')
theorem krq_ (I : Inv X pins σ H s) : ∀ {kvs : List (List Key × V)} {xs : List (List Key × Addr × Value)}, Paired (fun (p : List Key × V) (q : List Key × Addr × Value) => p.1 = q.1 ∧ H q.2.1 = some (.tup (p.1.map kV)) ∧ RelV p.2 q.2.2) kvs xs →
    ReadsAll s.heap (xs.map fun q => Value.ref q.2.1) (kvs.map fun p => PyData.tuple (p.1.map kPd)) []
  | _, _, .nil => .nil
  | _, _, .cons (a := p) (b := q) h t => by
    obtain ⟨_, its, rv, o, e, c, m, hd⟩ := (show ObjOk X.prog X.w H s.heap q.2.1 (.tup (p.1.map kV)) from I.hok _ _ h.2.1)
    exact ReadsAll.cons (as := []) (bs := []) (.tuple e c hd (kmp_ rv)) (krq_ I t)
theorem krr_ : ∀ {kvs : List (List Key × V)} {xs : List (List Key × Addr × Value)}, Paired (fun (p : List Key × V) (q : List Key × Addr × Value) => p.1 = q.1 ∧ H q.2.1 = some (.tup (p.1.map kV)) ∧ RelV p.2 q.2.2) kvs xs → Vals (kvs.map fun p => p.2) (xs.map fun q => q.2.2)
  | _, _, .nil => .nil
  | _, _, .cons h t => .cons h.2.2 (krr_ t)
theorem krs_ {h : Heap} {k : Lf} {u : Value} (r : RelV (lfV k) u) : Reads h u (lfP k) [] := by
  cases k with
  | non => cases (show u = Value.none from r); exact .none
  | bl b => cases (show u = Value.bool b from r); exact .bool b
  | int i => obtain ⟨t, rfl⟩ := (show ∃ t, u = Value.int i t from r); exact .int i t
  | str x => obtain ⟨t, rfl⟩ := (show ∃ t, u = Value.str x t from r); exact .str x t
theorem kmq_ {h : Heap} : ∀ {kvs : List (Lf × V)} {es : List DictEntry}, Paired (fun (p : Lf × V) (en : DictEntry) => RelV (lfV p.1) en.key ∧ RelV p.2 en.val) kvs es → ReadsAll h (es.map (·.key)) (kvs.map fun p => lfP p.1) []
  | _, _, .nil => .nil
  | _, _, .cons a t => ReadsAll.cons (as := []) (bs := []) (krs_ a.1) (kmq_ t)
theorem kmr_ : ∀ {kvs : List (Lf × V)} {es : List DictEntry}, Paired (fun (p : Lf × V) (en : DictEntry) => RelV (lfV p.1) en.key ∧ RelV p.2 en.val) kvs es → Vals (kvs.map fun p => p.2) (es.map (·.val))
  | _, _, .nil => .nil
  | _, _, .cons a t => .cons a.2 (kmr_ t)
mutual
theorem Dq.reads (I : Inv X pins σ H s) : ∀ {v : V} {d : PyData} {u : Value}, Dq N H v d → RelV v u → ∃ as, Reads s.heap u d as ∧ Trk H as
  | _, _, _, .non, r => by cases (show _ = Value.none from r); exact ⟨_, .none, fun _ z => nomatch z⟩
  | _, _, _, .bl b, r => by cases (show _ = Value.bool b from r); exact ⟨_, .bool b, fun _ z => nomatch z⟩
  | _, _, _, .int i, r => by obtain ⟨t, rfl⟩ := (show ∃ t, _ = Value.int i t from r); exact ⟨_, .int i t, fun _ z => nomatch z⟩
  | _, _, _, .str x, r => by obtain ⟨t, rfl⟩ := (show ∃ t, _ = Value.str x t from r); exact ⟨_, .str x t, fun _ z => nomatch z⟩
  | _, _, _, .lst (a := a) (xs := xs) h n q, r => by
    cases (show _ = Value.ref a from r)
    obtain ⟨_, its, m, rv, e⟩ := (show ObjOk X.prog X.w H s.heap a (.lst xs) from I.hok a _ h)
    obtain ⟨as, q1, q2⟩ := ka5_.reads I q rv
    exact ⟨_, .list e rfl rfl q1, fun b hb => (List.mem_cons.mp hb).elim (fun z => z ▸ ⟨_, h⟩) (q2 b)⟩
  | _, _, _, .tup (a := a) (xs := xs) h n q, r => by
    cases (show _ = Value.ref a from r)
    obtain ⟨_, its, rv, o, e, c, m, hd⟩ := (show ObjOk X.prog X.w H s.heap a (.tup xs) from I.hok a _ h)
    obtain ⟨as, q1, q2⟩ := ka5_.reads I q rv
    exact ⟨as, .tuple e c hd q1, q2⟩
  | _, _, _, .dct (a := a) (kvs := kvs) h n qk qv, r => by
    cases (show _ = Value.ref a from r)
    obtain ⟨_, _, vs, rv, o, es, ep, e, ex, hd, _, hp, _⟩ := (show ObjOk X.prog X.w H s.heap a (.dK kvs) from h.ok I.hok)
    have k1 := kmo_ (h := s.heap) hp rv qk
    have hv := klf_ hp
    obtain ⟨bs, q1, q2⟩ := ka5_.reads I qv (ko3_ rv)
    rw [← hv] at q1
    exact ⟨_, .dict e ex.1 hd k1 q1, fun b hb => by
      rcases List.mem_append.mp hb with z | z
      · rw [List.mem_singleton.mp z]
        exact ko2_ h
      · exact q2 b z⟩
  | _, _, _, .dT (a := a) (kvs := kvs) (ps := ps) h n ek qv, r => by
    cases (show _ = Value.ref a from r)
    obtain ⟨_, _, xs, pr, o, es, ep, e, ex, hd, hes, _⟩ := (show ObjOk X.prog X.w H s.heap a (.dT kvs) from h.ok I.hok)
    obtain ⟨bs, q1, q2⟩ := ka5_.reads I qv (krr_ pr)
    have ke : es.toList.map (·.key) = xs.map fun q => Value.ref q.2.1 := by rw [hes, List.map_map]; rfl
    have ve : es.toList.map (·.val) = xs.map fun q => q.2.2 := by rw [hes, List.map_map]; rfl
    exact ⟨_, .dict (kvs := ps) e ex.1 hd (by rw [ke, ek]; exact krq_ I pr) (by rw [ve]; exact q1), fun b hb => by
      rcases List.mem_append.mp hb with z | z
      · rw [List.mem_singleton.mp z]
        exact ko2_ h
      · exact q2 b z⟩
  | _, _, _, .dM (a := a) (od := od) (kvs := kvs) (ps := ps) h n w ek qv, r => by
    cases (show _ = Value.ref a from r)
    obtain ⟨ex, es, ep, hd, pr⟩ := w
    obtain ⟨e, _⟩ := (show ObjOk X.prog X.w H s.heap a (mixO od) from I.hok a _ h)
    obtain ⟨bs, q1, q2⟩ := ka5_.reads I qv (kmr_ pr)
    exact ⟨_, .dict (kvs := ps) e ex.1 hd (by rw [ek]; exact kmq_ pr) q1, fun b hb => by
      rcases List.mem_append.mp hb with z | z
      · rw [List.mem_singleton.mp z]
        exact ⟨_, h⟩
      · exact q2 b z⟩
theorem ka5_.reads (I : Inv X pins σ H s) : ∀ {vs : List V} {ds : List PyData} {us : List Value}, ka5_ N H vs ds → Vals vs us → ∃ as, ReadsAll s.heap us ds as ∧ Trk H as
  | _, _, _, .nil, .nil => ⟨_, .nil, fun _ z => nomatch z⟩
  | _, _, _, .cons q q', .cons r r' => by
    obtain ⟨as, a1, a2⟩ := Dq.reads I q r
    obtain ⟨bs, b1, b2⟩ := ka5_.reads I q' r'
    exact ⟨_, .cons a1 b1, a2.app b2⟩
end
mutual
def cpOk : PyData → Bool
  | .none | .bool _ | .int _ => true
  | .str x => PyData.strOk x
  | .list xs | .tuple xs => keF_ xs
  | .dict kvs => cpKv kvs
def keF_ : List PyData → Bool
  | [] => true
  | x :: xs => cpOk x && keF_ xs
def cpKv : List (PyData × PyData) → Bool
  | [] => true
  | (a, b) :: r => cpOk a && cpOk b && cpKv r
end
structure Fine (n k : Nat) (d : PyData) : Prop where
  sh : d.showable = true
  lf : d.leavesShort 64 = true
  bk : d.bulk ≤ n
  dp : d.depth ≤ k
  cp : cpOk d = true
theorem Fine.fits {n k : Nat} {d : PyData} (f : Fine n k d) (h : n ≤ 200000) : d.shown.length ≤ sizeLine := by
  have e := PyData.shown_le_bulk 64 (by decide) d f.lf
  have b := f.bk
  rw [sizeLine_eq]
  omega
def kw0_ : List V → Hp → VK → Prop := fun xs H Q => ∃ (N : Addr → Prop) (v : V) (d : PyData), xs = [v] ∧ Dq N H v d ∧ Fine 200000 60 d ∧ Q (.str d.shown) H
theorem kms_ (hG : X.A.guards = some []) (hu : X.A.units + 64 < cLine) (hs : ∃ o, X.base.get? sysModules = some o) : CallR X (.builtin "repr") kw0_ := by
  intro pins s σ H xs us Q I r h
  obtain ⟨N, v, d, rfl, q, f, hq⟩ := h
  obtain ⟨u, rfl, rv⟩ := vals1 r
  have fit := f.fits (Nat.le_refl _)
  cases v with
  | non => cases q; cases (show _ = Value.none from rv); exact PySem.P.repr_of_none ⟨.str _, H, I.tok _, ⟨_, rfl⟩, hq⟩
  | bl b => cases q; cases (show _ = Value.bool b from rv); exact PySem.P.repr_of_bool ⟨.str _, H, I.tok _, ⟨_, rfl⟩, by cases b <;> exact hq⟩
  | int i =>
    cases q
    obtain ⟨t, rfl⟩ := (show ∃ t, _ = Value.int i t from rv)
    have hz : i.natAbs.log2 < 1920 := by simpa [PyData.showable] using f.sh
    exact PySem.P.repr_of_int hz ⟨.str _, H, I.tok _, ⟨_, rfl⟩, hq⟩
  | str x =>
    cases q
    obtain ⟨t, rfl⟩ := (show ∃ t, _ = Value.str x t from rv)
    exact PySem.P.repr_of_str ⟨.str _, H, I.tok _, ⟨_, rfl⟩, hq⟩ fit
  | ref a =>
    obtain ⟨as, rd, tr⟩ := Dq.reads I q rv
    cases (show _ = Value.ref a from rv)
    obtain ⟨o, ho⟩ := hs
    have hno : H sysModules = none := (I.bs _ _ ho).2
    have hsm : d.hasDict = true → sysModules ∉ as := fun _ z => by
      obtain ⟨o', e⟩ := tr _ z
      rw [hno] at e
      cases e
    have hd := f.dp
    exact repr_of_reads' rd f.sh hsm hG (by omega) (fun _ _ e => e)
      (fun h' u tk hk => ⟨.str _, H, I.kept hk, ⟨_, rfl⟩, hq⟩) fit
  | byt b => cases q
  | flt b => cases q
  | ty n => cases q
end
end Y
set_option Elab.async false
set_option linter.all false
set_option maxRecDepth 100000
set_option maxHeartbeats 4000000
namespace Y
open PySem PySem.Spec PyProof.Rows L2 TL
def Def (K : PySem.W.Frag) (mg : Str → Option Value) (x : Str) (st : Stmt) (ps : List Str) : Prop :=
  ∃ (f : Addr) (fd : FuncData), Fun K x x st f fd ∧ mg x = some (.ref f) ∧ Binds K fd ps []
def Has (P : Program) (w : World) (K : PySem.W.Frag) (mg : Str → Option Value) (base : Heap) (x : Str) (ps : List Str) (k : Nat) (sp : Sp) : Prop :=
  ∃ (f : Addr) (fd : FuncData), mg x = some (.ref f) ∧ PySem.W.keepIn K (.ref f) = true ∧ Binds K fd ps [] ∧ FnOk P w K mg base CX0 k f fd ps sp
section
variable {P : Program} {w : World} {K : PySem.W.Frag} {mg : Str → Option Value} {base : Heap}
theorem Def.has {x : Str} {st : Stmt} {N ps : List Str} {k : Nat} {sp : Sp} (D : Def K mg x st ps) (S : FnScope N ps (defScope st)) (len : ∀ vs H Q E, sp vs H Q E → vs.length = ps.length)
    (hbody : ∀ (f : Addr) (cdv : Value) (A : Around) (outer : List Env) (s : Shared) (H : Hp) (vs : List V) (Q : VK) (E : XK),
      Room k (A.deeper (envOfC x (defScope st) s.heap.objs.size f cdv)) → sp vs H Q E →
      ∃ t, PSs (cxOf CX0 P w K mg base N x (defScope st) f cdv A outer s H E).nox (defBody st) t ∧ t { nx := fun _ H' => Q .non H', rt := Q } (start N vs) H) :
    Has P w K mg base x ps (k + 1) sp := by
  obtain ⟨f, fd, F, hm, hb⟩ := D
  exact ⟨f, fd, hm, F.kp, hb, F.ok S len fun cdv A outer s H vs Q E hr h => hbody f cdv A outer s H vs Q E hr h⟩
end
section
variable {X : Cx}
def rEqQ (neg : Bool) : R2 := fun x y H Q => ∃ (N : Addr → Prop) (d e : PyData), Dq N H x d ∧ Dq N H y e ∧ SeqAt.shaped d = true ∧ SeqAt.shaped e = true ∧ Q (.bl (if neg then !PyData.eqv d e else PyData.eqv d e)) H
theorem ktV_ (hu : X.A.units + 64 < cLine) : OpR X (compareOp .Eq) (rEqQ false) := by
  intro pins s σ H x y v u Q I rx ry h
  obtain ⟨N, d, e, hd, he, sd, se, q⟩ := h
  obtain ⟨as, r1, _⟩ := Dq.reads I hd rx
  obtain ⟨bs, r2, _⟩ := Dq.reads I he ry
  exact SeqAt.compareEq_shaped r1 r2 sd se hu ⟨.bl _, H, I, rfl, q⟩
theorem ktW_ (hu : X.A.units + 64 < cLine) : OpR X (compareOp .NotEq) (rEqQ true) := by
  intro pins s σ H x y v u Q I rx ry h
  obtain ⟨N, d, e, hd, he, sd, se, q⟩ := h
  obtain ⟨as, r1, _⟩ := Dq.reads I hd rx
  obtain ⟨bs, r2, _⟩ := Dq.reads I he ry
  exact SeqAt.compareNe_shaped r1 r2 sd se hu ⟨.bl _, H, I, rfl, q⟩
end
def Box (H : Hp) (b : Addr) (n : Nat) : Prop := ∃ x y z : Int, H b = some (.lst [.int x, .int y, .int z]) ∧ 0 ≤ x ∧ 0 ≤ y ∧ y < 2147483629 ∧ 0 ≤ z ∧ z ≤ n
theorem Box.mono {H : Hp} {b : Addr} {n m : Nat} (h : Box H b n) (l : n ≤ m) : Box H b m := by
  obtain ⟨x, y, z, h1, h2, h3, h4, h5, h6⟩ := h
  exact ⟨x, y, z, h1, h2, h3, h4, h5, by omega⟩
theorem Box.ext {N : Addr → Prop} {H H' : Hp} {b : Addr} {n : Nat} (h : Box H b n) (e : Ext N H H') (hb : ¬ N b) : Box H' b n := by
  obtain ⟨x, y, z, h1, r⟩ := h
  exact ⟨x, y, z, e.keep _ _ hb h1, r⟩
theorem Box.new {H : Hp} {b p : Addr} {n : Nat} {o : HO} (h : Box H b n) (hp : H p = none) : Box (upd H p o) b n := by
  obtain ⟨x, y, z, h1, r⟩ := h
  exact ⟨x, y, z, by rw [upd_ne (ne_of_none h1 hp)]; exact h1, r⟩
theorem Box.ne {H : Hp} {b p : Addr} {n : Nat} (h : Box H b n) (hp : H p = none) : b ≠ p := by
  obtain ⟨x, y, z, h1, r⟩ := h
  exact ne_of_none h1 hp
abbrev At (b : Addr) : Addr → Prop := fun c => c = b
theorem Box.live {H : Hp} {b : Addr} {n : Nat} (h : Box H b n) : Live (At b) H := fun c e => by
  obtain ⟨x, y, z, h1, r⟩ := h
  rw [show c = b from e]
  exact ⟨_, h1⟩
def Nice (N : Addr → Prop) (w k : Nat) (H : Hp) (v : V) : Prop := ∃ d, Dq N H v d ∧ Fine w k d
theorem Nice.ext {N : Addr → Prop} {w k : Nat} {H H' : Hp} {v : V} (h : Nice N w k H v) (e : Ext N H H') : Nice N w k H' v :=
  let ⟨d, q, f⟩ := h; ⟨d, q.ext e, f⟩
theorem Fine.mono {w w' k k' : Nat} {d : PyData} (f : Fine w k d) (hw : w ≤ w') (hk : k ≤ k') : Fine w' k' d := ⟨f.sh, f.lf, Nat.le_trans f.bk hw, Nat.le_trans f.dp hk, f.cp⟩
theorem Nice.mono {N : Addr → Prop} {w w' k k' : Nat} {H : Hp} {v : V} (h : Nice N w k H v) (hw : w ≤ w') (hk : k ≤ k') : Nice N w' k' H v :=
  let ⟨d, q, f⟩ := h; ⟨d, q, f.mono hw hk⟩
theorem kpE_ {w k : Nat} {x : Str} (hc : ∀ c ∈ x.cps.toList, c < 1114112) (h : x.length ≤ w) : Fine w k (.str x) :=
  ⟨rfl, (List.all_eq_true.mpr fun c h => decide_eq_true (Nat.lt_trans (hc c h) (by decide)) : (x.cps.toList.all fun c => decide (c < 16 ^ 8)) = true), h, Nat.zero_le _,
    (by show PyData.strOk x = true; unfold PyData.strOk; rw [← Array.all_toList]; exact List.all_eq_true.mpr fun c h => decide_eq_true (hc c h))⟩
theorem krt_ {α : Type} {xs : List α} {k : Int} (h0 : 0 ≤ k) (h1 : k < xs.length) : ∃ v, atI xs k = some v ∧ v ∈ xs := by
  have hj : k.toNat < xs.length := by omega
  refine ⟨xs[k.toNat], ?_, List.getElem_mem hj⟩
  have := atI_nat (xs := xs) (j := k.toNat) (v := xs[k.toNat]) (List.getElem?_eq_getElem hj)
  rwa [Int.toNat_of_nonneg h0] at this
theorem kru_ (i t : Int) (h0 : 0 ≤ t) (h1 : t ≤ 1000000000000) : (i.fmod 2147483647 + t).natAbs < 2 ^ 64 := by
  rw [Int.fmod_eq_emod_of_nonneg _ (by decide)]
  have a1 := Int.emod_nonneg i (b := 2147483647) (by decide)
  have a2 := Int.emod_lt_of_pos i (b := 2147483647) (by decide)
  omega
end Y
set_option Elab.async false
set_option linter.all false
set_option maxRecDepth 100000
set_option maxHeartbeats 4000000
set_option Elab.async false
set_option linter.all false
set_option maxRecDepth 100000
set_option maxHeartbeats 4000000
namespace Y
open PySem PySem.Spec PyProof.Rows L2 TL
def cxX (CX : CXT) (P : Program) (w : World) (K : PySem.W.Frag) (mg : Str → Option Value) (base : Heap) (N : List Str) (qual : Str) (scope : Scope)
    (f : Addr) (cd : Value) (cc : Addr) (A : Around) (outer : List Env) (s : Shared) (H : Hp) (E : XK) : Cx :=
  let env := PySem.W.ksEnv qual scope s.heap.objs.size f cd cc
  { prog := P, w := w, K := K, mg := mg, base := base, A := A.deeper env, N := N, s_0 := s, H_0 := H, env := env, outer := outer, stack := env :: outer,
    ex := [], calm := true, fn := fun _ => false, pn := [],
    xe := fun e s' => wpAny (model P w) (A.deeper env) (leaving env e) (fun _ s'' => CX outer H s E e s'') (fun e' s'' => CX outer H s E e' s'') s' }
structure keG_ (N P : List Str) (sc : Scope) : Prop where
  kind : sc.kind = .function
  co : sc.isCoroutine = false
  gen : sc.isGenerator = false
  nd : N.Nodup
  pre : N.take P.length = P
  par : ∀ x ∈ P, sc.names.lookup x = some .local
  nocell : ∀ y ∈ sc.names, y.2 ≠ .cell
  nofree : ∀ y ∈ sc.names, y.2 = .free → y.1 = "__class__"
  sup : sc.names.lookup ("super" : Str) = some .globalImplicit
  cls : sc.names.lookup ("__class__" : Str) = some .free
theorem zip_look {x : Str} {v : Value} : ∀ {P : List Str} {us : List Value} {i : Nat}, P.Nodup → P[i]? = some x → us[i]? = some v → (P.zip us).reverse.lookup x = some v := fun {P us i} nd h1 h2 => by
  have hm : (x, v) ∈ P.zip us := by
    refine List.mem_iff_getElem?.mpr ⟨i, ?_⟩
    rw [List.getElem?_zip_eq_some]
    exact ⟨h1, h2⟩
  have uni : ∀ {l : List (Str × Value)}, (l.map (·.1)).Nodup → (x, v) ∈ l → l.lookup x = some v := fun {l} hn hl => by
    induction l with
    | nil => cases hl
    | cons p r ih =>
      obtain ⟨y, u⟩ := p
      rw [List.map_cons, List.nodup_cons] at hn
      rcases List.mem_cons.mp hl with e | e
      · cases e
        simp
      · have hne : x ≠ y := fun z => hn.1 (List.mem_map.mpr ⟨(x, v), e, z⟩)
        rw [List.lookup_cons]
        have : (x == y) = false := by simpa using hne
        rw [this]
        exact ih hn.2 e
  refine uni ?_ (List.mem_reverse.mpr hm)
  rw [List.map_reverse]
  refine (List.reverse_perm _).nodup_iff.mpr ?_
  have hz : ∀ (P : List Str) (us : List Value), P.Nodup → ((P.zip us).map (·.1)).Nodup := by
    intro P
    induction P with
    | nil => intro us _; exact List.nodup_nil
    | cons p r ih =>
      intro us hn
      cases us with
      | nil => exact List.nodup_nil
      | cons u t =>
        rw [List.nodup_cons] at hn
        rw [List.zip_cons_cons, List.map_cons, List.nodup_cons]
        refine ⟨fun z => hn.1 ?_, ih t hn.2⟩
        obtain ⟨q, hq, e⟩ := List.mem_map.mp z
        have e' : q.1 = p := e
        rw [← e']
        exact (List.of_mem_zip hq).1
  exact hz P us nd
section
variable {CX : CXT} {P : Program} {w : World} {K : PySem.W.Frag} {mg : Str → Option Value} {base : Heap} {N ps : List Str} {qual : Str} {scope : Scope} {f cc D : Addr} {cd : Value} {A : Around} {outer : List Env} {s : Shared} {H : Hp} {E : XK}
theorem krv_ {us : List Value} {vs : List V} {h1 : Heap} (S : keG_ N ps scope) (hd : A.handled = none) (e0 : Env0 P w K mg base A outer s H) (hl : vs.length = ps.length) (r : Vals vs us)
    (hcc : ∃ cl cld csl, K.lookup cc = some ⟨cl, cld, .cell (some (.ref D)), csl⟩)
    (hns : h1.Ns s.heap.objs.size fun x => (ps.zip us).reverse.lookup x) (hk : ∀ b o, s.heap.get? b = some o → h1.get? b = some o) (tk : Nat) :
    Inv (cxX CX P w K mg base N qual scope f cd cc A outer s H E) [] (L2.start N vs) H { s with heap := h1, toks := tk } := by
  obtain ⟨cl, cld, csl, hc⟩ := hcc
  have hpl : ps.length ≤ N.length := by have := congrArg List.length S.pre; rw [List.length_take] at this; omega
  have ndP : ps.Nodup := by rw [← S.pre]; exact S.nd.sublist (List.take_sublist _ _)
  have hbc : base.get? cc = some _ := e0.mod.kin _ _ hc
  have hsc := (e0.bs _ _ hbc).1
  have hHc := (e0.bs _ _ hbc).2
  have only : ∀ x c, (cxX CX P w K mg base N qual scope f cd cc A outer s H E).env.cells.lookup x = some c → x = "__class__" ∧ c = cc := fun x c h => by
    have h' : ([(("__class__" : Str), cc)] : List (Str × Addr)).lookup x = some c := h
    rw [List.lookup_cons] at h'
    cases e : x == ("__class__" : Str) with
    | true => rw [e] at h'; exact ⟨by simpa using e, (Option.some.inj h').symm⟩
    | false => rw [e] at h'; cases h'
  have noA : ∀ b : Addr, b ∉ (cxX CX P w K mg base N qual scope f cd cc A outer s H E).ex := fun b z => absurd (show b ∈ ([] : List Addr) from z) (by simp)
  refine ⟨⟨e0.mod, S.kind, rfl, rfl, Nat.le_refl _, fun y z c h1 h2 => (only _ _ h1).1.trans (only _ _ h2).1.symm, fun y hy => ?_, fun y c z _ => Bool.noConfusion z, fun _ => hd, Around.frames_deeper e0.frames, .inr ⟨rfl, rfl⟩,
      fun b z => absurd z (noA b), e0.bs, e0.bsz, fun b _ _ => noA b, fun b z => absurd z (noA b), e0.funs, e0.frf⟩,
    rfl, e0.bare, Un.kept hk, ⟨_, hns, fun i y v h1 h2 h3 => ?_⟩, fun y c h => ?_, e0.hok.fresh (Nat.le_refl _), fun y c h => ?_, fun p hp => absurd (show p ∈ ([] : List (Addr × Obj)) from hp) (by simp), e0.hok.kept hk, ?_⟩
  · have hy : scope.names.lookup y = some .cell ∨ scope.names.lookup y = some .free := hy
    rcases hy with hy | hy
    · exact absurd rfl (S.nocell _ (PySem.mem_of_lookup hy))
    · have e : y = "__class__" := S.nofree _ (PySem.mem_of_lookup hy) rfl
      subst e
      exact ⟨cc, rfl⟩
  · have hi : i < vs.length := by
      unfold L2.start at h2
      by_cases hi : i < vs.length
      · exact hi
      · rw [List.getElem?_append_right (by simpa using hi), List.getElem?_replicate] at h2
        split at h2 <;> cases h2
    have ha : vs[i]? = some v := by
      unfold L2.start at h2
      rw [List.getElem?_append_left (by simpa using hi), List.getElem?_map] at h2
      cases e : vs[i]? with
      | none => rw [e] at h2; cases h2
      | some a => rw [e] at h2; cases h2; rfl
    obtain ⟨u, hu, rv⟩ := r.get ha
    have hp : ps[i]? = some y := by
      rw [← S.pre, List.getElem?_take_of_lt (by omega)]
      exact h1
    exact ⟨u, rv, .inl ⟨S.par y (List.mem_of_getElem? hp), zip_look ndP hp hu⟩⟩
  · obtain ⟨e1, e2⟩ := only y c h
    rw [e2]
    exact ⟨_, _, hk _ _ hsc, rfl⟩
  · obtain ⟨e1, e2⟩ := only y c h
    rw [e2]
    exact hHc
  · unfold L2.start
    show _ = N.length
    rw [List.length_append, List.length_map, List.length_replicate]
    omega
end
structure BX where
  newId : String
  iB : String
  initId : String
  tl : List Value
structure BX.Ok (b : BX) : Prop where
  new : ∃ nB nI nT, ExcBaseFacts nB b.newId nI nT ∧ b.tl.contains (.type nB) = true
  noA : b.tl.contains (.type "AttributeError") = false
  noN : b.tl.contains (.type "NameError") = false
  obj : b.tl.contains (.type "object") = true
  pass : ∀ self, PySem.refuseLoop self "__setattr__" b.tl = pure ()
  kxs : PySem.W.KxsFacts b.iB b.initId
  kind : builtinKind b.initId = some .slot
  row : Manifest.signature? b.initId = some ⟨.positional, "*", b.iB, .self, [⟨"args", .varPos, false⟩]⟩
  star : (b.iB != "*") = true
  plain : plainId b.initId = true
  entry : entryFor table b.initId = some Builtin.«BaseException.__init__»
def kcu_ (tl : List Value) : List Value → Bool
  | .ref _ :: r => kcu_ tl r
  | l => l == tl
theorem khE_ {tl : List Value} : ∀ {l : List Value}, kcu_ tl l = true → ∃ cs : List Addr, l = cs.map Value.ref ++ tl
  | [], e => ⟨[], beq_iff_eq.mp e⟩
  | .ref c :: r, e => by
    obtain ⟨cs, q⟩ := khE_ (tl := tl) (l := r) e
    exact ⟨c :: cs, by rw [q]; rfl⟩
  | .none :: _, e => ⟨[], beq_iff_eq.mp e⟩
  | .ellipsis :: _, e => ⟨[], beq_iff_eq.mp e⟩
  | .notImplemented :: _, e => ⟨[], beq_iff_eq.mp e⟩
  | .bool _ :: _, e => ⟨[], beq_iff_eq.mp e⟩
  | .int _ _ :: _, e => ⟨[], beq_iff_eq.mp e⟩
  | .float _ _ :: _, e => ⟨[], beq_iff_eq.mp e⟩
  | .str _ _ :: _, e => ⟨[], beq_iff_eq.mp e⟩
  | .bytes _ _ :: _, e => ⟨[], beq_iff_eq.mp e⟩
  | .type _ :: _, e => ⟨[], beq_iff_eq.mp e⟩
  | .builtin _ :: _, e => ⟨[], beq_iff_eq.mp e⟩
theorem khF_ {tl : List Value} {X : String} : ∀ cs : List Addr, (cs.map Value.ref ++ tl).contains (.type X) = tl.contains (.type X)
  | [] => rfl
  | c :: cs => by
    have ih := khF_ (tl := tl) (X := X) cs
    rw [List.map_cons, List.cons_append, List.contains_cons, ih]; rfl
theorem klg_ {tl : List Value} {self : Value} (h : PySem.refuseLoop self "__setattr__" tl = pure ()) : ∀ cs : List Addr, PySem.refuseLoop self "__setattr__" (cs.map Value.ref ++ tl) = pure ()
  | [] => h
  | c :: cs => by rw [List.map_cons, List.cons_append, PySem.refuseLoop_ref]; exact klg_ h cs
structure OexB (b : BX) (K : PySem.W.Frag) (C : Addr) : Prop where
  cls : ∃ nm q N bs bm sn sub ab col dd k0 k1 k2 k3 k5, K.lookup C = some (excClassObj nm q C N bs bm true sn sub ab col dd k0 k1 k2 k3 k5 b.newId) ∧ kcu_ b.tl bm = true
  sa : PySem.W.findIn K (.ref C) "__setattr__" = some (some (.builtin "object.__setattr__"))
  exC : PySem.W.subIn K (.ref C) (.type "BaseException") = some true
  tyC : PySem.W.typeIn K (.ref C) = some (.type "type")
  kC : PySem.W.keepIn K (.ref C) = true
section
variable {prog : Program} {w : World} {A : Around} {E : Value → Shared → Prop} {R : Result → Shared → Prop} {h : Heap} {g : Array GenState} {d : Drawn} {t : Nat} {os : OsState}
variable {nm q : Str} {C N : Addr} {bs bm nT : List Value} {hdct : Bool} {sn : List Str} {sub : List Value} {ab : Bool} {col : Option Bool} {dd : Option Addr} {k0 k1 k2 k3 k5 : Option Value} {nB newId nI : String}
theorem kmt_ {M : Model} {rest : List Value} {Q : Unit → Shared → Prop} (F : ExcBaseFacts nB newId nI nT) (hb : bm.contains (.type nB) = true) (at_ : h.get? C = some (excClassObj nm q C N bs bm hdct sn sub ab col dd k0 k1 k2 k3 k5 newId))
    (hq : Q () ⟨h, g, d, t, os⟩) : wpAny M A (checkBuiltinCall newId ⟨.ref C :: rest, []⟩) Q E ⟨h, g, d, t, os⟩ := by
  have hs := F.noStar
  have hb' : (Value.ref C :: bm).contains (.type nB) = true := by rw [List.contains_cons, hb, Bool.or_true]
  simp only [checkBuiltinCall, F.newSplit, F.newKind, F.newRow]
  repeat (first
    | refine wpAny_staticBase_exc at_ ?_
    | refine wpAny_madeBy_exc at_ ?_
    | (refine wpAny_isSubtype_exc at_ ?_; rw [hb'])
    | refine wpAny_loadPart_at at_ ?_
    | simp only [bne_self_eq_false, Bool.false_eq_true, if_false]
    | wp_step)
  exact hq
theorem krw_ {rest : List Value} (F : ExcBaseFacts nB newId nI nT) (hb : bm.contains (.type nB) = true) (ha : bm.contains (.type "AttributeError") = false) (hn : bm.contains (.type "NameError") = false) (at_ : h.get? C = some (excClassObj nm q C N bs bm hdct sn sub ab col dd k0 k1 k2 k3 k5 newId)) (hl : rest.length ≤ sizeLine)
    (hq : R (.ok (.ret (.ref (h.objs.size + 1)))) ⟨(h.push (PySem.W.kdv_tup rest)).push (PySem.HandSPX.excO C h.objs.size), g, d, t, os⟩) : codeAny (model prog w) A (.builtin newId ⟨.ref C :: rest, []⟩) R ⟨h, g, d, t, os⟩ := by
  have he := F.ends
  have hb' : (Value.ref C :: bm).contains (.type nB) = true := by rw [List.contains_cons, hb, Bool.or_true]
  have ha' : (Value.ref C :: bm).contains (.type "AttributeError") = false := by rw [List.contains_cons, ha]; rfl
  have hn' : (Value.ref C :: bm).contains (.type "NameError") = false := by rw [List.contains_cons, hn]; rfl
  refine codeAny_builtinAt F.entry ?_
  unfold Builtin.«BaseException.__new__»
  refine PySem.wpAt_bind ?_
  show PySem.wpAt _ _ _ (stack >>= _) _ _ _
  refine PySem.wpAt_bind (PySem.wpAt_stack fun p below => PySem.wpAt_of_wpAny ?_)
  wp_walk
  refine PySem.wpAt_of_wpAny ?_
  rw [F.owner]
  repeat (first
    | with_reducible refine wpAny_loadPart_at at_ ?_
    | with_reducible refine wpAny_madeHere_exc F.canon at_ ?_
    | (with_reducible refine wpAny_isSubtype_exc at_ ?_; first | rw [ha'] | rw [hn'] | rw [hb'])
    | wp_step)
  show R _ _
  rw [Heap.size_push]
  exact hq
theorem klJ_ {rest : List Value} {fI : Addr} {Q : Fin → Shared → Prop} (F : ExcBaseFacts nB newId nI nT) (hb : bm.contains (.type nB) = true) (ha : bm.contains (.type "AttributeError") = false) (hn : bm.contains (.type "NameError") = false) (at_ : h.get? C = some (excClassObj nm q C N bs bm hdct sn sub ab col dd k0 k1 k2 k3 k5 newId)) (hl : rest.length ≤ sizeLine)
    (hi : PySem.W.Looks (model prog w) h (typeLookup (.ref C) "__init__") (some (.ref fI))) (bi : ∀ self, PySem.W.Looks (model prog w) h (bindSpecial (.ref fI) self) (.ref fI, [self]))
    (hq : codeAny (model prog w) A (.call (.ref fI) ⟨.ref (h.objs.size + 1) :: rest, []⟩) (fun r s' => match r with | .ok (.ret v) => v = .none ∧ Q (.done (.ret (.ref (h.objs.size + 1)))) s' | .ok _ => False | .error e => E e s')
      ⟨(h.push (PySem.W.kdv_tup rest)).push (PySem.HandSPX.excO C h.objs.size), g, d, t, os⟩) : wpAny (model prog w) A (Builtin.«type.__call__» ⟨.ref C :: rest, []⟩) Q E ⟨h, g, d, t, os⟩ := by
  have kp : ∀ b o, h.get? b = some o → ((h.push (PySem.W.kdv_tup rest)).push (PySem.HandSPX.excO C h.objs.size)).get? b = some o := fun b o e => Heap.get?_push_of_some _ (Heap.get?_push_of_some _ e)
  have hnew : ((h.push (PySem.W.kdv_tup rest)).push (PySem.HandSPX.excO C h.objs.size)).get? (h.objs.size + 1) = some (PySem.HandSPX.excO C h.objs.size) := by heap_get
  have self_ : (Value.ref C :: bm).contains (.ref C) = true := by simp
  have at2 := kp _ _ at_
  have i2 := hi.keeps kp
  have b2 := (bi (.ref (h.objs.size + 1))).keeps kp
  repeat (first
    | with_reducible refine wpAny_madeBy_exc at_ ?_
    | with_reducible refine wpAny_loadPart_at at_ ?_
    | wp_step)
  refine codeAny_call_builtin_code (Code.quiet_builtin _ F.quiet) (kmt_ F hb at_ (krw_ F hb ha hn at_ hl ?_))
  show wpAny _ _ _ _ _ _
  unfold isInstance
  repeat (first
    | (with_reducible refine wpAny_isSubtype_exc at2 ?_; rw [self_])
    | with_reducible refine wpAny_loadPart_at hnew ?_
    | wp_step)
  show wpAny _ _ (typeLookup (.ref C) _) _ _ _
  refine i2.at (wpAny_holding (wpAny_bind (b2.at (wpAny_bind (wpAny_call (codeAny_mono hq fun r s' z => ?_))))))
  cases r with
  | error e => exact z
  | ok fl =>
    cases fl with
    | ret v =>
      obtain ⟨rfl, z⟩ := z
      first
        | exact wpAny_pure (wpAny_pure z)
        | (wp_walk; exact z)
    | next => exact z.elim
    | brk => exact z.elim
    | cont => exact z.elim
theorem krx_ {rest : List Value} {fI : Addr} (F : ExcBaseFacts nB newId nI nT) (hb : bm.contains (.type nB) = true) (ha : bm.contains (.type "AttributeError") = false) (hn : bm.contains (.type "NameError") = false) (at_ : h.get? C = some (excClassObj nm q C N bs bm hdct sn sub ab col dd k0 k1 k2 k3 k5 newId)) (hl : rest.length ≤ sizeLine)
    (hi : PySem.W.Looks (model prog w) h (typeLookup (.ref C) "__init__") (some (.ref fI))) (bi : ∀ self, PySem.W.Looks (model prog w) h (bindSpecial (.ref fI) self) (.ref fI, [self]))
    (hq : codeAny (model prog w) (A.under (.builtin "type.__call__" ⟨.ref C :: rest, []⟩)) (.call (.ref fI) ⟨.ref (h.objs.size + 1) :: rest, []⟩) (PySem.W.InitBack (h.objs.size + 1) R)
      ⟨(h.push (PySem.W.kdv_tup rest)).push (PySem.HandSPX.excO C h.objs.size), g, d, t, os⟩) : codeAny (model prog w) A (.call (.ref C) ⟨rest, []⟩) R ⟨h, g, d, t, os⟩ := by
  have l1 := tc_lookup
  have l2 := tc_bind (.ref C)
  have ty : (⟨h, g, d, t, os⟩ : Shared).TypeIs (.ref C) "type" := ⟨_, at_, rfl⟩
  refine codeAny_of_tree ?_
  show wpAny _ _ (callAny (.ref C) _) _ _ _
  repeat (any_goals (first
    | assumption
    | with_reducible refine wpAny_loadPart_at at_ ?_
    | wp_step))
  refine ⟨rfl, codeAny_call_builtin_at (Code.quiet_builtin _ (by decide +kernel)) entry_typeCall (wpAny_check_type_call_sub at_ (klJ_ F hb ha hn at_ hl hi bi (codeAny_mono hq fun r s' z => ?_)))⟩
  rcases r with e | (v | _ | _ | _) <;> exact z
end
section
open Builtin Builtin.ObjectAttr
variable {prog : Program} {w : World} {A : Around} {E : Value → Shared → Prop} {R : Result → Shared → Prop} {hp : Heap} {g : Array GenState} {d : Drawn} {t : Nat} {os : OsState}
theorem kry_ {K : PySem.W.Frag} {name : Str} {tk : Tok} {v : Value} {x C : Addr} {ox : Obj} {od : Option Obj} {cd : ClassData} {cs : List Addr} {b : BX} (ok : b.Ok) (X : K.In hp) (I : PySem.W.InstAt hp x ox C od) (hcd : PySem.W.clsIn K C = some cd) (hm : cd.mro = cs.map Value.ref ++ b.tl)
    (ha : PySem.W.findIn K (.ref C) name = some none) (h : wpAny (model prog w) A.in1 (storeInOwnDict (.ref x) (.ref C) (.str name tk) name v false) (fun fin s' => match fin with | .done f => R (.ok f) s' | .again c => c.quiet = true ∧ codeAny (model prog w) A c R s') (fun e s' => R (.error e) s') ⟨hp, g, d, t, os⟩) :
    codeAny (model prog w) A (.call (.builtin "object.__setattr__") ⟨[.ref x, .str name tk, v], []⟩) R ⟨hp, g, d, t, os⟩ := by
  have st := F.store_object
  have ne : cd.mro.isEmpty = false := by
    cases e : cd.mro with
    | nil =>
      rw [hm] at e
      have := ok.obj
      rw [(List.append_eq_nil_iff.mp e).2] at this
      exact absurd this (by decide)
    | cons _ _ => rfl
  have ob : cd.mro.contains (.type "object") = true := by rw [hm, khF_]; exact ok.obj
  have isO : PySem.W.Looks (model prog w) hp (isInstance (.ref x) (.type "object")) true := I.type.andThen (PySem.W.looks_mroIn X (by unfold PySem.W.mroIn; rw [hcd, Option.bind_some, if_neg (by rw [ne]; decide), ob]))
  have mro_ : PySem.W.Looks (model prog w) hp (mroOf (.ref C)) cd.mro := (PySem.W.looks_clsIn X hcd).andThen .now
  have none_ : PySem.W.Looks (model prog w) hp (storeTaker? none) none := .now
  refine codeAny_call_builtin st.slot.plain st.entry (@PySem.W.check_slot (model prog w) _ _ ⟨hp, g, d, t, os⟩ "object.__setattr__" "object" "__setattr__" (.ref x) [.str name tk, v] [] _ st.kind st.split isO (st.args (.ref x) (.str name tk) v) ?_)
  rw [PySem.W.osa_eq, refuse_eq]
  refine wpAny_bind (wpAny_bind (I.type.at (wpAny_bind (mro_.at ?_))))
  rw [hm, klg_ (ok.pass _) cs]
  exact wpAny_pure (wpAny_bind (I.type.at (wpAny_bind ((PySem.W.looks_findIn X ha).at (wpAny_bind (none_.at h))))))
theorem kpF_ {K : PySem.W.Frag} {name : Str} {tk : Tok} {v : Value} {x C : Addr} {fv : Array Value} {cd : ClassData} {cs : List Addr} {b : BX} (ok : b.Ok) (X : K.In hp) (hx : hp.get? x = some { cls := .ref C, data := .fields fv }) (hcd : PySem.W.clsIn K C = some cd) (hm : cd.mro = cs.map Value.ref ++ b.tl) (hh : cd.hasDict = true)
    (ha : PySem.W.findIn K (.ref C) name = some none)
    (hq : ∀ h' tk' dx, (∀ b o, b ≠ x → hp.get? b = some o → h'.get? b = some o) → hp.objs.size ≤ dx → dx ≠ x → h'.get? x = some { cls := .ref C, dict := some dx, data := .fields fv } →
      h'.Ns1 dx (fun y => if y = name then some v else none) → R (.ok (.ret .none)) ⟨h', g, d, tk', os⟩) :
    codeAny (model prog w) A (.call (.builtin "object.__setattr__") ⟨[.ref x, .str name tk, v], []⟩) R ⟨hp, g, d, t, os⟩ := by
  refine kry_ (od := none) ok X ⟨hx, rfl, rfl, trivial⟩ hcd hm ha ?_
  have cls_ : PySem.W.Looks (model prog w) hp (classData C) cd := PySem.W.looks_clsIn X hcd
  have apart : x ≠ hp.objs.size := Nat.ne_of_lt (Heap.lt_size hx)
  obtain ⟨nm, bs, mro, ns, qn, hd, sn, sb, ab, col, del⟩ := cd
  dsimp only at hh
  subst hh
  unfold storeInOwnDict ownDictForStores
  repeat (first
    | with_reducible refine PySem.HandSPX.store_in_new ?_ ?_
    | with_reducible refine cls_.at ?_
    | with_reducible refine wpAny_loadPart_at hx ?_
    | wp_step)
  · exact ⟨_, #[], _, (Heap.get?_update_ne _ _ _ _ apart.symm).trans (Heap.get?_push_at rfl rfl), rfl, fun e he => absurd he (by simp), fun _ => rfl⟩
  · intro h' tk' hn' hs
    have hx1 : (hp.push { cls := .type "dict", data := .dict #[] }).get? x = some { cls := .ref C, data := .fields fv } := Heap.get?_push_of_some _ hx
    exact hq h' tk' hp.objs.size (fun b o hb ho => (hs.2 b (Nat.ne_of_lt (Heap.lt_size ho))).trans ((Heap.get?_update_ne _ _ _ _ hb).trans (Heap.get?_push_of_some _ ho))) (Nat.le_refl _) apart.symm
      ((hs.2 x apart).trans (Heap.get?_update_self _ hx1 rfl)) hn'
theorem krz_ {K : PySem.W.Frag} {name : Str} {tk : Tok} {v : Value} {x C dx : Addr} {fv : Array Value} {cd : ClassData} {cs : List Addr} {b : BX} {m0 : Str → Option Value} {nl : List Str} (ok : b.Ok) (X : K.In hp) (hx : hp.get? x = some { cls := .ref C, dict := some dx, data := .fields fv }) (hns : hp.Ns1 dx m0) (hw : Within m0 nl) (hz : nl.length ≤ 1000)
    (hcd : PySem.W.clsIn K C = some cd) (hm : cd.mro = cs.map Value.ref ++ b.tl) (hh : cd.hasDict = true) (ha : PySem.W.findIn K (.ref C) name = some none)
    (hq : ∀ h' tk', (∀ b o, b ≠ dx → hp.get? b = some o → h'.get? b = some o) → h'.Ns1 dx (fun y => if y = name then some v else m0 y) → R (.ok (.ret .none)) ⟨h', g, d, tk', os⟩) :
    codeAny (model prog w) A (.call (.builtin "object.__setattr__") ⟨[.ref x, .str name tk, v], []⟩) R ⟨hp, g, d, t, os⟩ := by
  obtain ⟨oD, esD, epD, hoD, hdD, _⟩ := hns.count hw
  refine kry_ (od := some oD) ok X ⟨hx, rfl, rfl, hoD⟩ hcd hm ha ?_
  have cls_ : PySem.W.Looks (model prog w) hp (classData C) cd := PySem.W.looks_clsIn X hcd
  obtain ⟨nm, bs, mro, ns, qn, hd, sn, sb, ab, col, del⟩ := cd
  dsimp only at hh
  subst hh
  unfold storeInOwnDict ownDictForStores
  repeat (first
    | with_reducible refine PySem.OEX.store_in_old hns hw hz ?_
    | with_reducible refine cls_.at ?_
    | with_reducible refine wpAny_loadPart_at hx ?_
    | wp_step)
  exact fun h' tk' hn' hs => hq h' tk' (fun b o hb ho => (hs.2 b hb).trans ho) hn'
end
theorem OexB.cd {b : BX} {K : PySem.W.Frag} {C : Addr} (T : OexB b K C) : ∃ (cd : ClassData) (cs : List Addr), PySem.W.clsIn K C = some cd ∧ cd.mro = cs.map Value.ref ++ b.tl ∧ cd.hasDict = true := by
  obtain ⟨nm, q, N, bs, bm, sn, sub, ab, col, dd, k0, k1, k2, k3, k5, hC, hbm⟩ := T.cls
  obtain ⟨cs, e⟩ := khE_ hbm
  refine ⟨_, C :: cs, by unfold PySem.W.clsIn; rw [hC] <;> rfl, ?_, rfl⟩
  show Value.ref C :: bm = _
  rw [e]; rfl
section
variable {X : Cx} {pins : List (Addr × Obj)} {σ : L2.St} {H : Hp} {s : Shared} {a C dx : Addr} {f : Str} {y : V} {u : Value} {fs : List (Str × V)} {Q : Unit → Shared → Prop} {E : Value → Shared → Prop} {A : Around} {b : BX}
theorem krA_ (ok : b.Ok) (T : OexB b X.K C) (I : Inv X pins σ H s) (e : H a = some (exo a C none)) (hno : PySem.W.findIn X.K (.ref C) f = some none) (ry : RelV y u)
    (h : ∀ dx s', H dx = none → dx ≠ a → Inv X pins σ (upd (upd H dx (exd dx [(f, y)])) a (exo a C (some dx))) s' → Q () s') : wpAny (model X.prog X.w) A (setAttr (.ref a) f u) Q E s := by
  obtain ⟨cd, cs, hcl, hm, hdict⟩ := T.cd
  obtain ⟨t1, ho⟩ := exo_at I.hok e
  obtain ⟨hp, g, d, t, os⟩ := s
  refine PySem.W.set_plain I.kIn (od := none) ⟨ho, rfl, rfl, trivial⟩ T.sa (kpF_ ok I.kIn ho hcl hm hdict hno fun h' tk' dx k dn dne hx hn => ?_)
  have hnd : H dx = none := I.hok.fresh dn
  have nd : ∀ {c : Addr} {o : Obj}, hp.get? c = some o → c ≠ dx := fun {c o} q => Nat.ne_of_lt (Nat.lt_of_lt_of_le (Heap.lt_size q) dn)
  have na : ∀ {c : Addr}, H c = none → c ≠ a := fun {c} n z => by rw [z, e] at n; cases n
  have U : Un X.fs [] H (upd (upd H dx (exd dx [(f, y)])) a (exo a C (some dx))) hp h' := ⟨fun c o q n _ _ => k c o (na n) q, fun c o q n _ _ => ⟨o.slots, k c o (na n) q⟩, fun c o q n _ => (upd_ne (na n)).trans ((upd_ne (nd q)).trans n),
    fun c o q _ => by
      by_cases hc : c = a
      · exact ⟨_, by rw [hc]; exact hx⟩
      · exact ⟨o, k c o hc q⟩,
    fun c xs q => (upd_ne (at_ne e q exo_tup)).trans ((upd_ne (ne_of_none q hnd)).trans q), fun c o v q => (upd_ne (at_ne e q exo_frz)).trans ((upd_ne (ne_of_none q hnd)).trans q),
    fun c ps q => ⟨#[], (upd_ne (at_ne e q exo_tbl)).trans ((upd_ne (ne_of_none q hnd)).trans (by rw [q]; simp))⟩⟩
  refine h dx _ hnd dne (I.un (t' := tk') U fun c o q => ?_)
  by_cases hc : c = a
  · subst hc
    rw [upd_same] at q
    cases q
    exact exo_ok hx
  · rw [upd_ne hc] at q
    by_cases hd : c = dx
    · subst hd
      rw [upd_same] at q
      cases q
      exact exd_ok hn (relO_put (fs := []) ry fun _ => True.intro)
    · rw [upd_ne hd] at q
      refine (I.hok c o q).stay (fun c' v hv z => k c' v ?_ z) (fun c' hv => (upd_ne (at_ne e hv exo_own)).trans ((upd_ne (ne_of_none hv hnd)).trans hv)) fun c' xs hv => (upd_ne (at_ne e hv exo_tup)).trans ((upd_ne (ne_of_none hv hnd)).trans hv)
      rcases hv with hv | hv
      · rw [hv]; exact hc
      · exact at_ne e hv exo_own
theorem krB_ (ok : b.Ok) (T : OexB b X.K C) (I : Inv X pins σ H s) (e : H a = some (exo a C (some dx))) (ed : H dx = some (exd dx fs)) (hl : fs.length ≤ 900) (hno : PySem.W.findIn X.K (.ref C) f = some none) (ry : RelV y u)
    (h : ∀ s', Inv X pins σ (upd H dx (exd dx ((f, y) :: fs))) s' → Q () s') : wpAny (model X.prog X.w) A (setAttr (.ref a) f u) Q E s := by
  obtain ⟨cd, cs, hcl, hm, hdict⟩ := T.cd
  obtain ⟨t1, ho⟩ := exo_at I.hok e
  obtain ⟨mA, hns, rel⟩ := exd_at I.hok ed
  have hw := within_of rel
  obtain ⟨hp, g, d, t, os⟩ := s
  obtain ⟨oD, _, _, hoD, _, _⟩ := hns.count hw
  refine PySem.W.set_plain I.kIn (od := some oD) ⟨ho, rfl, rfl, hoD⟩ T.sa (krz_ ok I.kIn ho hns hw (by rw [List.length_map]; omega) hcl hm hdict hno fun h' tk' k hn => ?_)
  have there : ∃ o, h'.get? dx = some o := let ⟨o, _, _, e', _⟩ := hn; ⟨o, e'⟩
  exact h _ (I.write (t' := tk') (x := dx) (e := dx) (o := exd dx ((f, y) :: fs)) (by rw [ed]; exact True.intro) (.inl rfl) k there (exd_ok hn (relO_put ry rel)))
end
def tBst (b : BX) (K : PySem.W.Frag) (f : Str) (to te : TE) : TS := fun D σ H => te σ H fun y H1 => to σ H1 fun x H2 => ∃ a C : Addr, x = .ref a ∧ OexB b K C ∧ PySem.W.findIn K (.ref C) f = some none ∧
  ((H2 a = some (exo a C none) ∧ ∀ dx, H2 dx = none → dx ≠ a → D.nx σ (upd (upd H2 dx (exd dx [(f, y)])) a (exo a C (some dx)))) ∨
    ∃ (dx : Addr) (fs : List (Str × V)), H2 a = some (exo a C (some dx)) ∧ H2 dx = some (exd dx fs) ∧ fs.length ≤ 900 ∧ D.nx σ (upd H2 dx (exd dx ((f, y) :: fs))))
theorem ktX_ {X : Cx} {o e : Expr} {to te : TE} {f : Str} {p' pos : Pos} {b : BX} (ok : b.Ok) (ho : PE X o to) (he : PE X e te) (hs : swapsWith e (some (.Attribute o f p')) pos.line X.env = pure false := by rfl) : PS X (.Assign [.Attribute o f p'] e pos) (tBst b X.K f to te) :=
  ⟨fun pins s σ H D I h => plainObj_wpAny_Assign_Attribute (thn (he.run pins s σ H _ I h) fun v s1 ⟨y, H1, I1, r1, q1⟩ => thn (ho.run pins s1 σ H1 _ I1 q1) fun u s2 ⟨x, H2, I2, r2, a, C, ex, T, hno, q⟩ => by
    subst ex
    obtain rfl : u = Value.ref a := r2
    rcases q with ⟨ea, q⟩ | ⟨dx, fs, ea, ed, hl, q⟩
    · exact krA_ ok T I2 ea hno r1 fun dx s' n ne J => ⟨σ, _, J, q dx n ne⟩
    · exact krB_ ok T I2 ea ed hl hno r1 fun s' J => ⟨σ, _, J, q⟩) hs⟩
theorem kpG_ {M : Model} {A : Around} {E : Value → Shared → Prop} {h : Heap} {g : Array GenState} {d : Drawn} {t : Nat} {os : OsState} {nm q : Str} {C N e : Addr} {oe : Obj} {bs bm : List Value} {hdct : Bool} {sn : List Str} {sub : List Value} {ab : Bool} {col : Option Bool} {dd : Option Addr} {k0 k1 k2 k3 k5 : Option Value}
    {newId : String} {rest : List Value} {Q : Unit → Shared → Prop} {b : BX} (ok : b.Ok) (at_ : h.get? C = some (excClassObj nm q C N bs bm hdct sn sub ab col dd k0 k1 k2 k3 k5 newId)) (he : h.get? e = some oe) (hc : oe.cls = .ref C) (hq : Q () ⟨h, g, d, t, os⟩) : wpAny M A (checkBoundCall b.initId ⟨.ref e :: rest, []⟩) Q E ⟨h, g, d, t, os⟩ := by
  have star := ok.star
  simp only [checkBoundCall, ok.row, ok.kind]
  repeat (first
    | with_reducible refine wpAny_loadPart_at at_ ?_
    | (with_reducible refine wpAny_loadPart_at he ?_; rw [hc])
    | wp_step)
  refine wpAny_onRaise ?_
  have ck : ∀ (x y : String) (n : Nat), Bind.check ⟨.positional, "*", b.iB, .self, [⟨"args", .varPos, false⟩]⟩ x y n (List.map (fun z => z.fst) ({ pos := Value.ref e :: rest } : Args).kw) = pure () := fun x y n => check_star_args _ _ _ _ _ _
  rw [ck]
  exact wpAny_pure hq
def bxV : BX := ⟨"ValueError.__new__", "ValueError", "ValueError.__init__", [.type "ValueError", .type "Exception", .type "BaseException", .type "object"]⟩
def bxL : BX := ⟨"LookupError.__new__", "LookupError", "LookupError.__init__", [.type "LookupError", .type "Exception", .type "BaseException", .type "object"]⟩
def bxK : BX := ⟨"LookupError.__new__", "KeyError", "KeyError.__init__", [.type "KeyError", .type "LookupError", .type "Exception", .type "BaseException", .type "object"]⟩
theorem kbU_ : bxV.Ok where
  new := ⟨_, _, _, F.excBase_ValueError, by decide +kernel⟩
  noA := by decide +kernel
  noN := by decide +kernel
  obj := by decide +kernel
  pass := fun self => F.store_ValueError.passes self
  kxs := PySem.W.kxs_ValueError
  kind := F.excBase_ValueError.initKind
  row := F.excBase_ValueError.initRow
  star := F.excBase_ValueError.noStar
  plain := F.excBase_ValueError.init.plain
  entry := F.excBase_ValueError.initEntry
theorem kga_ : bxL.Ok where
  new := ⟨_, _, _, F.excBase_LookupError, by decide +kernel⟩
  noA := by decide +kernel
  noN := by decide +kernel
  obj := by decide +kernel
  pass := fun self => by show PySem.refuseLoop self _ [.type "LookupError", .type "Exception", .type "BaseException", .type "object"] = _; kernel_rfl
  kxs := PySem.W.kxs_LookupError
  kind := F.excBase_LookupError.initKind
  row := F.excBase_LookupError.initRow
  star := F.excBase_LookupError.noStar
  plain := F.excBase_LookupError.init.plain
  entry := F.excBase_LookupError.initEntry
theorem klK_ : bxK.Ok where
  new := ⟨_, _, _, F.excBase_LookupError, by decide +kernel⟩
  noA := by decide +kernel
  noN := by decide +kernel
  obj := by decide +kernel
  pass := fun self => by show PySem.refuseLoop self _ [.type "KeyError", .type "LookupError", .type "Exception", .type "BaseException", .type "object"] = _; kernel_rfl
  kxs := ⟨by show builtinType _ = _; rw [builtinType_eq_fast]; kernel_rfl, by first | kernel_rfl | rfl⟩
  kind := by kernel_rfl
  row := by kernel_rfl
  star := by decide +kernel
  plain := by decide +kernel
  entry := entryFor_alias (id' := "BaseException.__init__") (by rw [fastTable_eq_tree]; kernel_rfl) (by first | rfl | decide +kernel) (by decide +kernel) (by rw [fastTable_eq_tree]; kernel_rfl)
structure ktH_ (b : BX) (P : Program) (K : PySem.W.Frag) (C cc cda : Addr) : Prop where
  cell : ∃ cl cld csl, K.lookup cc = some ⟨cl, cld, .cell (some (.ref C)), csl⟩
  code : ∃ ccl cdd vs ccs file tf, K.lookup cda = some ⟨ccl, cdd, .fields vs, ccs⟩ ∧ vs[2]? = some (.str file tf) ∧ ((P.main.file : Str) == file) = true
  top : (P.main.scope.names.lookup ("super" : Str)).isSome = false
  opq : PySem.W.nsIn K cStatics "thirdparty.any" = some none
  sup : PySem.W.ks_superIn K C C "__init__" = some (some (.builtin b.initId))
  isB : PySem.W.subIn K (.ref C) (.type b.iB) = some true
  mroC : PySem.W.mroIn K C (.ref C) = some true
theorem kmu_ : bootBuiltins "super" = some (.type "super") := by decide +kernel
section
variable {b : BX} {CX : CXT} {P : Program} {w : World} {K : PySem.W.Frag} {mg : Str → Option Value} {base : Heap} {N ps : List Str} {qual name : Str} {scope : Scope} {f cc cda C a : Addr} {A : Around} {outer : List Env} {s0 s : Shared} {H0 H : Hp} {E : XK} {σ : L2.St}
  {body : List Stmt} {params : Arguments} {dV kV doc pm ct oc : Value} {an od : Option Addr} {osl : Array (Option Value)} {Q : Flow → Shared → Prop}
abbrev cxN (CX : CXT) (P : Program) (w : World) (K : PySem.W.Frag) (mg : Str → Option Value) (base : Heap) (N : List Str) (qual : Str) (scope : Scope)
    (f cda cc : Addr) (A : Around) (outer : List Env) (s : Shared) (H : Hp) (E : XK) : Cx := (cxX CX P w K mg base N qual scope f (.ref cda) cc A outer s H E).nox
theorem kpH_ {msg : Str} {pl : Sem Bool} {j : Nat} {p0 p1 p2 p3 p4 pc : Pos} {ar : Arg} (I : Inv (cxN CX P w K mg base N qual scope f cda cc A outer s0 H0 E) [] σ H s) (ok : b.Ok) (S : ktH_ b P K C cc cda) (T : OexB b K C) (hsup : mg "super" = none)
    (hsk : scope.kind = .function) (hks : scope.names.lookup ("super" : Str) = some .globalImplicit) (hkc : scope.names.lookup ("__class__" : Str) = some .free)
    (lk : K.lookup f = some ⟨oc, od, .func (PySem.W.ksFn name qual params body scope dV kV doc pm an (.ref cda) ct cc), osl⟩)
    (hp : (params.posonlyargs ++ params.args).head? = some ar) (hN : N[0]? = some ar.arg) (hka : scope.names.lookup ar.arg = some .local) (hσ : σ[0]? = some (some (.ref a))) (hH : H a = some (exo a C none))
    (he : eval (.Call (.Attribute (.Call (.Name "super" p0) [] [] p1) "__init__" p2) [.Constant (.str msg) j pc] [] p3) (PySem.W.ksEnv qual scope s0.heap.objs.size f (.ref cda) cc) = (do
      let ov ← attributeBase (.Call (.Name "super" p0) [] [] p1) "__init__" (PySem.W.ksEnv qual scope s0.heap.objs.size f (.ref cda) cc) (eval (.Call (.Name "super" p0) [] [] p1) (PySem.W.ksEnv qual scope s0.heap.objs.size f (.ref cda) cc))
      standAt p2.atName
      let (gm, first) ← holding [ov] (getMethod ov "__init__" pl)
      callWith p3 gm first (backTo p3 (starEach [.Constant (.str msg) j pc] (PySem.W.ksEnv qual scope s0.heap.objs.size f (.ref cda) cc))) []))
    (hsw : swapsWith (.Call (.Attribute (.Call (.Name "super" p0) [] [] p1) "__init__" p2) [.Constant (.str msg) j pc] [] p3) none p4.line (PySem.W.ksEnv qual scope s0.heap.objs.size f (.ref cda) cc) = pure false)
    (h : ∀ s', Inv (cxN CX P w K mg base N qual scope f cda cc A outer s0 H0 E) [] σ H s' → Q .next s') :
    PySem.wpAt (model P w) (A.deeper (PySem.W.ksEnv qual scope s0.heap.objs.size f (.ref cda) cc)) (.func body (PySem.W.ksEnv qual scope s0.heap.objs.size f (.ref cda) cc))
      (exec (.Expr (.Call (.Attribute (.Call (.Name "super" p0) [] [] p1) "__init__" p2) [.Constant (.str msg) j pc] [] p3) p4) (PySem.W.ksEnv qual scope s0.heap.objs.size f (.ref cda) cc)) Q (fun _ _ => False) s := by
  obtain ⟨cl, cld, csl, hcell⟩ := S.cell
  obtain ⟨ccl, cdd, vs, ccs, file, tf, hcode, hvs, hfile⟩ := S.code
  obtain ⟨nm, q, NN, bs, bm, sn, sub, ab, col, dd, k0, k1, k2, k3, k5, hC, hbm⟩ := T.cls
  obtain ⟨m, hns, hl⟩ := I.loc
  obtain ⟨u, ru, look⟩ := hl 0 ar.arg (.ref a) hN hσ (.inl hka)
  cases (show u = Value.ref a from ru)
  have hv : m ar.arg = some (.ref a) := by
    rcases look with ⟨_, e⟩ | ⟨hk, _⟩
    · exact e
    · have hk' : scope.names.lookup ar.arg = some .cell ∨ scope.names.lookup ar.arg = some .free := hk
      rw [hka] at hk'
      rcases hk' with z | z <;> cases z
  obtain ⟨mb, hb1, hb2⟩ := I.mod.blt
  have hcl : PySem.W.clsIn K C = some { name := nm, bases := bs, mro := .ref C :: bm, ns := NN, qualname := q, hasDict := true, slotNames := sn, subclasses := sub, abstract := ab, collection := col, hasDel := false } := by unfold PySem.W.clsIn; rw [hC] <;> rfl
  obtain ⟨t1, ho⟩ := exo_at I.hok hH
  have KX : K.In s.heap := I.kIn
  have hCs := KX _ _ hC
  have hin : interactive (PySem.W.ksEnv qual scope s0.heap.objs.size f (.ref cda) cc) = false := by
    show (scope.kind == .module && _) = false
    rw [hsk]
    rfl
  refine ks_wpAt_Expr_any (hi := hin) (hs := hsw) (ks_wpAt_MethodCall (pl := pl) ?_ he)
  refine ks_wpAt_super_base hks hkc (by decide +kernel) rfl (KX _ _ lk) rfl hp rfl (KX _ _ hcode) rfl hvs hfile S.top ?_
  refine PySem.W.ks_loadName_global hsk hks (PySem.Calls.loadGlobal_builtin (I.mod.glob.keeps I.bk) hsup (hb1.keeps I.bk) ((hb2 _ (by decide +kernel)).trans kmu_) ⟨rfl, ?_⟩)
  refine wpAny_loadName_free hsk hkc rfl ⟨_, KX _ _ hcell, rfl⟩ ?_
  refine wpAny_loadName_local hsk hka hns hv ?_
  obtain ⟨hh, g, d, t, os⟩ := s
  refine ks_wpAny_isType_cls hCs rfl ⟨rfl, ?_⟩
  refine ks_wpAny_call_super hCs rfl ho rfl (fun c z => (nomatch z)) (PySem.W.looks_mroIn KX S.mroC) (fun h1 e1 k1 => ?_)
  have KX1 : K.In h1 := KX.keeps k1
  have II : PySem.W.InstAt h1 a { cls := .ref C, dict := none, data := .fields #[.ref t1, .none, .none, .none, .bool false, .none] } C none := ⟨k1 _ _ ho, rfl, rfl, trivial⟩
  have hf : PySem.W.alongIn K "__init__" (((Value.ref C :: bm).dropWhile (· != .ref C)).drop 1) = some (some (.builtin b.initId)) := by
    have z := S.sup
    unfold PySem.W.ks_superIn at z
    rw [hcl] at z
    exact z
  refine PySem.W.kxs_getMethod (K := K) (l₀ := Value.ref C :: bm) ok.kxs e1 (PySem.W.looks_opaque KX1 S.opq) (fun A Q E s k q => wpAny_bind ((PySem.W.looks_clsIn KX1 hcl) A _ E s k (wpAny_pure q))) rfl KX1 hf
    (II.type.andThen (PySem.W.looks_subIn KX1 S.isB)) (PySem.W.ks_ne KX1 II hcl) (by decide +kernel) ?_
  have hu : (h1.push (PySem.W.kxs_mw b.initId a)).get? h1.objs.size = some (PySem.W.kxs_mw b.initId a) := Heap.get?_push_at rfl rfl
  have k2 : ∀ c o, hh.get? c = some o → (h1.push (PySem.W.kxs_mw b.initId a)).get? c = some o := fun c o z => Heap.get?_push_of_some _ (k1 _ _ z)
  refine PySem.W.kxs_callWith (i := b.initId) (x := a) (by rfl) ?_
  refine PySem.Calls.evalArgs_plain ?_
  refine Calls.spliced_cons (Calls.Constant_str (k := j) (pos := pc) (Calls.spliced_nil ⟨hu, ?_⟩))
  refine wpAny_call (codeAny_of_tree ?_)
  show wpAny _ (A.deeper _).in1 (callAny (.ref h1.objs.size) ⟨_, []⟩) _ _ _
  simp only [callAny]
  refine wpAny_bind (wpAny_load hu ?_)
  simp only [PySem.W.kxs_mw, show (Value.type "method-wrapper" == Value.type "method" || Value.type "method-wrapper" == Value.type "builtin_function_or_method" || Value.type "method-wrapper" == Value.type "method-wrapper") = true by decide, if_true]
  refine PySem.W.KFB.if_so (by decide) ?_
  refine wpAny_bind (kpG_ ok (k2 _ _ hCs) (k2 _ _ ho) rfl ?_)
  refine wpAny_bind (wpAny_pure (wpAny_pure ?_))
  refine ⟨PySem.plainId_quiet ok.plain _, codeAny_builtin ok.entry ?_⟩
  have J0 := I.kept (t' := t) k2
  refine PySem.W.exc_init_tree (cls := .ref C) (t0 := t1) (dv := none) (c2 := .none) (c3 := .none) (b4 := .bool false) (k2 _ _ ho) (by rw [sizeLine_eq]; show (1 : Nat) ≤ 16777216; decide) (fun h' k e' _ => ?_)
  have J := J0.write (t' := t + 2) (x := a) (e := a) (o := exo a C none) (by rw [hH]; exact True.intro) (.inl rfl) k ⟨_, e'⟩ (exo_ok e')
  have eu : upd H a (exo a C none) = H := by
    funext b
    by_cases hb : b = a
    · rw [hb, upd_same, hH]
    · rw [upd_ne hb]
  rw [eu] at J
  exact h _ J
theorem ko4_ {rest : List Stmt} {sp : Sp} {k : Nat} {msg : Str} {j : Nat} {p0 p1 p2 p3 p4 pc : Pos} {ar : Arg}
    (lk : K.lookup f = some ⟨oc, od, .func (PySem.W.ksFn name qual params (.Expr (.Call (.Attribute (.Call (.Name "super" p0) [] [] p1) "__init__" p2) [.Constant (.str msg) j pc] [] p3) p4 :: rest) scope dV kV doc pm an (.ref cda) ct cc), osl⟩)
    (hcd : PySem.W.codeIn K (.ref cda) qual = true) (S : keG_ N ps scope) (ok : b.Ok) (U : ktH_ b P K C cc cda) (T : OexB b K C) (hsup : mg "super" = none)
    (hp : (params.posonlyargs ++ params.args).head? = some ar) (hN : N[0]? = some ar.arg) (hka : scope.names.lookup ar.arg = some .local)
    (he : ∀ L, ∃ pl : Sem Bool, eval (.Call (.Attribute (.Call (.Name "super" p0) [] [] p1) "__init__" p2) [.Constant (.str msg) j pc] [] p3) (PySem.W.ksEnv qual scope L f (.ref cda) cc) = (do
      let ov ← attributeBase (.Call (.Name "super" p0) [] [] p1) "__init__" (PySem.W.ksEnv qual scope L f (.ref cda) cc) (eval (.Call (.Name "super" p0) [] [] p1) (PySem.W.ksEnv qual scope L f (.ref cda) cc))
      standAt p2.atName
      let (gm, first) ← holding [ov] (getMethod ov "__init__" pl)
      callWith p3 gm first (backTo p3 (starEach [.Constant (.str msg) j pc] (PySem.W.ksEnv qual scope L f (.ref cda) cc))) []))
    (hsw : ∀ L, swapsWith (.Call (.Attribute (.Call (.Name "super" p0) [] [] p1) "__init__" p2) [.Constant (.str msg) j pc] [] p3) none p4.line (PySem.W.ksEnv qual scope L f (.ref cda) cc) = pure false)
    (len : ∀ vs H Q E, sp vs H Q E → vs.length = ps.length)
    (fst : ∀ vs H Q E, sp vs H Q E → ∃ a, vs[0]? = some (.ref a) ∧ H a = some (exo a C none))
    (hbody : ∀ (A : Around) (outer : List Env) (s : Shared) (H : Hp) (vs : List V) (Q : VK) (E : XK), sp vs H Q E →
      ∃ t, PSs (cxN CX P w K mg base N qual scope f cda cc A outer s H E) rest t ∧ t { nx := fun _ H' => Q .non H', rt := Q } (L2.start N vs) H) :
    FnOk P w K mg base CX (k + 1) f (PySem.W.ksFn name qual params (.Expr (.Call (.Attribute (.Call (.Name "super" p0) [] [] p1) "__init__" p2) [.Constant (.str msg) j pc] [] p3) p4 :: rest) scope dV kV doc pm an (.ref cda) ct cc) ps sp := by
  refine ⟨len, fun A outer s H args us vs Q E hr e0 hb r hsp => ?_⟩
  have hl := len _ _ _ _ hsp
  have KX : K.In s.heap := e0.mod.kin.keeps fun b o e => (e0.bs b o e).1
  have lim : s.heap.NoLimit := e0.mod.nolimit.keeps fun b o e => (e0.bs b o e).1
  refine PySem.ks_codeAny_call_defAt hr.depth (KX _ _ lk) rfl lim (PySem.W.codeRec_of KX hcd) rfl hb S.nocell (fun y hy => S.par y.1 (List.of_mem_zip hy).1) (fun h1 hns hk => ?_) S.co S.gen S.kind
  have I0 : Inv (cxX CX P w K mg base N qual scope f (.ref cda) cc A outer s H E) [] (L2.start N vs) H { s with heap := h1, toks := s.toks + (ps.zip us).length } :=
    krv_ S hr.hd e0 hl r U.cell hns hk _
  have I := I0.wish (fun _ _ => False)
  obtain ⟨a, ha, hH⟩ := fst _ _ _ _ hsp
  obtain ⟨pl, hev⟩ := he s.heap.objs.size
  obtain ⟨t, ht, hq⟩ := hbody A outer s H vs Q E hsp
  have h0 : (L2.start N vs)[0]? = some (some (.ref a)) := by
    have hi : 0 < vs.length := by
      rcases Nat.eq_zero_or_pos vs.length with z | z
      · rw [List.length_eq_zero_iff.mp z] at ha; cases ha
      · exact z
    unfold L2.start
    rw [List.getElem?_append_left (by simpa using hi), List.getElem?_map, ha]
    rfl
  refine PySem.ks_wpAt_execs_cons (PySem.ks_wpAt_mono (kpH_ (Q := fun fl s' => match fl with
      | .next => PySem.wpAt (model P w) (A.deeper (PySem.W.ksEnv qual scope s.heap.objs.size f (.ref cda) cc)) _ (execs rest (PySem.W.ksEnv qual scope s.heap.objs.size f (.ref cda) cc)) _ _ s'
      | fl => _) I ok U T hsup S.kind S.sup S.cls lk hp hN hka h0 hH hev (hsw _) (fun s' J => ?_)) (fun _ _ z => z) fun _ _ z => z.elim)
  refine wpAt_of_wpAny (wpAny_mono (ht.run [] s' (L2.start N vs) H _ J hq) (fun fl s' hs => ?_) fun e s' hs => (show False from hs).elim)
  have fin : ∀ {σ' : L2.St} {H' : Hp} {v : V} {u : Value}, Inv (cxN CX P w K mg base N qual scope f cda cc A outer s H E) [] σ' H' s' → RelV v u → Q v H' → CE outer P w H s Q u s' :=
    fun {σ' H' v u} J rv q => ⟨v, H', J.os, J.bare, J.base, J.hok, rv, q⟩
  cases fl with
  | ret u =>
    obtain ⟨v, σ', H', J, rv, q⟩ := hs
    exact fin J rv q
  | next =>
    obtain ⟨σ', H', J, q⟩ := hs
    exact fin (v := V.non) (u := Value.none) J rfl q
  | brk =>
    obtain ⟨_, _, _, q⟩ := hs
    exact False.elim q
  | cont =>
    obtain ⟨_, _, _, q⟩ := hs
    exact False.elim q
end
end Y
set_option Elab.async false
set_option linter.all false
set_option maxRecDepth 100000
set_option maxHeartbeats 4000000
namespace Y
open PySem PySem.Spec PyProof.Rows L2 TL
structure Cl where
  c : Value
  slot : Option Nat
  ts : Addr → Value → Option Addr → TS
def SuOk (X : Cx) (suite : List Stmt) (ts : Addr → Value → Option Addr → TS) : Prop :=
  ∀ (a : Addr) (oe : Obj) (cls : Value) (d : Option Addr) (pn : List (Addr × Obj)),
    Zc cls d oe → (∃ vs, oe.data = .fields vs) → PSs (X.suite a ((a, oe) :: pn)) suite (ts a cls d)
inductive ko5_ (X : Cx) : List ExceptHandler → List Cl → Prop
  | nil : ko5_ X [] []
  | bare {x : Str} {c : Value} {ts : Addr → Value → Option Addr → TS} {st : Stmt} {more : List Stmt} {np q : Pos}
      {hds : List ExceptHandler} {l : List Cl} (hc : Names X x c) (hsu : SuOk X (st :: more) ts) (r : ko5_ X hds l) :
      ko5_ X (.ExceptHandler (some (.Name x np)) none (st :: more) q :: hds) (⟨c, none, ts⟩ :: l)
  | as {x n : Str} {i : Nat} {c : Value} {ts : Addr → Value → Option Addr → TS} {st : Stmt} {more : List Stmt} {np q : Pos}
      {hds : List ExceptHandler} {l : List Cl} (hc : Names X x c) (hi : X.N[i]? = some n) (hln : X.env.kindOf n = some .local)
      (hsu : SuOk X (st :: more) ts) (r : ko5_ X hds l) :
      ko5_ X (.ExceptHandler (some (.Name x np)) (some n) (st :: more) q :: hds) (⟨c, some i, ts⟩ :: l)
  | as2 {x1 x2 n : Str} {i : Nat} {c1 c2 : Value} {ts1 ts2 : Addr → Value → Option Addr → TS} {st : Stmt} {more : List Stmt} {np1 np2 tp q : Pos} {kk : Nat}
      {hds : List ExceptHandler} {l : List Cl} (hc1 : Names X x1 c1) (hc2 : Names X x2 c2) (hx : ∃ b, PySem.W.exmOne X.K c1 c2 = some b)
      (h1 : ∀ (a : Addr) (cls : Value) (d : Option Addr) (D : Ends) (σ : L2.St) (H : Hp), ts1 a cls d D σ H → cls = c1) (hi : X.N[i]? = some n) (hln : X.env.kindOf n = some .local)
      (hsu1 : SuOk X (st :: more) ts1) (hsu2 : SuOk X (st :: more) ts2) (r : ko5_ X hds l) :
      ko5_ X (.ExceptHandler (some (.Tuple [.Name x1 np1, .Name x2 np2] kk tp)) (some n) (st :: more) q :: hds) (⟨c1, some i, ts1⟩ :: ⟨c2, some i, ts2⟩ :: l)
end Y
set_option Elab.async false
set_option linter.all false
set_option maxRecDepth 100000
set_option maxHeartbeats 4000000
namespace Y
open PySem PySem.Spec PyProof.Rows L2 TL
inductive Asg (sc : Scope) : List Str → List Stmt → Prop
  | nil : Asg sc [] []
  | cons {par : Str} {pars : List Str} {q0 q1 q2 q3 : Pos} {l : List Stmt} (nd : (par == ("__debug__" : Str)) = false ∧ (par == ("__classdict__" : Str)) = false)
      (sw : ∀ (qual : Str) (f cda cc L : Addr), swapsWith (.Name par q2) (some (.Attribute (.Name "self" q0) par q1)) q3.line (PySem.W.ksEnv qual sc L f (.ref cda) cc) = pure false) (r : Asg sc pars l) :
      Asg sc (par :: pars) (.Assign [.Attribute (.Name "self" q0) par q1] (.Name par q2) q3 :: l)
structure kan_ (st : Stmt) (pars : List Str) : Prop where
  body : ∃ (msg : Str) (j : Nat) (p0 p1 p2 p3 p4 pc : Pos) (l : List Stmt),
    defBody st = .Expr (.Call (.Attribute (.Call (.Name "super" p0) [] [] p1) "__init__" p2) [.Constant (.str msg) j pc] [] p3) p4 :: l ∧ Asg (defScope st) pars l ∧
    (∀ (qual : Str) (f cda cc L : Addr), ∃ pl : Sem Bool, eval (.Call (.Attribute (.Call (.Name "super" p0) [] [] p1) "__init__" p2) [.Constant (.str msg) j pc] [] p3) (PySem.W.ksEnv qual (defScope st) L f (.ref cda) cc) = (do
      let ov ← attributeBase (.Call (.Name "super" p0) [] [] p1) "__init__" (PySem.W.ksEnv qual (defScope st) L f (.ref cda) cc) (eval (.Call (.Name "super" p0) [] [] p1) (PySem.W.ksEnv qual (defScope st) L f (.ref cda) cc))
      standAt p2.atName
      let (gm, first) ← holding [ov] (getMethod ov "__init__" pl)
      callWith p3 gm first (backTo p3 (starEach [.Constant (.str msg) j pc] (PySem.W.ksEnv qual (defScope st) L f (.ref cda) cc))) [])) ∧
    ∀ (qual : Str) (f cda cc L : Addr), swapsWith (.Call (.Attribute (.Call (.Name "super" p0) [] [] p1) "__init__" p2) [.Constant (.str msg) j pc] [] p3) none p4.line
      (PySem.W.ksEnv qual (defScope st) L f (.ref cda) cc) = pure false
  args : ∃ ar, ((defArgs st).posonlyargs ++ (defArgs st).args).head? = some ar ∧ ar.arg = "self"
  sc : keG_ ("self" :: pars) ("self" :: pars) (defScope st)
  one : pars ≠ [] ∧ pars.length ≤ 900
  bind : ∀ (qual : Str) (kV doc pm : Value) (an : Option Addr) (cdv ct : Value) (cc : Addr) (us : List Value), us.length = pars.length + 1 →
    bindArgs (PySem.W.ksFn "__init__" qual (defArgs st) (defBody st) (defScope st) .none kV doc pm an cdv ct cc) ⟨us, []⟩ = pure ((("self" : Str) :: pars).zip us)
def kw1_ (C : Addr) (pars : List Str) : Sp := fun vs H Q _ => ∃ (a : Addr) (ws : List V), vs = .ref a :: ws ∧ ws.length = pars.length ∧ H a = some (exo a C none) ∧
  ∀ d, H d = none → d ≠ a → Q .non (upd (upd H a (exo a C (some d))) d (exd d (pars.zip ws).reverse))
structure PTx (P : Program) : Prop where
  file : ((P.main.file : Str) == ("/claim/cut.py" : Str)) = true
  top : (P.main.scope.names.lookup ("super" : Str)).isSome = false
structure XDef (b : BX) (K : PySem.W.Frag) (mg : Str → Option Value) (x : Str) (pars : List Str) (st : Stmt) (C : Addr) : Prop where
  gC : mg x = some (.ref C)
  ok : b.Ok
  T : OexB b K C
  F : XfC K C
  noF : ∀ par ∈ pars, PySem.W.findIn K (.ref C) par = some none
  isC : PySem.W.isClsIn K C = true
  noS : mg "super" = none
  opq : PySem.W.nsIn K cStatics "thirdparty.any" = some none
  sup : PySem.W.ks_superIn K C C "__init__" = some (some (.builtin b.initId))
  isB : PySem.W.subIn K (.ref C) (.type b.iB) = some true
  fn : ∃ (fI cda cc : Addr) (qual : Str) (oc : Value) (od : Option Addr) (kV doc pm : Value) (an : Option Addr) (ct : Value) (osl : Array (Option Value)),
    PySem.W.findIn K (.ref C) "__init__" = some (some (.ref fI)) ∧ PySem.W.typeIn K (.ref fI) = some (.type "function") ∧
    K.lookup fI = some ⟨oc, od, .func (PySem.W.ksFn "__init__" qual (defArgs st) (defBody st) (defScope st) .none kV doc pm an (.ref cda) ct cc), osl⟩ ∧
    PySem.W.codeIn K (.ref cda) qual = true ∧ (∃ cl cld csl, K.lookup cc = some ⟨cl, cld, .cell (some (.ref C)), csl⟩) ∧
    ∃ ccl cdd vs ccs tf, K.lookup cda = some ⟨ccl, cdd, .fields vs, ccs⟩ ∧ vs[2]? = some (.str ("/claim/cut.py" : Str) tf)
def ktY_ (b : BX) (K : PySem.W.Frag) : List Str → Nat → TS
  | [], _ => tNext
  | p :: ps, i => tSeq (tBst b K p (tVar 0) (tVar i)) (ktY_ b K ps (i + 1))
theorem kmv_ {b : BX} {K : PySem.W.Frag} {C a dx : Addr} (T : OexB b K C) {D : Ends} {σ : L2.St} (h0 : σ[0]? = some (some (.ref a))) (ne : dx ≠ a) : ∀ (pars : List Str) (ws : List V) (i : Nat) (fs : List (Str × V)) (H : Hp), (∀ p ∈ pars, PySem.W.findIn K (.ref C) p = some none) → ws.length = pars.length →
    (∀ (j : Nat) (v : V), ws[j]? = some v → σ[i + j]? = some (some v)) → H a = some (exo a C (some dx)) → H dx = some (exd dx fs) → fs.length + pars.length ≤ 900 → D.nx σ (upd H dx (exd dx ((pars.zip ws).reverse ++ fs))) → ktY_ b K pars i D σ H
  | [], ws, i, fs, H, _, hl, _, _, ed, _, q => by
    have e : upd H dx (exd dx fs) = H := by
      funext c
      by_cases hc : c = dx
      · rw [hc, upd_same, ed]
      · rw [upd_ne hc]
    show D.nx σ H
    have q : D.nx σ (upd H dx (exd dx fs)) := q
    rw [e] at q; exact q
  | p :: ps, [], i, fs, H, _, hl, _, _, _, _, _ => by cases hl
  | p :: ps, w :: ws, i, fs, H, hp, hl, hs, ea, ed, hz, q => by
    refine ⟨w, hs 0 w rfl, .ref a, h0, a, C, rfl, T, hp p List.mem_cons_self, .inr ⟨dx, fs, ea, ed, by simp at hz; omega, ?_⟩⟩
    refine kmv_ T h0 ne ps ws (i + 1) ((p, w) :: fs) _ (fun r hr => hp r (List.mem_cons_of_mem _ hr)) (Nat.succ.inj hl) (fun j v hj => by rw [Nat.add_assoc, Nat.add_comm 1 j]; exact hs (j + 1) v hj) ?_ upd_same (by simp at hz ⊢; omega) ?_
    · rw [upd_ne (Ne.symm ne)]; exact ea
    · have e : upd (upd H dx (exd dx ((p, w) :: fs))) dx (exd dx ((ps.zip ws).reverse ++ (p, w) :: fs)) = upd H dx (exd dx (((p :: ps).zip (w :: ws)).reverse ++ fs)) := by
        funext c
        by_cases hc : c = dx
        · rw [hc, upd_same, upd_same, List.zip_cons_cons, List.reverse_cons, List.append_assoc]; rfl
        · rw [upd_ne hc, upd_ne hc, upd_ne hc]
      rw [e]; exact q
theorem ko6_ {b : BX} (ok : b.Ok) {CX : CXT} {P : Program} {w : World} {K : PySem.W.Frag} {mg : Str → Option Value} {base : Heap} {qual : Str} {sc : Scope} {f cda cc : Addr} {A : Around} {outer : List Env} {s : Shared} {H : Hp} {E : XK} {N : List Str} (h0 : N[0]? = some ("self" : Str)) (hv : ∀ x ∈ N, sc.names.lookup x = some .local) :
    ∀ {pars : List Str} {l : List Stmt} {i : Nat}, Asg sc pars l → (∀ (j : Nat) (p : Str), pars[j]? = some p → N[i + j]? = some p) → PSs (cxN CX P w K mg base N qual sc f cda cc A outer s H E) l (ktY_ b K pars i)
  | _, _, _, .nil, _ => pss_nil
  | _, _, i, .cons (par := par) nd sw r, hN => pss_cons (ktX_ ok (pe_var (i := 0) h0 (Or.inl (hv _ (List.mem_of_getElem? h0)))) (pe_var (i := i) (hN 0 _ rfl) (Or.inl (hv _ (List.mem_of_getElem? (hN 0 par rfl)))) nd.1 nd.2) (sw qual f cda cc _))
      (ko6_ ok h0 hv r fun j p hj => by rw [Nat.add_assoc, Nat.add_comm 1 j]; exact hN (j + 1) p hj)
section
variable {P : Program} {w : World} {K : PySem.W.Frag} {mg : Str → Option Value} {base : Heap} {x : Str} {pars : List Str} {st : Stmt} {C : Addr} {b : BX}
theorem kmw_ (T : OexB b K C) : PySem.W.mroIn K C (.ref C) = some true := by
  obtain ⟨cd, cs, hcl, hm, _⟩ := T.cd
  obtain ⟨nm, q, N, bs, bm, sn, sub, ab, col, dd, k0, k1, k2, k3, k5, hC, hbm⟩ := T.cls
  have e : PySem.W.clsIn K C = some { name := nm, bases := bs, mro := .ref C :: bm, ns := N, qualname := q, hasDict := true, slotNames := sn, subclasses := sub, abstract := ab, collection := col, hasDel := false } := by unfold PySem.W.clsIn; rw [hC] <;> rfl
  unfold PySem.W.mroIn
  rw [e, Option.bind_some]
  show (if (Value.ref C :: bm).isEmpty = true then none else some ((Value.ref C :: bm).contains (.ref C))) = some true
  simp
theorem XDef.ini (D : XDef b K mg x pars st C) (I : kan_ st pars) (hP : PTx P) :
    ∃ fI fd, PySem.W.findIn K (.ref C) "__init__" = some (some (.ref fI)) ∧ PySem.W.typeIn K (.ref fI) = some (.type "function") ∧
      Binds K fd ("self" :: pars) [] ∧ FnOk P w K mg base CX0 1 fI fd ("self" :: pars) (kw1_ C pars) := by
  obtain ⟨fI, cda, cc, qual, oc, od, kV, doc, pm, an, ct, osl, h1, h2, lk, hcd, hcc, ccl, cdd, vs, ccs, tf, hco, hvs⟩ := D.fn
  obtain ⟨msg, j, p0, p1, p2, p3, p4, pc, l, hb, hl, he, hw⟩ := I.body
  obtain ⟨ar, ha, hn⟩ := I.args
  have U : ktH_ b P K C cc cda := ⟨hcc, ⟨ccl, cdd, vs, ccs, _, tf, hco, hvs, hP.file⟩, hP.top, D.opq, D.sup, D.isB, kmw_ D.T⟩
  refine ⟨fI, _, h1, h2, .all fun us hl => I.bind qual kV doc pm an (.ref cda) ct cc us hl, ?_⟩
  rw [hb] at lk ⊢
  refine ko4_ (N := "self" :: pars) (k := 0) lk hcd I.sc D.ok U D.T D.noS ha (by rw [hn]; rfl) (by rw [hn]; exact I.sc.par _ (List.mem_cons_self ..)) (fun L => he qual fI cda cc L) (fun L => hw qual fI cda cc L) ?_ ?_ ?_
  · rintro vs H Q E ⟨a, ws, rfl, hl, _⟩
    rw [List.length_cons, List.length_cons, hl]
  · rintro vs H Q E ⟨a, ws, rfl, hl, hH, _⟩
    exact ⟨a, rfl, hH⟩
  · rintro A outer s H vs Q E ⟨a, ws, rfl, hlen, hH, q⟩
    refine ⟨_, ko6_ D.ok (i := 1) rfl I.sc.par hl fun j p hj => by rw [Nat.add_comm]; exact hj, ?_⟩
    have ne := I.one
    have st_ : ∀ (j : Nat) (v : V), ws[j]? = some v → (L2.start ("self" :: pars) (.ref a :: ws))[1 + j]? = some (some v) := fun j v hj => by
      have hj' : j < ws.length := (List.getElem?_eq_some_iff.mp hj).1
      unfold L2.start
      rw [Nat.add_comm, List.getElem?_append_left (by simp; omega), List.getElem?_map]
      show Option.map some (ws[j]?) = _
      rw [hj]; rfl
    have s0 : (L2.start ("self" :: pars) (.ref a :: ws))[0]? = some (some (.ref a)) := by unfold L2.start; simp
    have noF := D.noF
    cases pars with
    | nil => exact absurd rfl ne.1
    | cons p ps =>
      cases ws with
      | nil => cases hlen
      | cons w ws =>
        refine ⟨w, st_ 0 w rfl, .ref a, s0, a, C, rfl, D.T, noF p List.mem_cons_self, .inl ⟨hH, fun d hd hda => ?_⟩⟩
        refine kmv_ D.T s0 hda ps ws 2 [(p, w)] _ (fun r hr => noF r (List.mem_cons_of_mem _ hr)) (Nat.succ.inj hlen) (fun j v hj => by rw [show 2 + j = 1 + (j + 1) by omega]; exact st_ (j + 1) v hj) upd_same (by rw [upd_ne hda, upd_same]) (by have := ne.2; simp at this ⊢; omega) ?_
        have e : upd (upd (upd H d (exd d [(p, w)])) a (exo a C (some d))) d (exd d ((ps.zip ws).reverse ++ [(p, w)])) = upd (upd H a (exo a C (some d))) d (exd d ((p :: ps).zip (w :: ws)).reverse) := by
          funext c
          by_cases hc : c = d
          · rw [hc, upd_same, upd_same, List.zip_cons_cons, List.reverse_cons]
          · rw [upd_ne hc, upd_ne hc]
            by_cases hca : c = a
            · rw [hca, upd_same, upd_same]
            · rw [upd_ne hca, upd_ne hca, upd_ne hc]
        rw [e]
        exact q d hd hda
end
def taW (te : TA) : TA := fun σ H Q => ∃ Q0 : List V → Hp → Prop, te σ H Q0 ∧ ∀ v H1, Q0 v H1 → Q v H1
end Y
set_option Elab.async false
set_option linter.all false
set_option maxRecDepth 100000
set_option maxHeartbeats 4000000
set_option Elab.async false
set_option linter.all false
set_option maxRecDepth 100000
set_option maxHeartbeats 4000000
namespace Y
open PySem PySem.Spec PyProof.Rows L2 TL
theorem ka5_.at {N : Addr → Prop} {H : Hp} {vs : List V} {ds : List PyData} {k : Int} (h : ka5_ N H vs ds) (h0 : 0 ≤ k) (h1 : k < (ds.length : Int)) : ∃ v d, atI vs k = some v ∧ d ∈ ds ∧ Dq N H v d := by
  obtain ⟨v, e, m⟩ := krt_ (xs := vs) h0 (by rw [h.length]; exact h1)
  obtain ⟨i, hi⟩ := List.mem_iff_getElem?.mp m
  obtain ⟨d, hd, q⟩ := h.get hi
  exact ⟨v, d, e, List.mem_of_getElem? hd, q⟩
end Y
set_option Elab.async false
set_option linter.all false
set_option maxRecDepth 100000
set_option maxHeartbeats 4000000
namespace Y
open PySem PySem.Spec PyProof.Rows L2 LamX
def Tab0 (cs : List (Addr × Addr)) (H : Hp) : Prop := ∀ p ∈ cs, H p.2 = some (.tbl #[])
theorem kw2_ {P : Program} {w : World} {K : PySem.W.Frag} {mg mb : Str → Option Value} {CX : CXT} {k : Nat}
    {fa a : Addr} {cs : List (Addr × Addr)} {fd : FuncData} {x : Str} {sp : Sp} {s₁ : Shared} {vs : List Value} {ns : List Int}
    (KX : K.In s₁.heap) (hns : s₁.heap.Ns mainGlobals mg) (hb : s₁.heap.Ns builtinsNs mb)
    (hbb : ∀ x : Str, x ≠ "__name__" → mb x = bootBuiltins x) (hlim : s₁.heap.NoLimit) (hg : s₁.gens = #[])
    (hT : ∀ p ∈ cs, s₁.heap.get? p.2 = some { cls := .none, data := .fields #[] }) (nT : ∀ p ∈ cs, K.lookup p.2 = none)
    (C : ∀ p ∈ cs, PySem.W.CodeHd s₁.heap p.1 p.2)
    (hbm : ∃ (bm : Addr) (ob : Obj), mg "__builtins__" = some (.ref bm) ∧ bm ≠ builtinsNs ∧ s₁.heap.get? bm = some ob ∧
      ob.cls = .type "module" ∧ ob.dict = some builtinsNs ∧ ob.data = .plain)
    (ha : s₁.heap.get? a = some { cls := .type "list", data := .seq vs.toArray })
    (hi : IntsAre vs ns) (hl : ns.length ≤ sizeLine) (hr : Room k callerA) (hsy : s₁.heap.NoSeer)
    (F : ∀ base : Heap, K.In base → base.Ns mainGlobals mg → (∃ o, base.get? sysModules = some o) →
      (∀ p ∈ cs, TabB base mg p.1 p.2) → FnG P w K mg base CX k fa fd [x] sp)
    (hbind : ∀ (s : Shared) (u : Value), K.In s.heap → BindsTo s fd ⟨[u], []⟩ [(x, u)])
    (hsp : ∀ H : Hp, Tab0 cs H → SqL K H a (ns.map V.int) → sp [.ref a] H (fun v _ => v = .bl true) fun _ _ _ => False)
    (hCX : ∀ H e s', CX [] H s₁ (fun _ _ _ => False) e s' → False) :
    codeAny (model P w) callerA (.call (.ref fa) ⟨[.ref a], []⟩)
      (fun r s' => r = .ok (.ret (.bool true)) ∧ OldK s₁.heap s'.heap ∧ s'.os = s₁.os ∧ AllBare s'.gens) s₁ := by
  have rv := vals_ints hi
  have lenV := hi.length
  let tabs : List Addr := cs.map (·.2)
  have inT : ∀ p ∈ cs, p.2 ∈ tabs := fun p hp => List.mem_map_of_mem hp
  have emptyT : ∀ b ∈ tabs, s₁.heap.get? b = some { cls := .none, data := .fields #[] } := by
    intro b hb'
    obtain ⟨p, hp, e⟩ := List.mem_map.mp hb'
    exact e ▸ hT p hp
  have aNot : a ∉ tabs := by
    intro z
    have q := (emptyT a z).symm.trans ha
    cases q
  have core : ∀ H : Hp, Tab0 cs H → (∀ b, H b = none ∨ b ∈ tabs ∨ ∃ o xs, H b = some (.frz o (.lst xs))) →
      SqL K H a (ns.map V.int) → HOk P w H s₁.heap → (∀ b, H b ≠ none → b = a ∨ b ∈ tabs) → (H a ≠ none → K.lookup a = none) →
      codeAny (model P w) callerA (.call (.ref fa) ⟨[.ref a], []⟩)
      (fun r s' => r = .ok (.ret (.bool true)) ∧ OldK s₁.heap s'.heap ∧ s'.os = s₁.os ∧ AllBare s'.gens) s₁ := by
    intro H hH hO hS hok hA hK
    have back : ∀ {b : Addr} {o : Obj}, s₁.heap.get? b = some o → H b = none → (hidT s₁.heap H).get? b = some o := fun e n => hidT_get e n
    have free : ∀ {b : Addr} {o : Obj}, s₁.heap.get? b = some o → (∀ vs n, o.data ≠ .seq vs n) → o.data ≠ .fields #[] → H b = none := by
      intro b o e n1 n2
      cases q : H b with
      | none => rfl
      | some u =>
        rcases hA b (by rw [q]; exact Option.some_ne_none u) with rfl | e'
        · rw [ha] at e
          cases e
          exact (n1 _ _ rfl).elim
        · rw [emptyT b e'] at e
          cases e
          exact (n2 rfl).elim
    have nsB : ∀ {b : Addr} {m : Str → Option Value}, s₁.heap.Ns b m → (hidT s₁.heap H).Ns b m := fun {b m} ⟨o, es, ep, e, d, r⟩ =>
      ⟨o, es, ep, back e (free e (fun vs n z => nomatch d.symm.trans z) (fun z => nomatch d.symm.trans z)), d, r⟩
    have KB : K.In (hidT s₁.heap H) := by
      intro b o e
      refine back (KX b o e) ?_
      cases q : H b with
      | none => rfl
      | some u =>
        rcases hA b (by rw [q]; exact Option.some_ne_none u) with rfl | e'
        · rw [hK (by rw [q]; exact Option.some_ne_none u)] at e
          cases e
        · obtain ⟨p, hp, rfl⟩ := List.mem_map.mp e'
          rw [nT p hp] at e
          cases e
    have hM : Mod K mg (hidT s₁.heap H) := ⟨KB, nsB hns, ⟨mb, nsB hb, hbb⟩, let ⟨mc, h1, h2⟩ := hlim; ⟨mc, nsB h1, h2⟩⟩
    have TB : ∀ p ∈ cs, TabB (hidT s₁.heap H) mg p.1 p.2 := by
      intro p hp
      have atP := hT p hp
      refine ⟨?_, ?_, ?_⟩
      · obtain ⟨o, us, file, tf, flags, tg, inF, text, tt, e1, r1, r2, r3, rest⟩ := C p hp
        refine ⟨o, us, file, tf, flags, tg, inF, text, tt, back e1 (free e1 (fun vs n z => nomatch r2.symm.trans z) fun z => ?_), r1, r2, r3, rest⟩
        rw [r2] at z
        cases z
        simp at r3
      · obtain ⟨bm, ob, b1, b2, b3, b4, b5, b6⟩ := hbm
        have nG : bm ≠ mainGlobals := by
          intro q
          obtain ⟨o, es, ep, e, hd, _⟩ := hns
          rw [q, e] at b3
          cases b3
          exact nomatch hd.symm.trans b6
        have nP : bm ≠ p.2 := by
          intro q
          rw [q, atP] at b3
          cases b3
          cases b6
        exact ⟨bm, ob, b1, b2, nG, nP, back b3 (free b3 (fun vs n z => nomatch b6.symm.trans z) fun z => nomatch b6.symm.trans z), b4, b5, b6⟩
      · intro z
        obtain ⟨o, es, ep, e, hd, _⟩ := hns
        rw [z, atP] at e
        cases e
        cases hd
    have e0 : Env0 P w K mg (hidT s₁.heap H) callerA [] s₁ H :=
      ⟨rfl, hM, fun b o e => of_hidT e, Nat.le_of_eq (hidT_size _ _), trivial,
        fun b hb => absurd (show b ∈ ([] : List Addr) from hb) (by simp), hok, .of_eq hg⟩
    have hsb : ∃ o, (hidT s₁.heap H).get? sysModules = some o := by
      obtain ⟨mm, ⟨o, es, ep, e, d, _⟩, _⟩ := hsy.mods
      exact ⟨o, back e (free e (fun vs n z => nomatch d.symm.trans z) (fun z => nomatch d.symm.trans z))⟩
    have run := (F _ KB (nsB hns) hsb TB).go callerA [] s₁ H ⟨[.ref a], []⟩ [.ref a] [.ref a] _ _ rfl hr e0
      (hbind s₁ (.ref a) KX) (.cons rfl .nil) (hsp H hH hS)
    refine codeAny_mono run fun r s' h => ?_
    match r, h with
    | .error e, h => exact (hCX H e s' h).elim
    | .ok (.ret u), h =>
      obtain ⟨v, H', os, bare, un, hok', r', q⟩ := h
      cases (show v = .bl true from q)
      cases (show u = Value.bool true from r')
      have stay : ∀ b o, b ∉ tabs → s₁.heap.get? b = some o → s'.heap.get? b = some o := by
        intro b o nb e
        cases q : H b with
        | none => exact un.keep b o e q (fun z => absurd (show b ∈ ([] : List Addr) from z) (by simp)) (by simp)
        | some u =>
          rcases hO b with z | z | ⟨ob, xs, z⟩
          · rw [q] at z; cases z
          · exact absurd z nb
          · have z2 := un.frzs b ob _ z
            obtain ⟨e1, _⟩ := hok b _ z
            obtain ⟨e2, _⟩ := hok' b _ z2
            rw [e] at e1
            cases e1
            exact e2
      have grown : ∀ p ∈ cs, ∃ more : Array Value, s'.heap.get? p.2 = some { cls := .none, data := .fields more } := by
        intro p hp
        obtain ⟨more, z⟩ := un.tbls p.2 #[] (hH p hp)
        exact ⟨_, hok' p.2 _ z⟩
      refine ⟨rfl, ⟨fun b o e => ?_, fun b o e => ?_⟩, os, bare⟩
      · by_cases hb' : b ∈ tabs
        · obtain ⟨p, hp, rfl⟩ := List.mem_map.mp hb'
          obtain ⟨more, hm⟩ := grown p hp
          rw [hT p hp] at e
          cases e
          exact .inr (.inl ⟨((C p hp).tab (hT p hp)).isCodeTable, rfl, #[], more, rfl, by rw [Array.empty_append]; exact hm⟩)
        · exact .inl (stay b o hb' e)
      · by_cases hb' : b ∈ tabs
        · obtain ⟨p, hp, rfl⟩ := List.mem_map.mp hb'
          obtain ⟨more, hm⟩ := grown p hp
          exact ⟨_, hm⟩
        · exact ⟨o, stay b o hb' e⟩
  cases hk : K.lookup a with
  | some o =>
    have e := KX a o hk
    rw [ha] at e
    cases e
    refine core (fun b => if b ∈ tabs then some (.tbl #[]) else none) (fun p hp => if_pos (inT p hp)) (fun b => ?_)
      (.inr ⟨_, vs.toArray, _, hk, rfl, rfl, rfl, by rw [List.size_toArray, lenV]; exact hl, by simpa using rv⟩) (fun b u z => ?_) (fun b z => ?_) fun z => absurd (if_neg aNot) z
    · by_cases hb' : b ∈ tabs
      · exact .inr (.inl hb')
      · exact .inl (if_neg hb')
    · by_cases hb' : b ∈ tabs
      · cases (if_pos hb').symm.trans z
        exact emptyT b hb'
      · cases (if_neg hb').symm.trans z
    · by_cases hb' : b ∈ tabs
      · exact .inr hb'
      · exact absurd (if_neg hb') z
  | none =>
    refine core (fun b => if b = a then some (.frz { cls := .type "list", data := .seq vs.toArray } (.lst (ns.map V.int))) else if b ∈ tabs then some (.tbl #[]) else none)
      (fun p hp => (if_neg (show ¬ p.2 = a from fun z => aNot (by rw [← z]; exact inT p hp))).trans (if_pos (inT p hp))) (fun b => ?_)
      (.inl (.inr ⟨{ cls := .type "list", data := .seq vs.toArray }, if_pos rfl⟩)) (fun b u z => ?_) (fun b z => ?_) fun _ => hk
    · by_cases h1 : b = a
      · exact .inr (.inr ⟨_, _, if_pos h1⟩)
      · by_cases h2 : b ∈ tabs
        · exact .inr (.inl h2)
        · exact .inl ((if_neg h1).trans (if_neg h2))
    · by_cases h1 : b = a
      · cases (if_pos h1).symm.trans z
        subst h1
        exact ⟨ha, by rw [List.length_map]; exact hl, vs, _, rv, ha⟩
      · have z1 := (if_neg h1).symm.trans z
        by_cases h2 : b ∈ tabs
        · cases (if_pos h2).symm.trans z1
          exact emptyT b h2
        · cases (if_neg h2).symm.trans z1
    · by_cases h1 : b = a
      · exact .inl h1
      · by_cases h2 : b ∈ tabs
        · exact .inr h2
        · exact absurd ((if_neg h1).trans (if_neg h2)) z
def kpI_ (l : PySem.W.OpenLaw) (w : World) (K : PySem.W.Frag) (CX : CXT) (k n : Nat) (mg : Str → Option Value) (fa : Addr) (h : Heap) : Prop :=
  ∃ (fd : FuncData) (cs : List (Addr × Addr)) (sp : Sp) (x : Str), (∀ p ∈ cs, h.get? p.2 = some { cls := .none, data := .fields #[] }) ∧
    (∀ p ∈ cs, K.lookup p.2 = none) ∧ (∀ p ∈ cs, PySem.W.CodeHd h p.1 p.2) ∧ (∀ (s : Shared) (u : Value), K.In s.heap → BindsTo s fd ⟨[u], []⟩ [(x, u)]) ∧
    (∀ (H : Hp) (a : Addr) (ns : List Int), ns.length ≤ n → Tab0 cs H → SqL K H a (ns.map V.int) →
      sp [.ref a] H (fun v _ => v = .bl true) fun _ _ _ => False) ∧
    ∀ base : Heap, K.In base → base.Ns mainGlobals mg → (∃ o, base.get? sysModules = some o) → (∀ p ∈ cs, TabB base mg p.1 p.2) →
      FnG l.prog w K mg base CX k fa fd [x] sp
theorem ktZ_ {l : PySem.W.OpenLaw} {n k : Nat} {q : Program} {loose : List Str} {XP : (Str → Option Value) → Heap → Prop}
    {YP : World → Heap → Prop} {d : DefRec} {K : Params → PySem.W.Frag} {CX : World → CXT}
    (hn : l.most = some n) (hn2 : n ≤ sizeLine) (hdf : d.params.defaults = []) (hr : Room k callerA) (hq : importsNone q = true)
    (hY : ∀ (w : World) (h : Heap), YP w h → (K w.params).In h)
    (F : ∀ (w : World) (mg : Str → Option Value) (fa : Addr) (h : Heap), YP w h → (K w.params).In h → h.Ns mainGlobals mg →
      mg d.name = some (.ref fa) → kpI_ l w (K w.params) (CX w) k n mg fa h)
    (hCX : ∀ (w : World) (H : Hp) (s : Shared) (e : Value) (s' : Shared), CX w [] H s (fun _ _ _ => False) e s' → False) :
    PySem.W.WalkO q loose XP YP l.row.toRowW d [] (fun f vs => PySem.call f vs) := by
  refine Att.attach_call hn hdf fun w s₀ s₁ mg mb fa o pm cd doc a vs ns G Y ho hd hcd hmg hobj hints hlen hg => ?_
  have KX := hY w _ Y
  obtain ⟨fd, cs, sp, x, hT, nT, C, hbd, hsp, hF⟩ := F w mg fa _ Y KX G.T.g hmg
  exact kw2_ KX G.T.g G.T.b G.T.builtins G.T.nolimit hg hT nT C G.T.bmain hobj hints (Nat.le_trans hlen hn2) hr (G.T.seer hq) hF hbd
    (fun H hH hS => hsp H a ns hlen hH hS) fun H e s' => hCX w H s₁ e s'
end Y
set_option Elab.async false
set_option linter.all false
set_option maxRecDepth 100000
set_option maxHeartbeats 4000000
set_option Elab.async false
set_option linter.all false
set_option maxRecDepth 100000
set_option maxHeartbeats 4000000
namespace Y
open PySem PySem.Spec PyProof.Rows L2 TL
def tMkV (C : Addr) (sp : Sp) (dvs : List V) (ta : TA) : TE := fun σ H Q => ta σ H fun vs H1 => vs.length ≤ 1000 ∧ ∀ a, H1 a = none → sp (.ref a :: (vs ++ dvs)) (upd H1 a (exo a C none))
  (fun v H2 => v = .non ∧ ∃ d, H2 a = some (exo a C d) ∧ ∀ od, Q (.ref a) (upd H2 a (.frz od (exo a C d)))) (fun _ _ _ => False)
section
variable {X : Cx} {CX : CXT} {x : Str} {C fI : Addr} {k : Nat} {fd : FuncData} {ps : List Str} {sp : Sp} {ds : List Value} {dvs : List V} {b : BX} {pins : List (Addr × Obj)} {σ : L2.St} {H1 : Hp} {s1 : Shared} {Q : VK} {vs : List V} {us : List Value}
theorem klh_ (ok : b.Ok) (T : OexB b X.K C) (iC : PySem.W.findIn X.K (.ref C) "__init__" = some (some (.ref fI))) (tI : PySem.W.typeIn X.K (.ref fI) = some (.type "function"))
    (F1 : FnOk X.prog X.w X.K X.mg X.base CX k fI fd ps sp) (hr : Room (k + 1) X.A) (hb : Binds X.K fd ps ds) (hd : Vals dvs ds) (hx : Passes CX X (fun _ _ _ => False)) (I1 : Inv X pins σ H1 s1) (r1 : Vals vs us) (hz : vs.length ≤ 1000)
    (q1 : ∀ a, H1 a = none → sp (.ref a :: (vs ++ dvs)) (upd H1 a (exo a C none)) (fun v H2 => v = .non ∧ ∃ d, H2 a = some (exo a C d) ∧ ∀ od, Q (.ref a) (upd H2 a (.frz od (exo a C d)))) (fun _ _ _ => False)) :
    wpAny (model X.prog X.w) X.A (call (.ref C) us) (EP X pins σ Q) X.xe s1 := by
  obtain ⟨nm, q, N, bs, bm, sn, sub, ab, col, dd, k0, k1, k2, k3, k5, hC, hbm⟩ := T.cls
  obtain ⟨cs, ebm⟩ := khE_ hbm
  obtain ⟨nB, nI, nT, F, hnB⟩ := ok.new
  have has : ∀ {X : String} {z : Bool}, b.tl.contains (.type X) = z → bm.contains (.type X) = z := fun {X z} e => by rw [ebm, khF_]; exact e
  obtain ⟨hp, g, dr, tk, os⟩ := s1
  have lt : hp.objs.size ≤ hp.objs.size + 1 := Nat.le_succ _
  have hq := q1 (hp.objs.size + 1) (I1.hok.fresh lt)
  have kk : ∀ b o, hp.get? b = some o → ((hp.push (PySem.W.kdv_tup us)).push (PySem.HandSPX.excO C hp.objs.size)).get? b = some o := fun b o e => Heap.get?_push_of_some _ (Heap.get?_push_of_some _ e)
  have new_ : ((hp.push (PySem.W.kdv_tup us)).push (PySem.HandSPX.excO C hp.objs.size)).get? (hp.objs.size + 1) = some (PySem.HandSPX.excO C hp.objs.size) := by heap_get
  have I2 : Inv X pins σ (upd H1 (hp.objs.size + 1) (exo (hp.objs.size + 1) C none)) ⟨(hp.push (PySem.W.kdv_tup us)).push (PySem.HandSPX.excO C hp.objs.size), g, dr, tk, os⟩ :=
    I1.laid (t' := tk) (a := hp.objs.size + 1) (o := exo (hp.objs.size + 1) C none) kk lt (exo_ok new_)
  have r2 : Vals (V.ref (hp.objs.size + 1) :: (vs ++ dvs)) (Value.ref (hp.objs.size + 1) :: (us ++ ds)) := .cons rfl (r1.append hd)
  have hl : (Value.ref (hp.objs.size + 1) :: us ++ ds).length = ps.length := by
    rw [← F1.len _ _ _ _ hq]; exact r2.length.symm
  have hus : us.length ≤ sizeLine := by rw [← Paired.length r1, sizeLine_eq]; omega
  refine wpAny_call (krx_ F (has hnB) (has ok.noA) (has ok.noN) (I1.kIn _ _ hC) hus (PySem.W.looks_findIn I1.kIn iC) (fun self => PySem.W.bind_fn I1.kIn self tI)
    (codeAny_mono (F1.run _ X.stack _ _ ⟨Value.ref (hp.objs.size + 1) :: us, []⟩ (Value.ref (hp.objs.size + 1) :: (us ++ ds)) _ _ (fun _ _ _ => False) (hr.make C us []) (I2.env0.make C us []) (hb _ (Value.ref (hp.objs.size + 1) :: us) I2.kIn hl) r2 hq) fun r s' hq' => ?_))
  cases r with
  | error er => exact hx pins σ _ _ er s' I2 hq'
  | ok fl =>
    cases fl with
    | next => exact False.elim hq'
    | brk => exact False.elim hq'
    | cont => exact False.elim hq'
    | ret u =>
      obtain ⟨v, H2, J, rv, ev, d, ea, q2⟩ := I2.after hq'
      subst ev
      obtain ⟨od, J2⟩ := J.lock ea trivial
      exact ⟨rv, .ref (hp.objs.size + 1), _, J2, rfl, q2 od⟩
end
section
variable {X : Cx} {CX : CXT} {e : Expr} {es : List Expr} {ta : TA} {p pos : Pos} {x : Str} {C fI : Addr} {k : Nat} {fd : FuncData} {ps : List Str} {sp : Sp} {ds : List Value} {dvs : List V} {b : BX}
theorem krC_ (ok : b.Ok) (T : OexB b X.K C) (iC : PySem.W.findIn X.K (.ref C) "__init__" = some (some (.ref fI))) (tI : PySem.W.typeIn X.K (.ref fI) = some (.type "function"))
    (F1 : FnOk X.prog X.w X.K X.mg X.base CX k fI fd ps sp) (hr : Room (k + 1) X.A) (hb : Binds X.K fd ps ds) (hd : Vals dvs ds) (hx : Passes CX X (fun _ _ _ => False)) (hg : Gl X x) (hm : X.mg x = some (.ref C)) (ha : PA X (e :: es) ta)
    (hdb : (x == ("__debug__" : Str)) = false := by decide) (he : starEach (e :: es) X.env = (false, eval e X.env) :: starEach es X.env := by rfl) (hpl : (backTo pos (starEach es X.env)).any (·.1) = false := by rfl) :
    PE X (.Call (.Name x p) (e :: es) [] pos) (tMkV C sp dvs ta) := by
  refine ⟨fun pins s σ H Q I h => ?_⟩
  refine wpAny_Call_Name_kw (ld_glob I hg hm (PySem.W.callWith_K (h₀ := X.base) I.ok.mod.kin T.kC (thn (ha.run pos pins s σ H _ I h) fun us s1 ⟨vs, H1, I1, r1, hz, q1⟩ => ⟨I1.kIn, ?_⟩) he hpl) hdb)
  exact klh_ ok T iC tI F1 hr hb hd hx I1 r1 hz q1
theorem kpJ_ (ok : b.Ok) (T : OexB b X.K C) (iC : PySem.W.findIn X.K (.ref C) "__init__" = some (some (.ref fI))) (tI : PySem.W.typeIn X.K (.ref fI) = some (.type "function"))
    (F1 : FnOk X.prog X.w X.K X.mg X.base CX k fI fd ps sp) (hr : Room (k + 1) X.A) (hb : Binds X.K fd ps ds) (hd : Vals dvs ds) (hx : Passes CX X (fun _ _ _ => False)) (hg : Gl X x) (hm : X.mg x = some (.ref C))
    (hdb : (x == ("__debug__" : Str)) = false := by decide) : PE X (.Call (.Name x p) [] [] pos) (tMkV C sp dvs tNil) := by
  refine ⟨fun pins s σ H Q I h => ?_⟩
  refine wpAny_Call_Name_kw (ld_glob I hg hm ?_ hdb)
  exact PySem.W.callWith_K0 I.kIn T.kC (klh_ (us := []) ok T iC tI F1 hr hb hd hx I .nil h.1 h.2)
end
def tVal (C : Addr) (pars : List Str) (ta : TA) : TE := fun σ H Q => ta σ H fun vs H1 => vs.length = pars.length ∧ ∀ a d od, H1 a = none → H1 d = none → d ≠ a → Q (.ref a) (upd (upd H1 d (exd d (pars.zip vs).reverse)) a (.frz od (exo a C (some d))))
section
variable {X : Cx} {x : Str} {pars : List Str} {st : Stmt} {C : Addr} {e : Expr} {es : List Expr} {ta : TA} {p pos : Pos} {b : BX}
theorem kw3_ (D : XDef b X.K X.mg x pars st C) (I : kan_ st pars) (hP : PTx X.prog) (hr : Room 2 X.A) (hg : Gl X x) (ha : PA X (e :: es) ta)
    (hdb : (x == ("__debug__" : Str)) = false := by decide) (he : starEach (e :: es) X.env = (false, eval e X.env) :: starEach es X.env := by rfl)
    (hpl : (backTo pos (starEach es X.env)).any (·.1) = false := by rfl) : PE X (.Call (.Name x p) (e :: es) [] pos) (tVal C pars ta) := by
  obtain ⟨fI, fd, h1, h2, hb, F⟩ := D.ini (w := X.w) (base := X.base) I hP
  have ha' : PA X (e :: es) (taW ta) := ⟨fun pos pins s σ H Q I0 ⟨Q0, h0, hq⟩ => wpAny_mono (ha.run pos pins s σ H Q0 I0 h0)
    (fun _ _ ⟨v, H', J, r, q⟩ => ⟨v, H', J, r, hq _ _ q⟩) fun _ _ z => z⟩
  have M := krC_ (k := 1) (dvs := []) (ds := []) D.ok D.T h1 h2 F hr hb .nil (fun _ _ _ _ _ _ _ z => z.elim) hg D.gC ha' (p := p) (pos := pos) hdb he hpl
  refine ⟨fun pins s σ H Q Inv0 h => ?_⟩
  refine M.run pins s σ H Q Inv0 ⟨_, h, fun vs H1 ⟨hl, q⟩ => ⟨by have := I.one.2; omega, fun a han => ⟨a, vs, by rw [List.append_nil], hl, upd_same, fun d hd hda => ?_⟩⟩⟩
  have hd1 : H1 d = none := by rw [upd_ne hda] at hd; exact hd
  refine ⟨rfl, some d, by rw [upd_ne (Ne.symm hda), upd_same], fun od => ?_⟩
  have eH : upd (upd (upd (upd H1 a (exo a C none)) a (exo a C (some d))) d (exd d (pars.zip vs).reverse)) a (.frz od (exo a C (some d))) = upd (upd H1 d (exd d (pars.zip vs).reverse)) a (.frz od (exo a C (some d))) := by
    funext c
    by_cases hc : c = a
    · rw [hc, upd_same, upd_same]
    · rw [upd_ne hc, upd_ne hc]
      by_cases hd : c = d
      · rw [hd, upd_same, upd_same]
      · rw [upd_ne hd, upd_ne hd, upd_ne hc, upd_ne hc]
  rw [eH]
  exact q a d od han hd1 hda
end
section
variable {prog : Program} {w : World} {A : Around} {E : Value → Shared → Prop} {R : Result → Shared → Prop} {h : Heap} {g : Array GenState} {d : Drawn} {t : Nat} {os : OsState}
variable {nm q : Str} {C N : Addr} {bs bm nT : List Value} {hdct : Bool} {sn : List Str} {sub : List Value} {ab : Bool} {col : Option Bool} {dd : Option Addr} {k0 k1 k2 k3 k5 : Option Value} {nB newId nI : String}
theorem kkv_ {rest : List Value} {fv : Value} {Q : Fin → Shared → Prop} (F : ExcBaseFacts nB newId nI nT) (hb : bm.contains (.type nB) = true) (ha : bm.contains (.type "AttributeError") = false) (hn : bm.contains (.type "NameError") = false) (at_ : h.get? C = some (excClassObj nm q C N bs bm hdct sn sub ab col dd k0 k1 k2 k3 k5 newId)) (hl : rest.length ≤ sizeLine)
    (hi : PySem.W.Looks (model prog w) h (typeLookup (.ref C) "__init__") (some fv)) (bi : ∀ self, PySem.W.Looks (model prog w) h (bindSpecial fv self) (fv, [self]))
    (hq : codeAny (model prog w) A (.call fv ⟨.ref (h.objs.size + 1) :: rest, []⟩) (fun r s' => match r with | .ok (.ret v) => v = .none ∧ Q (.done (.ret (.ref (h.objs.size + 1)))) s' | .ok _ => False | .error e => E e s')
      ⟨(h.push (PySem.W.kdv_tup rest)).push (PySem.HandSPX.excO C h.objs.size), g, d, t, os⟩) : wpAny (model prog w) A (Builtin.«type.__call__» ⟨.ref C :: rest, []⟩) Q E ⟨h, g, d, t, os⟩ := by
  have kp : ∀ b o, h.get? b = some o → ((h.push (PySem.W.kdv_tup rest)).push (PySem.HandSPX.excO C h.objs.size)).get? b = some o := fun b o e => Heap.get?_push_of_some _ (Heap.get?_push_of_some _ e)
  have hnew : ((h.push (PySem.W.kdv_tup rest)).push (PySem.HandSPX.excO C h.objs.size)).get? (h.objs.size + 1) = some (PySem.HandSPX.excO C h.objs.size) := by heap_get
  have self_ : (Value.ref C :: bm).contains (.ref C) = true := by simp
  have at2 := kp _ _ at_
  have i2 := hi.keeps kp
  have b2 := (bi (.ref (h.objs.size + 1))).keeps kp
  repeat (first
    | with_reducible refine wpAny_madeBy_exc at_ ?_
    | with_reducible refine wpAny_loadPart_at at_ ?_
    | wp_step)
  refine codeAny_call_builtin_code (Code.quiet_builtin _ F.quiet) (kmt_ F hb at_ (krw_ F hb ha hn at_ hl ?_))
  show wpAny _ _ _ _ _ _
  unfold isInstance
  repeat (first
    | (with_reducible refine wpAny_isSubtype_exc at2 ?_; rw [self_])
    | with_reducible refine wpAny_loadPart_at hnew ?_
    | wp_step)
  show wpAny _ _ (typeLookup (.ref C) _) _ _ _
  refine i2.at (wpAny_holding (wpAny_bind (b2.at (wpAny_bind (wpAny_call (codeAny_mono hq fun r s' z => ?_))))))
  cases r with
  | error e => exact z
  | ok fl =>
    cases fl with
    | ret v =>
      obtain ⟨rfl, z⟩ := z
      first
        | exact wpAny_pure (wpAny_pure z)
        | (wp_walk; exact z)
    | next => exact z.elim
    | brk => exact z.elim
    | cont => exact z.elim
theorem kpK_ {rest : List Value} {fv : Value} (F : ExcBaseFacts nB newId nI nT) (hb : bm.contains (.type nB) = true) (ha : bm.contains (.type "AttributeError") = false) (hn : bm.contains (.type "NameError") = false) (at_ : h.get? C = some (excClassObj nm q C N bs bm hdct sn sub ab col dd k0 k1 k2 k3 k5 newId)) (hl : rest.length ≤ sizeLine)
    (hi : PySem.W.Looks (model prog w) h (typeLookup (.ref C) "__init__") (some fv)) (bi : ∀ self, PySem.W.Looks (model prog w) h (bindSpecial fv self) (fv, [self]))
    (hq : codeAny (model prog w) (A.under (.builtin "type.__call__" ⟨.ref C :: rest, []⟩)) (.call fv ⟨.ref (h.objs.size + 1) :: rest, []⟩) (PySem.W.InitBack (h.objs.size + 1) R)
      ⟨(h.push (PySem.W.kdv_tup rest)).push (PySem.HandSPX.excO C h.objs.size), g, d, t, os⟩) : codeAny (model prog w) A (.call (.ref C) ⟨rest, []⟩) R ⟨h, g, d, t, os⟩ := by
  have l1 := tc_lookup
  have l2 := tc_bind (.ref C)
  have ty : (⟨h, g, d, t, os⟩ : Shared).TypeIs (.ref C) "type" := ⟨_, at_, rfl⟩
  refine codeAny_of_tree ?_
  show wpAny _ _ (callAny (.ref C) _) _ _ _
  repeat (any_goals (first
    | assumption
    | with_reducible refine wpAny_loadPart_at at_ ?_
    | wp_step))
  refine ⟨rfl, codeAny_call_builtin_at (Code.quiet_builtin _ (by decide +kernel)) entry_typeCall (wpAny_check_type_call_sub at_ (kkv_ F hb ha hn at_ hl hi bi (codeAny_mono hq fun r s' z => ?_)))⟩
  rcases r with e | (v | _ | _ | _) <;> exact z
end
structure BX.Ok0 (b : BX) : Prop where
  split : splitId b.initId = some (b.iB, "__init__")
  bnd : ∀ self, bindSpecial (.builtin b.initId) self = pure (.builtin b.initId, [self])
theorem krD_ : bxV.Ok0 := ⟨F.excBase_ValueError.initSplit, F.excBase_ValueError.init.bind⟩
theorem krE_ : bxL.Ok0 := ⟨F.excBase_LookupError.initSplit, F.excBase_LookupError.init.bind⟩
theorem krF_ : bxK.Ok0 := ⟨by decide +kernel, fun self => by
  have hop : withoutEnding? "KeyError.__init__" "#opaque" = none := by decide +kernel
  have hdat : withoutEnding? "KeyError.__init__" "#data" = none := by decide +kernel
  have hk : builtinKind "KeyError.__init__" = some .slot := klK_.kind
  show bindSpecial (.builtin "KeyError.__init__") self = _
  simp only [bindSpecial, typeOf, builtinType, hop, hdat, hk]; rfl⟩
section
variable {M : Model} {A : Around} {E : Value → Shared → Prop} {h : Heap} {g : Array GenState} {d : Drawn} {t : Nat} {os : OsState} {nm q : Str} {C N e : Addr} {oe : Obj} {bs bm : List Value} {hdct : Bool} {sn : List Str} {sub : List Value} {ab : Bool} {col : Option Bool} {dd : Option Addr} {k0 k1 k2 k3 k5 : Option Value}
    {newId : String} {rest : List Value} {Q : Unit → Shared → Prop} {b : BX}
theorem kn4_ (ok : b.Ok) (ok0 : b.Ok0) (hB : bm.contains (.type b.iB) = true) (hC : h.get? C = some (excClassObj nm q C N bs bm hdct sn sub ab col dd k0 k1 k2 k3 k5 newId)) (he : h.get? e = some oe) (hcls : oe.cls = .ref C) (hq : Q () ⟨h, g, d, t, os⟩) :
    wpAny M A (checkBuiltinCall b.initId ⟨.ref e :: rest, []⟩) Q E ⟨h, g, d, t, os⟩ := by
  have hcB : (Value.ref C :: bm).contains (.type b.iB) = true := by rw [List.contains_cons, hB, Bool.or_true]
  have hshort := ok.star
  simp only [checkBuiltinCall, ok.kind, ok0.split, ok.row]
  repeat (first | (with_reducible refine wpAny_loadPart_at he ?_; rw [hcls]) | with_reducible refine wpAny_loadPart_at hC ?_ | (with_reducible refine wpAny_isSubtype_exc hC ?_; rw [hcB]) | wp_step)
  refine wpAny_onRaise ?_
  rw [show ∀ (x y : String) (n : Nat), Bind.check ⟨.positional, "*", b.iB, .self, [⟨"args", .varPos, false⟩]⟩ x y n (List.map (fun z => z.fst) ({ pos := Value.ref e :: rest } : Args).kw) = pure () from
    fun x y n => check_star_args _ _ _ _ _ _]
  exact wpAny_pure hq
end
section
variable {X : Cx} {x : Str} {C : Addr} {b : BX} {e : Expr} {es : List Expr} {ta : TA} {p pos : Pos}
theorem kw4_ (ok : b.Ok) (ok0 : b.Ok0) (T : OexB b X.K C) (hB : b.tl.contains (.type b.iB) = true) (iC : PySem.W.findIn X.K (.ref C) "__init__" = some (some (.builtin b.initId))) (hg : Gl X x) (hm : X.mg x = some (.ref C)) (ha : PA X (e :: es) ta)
    (hdb : (x == ("__debug__" : Str)) = false := by decide) (he : starEach (e :: es) X.env = (false, eval e X.env) :: starEach es X.env := by rfl) (hpl : (backTo pos (starEach es X.env)).any (·.1) = false := by rfl) :
    PE X (.Call (.Name x p) (e :: es) [] pos) (fun σ H Q => ta σ H fun vs H1 => vs.length ≤ 1000 ∧ ∀ a od, H1 a = none → Q (.ref a) (upd H1 a (.frz od (exo a C none)))) := by
  refine ⟨fun pins s σ H Q I h => ?_⟩
  refine wpAny_Call_Name_kw (ld_glob I hg hm (PySem.W.callWith_K (h₀ := X.base) I.ok.mod.kin T.kC (thn (ha.run pos pins s σ H _ I h) fun us s1 ⟨vs, H1, I1, r1, hz, q1⟩ => ⟨I1.kIn, ?_⟩) he hpl) hdb)
  obtain ⟨nm, q, N, bs, bm, sn, sub, ab, col, dd, k0, k1, k2, k3, k5, hC, hbm⟩ := T.cls
  obtain ⟨cs, ebm⟩ := khE_ hbm
  obtain ⟨nB, nI, nT, F, hnB⟩ := ok.new
  have has : ∀ {X : String} {z : Bool}, b.tl.contains (.type X) = z → bm.contains (.type X) = z := fun {X z} e => by rw [ebm, khF_]; exact e
  obtain ⟨hp, g, dr, tk, os⟩ := s1
  have lt : hp.objs.size ≤ hp.objs.size + 1 := Nat.le_succ _
  have han : H1 (hp.objs.size + 1) = none := I1.hok.fresh lt
  have kk : ∀ b o, hp.get? b = some o → ((hp.push (PySem.W.kdv_tup us)).push (PySem.HandSPX.excO C hp.objs.size)).get? b = some o := fun b o e => Heap.get?_push_of_some _ (Heap.get?_push_of_some _ e)
  have new_ : ((hp.push (PySem.W.kdv_tup us)).push (PySem.HandSPX.excO C hp.objs.size)).get? (hp.objs.size + 1) = some (PySem.HandSPX.excO C hp.objs.size) := by heap_get
  have I2 : Inv X pins σ (upd H1 (hp.objs.size + 1) (exo (hp.objs.size + 1) C none)) ⟨(hp.push (PySem.W.kdv_tup us)).push (PySem.HandSPX.excO C hp.objs.size), g, dr, tk, os⟩ :=
    I1.laid (t' := tk) (a := hp.objs.size + 1) (o := exo (hp.objs.size + 1) C none) kk lt (exo_ok new_)
  have hus : us.length ≤ sizeLine := by rw [← Paired.length r1, sizeLine_eq]; omega
  refine wpAny_call (kpK_ F (has hnB) (has ok.noA) (has ok.noN) (I1.kIn _ _ hC) hus (PySem.W.looks_findIn I1.kIn iC) (fun self => by rw [ok0.bnd]; exact .now)
    (codeAny_call_builtin ok.plain ok.entry (kn4_ ok ok0 (has hB) (kk _ _ (I1.kIn _ _ hC)) new_ rfl ?_)))
  refine PySem.W.exc_init_tree (cls := .ref C) (t0 := hp.objs.size) (dv := none) (c2 := .none) (c3 := .none) (b4 := .bool false) new_ hus (fun h' k e' _ => ?_)
  have J := I2.write (t' := tk) (x := hp.objs.size + 1) (e := hp.objs.size + 1) (o := exo (hp.objs.size + 1) C none) (by rw [upd_same]; exact True.intro) (.inl rfl) k ⟨_, e'⟩ (exo_ok e')
  have eu : upd (upd H1 (hp.objs.size + 1) (exo (hp.objs.size + 1) C none)) (hp.objs.size + 1) (exo (hp.objs.size + 1) C none) = upd H1 (hp.objs.size + 1) (exo (hp.objs.size + 1) C none) := by
    funext c
    by_cases hc : c = hp.objs.size + 1
    · rw [hc, upd_same, upd_same]
    · rw [upd_ne hc]
  rw [eu] at J
  obtain ⟨od, J2⟩ := J.lock upd_same trivial
  have eu2 : upd (upd H1 (hp.objs.size + 1) (exo (hp.objs.size + 1) C none)) (hp.objs.size + 1) (.frz od (exo (hp.objs.size + 1) C none)) = upd H1 (hp.objs.size + 1) (.frz od (exo (hp.objs.size + 1) C none)) := by
    funext c
    by_cases hc : c = hp.objs.size + 1
    · rw [hc, upd_same, upd_same]
    · rw [upd_ne hc, upd_ne hc, upd_ne hc]
  rw [eu2] at J2
  exact ⟨rfl, .ref (hp.objs.size + 1), _, J2, rfl, q1 _ od han⟩
end
structure kli_ (st : Stmt) : Prop where
  body : ∃ (msg : Str) (j : Nat) (p0 p1 p2 p3 p4 pc : Pos) (l : List Stmt),
    defBody st = .Expr (.Call (.Attribute (.Call (.Name "super" p0) [] [] p1) "__init__" p2) [.Constant (.str msg) j pc] [] p3) p4 :: l ∧ l = [] ∧
    (∀ (qual : Str) (f cda cc L : Addr), ∃ pl : Sem Bool, eval (.Call (.Attribute (.Call (.Name "super" p0) [] [] p1) "__init__" p2) [.Constant (.str msg) j pc] [] p3) (PySem.W.ksEnv qual (defScope st) L f (.ref cda) cc) = (do
      let ov ← attributeBase (.Call (.Name "super" p0) [] [] p1) "__init__" (PySem.W.ksEnv qual (defScope st) L f (.ref cda) cc) (eval (.Call (.Name "super" p0) [] [] p1) (PySem.W.ksEnv qual (defScope st) L f (.ref cda) cc))
      standAt p2.atName
      let (gm, first) ← holding [ov] (getMethod ov "__init__" pl)
      callWith p3 gm first (backTo p3 (starEach [.Constant (.str msg) j pc] (PySem.W.ksEnv qual (defScope st) L f (.ref cda) cc))) [])) ∧
    ∀ (qual : Str) (f cda cc L : Addr), swapsWith (.Call (.Attribute (.Call (.Name "super" p0) [] [] p1) "__init__" p2) [.Constant (.str msg) j pc] [] p3) none p4.line
      (PySem.W.ksEnv qual (defScope st) L f (.ref cda) cc) = pure false
  args : ∃ ar, ((defArgs st).posonlyargs ++ (defArgs st).args).head? = some ar ∧ ar.arg = "self"
  sc : keG_ ["self"] ["self"] (defScope st)
  bind : ∀ (qual : Str) (kV doc pm : Value) (an : Option Addr) (cdv ct : Value) (cc : Addr) (us : List Value), us.length = 1 →
    bindArgs (PySem.W.ksFn "__init__" qual (defArgs st) (defBody st) (defScope st) .none kV doc pm an cdv ct cc) ⟨us, []⟩ = pure ([("self" : Str)].zip us)
def kw5_ (C : Addr) : Sp := fun vs H Q _ => ∃ a : Addr, vs = [.ref a] ∧ H a = some (exo a C none) ∧ Q .non H
section
variable {P : Program} {w : World} {K : PySem.W.Frag} {mg : Str → Option Value} {base : Heap} {x : Str} {st : Stmt} {C : Addr} {b : BX}
theorem XDef.ini0 (D : XDef b K mg x [] st C) (I : kli_ st) (hP : PTx P) :
    ∃ fI fd, PySem.W.findIn K (.ref C) "__init__" = some (some (.ref fI)) ∧ PySem.W.typeIn K (.ref fI) = some (.type "function") ∧
      Binds K fd ["self"] [] ∧ FnOk P w K mg base CX0 1 fI fd ["self"] (kw5_ C) := by
  obtain ⟨fI, cda, cc, qual, oc, od, kV, doc, pm, an, ct, osl, h1, h2, lk, hcd, hcc, ccl, cdd, vs, ccs, tf, hco, hvs⟩ := D.fn
  obtain ⟨msg, j, p0, p1, p2, p3, p4, pc, l, hb, hl, he, hw⟩ := I.body
  obtain ⟨ar, ha, hn⟩ := I.args
  have U : ktH_ b P K C cc cda := ⟨hcc, ⟨ccl, cdd, vs, ccs, _, tf, hco, hvs, hP.file⟩, hP.top, D.opq, D.sup, D.isB, kmw_ D.T⟩
  refine ⟨fI, _, h1, h2, .all fun us hl => I.bind qual kV doc pm an (.ref cda) ct cc us hl, ?_⟩
  rw [hb] at lk ⊢
  subst hl
  refine ko4_ (N := ["self"]) (k := 0) lk hcd I.sc D.ok U D.T D.noS ha (by rw [hn]; rfl) (by rw [hn]; exact I.sc.par _ (List.mem_cons_self ..)) (fun L => he qual fI cda cc L) (fun L => hw qual fI cda cc L) ?_ ?_ ?_
  · rintro vs H Q E ⟨a, rfl, _⟩
    rfl
  · rintro vs H Q E ⟨a, rfl, hH, _⟩
    exact ⟨a, rfl, hH⟩
  · rintro A outer s H vs Q E ⟨a, rfl, hH, q⟩
    exact ⟨_, pss_nil, q⟩
end
section
variable {X : Cx} {x : Str} {st : Stmt} {C : Addr} {p pos : Pos} {b : BX}
theorem kt0_ (D : XDef b X.K X.mg x [] st C) (I : kli_ st) (hP : PTx X.prog) (hr : Room 2 X.A) (hg : Gl X x) (hdb : (x == ("__debug__" : Str)) = false := by decide) :
    PE X (.Call (.Name x p) [] [] pos) (fun σ H Q => ∀ a od, H a = none → Q (.ref a) (upd H a (.frz od (exo a C none)))) := by
  obtain ⟨fI, fd, h1, h2, hb, F⟩ := D.ini0 (w := X.w) (base := X.base) I hP
  have M := kpJ_ (k := 1) (dvs := []) (ds := []) D.ok D.T h1 h2 F hr hb .nil (fun _ _ _ _ _ _ _ z => z.elim) hg D.gC (p := p) (pos := pos) hdb
  refine ⟨fun pins s σ H Q Inv0 h => ?_⟩
  refine M.run pins s σ H Q Inv0 ⟨Nat.zero_le _, fun a han => ⟨a, rfl, upd_same, rfl, none, upd_same, fun od => ?_⟩⟩
  have eu2 : upd (upd H a (exo a C none)) a (.frz od (exo a C none)) = upd H a (.frz od (exo a C none)) := by
    funext c
    by_cases hc : c = a
    · rw [hc, upd_same, upd_same]
    · rw [upd_ne hc, upd_ne hc, upd_ne hc]
  rw [eu2]
  exact h a od han
end
end Y
set_option Elab.async false
set_option linter.all false
set_option maxRecDepth 100000
set_option maxHeartbeats 4000000
structure Z.Ex where
  a : _root_.PySem.Addr
  x : _root_.PySem.Addr
  T : List (_root_.PySem.Addr × _root_.PySem.Str)
namespace Z
open PySem PySem.Spec PyProof.Rows L2 TL Y
inductive D where
  | non | bl (b : Bool) | int (i : Int) | str (x : Str)
  | lst (xs : List D) | tup (xs : List D)
  | dct (ks : List Key) (vs : List D) | dcT (ks : List (List Key)) (vs : List D)
  | ins (C : Addr) (ns : List Str) (vs : List D)
  | ptr (k : Nat)
inductive OO where
  | gone | lst (xs : List D) | dct (ks : List Key) (vs : List D) | dcT (ks : List (List Key)) (vs : List D) | ins (C : Addr) (ns : List Str) (vs : List D) | mix (ks : List Lf) (vs : List D) | exc (C : Addr) (ns : List Str) (vs : List D)
abbrev OH := List OO
abbrev OO.nx (o : OO) : OO := match o with
  | .mix _ _ => .gone
  | .exc _ _ _ => .gone
  | o => o
inductive Res (α : Type) where
  | ok (a : α) (h : OH) | exc (C : Value) (ns : List Str) (vs : List D) (h : OH) | bad
abbrev M (α : Type) := OH → Res α
@[inline] def M.pure {α : Type} (a : α) : M α := fun h => .ok a h
@[inline] def M.bind {α β : Type} (m : M α) (f : α → M β) : M β := fun h => match m h with
  | .ok a h' => f a h'
  | .exc C ns vs h' => .exc C ns vs h'
  | .bad => .bad
def M.bad {α : Type} : M α := fun _ => .bad
inductive Sl where
  | un | val (d : D) | exn (ns : List Str) (vs : List D) | fn (f c : Addr) (q : Str) (σ : List (Option V)) (ds : List (Option D)) | scr (K : PySem.W.Frag) (a : Addr) (ns : List Int) | cls (C : Addr)
abbrev Env := List Sl
structure Rh where
  l : List Addr
  rs : List Addr
  ts : List (Addr × Str)
def own (ρ : Rh) (h : OH) (a : Addr) : Prop := a ∈ ρ.rs ∨ ∃ (k : Nat) (o : OO), ρ.l[k]? = some a ∧ h[k]? = some o ∧ o.nx ≠ OO.gone
mutual
inductive R (ρ : Rh) (N : Addr → Prop) (H : Hp) : V → D → Prop
  | non : R ρ N H .non .non
  | bl (b : Bool) : R ρ N H (.bl b) (.bl b)
  | int (i : Int) : R ρ N H (.int i) (.int i)
  | str {x : Str} : PyData.strOk x = true → x.length ≤ sizeLine → R ρ N H (.str x) (.str x)
  | lst {a : Addr} {vs : List V} {xs : List D} : H a = some (.lst vs) → ¬ N a → RAll ρ N H vs xs → R ρ N H (.ref a) (.lst xs)
  | tup {a : Addr} {vs : List V} {xs : List D} : H a = some (.tup vs) → ¬ N a → RAll ρ N H vs xs → R ρ N H (.ref a) (.tup xs)
  | dct {a : Addr} {od : Obj} {ks : List Key} {vs : List V} {xs : List D} : H a = some (.frz od (.dK (ks.zip vs))) → ¬ N a → ks.length = vs.length → RAll ρ N H vs xs → R ρ N H (.ref a) (.dct ks xs)
  | dcT {a : Addr} {od : Obj} {ks : List (List Key)} {vs : List V} {xs : List D} : H a = some (.frz od (.dT (ks.zip vs))) → ¬ N a → ks.length = vs.length → RAll ρ N H vs xs → R ρ N H (.ref a) (.dcT ks xs)
  | ins {a dx C : Addr} {ns : List Str} {vs : List V} {xs : List D} : H a = some (.ins C dx (ns.zip vs)) → ¬ N a → ns.length = vs.length → RAll ρ N H vs xs → R ρ N H (.ref a) (.ins C ns xs)
  | ptr {k : Nat} {a : Addr} : ρ.l[k]? = some a → R ρ N H (.ref a) (.ptr k)
inductive RAll (ρ : Rh) (N : Addr → Prop) (H : Hp) : List V → List D → Prop
  | nil : RAll ρ N H [] []
  | cons {v : V} {vs : List V} {d : D} {ds : List D} : R ρ N H v d → RAll ρ N H vs ds → RAll ρ N H (v :: vs) (d :: ds)
end
def NT (H : Hp) (a : Addr) : Prop := ∀ o, H a = some o → ∃ ps, o = .tbl ps
theorem NT.of {H : Hp} {a : Addr} (h : H a = none) : NT H a := fun o e => by rw [h] at e; cases e
theorem NT.no {H : Hp} {a : Addr} {o : HO} (h : NT H a) (e : H a = some o) (n : ∀ ps, o ≠ .tbl ps) : False := let ⟨ps, q⟩ := h o e; n ps q
def OOk (ρ : Rh) (N : Addr → Prop) (H : Hp) (a : Addr) : OO → Prop
  | .gone => ∃ o, (∀ ps, o ≠ .tbl ps) ∧ H a = some o
  | .lst xs => ∃ vs, H a = some (.lst vs) ∧ RAll ρ N H vs xs
  | .dct ks xs => ∃ vs, H a = some (.dK (ks.zip vs)) ∧ ks.length = vs.length ∧ RAll ρ N H vs xs
  | .dcT ks xs => ∃ vs, H a = some (.dT (ks.zip vs)) ∧ ks.length = vs.length ∧ RAll ρ N H vs xs
  | .ins C ns xs => ∃ dx vs, H a = some (.ins C dx (ns.zip vs)) ∧ ns.length = vs.length ∧ RAll ρ N H vs xs
  | .mix ks xs => ∃ od vs, H a = some (mixO od) ∧ (a == sysModules) = false ∧ RawD od (ks.zip vs) ∧ ks.length = vs.length ∧ RAll ρ N H vs xs
  | .exc C ns xs => (∃ od q vs, H a = some (.frz od (exo a C (some q))) ∧ H q = some (exd q (ns.zip vs).reverse) ∧ ¬ N q ∧ ns.length = vs.length ∧ RAll ρ N H vs xs) ∨ (∃ od, H a = some (.frz od (exo a C none))) ∧ ns = [] ∧ xs = []
structure Wd (ρ : Rh) (h : OH) (H : Hp) : Prop where
  len : ρ.l.length = h.length
  nd : ρ.l.Nodup
  dis : ∀ a ∈ ρ.rs, a ∉ ρ.l
  there : ∀ a ∈ ρ.rs, ∃ vs, H a = some (.lst vs)
  tabs : LamX.Tabs ρ.ts H
  at' : ∀ (k : Nat) (a : Addr) (o : OO), ρ.l[k]? = some a → h[k]? = some o → OOk ρ (own ρ h) H a o
structure Step (ρ : Rh) (h : OH) (H : Hp) (ρ' : Rh) (h' : OH) (H' : Hp) : Prop where
  pre : ρ.l <+: ρ'.l
  wd : Wd ρ' h' H'
  keep : ∀ a o, ¬ own ρ h a → (∀ ps, o ≠ .tbl ps) → H a = some o → H' a = some o
  live : ∀ a o, (∀ ps, o ≠ .tbl ps) → H a = some o → ∃ o', (∀ ps, o' ≠ .tbl ps) ∧ H' a = some o'
  news : ∀ a, own ρ' h' a → own ρ h a ∨ NT H a
  rsq : ρ'.rs = ρ.rs
  tsq : ρ'.ts = ρ.ts
  res : ∀ a ∈ ρ.rs, H' a = H a
theorem kgb_ {vs : List V} : ∀ ps, HO.lst vs ≠ .tbl ps := fun _ z => by cases z
theorem krG_ {vs : List V} : ∀ ps, HO.tup vs ≠ .tbl ps := fun _ z => by cases z
theorem kt1_ {vs : List (Key × V)} : ∀ ps, HO.dK vs ≠ .tbl ps := fun _ z => by cases z
theorem kwm_ {vs : List (List Key × V)} : ∀ ps, HO.dT vs ≠ .tbl ps := fun _ z => by cases z
theorem kdC_ {o : Obj} {u : HO} : ∀ ps, HO.frz o u ≠ .tbl ps := fun _ z => by cases z
theorem kpL_ {q : Addr} {fs : List (Str × V)} : ∀ ps, exd q fs ≠ .tbl ps := fun ps z => by
  have z' : HO.ext _ = HO.tbl ps := z
  cases z'
theorem kn5_ {C dx : Addr} {vs : List (Str × V)} : ∀ ps, HO.ins C dx vs ≠ .tbl ps := fun _ z => by cases z
mutual
theorem R.mono {ρ ρ' : Rh} {N N' : Addr → Prop} {H H' : Hp} (pre : ρ.l <+: ρ'.l) (keep : ∀ a o, ¬ N a → (∀ ps, o ≠ .tbl ps) → H a = some o → H' a = some o)
    (news : ∀ a, N' a → N a ∨ NT H a) : ∀ {v : V} {d : D}, R ρ N H v d → R ρ' N' H' v d
  | _, _, .non => .non
  | _, _, .bl b => .bl b
  | _, _, .int i => .int i
  | _, _, .str a b => .str a b
  | _, _, .lst e n a => .lst (keep _ _ n kgb_ e) (fun z => (news _ z).elim n fun q => q.no e kgb_) (RAll.mono pre keep news a)
  | _, _, .tup e n a => .tup (keep _ _ n krG_ e) (fun z => (news _ z).elim n fun q => q.no e krG_) (RAll.mono pre keep news a)
  | _, _, .dct e n l a => .dct (keep _ _ n kdC_ e) (fun z => (news _ z).elim n fun q => q.no e kdC_) l (RAll.mono pre keep news a)
  | _, _, .dcT e n l a => .dcT (keep _ _ n kdC_ e) (fun z => (news _ z).elim n fun q => q.no e kdC_) l (RAll.mono pre keep news a)
  | _, _, .ins e n l a => .ins (keep _ _ n kn5_ e) (fun z => (news _ z).elim n fun q => q.no e kn5_) l (RAll.mono pre keep news a)
  | _, _, .ptr e => .ptr (by
      obtain ⟨r, hr⟩ := pre
      rw [← hr, List.getElem?_append_left (List.getElem?_eq_some_iff.mp e).1]
      exact e)
theorem RAll.mono {ρ ρ' : Rh} {N N' : Addr → Prop} {H H' : Hp} (pre : ρ.l <+: ρ'.l) (keep : ∀ a o, ¬ N a → (∀ ps, o ≠ .tbl ps) → H a = some o → H' a = some o)
    (news : ∀ a, N' a → N a ∨ NT H a) : ∀ {vs : List V} {ds : List D}, RAll ρ N H vs ds → RAll ρ' N' H' vs ds
  | _, _, .nil => .nil
  | _, _, .cons a b => .cons (R.mono pre keep news a) (RAll.mono pre keep news b)
end
theorem RAll.length {ρ : Rh} {N : Addr → Prop} {H : Hp} : ∀ {vs : List V} {ds : List D}, RAll ρ N H vs ds → vs.length = ds.length
  | _, _, .nil => rfl
  | _, _, .cons _ b => by simp [b.length]
theorem RAll.append {ρ : Rh} {N : Addr → Prop} {H : Hp} : ∀ {vs ws : List V} {ds es : List D}, RAll ρ N H vs ds → RAll ρ N H ws es → RAll ρ N H (vs ++ ws) (ds ++ es)
  | _, _, _, _, .nil, h => h
  | _, _, _, _, .cons a b, h => .cons a (RAll.append b h)
theorem RAll.get {ρ : Rh} {N : Addr → Prop} {H : Hp} : ∀ {vs : List V} {ds : List D} {i : Nat} {v : V}, RAll ρ N H vs ds → vs[i]? = some v → ∃ d, ds[i]? = some d ∧ R ρ N H v d
  | _, _, 0, _, .cons a _, h => by simp at h; subst h; exact ⟨_, rfl, a⟩
  | _, _, i + 1, _, .cons _ b, h => by
    obtain ⟨d, e, q⟩ := RAll.get (i := i) b (by simpa using h)
    exact ⟨d, by simpa using e, q⟩
theorem RAll.getD {ρ : Rh} {N : Addr → Prop} {H : Hp} : ∀ {vs : List V} {ds : List D} {i : Nat} {d : D}, RAll ρ N H vs ds → ds[i]? = some d → ∃ v, vs[i]? = some v ∧ R ρ N H v d
  | _, _, 0, _, .cons a _, h => by simp at h; subst h; exact ⟨_, rfl, a⟩
  | _, _, i + 1, _, .cons _ b, h => by
    obtain ⟨d, e, q⟩ := RAll.getD (i := i) b (by simpa using h)
    exact ⟨d, by simpa using e, q⟩
theorem RAll.set {ρ : Rh} {N : Addr → Prop} {H : Hp} {v : V} {d : D} (r : R ρ N H v d) : ∀ {vs : List V} {ds : List D} (i : Nat), RAll ρ N H vs ds → RAll ρ N H (vs.set i v) (ds.set i d)
  | _, _, _, .nil => .nil
  | _, _, 0, .cons _ b => .cons r b
  | _, _, i + 1, .cons a b => .cons a (RAll.set r i b)
theorem RAll.take {ρ : Rh} {N : Addr → Prop} {H : Hp} : ∀ {vs : List V} {ds : List D} (i : Nat), RAll ρ N H vs ds → RAll ρ N H (vs.take i) (ds.take i)
  | _, _, 0, _ => by simpa using .nil
  | _, _, _ + 1, .nil => .nil
  | _, _, i + 1, .cons a b => .cons a (RAll.take i b)
theorem RAll.drop {ρ : Rh} {N : Addr → Prop} {H : Hp} : ∀ {vs : List V} {ds : List D} (i : Nat), RAll ρ N H vs ds → RAll ρ N H (vs.drop i) (ds.drop i)
  | _, _, 0, a => a
  | _, _, _ + 1, .nil => .nil
  | _, _, i + 1, .cons _ b => RAll.drop i b
section
variable {ρ ρ' ρ2 : Rh} {h h' h2 : OH} {H H' H2 : Hp}
theorem Step.refl (w : Wd ρ h H) : Step ρ h H ρ h H := ⟨List.prefix_refl _, w, fun _ _ _ _ e => e, fun _ o n e => ⟨o, n, e⟩, fun _ z => .inl z, rfl, rfl, fun _ _ => rfl⟩
theorem Step.none (a : Step ρ h H ρ' h' H') {p : Addr} (e : NT H' p) : NT H p := fun o q => by
  by_cases z : ∃ ps, o = .tbl ps
  · exact z
  · obtain ⟨o', n, q'⟩ := a.live p o (fun ps w => z ⟨ps, w⟩) q
    exact (e.no q' n).elim
theorem Step.trans (a : Step ρ h H ρ' h' H') (b : Step ρ' h' H' ρ2 h2 H2) : Step ρ h H ρ2 h2 H2 where
  pre := a.pre.trans b.pre
  wd := b.wd
  keep := fun c o n nt e => b.keep c o (fun z => (a.news c z).elim n fun q => q.no e nt) nt (a.keep c o n nt e)
  live := fun c o n e => let ⟨_, n', q⟩ := a.live c o n e; b.live c _ n' q
  news := fun c z => (b.news c z).elim (a.news c) fun q => .inr (a.none q)
  rsq := b.rsq.trans a.rsq
  tsq := b.tsq.trans a.tsq
  res := fun c hc => (b.res c (by rw [a.rsq]; exact hc)).trans (a.res c hc)
theorem Step.R (a : Step ρ h H ρ' h' H') {v : V} {d : D} (r : R ρ (own ρ h) H v d) : R ρ' (own ρ' h') H' v d := r.mono a.pre a.keep a.news
theorem Step.RAll (a : Step ρ h H ρ' h' H') {vs : List V} {ds : List D} (r : RAll ρ (own ρ h) H vs ds) : RAll ρ' (own ρ' h') H' vs ds := r.mono a.pre a.keep a.news
theorem OOk.mono {N N' : Addr → Prop} {a : Addr} {o : OO} (pre : ρ.l <+: ρ'.l) (keep : ∀ a o, ¬ N a → (∀ ps, o ≠ .tbl ps) → H a = some o → H' a = some o) (news : ∀ a, N' a → N a ∨ NT H a)
    (ha : ∀ o, H a = some o → H' a = some o) (x : OOk ρ N H a o) : OOk ρ' N' H' a o := by
  cases o with
  | gone => obtain ⟨o, n, e⟩ := x; exact ⟨o, n, ha _ e⟩
  | lst xs => obtain ⟨vs, e, r⟩ := x; exact ⟨vs, ha _ e, r.mono pre keep news⟩
  | dct ks xs => obtain ⟨vs, e, l, r⟩ := x; exact ⟨vs, ha _ e, l, r.mono pre keep news⟩
  | dcT ks xs => obtain ⟨vs, e, l, r⟩ := x; exact ⟨vs, ha _ e, l, r.mono pre keep news⟩
  | ins C ns xs => obtain ⟨dx, vs, e, l, r⟩ := x; exact ⟨dx, vs, ha _ e, l, r.mono pre keep news⟩
  | mix ks xs => obtain ⟨od, vs, e, y, z, l, r⟩ := x; exact ⟨od, vs, ha _ e, y, z, l, r.mono pre keep news⟩
  | exc C ns xs =>
    rcases x with ⟨od, q, vs, e, eq, nq, l, r⟩ | ⟨⟨od, e⟩, y, z⟩
    · exact .inl ⟨od, q, vs, ha _ e, keep _ _ nq kpL_ eq, fun z => (news _ z).elim nq fun y => y.no eq kpL_, l, r.mono pre keep news⟩
    · exact .inr ⟨⟨od, ha _ e⟩, y, z⟩
theorem OOk.some {N : Addr → Prop} {a : Addr} {o : OO} (x : OOk ρ N H a o) : ∃ u, (∀ ps, u ≠ .tbl ps) ∧ H a = some u := by
  cases o with
  | gone => exact x
  | lst xs => obtain ⟨vs, e, r⟩ := x; exact ⟨_, kgb_, e⟩
  | dct ks xs => obtain ⟨vs, e, l, r⟩ := x; exact ⟨_, kt1_, e⟩
  | dcT ks xs => obtain ⟨vs, e, l, r⟩ := x; exact ⟨_, kwm_, e⟩
  | ins C ns xs => obtain ⟨dx, vs, e, l, r⟩ := x; exact ⟨_, kn5_, e⟩
  | mix ks xs => obtain ⟨od, vs, e, _⟩ := x; exact ⟨_, kdC_, e⟩
  | exc C ns xs =>
    rcases x with ⟨od, q, vs, e, _⟩ | ⟨⟨od, e⟩, _⟩
    · exact ⟨_, kdC_, e⟩
    · exact ⟨_, kdC_, e⟩
theorem Wd.some (w : Wd ρ h H) {k : Nat} {a : Addr} (e : ρ.l[k]? = some a) : ∃ u, (∀ ps, u ≠ .tbl ps) ∧ H a = Option.some u := by
  have hk : k < h.length := by rw [← w.len]; exact (List.getElem?_eq_some_iff.mp e).1
  exact (w.at' k a h[k] e (by simp [hk])).some
theorem Wd.kt2_ (w : Wd ρ h H) {p : Addr} (e : NT H p) : p ∉ ρ.l := fun z => by
  obtain ⟨k, hk⟩ := List.mem_iff_getElem?.mp z
  obtain ⟨u, n, q⟩ := w.some hk
  exact e.no q n
theorem Wd.kmx_ (w : Wd ρ h H) {p : Addr} (e : NT H p) : p ∉ ρ.rs := fun z => by
  obtain ⟨u, q⟩ := w.there p z
  exact e.no q kgb_
theorem Wd.fresh (w : Wd ρ h H) {p : Addr} (e : H p = Option.none) : p ∉ ρ.l := w.kt2_ (.of e)
theorem Wd.krH_ (w : Wd ρ h H) {p : Addr} (e : H p = Option.none) : p ∉ ρ.rs := w.kmx_ (.of e)
theorem Wd.not (w : Wd ρ h H) {p : Addr} (e : H p = Option.none) : ¬ own ρ h p := fun z => z.elim (w.krH_ e) fun ⟨k, _, hk, _⟩ => w.fresh e (List.mem_iff_getElem?.mpr ⟨k, hk⟩)
theorem keH_ {T : List (Addr × Str)} (t : LamX.Tabs T H) (kt : ∀ a ps, H a = Option.some (.tbl ps) → H' a = Option.some (.tbl ps)) (kc : ∀ c q, H c = Option.some (LamX.CodeO c q) → H' c = Option.some (LamX.CodeO c q)) : LamX.Tabs T H' := fun p hp => by
  obtain ⟨ps, h1, h2, h3⟩ := t p hp
  refine ⟨ps, kt _ _ h1, h2, fun pos cv hc => ?_⟩
  obtain ⟨c, e1, e2⟩ := h3 pos cv hc
  exact ⟨c, e1, kc _ _ e2⟩
theorem Wd.step (w : Wd ρ h H) (k1 : ∀ a o, H a = Option.some o → H' a = Option.some o) : Step ρ h H ρ h H' where
  pre := List.prefix_refl _
  wd := ⟨w.len, w.nd, w.dis, fun a ha => let ⟨o, e⟩ := w.there a ha; ⟨o, k1 a _ e⟩, w.tabs.ext k1, fun k a o e1 e2 => (w.at' k a o e1 e2).mono (List.prefix_refl _) (fun a o _ _ e => k1 a o e) (fun _ z => .inl z) fun o e => k1 _ o e⟩
  keep := fun a o _ _ e => k1 a o e
  live := fun a o n e => ⟨o, n, k1 a o e⟩
  news := fun _ z => .inl z
  rsq := rfl
  tsq := rfl
  res := fun a ha => by obtain ⟨o, e⟩ := w.there a ha; rw [e, k1 a _ e]
theorem kcB_ {p : Addr} {o : HO} (e : H p = Option.none) : ∀ a u, H a = Option.some u → upd H p o a = Option.some u := fun a u q => by
  rw [upd_ne (ne_of_none q e)]; exact q
theorem Wd.new (w : Wd ρ h H) {p : Addr} (o : HO) (e : H p = Option.none) : Step ρ h H ρ h (upd H p o) := w.step (kcB_ e)
abbrev Rh.push (ρ : Rh) (p : Addr) : Rh := ⟨ρ.l ++ [p], ρ.rs, ρ.ts⟩
abbrev Rh.hold (ρ : Rh) (p : Addr) : Rh := ⟨ρ.l, p :: ρ.rs, ρ.ts⟩
abbrev Rh.drop (ρ : Rh) : Rh := ⟨ρ.l, ρ.rs.tail, ρ.ts⟩
theorem khG_ {p : Addr} {o : OO} (hl : ρ.l.length = h.length) {a : Addr} : own (ρ.push p) (h ++ [o]) a → own ρ h a ∨ a = p := by
  rintro (z | ⟨k, u, e1, e2, n⟩)
  · exact .inl (.inl z)
  by_cases hk : k < ρ.l.length
  · rw [List.getElem?_append_left hk] at e1
    rw [List.getElem?_append_left (by omega)] at e2
    exact .inl (.inr ⟨k, u, e1, e2, n⟩)
  · rw [List.getElem?_append_right (by omega)] at e1
    right
    have : k - ρ.l.length = 0 := by
      cases q : k - ρ.l.length with
      | zero => rfl
      | succ n => rw [q] at e1; simp at e1
    rw [this] at e1
    simpa using e1.symm
theorem Wd.push (w : Wd ρ h H) {p : Addr} {u : HO} {o : OO} (e : H p = Option.none) (x : OOk (ρ.push p) (own (ρ.push p) (h ++ [o])) (upd H p u) p o) :
    Step ρ h H (ρ.push p) (h ++ [o]) (upd H p u) := by
  have news : ∀ a, own (ρ.push p) (h ++ [o]) a → own ρ h a ∨ NT H a := fun a z => (khG_ w.len z).elim .inl fun q => .inr (by rw [q]; exact .of e)
  have kp := kcB_ (H := H) (p := p) (o := u) e
  refine ⟨List.prefix_append _ _, ⟨by simp [w.len], ?_, fun a ha z => ?_, fun a ha => let ⟨o, q⟩ := w.there a ha; ⟨o, kp a _ q⟩, w.tabs.ext kp, fun k a o' e1 e2 => ?_⟩, fun a o _ _ q => kp a o q, fun a o n q => ⟨o, n, kp a o q⟩, news, rfl, rfl,
    fun a ha => by obtain ⟨o, q⟩ := w.there a ha; rw [q, kp a _ q]⟩
  · rw [List.nodup_append]
    exact ⟨w.nd, by simp, fun a ha b hb z => by rw [List.mem_singleton.mp hb] at z; rw [z] at ha; exact w.fresh e ha⟩
  · rcases List.mem_append.mp z with z | z
    · exact w.dis a ha z
    · rw [List.mem_singleton.mp z] at ha; exact w.krH_ e ha
  · by_cases hk : k < ρ.l.length
    · rw [List.getElem?_append_left hk] at e1
      rw [List.getElem?_append_left (by rw [← w.len]; exact hk)] at e2
      exact (w.at' k a o' e1 e2).mono (List.prefix_append _ _) (fun a o _ _ q => kp a o q) news fun o q => kp _ o q
    · have hl := w.len
      have h1 : k < (ρ.l ++ [p]).length := (List.getElem?_eq_some_iff.mp e1).1
      simp only [List.length_append, List.length_singleton] at h1
      have hk' : k = ρ.l.length := by omega
      subst hk'
      rw [List.getElem?_append_right (Nat.le_refl _), Nat.sub_self] at e1
      rw [hl, List.getElem?_append_right (Nat.le_refl _), Nat.sub_self] at e2
      simp at e1 e2
      subst e1 e2
      exact x
theorem Wd.inj (w : Wd ρ h H) {j k : Nat} {a : Addr} (e1 : ρ.l[j]? = Option.some a) (e2 : ρ.l[k]? = Option.some a) : j = k := by
  have hj' := List.getElem?_eq_some_iff.mp e1
  have hk' := List.getElem?_eq_some_iff.mp e2
  exact (List.getElem_inj w.nd).mp (hj'.2.trans hk'.2.symm)
theorem Wd.put (w : Wd ρ h H) {k : Nat} {a : Addr} {o o' : OO} {u : HO} (nu : ∀ ps, u ≠ .tbl ps) (e1 : ρ.l[k]? = Option.some a) (e2 : h[k]? = Option.some o) (ng : o.nx ≠ .gone)
    (x : OOk ρ (own ρ (h.set k o')) (upd H a u) a o') : Step ρ h H ρ (h.set k o') (upd H a u) := by
  have hk : k < h.length := (List.getElem?_eq_some_iff.mp e2).1
  have oa : own ρ h a := .inr ⟨k, o, e1, e2, ng⟩
  have nOwn : ∀ b, own ρ (h.set k o') b → own ρ h b := by
    rintro b (z | ⟨j, v, f1, f2, n⟩)
    · exact .inl z
    by_cases hj : j = k
    · subst hj; rw [e1] at f1; cases f1; exact oa
    · rw [List.getElem?_set_ne (Ne.symm hj)] at f2
      exact .inr ⟨j, v, f1, f2, n⟩
  have kp : ∀ b v, ¬ own ρ h b → (∀ ps, v ≠ .tbl ps) → H b = Option.some v → upd H a u b = Option.some v := fun b v nb _ q => by
    rw [upd_ne (fun z => nb (by rw [z]; exact oa))]; exact q
  have ha := w.at' k a o e1 e2
  have ct : ∀ v, H a = Option.some v → (∀ ps, v ≠ .tbl ps) ∧ ∀ q, v ≠ LamX.CodeO a q := fun v hv => by
    cases o with
    | gone => exact absurd rfl ng
    | lst xs => obtain ⟨vs, e, _⟩ := ha; rw [e] at hv; cases hv; exact ⟨(fun _ z => nomatch z), (fun _ z => nomatch z)⟩
    | dct ks xs => obtain ⟨vs, e, _⟩ := ha; rw [e] at hv; cases hv; exact ⟨(fun _ z => nomatch z), (fun _ z => nomatch z)⟩
    | dcT ks xs => obtain ⟨vs, e, _⟩ := ha; rw [e] at hv; cases hv; exact ⟨(fun _ z => nomatch z), (fun _ z => nomatch z)⟩
    | ins C ns xs => obtain ⟨dx, vs, e, _⟩ := ha; rw [e] at hv; cases hv; exact ⟨(fun _ z => nomatch z), (fun _ z => nomatch z)⟩
    | mix ks xs => obtain ⟨od, vs, e, _⟩ := ha; rw [e] at hv; cases hv; exact ⟨(fun _ z => nomatch z), (fun _ z => nomatch z)⟩
    | exc C ns xs =>
      rcases ha with ⟨od, q, vs, e, _⟩ | ⟨⟨od, e⟩, _⟩
      · rw [e] at hv; cases hv; exact ⟨(fun _ z => nomatch z), (fun _ z => nomatch z)⟩
      · rw [e] at hv; cases hv; exact ⟨(fun _ z => nomatch z), (fun _ z => nomatch z)⟩
  have tb : LamX.Tabs ρ.ts (upd H a u) := keH_ w.tabs (fun b ps q => by rw [upd_ne (fun z => (ct _ (by rw [← z]; exact q)).1 ps rfl)]; exact q) (fun c q' q => by
    by_cases z : c = a
    · subst z; exact absurd rfl ((ct _ q).2 q')
    · rw [upd_ne z]; exact q)
  have rn : ∀ b ∈ ρ.rs, b ≠ a := fun b hb z => w.dis b hb (by rw [z]; exact List.mem_iff_getElem?.mpr ⟨k, e1⟩)
  refine ⟨List.prefix_refl _, ⟨by simp [w.len], w.nd, w.dis, fun b hb => ?_, tb, fun j b v f1 f2 => ?_⟩, kp, fun b v n q => ?_, fun b z => .inl (nOwn b z), rfl, rfl, fun b hb => by rw [upd_ne (rn b hb)]⟩
  · obtain ⟨o, q⟩ := w.there b hb
    exact ⟨o, by rw [upd_ne (rn b hb)]; exact q⟩
  · by_cases hj : j = k
    · subst hj
      rw [e1] at f1; cases f1
      rw [List.getElem?_set_self hk] at f2
      cases f2
      exact x
    · rw [List.getElem?_set_ne (Ne.symm hj)] at f2
      have nb : b ≠ a := fun z => by
        subst z
        exact hj (w.inj f1 e1)
      exact (w.at' j b v f1 f2).mono (List.prefix_refl _) kp (fun c z => .inl (nOwn c z)) fun o q => by rw [upd_ne nb]; exact q
  · by_cases hb : b = a
    · exact ⟨u, nu, by rw [hb, upd_same]⟩
    · exact ⟨v, n, by rw [upd_ne hb]; exact q⟩
theorem Wd.ko7_ (w : Wd ρ h H) {k : Nat} {a : Addr} (e1 : ρ.l[k]? = Option.some a) : ¬ own ρ (h.set k .gone) a := by
  rintro (z | ⟨j, v, f1, f2, n⟩)
  · exact w.dis a z (List.mem_iff_getElem?.mpr ⟨k, e1⟩)
  have hj : j = k := w.inj f1 e1
  subst hj
  have hlt := (List.getElem?_eq_some_iff.mp f2).1
  rw [List.length_set] at hlt
  rw [List.getElem?_set_self hlt] at f2; cases f2; exact n rfl
theorem Wd.hold (w : Wd ρ h H) {p : Addr} {o : HO} (no : ∃ vs, o = .lst vs) (e : H p = Option.none) : Wd (ρ.hold p) h (upd H p o) := by
  have kp := kcB_ (H := H) (p := p) (o := o) e
  have news : ∀ a, own (ρ.hold p) h a → own ρ h a ∨ NT H a := by
    rintro a (z | z)
    · rcases List.mem_cons.mp z with z | z
      · exact .inr (by rw [z]; exact .of e)
      · exact .inl (.inl z)
    · exact .inl (.inr z)
  refine ⟨w.len, w.nd, fun a ha z => ?_, fun a ha => ?_, w.tabs.ext kp, fun k a o' e1 e2 => (w.at' k a o' e1 e2).mono (ρ := ρ) (ρ' := ρ.hold p) (List.prefix_refl ρ.l) (fun a o _ _ q => kp a o q) news fun o q => kp _ o q⟩
  · rcases List.mem_cons.mp ha with q | q
    · rw [q] at z; exact w.fresh e z
    · exact w.dis a q z
  · rcases List.mem_cons.mp ha with q | q
    · obtain ⟨vs, rfl⟩ := no; exact ⟨vs, by rw [q, upd_same]⟩
    · obtain ⟨u, z⟩ := w.there a q; exact ⟨u, kp a _ z⟩
theorem Wd.fill (w : Wd ρ h H) {p : Addr} {o : HO} (no : ∃ vs, o = .lst vs) (hp : p ∈ ρ.rs) (hl : ∃ vs, H p = Option.some (.lst vs)) : Wd ρ h (upd H p o) := by
  have kp : ∀ a u, ¬ own ρ h a → (∀ ps, u ≠ .tbl ps) → H a = Option.some u → upd H p o a = Option.some u := fun a u n _ q => by
    rw [upd_ne (fun z => n (.inl (by rw [z]; exact hp)))]; exact q
  obtain ⟨vs, hl⟩ := hl
  refine ⟨w.len, w.nd, w.dis, fun a ha => ?_, keH_ w.tabs (fun b ps q => ?_) (fun c q' q => ?_), fun k a o' e1 e2 => (w.at' k a o' e1 e2).mono (List.prefix_refl _) kp (fun _ z => .inl z) fun u q => ?_⟩
  · by_cases ha' : a = p
    · obtain ⟨vs, rfl⟩ := no; exact ⟨vs, by rw [ha', upd_same]⟩
    · obtain ⟨u, z⟩ := w.there a ha; exact ⟨u, by rw [upd_ne ha']; exact z⟩
  · rw [upd_ne (fun z => by rw [z, hl] at q; cases q)]; exact q
  · rw [upd_ne (fun z => by rw [z, hl] at q; cases q)]; exact q
  · rw [upd_ne (fun z => w.dis p hp (by rw [← z]; exact List.mem_iff_getElem?.mpr ⟨k, e1⟩))]
    exact q
theorem kn6_ {p : Addr} (hp : p ∈ ρ.rs) {vs : List V} {ds : List D} {o : HO} (r : Z.RAll ρ (own ρ h) H vs ds) : Z.RAll ρ (own ρ h) (upd H p o) vs ds :=
  r.mono (List.prefix_refl _) (fun a u n _ q => by rw [upd_ne (fun z => n (.inl (by rw [z]; exact hp)))]; exact q) fun _ z => .inl z
theorem Wd.lam (w : Wd ρ h H) (e : LamX.ExtN H H') (tt : LamX.Tabs ρ.ts H') : Step ρ h H ρ h H' := by
  refine ⟨List.prefix_refl _, ⟨w.len, w.nd, w.dis, fun a ha => let ⟨o, q⟩ := w.there a ha; ⟨o, e a _ q kgb_⟩, tt, fun k a o e1 e2 => ?_⟩, fun a o _ n q => e a o q n, fun a o n q => ⟨o, n, e a o q n⟩, fun _ z => .inl z, rfl, rfl, fun a ha => by
    obtain ⟨o, q⟩ := w.there a ha; rw [q, e a _ q kgb_]⟩
  have x := w.at' k a o e1 e2
  cases o with
  | gone => obtain ⟨o, n, q⟩ := x; exact ⟨o, n, e a o q n⟩
  | lst xs => obtain ⟨vs, q, r⟩ := x; exact ⟨vs, e a _ q kgb_, r.mono (List.prefix_refl _) (fun a o _ n q => e a o q n) fun _ z => .inl z⟩
  | dct ks xs => obtain ⟨vs, q, l, r⟩ := x; exact ⟨vs, e a _ q kt1_, l, r.mono (List.prefix_refl _) (fun a o _ n q => e a o q n) fun _ z => .inl z⟩
  | dcT ks xs => obtain ⟨vs, q, l, r⟩ := x; exact ⟨vs, e a _ q kwm_, l, r.mono (List.prefix_refl _) (fun a o _ n q => e a o q n) fun _ z => .inl z⟩
  | ins C ns xs => obtain ⟨dx, vs, q, l, r⟩ := x; exact ⟨dx, vs, e a _ q kn5_, l, r.mono (List.prefix_refl _) (fun a o _ n q => e a o q n) fun _ z => .inl z⟩
  | mix ks xs => obtain ⟨od, vs, q, y, z, l, r⟩ := x; exact ⟨od, vs, e a _ q kdC_, y, z, l, r.mono (List.prefix_refl _) (fun a o _ n q => e a o q n) fun _ z => .inl z⟩
  | exc C ns xs =>
    rcases x with ⟨od, p, vs, q, eq, nq, l, r⟩ | ⟨⟨od, q⟩, y, z⟩
    · exact .inl ⟨od, p, vs, e a _ q kdC_, e p _ eq kpL_, nq, l, r.mono (List.prefix_refl _) (fun a o _ n q => e a o q n) fun _ z => .inl z⟩
    · exact .inr ⟨⟨od, e a _ q kdC_⟩, y, z⟩
structure kdB_ (ρ : Rh) (h : OH) (H : Hp) (ρ' : Rh) (h' : OH) (H' : Hp) (p : Addr) : Prop where
  pre : ρ.l <+: ρ'.l
  wd : Wd ρ' h' H'
  keep : ∀ a o, ¬ own ρ h a → (∀ ps, o ≠ .tbl ps) → H a = some o → H' a = some o
  live : ∀ a o, (∀ ps, o ≠ .tbl ps) → H a = some o → ∃ o', (∀ ps, o' ≠ .tbl ps) ∧ H' a = some o'
  news : ∀ a, own ρ' h' a → own ρ h a ∨ NT H a
  rsq : ρ'.rs = p :: ρ.rs
  tsq : ρ'.ts = ρ.ts
  res : ∀ a ∈ ρ.rs, H' a = H a
  new : NT H p
theorem kdB_.of (w : Wd ρ h H) {p : Addr} {o : HO} (no : ∃ vs, o = .lst vs) (e : H p = Option.none) : kdB_ ρ h H (ρ.hold p) h (upd H p o) p where
  pre := List.prefix_refl _
  wd := w.hold no e
  keep := fun a u _ _ q => kcB_ e a u q
  live := fun a u n q => ⟨u, n, kcB_ e a u q⟩
  news := by
    rintro a (z | z)
    · rcases List.mem_cons.mp z with z | z
      · exact .inr (by rw [z]; exact .of e)
      · exact .inl (.inl z)
    · exact .inl (.inr z)
  rsq := rfl
  tsq := rfl
  res := fun a ha => by obtain ⟨u, q⟩ := w.there a ha; rw [q, kcB_ e a _ q]
  new := .of e
theorem kdB_.R {p : Addr} (a : kdB_ ρ h H ρ' h' H' p) {v : V} {d : D} (r : Z.R ρ (own ρ h) H v d) : Z.R ρ' (own ρ' h') H' v d := r.mono a.pre a.keep a.news
theorem kdB_.RAll {p : Addr} (a : kdB_ ρ h H ρ' h' H' p) {vs : List V} {ds : List D} (r : Z.RAll ρ (own ρ h) H vs ds) : Z.RAll ρ' (own ρ' h') H' vs ds := r.mono a.pre a.keep a.news
theorem kdB_.before {p : Addr} (a : Step ρ h H ρ' h' H') (b : kdB_ ρ' h' H' ρ2 h2 H2 p) : kdB_ ρ h H ρ2 h2 H2 p where
  pre := a.pre.trans b.pre
  wd := b.wd
  keep := fun c o n nt e => b.keep c o (fun z => (a.news c z).elim n fun q => q.no e nt) nt (a.keep c o n nt e)
  live := fun c o n e => let ⟨_, n', q⟩ := a.live c o n e; b.live c _ n' q
  news := fun c z => (b.news c z).elim (a.news c) fun q => .inr (a.none q)
  rsq := by rw [b.rsq, a.rsq]
  tsq := b.tsq.trans a.tsq
  res := fun c hc => (b.res c (by rw [a.rsq]; exact hc)).trans (a.res c hc)
  new := a.none b.new
theorem kdB_.then {p : Addr} (a : kdB_ ρ h H ρ' h' H' p) (b : Step ρ' h' H' ρ2 h2 H2) : kdB_ ρ h H ρ2 h2 H2 p where
  pre := a.pre.trans b.pre
  wd := b.wd
  keep := fun c o n nt e => b.keep c o (fun z => (a.news c z).elim n fun q => q.no e nt) nt (a.keep c o n nt e)
  live := fun c o n e => let ⟨_, n', q⟩ := a.live c o n e; b.live c _ n' q
  news := fun c z => (b.news c z).elim (a.news c) fun q => .inr fun o e => by
    by_cases y : ∃ ps, o = .tbl ps
    · exact y
    · obtain ⟨o', n, q'⟩ := a.live c o (fun ps w => y ⟨ps, w⟩) e
      exact (q.no q' n).elim
  rsq := by rw [b.rsq, a.rsq]
  tsq := b.tsq.trans a.tsq
  res := fun c hc => (b.res c (by rw [a.rsq]; exact List.mem_cons_of_mem _ hc)).trans (a.res c hc)
  new := a.new
theorem kdB_.fill {p : Addr} {o : HO} (a : kdB_ ρ h H ρ' h' H' p) (no : ∃ vs, o = .lst vs) (hl : ∃ vs, H' p = Option.some (.lst vs)) : kdB_ ρ h H ρ' h' (upd H' p o) p where
  pre := a.pre
  wd := a.wd.fill no (by rw [a.rsq]; exact List.mem_cons_self) hl
  keep := fun c u n nt e => by rw [upd_ne (fun z => a.new.no (by rw [← z]; exact e) nt)]; exact a.keep c u n nt e
  live := fun c u n e => by rw [upd_ne (fun z => a.new.no (by rw [← z]; exact e) n)]; exact a.live c u n e
  news := a.news
  rsq := a.rsq
  tsq := a.tsq
  res := fun c hc => by
    by_cases z : c = p
    · rw [z] at hc
      obtain ⟨u, q⟩ := a.wd.there p (by rw [a.rsq]; exact List.mem_cons_self)
      have q2 := a.res p hc
      exact (a.new.no (by rw [← q2]; exact q) kgb_).elim
    · rw [upd_ne z]; exact a.res c hc
  new := a.new
theorem kdB_.value {p : Addr} {vs : List V} {ds : List D} (a : kdB_ ρ h H ρ' h' H' p) (w : Wd ρ h H) (e : H' p = some (.lst vs)) (al : Z.RAll ρ' (own ρ' h') H' vs ds) :
    ∃ ρ2, Step ρ h H ρ2 h' H' ∧ Z.R ρ2 (own ρ2 h') H' (.ref p) (.lst ds) := by
  have np : ¬ own (⟨ρ'.l, ρ.rs, ρ.ts⟩ : Rh) h' p := by
    rintro (z | ⟨k, o, e1, _⟩)
    · exact w.kmx_ a.new z
    · exact a.wd.dis p (by rw [a.rsq]; exact List.mem_cons_self) (List.mem_iff_getElem?.mpr ⟨k, e1⟩)
  have sub : ∀ b, own (⟨ρ'.l, ρ.rs, ρ.ts⟩ : Rh) h' b → own ρ' h' b := by
    rintro b (z | z)
    · exact .inl (by rw [a.rsq]; exact List.mem_cons_of_mem _ z)
    · exact .inr z
  refine ⟨⟨ρ'.l, ρ.rs, ρ.ts⟩, ⟨a.pre, ⟨a.wd.len, a.wd.nd, fun b hb => a.wd.dis b (by rw [a.rsq]; exact List.mem_cons_of_mem _ hb), fun b hb => a.wd.there b (by rw [a.rsq]; exact List.mem_cons_of_mem _ hb), by rw [← a.tsq]; exact a.wd.tabs, fun k b o e1 e2 => ?_⟩,
    a.keep, a.live, fun b z => a.news b (sub b z), rfl, rfl, a.res⟩, .lst e np (al.mono (ρ := ρ') (ρ' := ⟨ρ'.l, ρ.rs, ρ.ts⟩) (List.prefix_refl ρ'.l) (fun _ _ _ _ q => q) fun b z => .inl (sub b z))⟩
  exact (a.wd.at' k b o e1 e2).mono (ρ := ρ') (ρ' := ⟨ρ'.l, ρ.rs, ρ.ts⟩) (List.prefix_refl ρ'.l) (fun _ _ _ _ q => q) (fun b z => .inl (sub b z)) fun _ q => q
theorem kdB_.own {p : Addr} {vs : List V} {ds : List D} (a : kdB_ ρ h H ρ' h' H' p) (w : Wd ρ h H) (e : H' p = some (.lst vs)) (al : Z.RAll ρ' (own ρ' h') H' vs ds) :
    ∃ ρ2, Step ρ h H ρ2 (h' ++ [.lst ds]) H' ∧ Z.R ρ2 (Z.own ρ2 (h' ++ [.lst ds])) H' (.ref p) (.ptr h'.length) := by
  have pin : p ∈ ρ'.rs := by rw [a.rsq]; exact List.mem_cons_self
  have sub : ∀ b, Z.own (⟨ρ'.l ++ [p], ρ.rs, ρ.ts⟩ : Rh) (h' ++ [.lst ds]) b → Z.own ρ' h' b := by
    intro b z
    rcases khG_ (ρ := ⟨ρ'.l, ρ.rs, ρ.ts⟩) a.wd.len z with (z | z) | z
    · exact .inl (by rw [a.rsq]; exact List.mem_cons_of_mem _ z)
    · exact .inr z
    · exact .inl (by rw [z]; exact pin)
  refine ⟨⟨ρ'.l ++ [p], ρ.rs, ρ.ts⟩, ⟨a.pre.trans (List.prefix_append _ _), ⟨by simp [a.wd.len], ?_, fun b hb z => ?_, fun b hb => a.wd.there b (by rw [a.rsq]; exact List.mem_cons_of_mem _ hb), by rw [← a.tsq]; exact a.wd.tabs, fun k b o e1 e2 => ?_⟩,
    a.keep, a.live, fun b z => a.news b (sub b z), rfl, rfl, a.res⟩, .ptr ?_⟩
  · rw [List.nodup_append]
    exact ⟨a.wd.nd, by simp, fun b hb c hc z => by rw [List.mem_singleton.mp hc] at z; rw [z] at hb; exact a.wd.dis p pin hb⟩
  · rcases List.mem_append.mp z with z | z
    · exact a.wd.dis b (by rw [a.rsq]; exact List.mem_cons_of_mem _ hb) z
    · rw [List.mem_singleton.mp z] at hb; exact w.kmx_ a.new hb
  · by_cases hk : k < ρ'.l.length
    · rw [List.getElem?_append_left hk] at e1
      rw [List.getElem?_append_left (by rw [← a.wd.len]; exact hk)] at e2
      exact (a.wd.at' k b o e1 e2).mono (ρ' := ⟨ρ'.l ++ [p], ρ.rs, ρ.ts⟩) (List.prefix_append _ _) (fun _ _ _ _ q => q) (fun b z => .inl (sub b z)) fun _ q => q
    · have hl := a.wd.len
      have h1 : k < (ρ'.l ++ [p]).length := (List.getElem?_eq_some_iff.mp e1).1
      simp only [List.length_append, List.length_singleton] at h1
      have hk' : k = ρ'.l.length := by omega
      subst hk'
      rw [List.getElem?_append_right (Nat.le_refl _), Nat.sub_self] at e1
      rw [hl, List.getElem?_append_right (Nat.le_refl _), Nat.sub_self] at e2
      simp at e1 e2
      subst e1 e2
      exact ⟨vs, e, al.mono (List.prefix_append _ _) (fun _ _ _ _ q => q) fun b z => .inl (sub b z)⟩
  · rw [← a.wd.len]
    show (ρ'.l ++ [p])[ρ'.l.length]? = some p
    rw [List.getElem?_append_right (Nat.le_refl _), Nat.sub_self]
    rfl
end
def kpM_ (K : PySem.W.Frag) (N : Addr → Prop) (H : Hp) (a : Addr) (ns : List Int) : Prop :=
  (Rd H a (.lst (ns.map V.int)) ∧ ¬ N a) ∨
    ∃ (o : Obj) (its : Array Value) (n : Nat), K.lookup a = some o ∧ o.cls = .type "list" ∧ o.dict = none ∧ o.data = .seq its n ∧ its.size ≤ sizeLine ∧ Vals (ns.map V.int) its.toList
theorem kpM_.sq {K : PySem.W.Frag} {N : Addr → Prop} {H : Hp} {a : Addr} {ns : List Int} (x : kpM_ K N H a ns) : SqL K H a (ns.map V.int) := x.elim (fun y => .inl y.1) .inr
theorem kpM_.of {K : PySem.W.Frag} {N : Addr → Prop} {H : Hp} {a : Addr} {ns : List Int} (x : SqL K H a (ns.map V.int)) (n : ¬ N a) : kpM_ K N H a ns := x.elim (fun y => .inl ⟨y, n⟩) .inr
def SlOk (ex : Ex) (ρ : Rh) (N : Addr → Prop) (H : Hp) (o : Option V) : Sl → Prop
  | .un => True
  | .val d => ∃ v, o = some v ∧ R ρ N H v d
  | .exn ns xs => o = some (.ref ex.a) ∧ ∃ vs, H ex.x = some (.xd (ns.zip vs)) ∧ ¬ N ex.x ∧ ns.length = vs.length ∧ RAll ρ N H vs xs
  | .scr K a ns => o = some (.ref a) ∧ kpM_ K N H a ns
  | .cls C => o = some (.ref C)
  | .fn f c q σ ds => o = some (.ref f) ∧ H c = some (LamX.CodeO c q) ∧ ¬ N c ∧ σ.length = ds.length ∧ ∀ (i : Nat) (d : D), ds[i]? = some (some d) → ∃ v, σ[i]? = some (some v) ∧ R ρ N H v d
def Sls (ex : Ex) (ρ : Rh) (N : Addr → Prop) (H : Hp) (σ : L2.St) (δ : Env) : Prop :=
  (σ.length = δ.length ∧ ρ.ts = ex.T) ∧ ∀ (i : Nat) (s : Sl), δ[i]? = some s → ∃ o, σ[i]? = some o ∧ SlOk ex ρ N H o s
section
variable {ex : Ex} {ρ ρ' : Rh} {N N' : Addr → Prop} {h h' : OH} {H H' : Hp} {σ : L2.St} {δ : Env}
theorem SlOk.mono {o : Option V} {s : Sl} (pre : ρ.l <+: ρ'.l) (keep : ∀ a o, ¬ N a → (∀ ps, o ≠ .tbl ps) → H a = some o → H' a = some o) (news : ∀ a, N' a → N a ∨ NT H a) (x : SlOk ex ρ N H o s) : SlOk ex ρ' N' H' o s := by
  cases s with
  | un => trivial
  | val d => obtain ⟨v, e, r⟩ := x; exact ⟨v, e, r.mono pre keep news⟩
  | exn ns xs =>
    obtain ⟨e, vs, e1, n, l, r⟩ := x
    exact ⟨e, vs, keep _ _ n (fun _ z => nomatch z) e1, (fun z => (news _ z).elim n fun q => q.no e1 fun _ z => nomatch z), l, r.mono pre keep news⟩
  | scr K a ns =>
    obtain ⟨e, e1⟩ := x
    refine ⟨e, e1.elim (fun ⟨r, n⟩ => .inl ?_) .inr⟩
    refine ⟨(r.elim (fun r => .inl (keep _ _ n (fun _ z => nomatch z) r)) fun ⟨o, r⟩ => .inr ⟨o, keep _ _ n (fun _ z => nomatch z) r⟩), fun z => (news _ z).elim n fun q => ?_⟩
    rcases r with r | ⟨o, r⟩
    · exact q.no r fun _ z => nomatch z
    · exact q.no r fun _ z => nomatch z
  | cls C => exact x
  | fn f c q σ ds =>
    obtain ⟨e, e1, n, l, cap⟩ := x
    exact ⟨e, keep _ _ n (fun _ z => nomatch z) e1, (fun z => (news _ z).elim n fun q => q.no e1 fun _ z => nomatch z), l, fun i d hd => let ⟨v, h1, h2⟩ := cap i d hd; ⟨v, h1, h2.mono pre keep news⟩⟩
theorem Step.Sls (a : Step ρ h H ρ' h' H') (x : Sls ex ρ (own ρ h) H σ δ) : Sls ex ρ' (own ρ' h') H' σ δ :=
  ⟨⟨x.1.1, a.tsq.trans x.1.2⟩, fun i s e => let ⟨o, q, y⟩ := x.2 i s e; ⟨o, q, y.mono a.pre a.keep a.news⟩⟩
theorem Sls.val (x : Sls ex ρ N H σ δ) {i : Nat} {d : D} (e : δ[i]? = some (.val d)) : ∃ v, σ[i]? = some (some v) ∧ R ρ N H v d := by
  obtain ⟨o, q, v, rfl, r⟩ := x.2 i _ e
  exact ⟨v, q, r⟩
theorem Sls.set (x : Sls ex ρ N H σ δ) {i : Nat} {o : Option V} {s : Sl} (r : SlOk ex ρ N H o s) : Sls ex ρ N H (σ.set i o) (δ.set i s) := by
  refine ⟨⟨by simp [x.1.1], x.1.2⟩, fun j t e => ?_⟩
  by_cases hj : j = i
  · subst hj
    have hlt := (List.getElem?_eq_some_iff.mp e).1
    rw [List.length_set] at hlt
    rw [List.getElem?_set_self hlt] at e
    cases e
    exact ⟨o, List.getElem?_set_self (by rw [x.1.1]; exact hlt), r⟩
  · rw [List.getElem?_set_ne (Ne.symm hj)] at e
    obtain ⟨o', q, y⟩ := x.2 j t e
    exact ⟨o', by rw [List.getElem?_set_ne (Ne.symm hj)]; exact q, y⟩
end
def kao_ {α β : Type} (rel : Rh → OH → Hp → β → α → Prop) (W : Value → Option Addr → Hp → Prop) (ρ : Rh) (h : OH) (H : Hp) (r : Res α) (Q : β → Hp → Prop) : Prop :=
  match r with
  | .ok a h' => ∀ ρ' H' b, Step ρ h H ρ' h' H' → rel ρ' h' H' b a → Q b H'
  | .exc C ns xs h' => ∀ ρ' H' x vs, Step ρ h H ρ' h' H' → H' x = some (.xd (ns.zip vs)) → ¬ own ρ' h' x → ns.length = vs.length → RAll ρ' (own ρ' h') H' vs xs → W C (some x) H'
  | .bad => False
section
variable {α β γ δ : Type} {rel : Rh → OH → Hp → β → α → Prop} {rel2 : Rh → OH → Hp → δ → γ → Prop} {W W' : Value → Option Addr → Hp → Prop} {ρ ρ' : Rh} {h h' : OH} {H H' : Hp} {r : Res α}
  {Q Q' : β → Hp → Prop}
theorem kao_.step (p : kao_ rel W ρ h H r Q) (a : Step ρ h H ρ' h' H') : kao_ rel W ρ' h' H' r Q := by
  cases r with
  | ok d h2 => exact fun ρ2 H2 v b q => p ρ2 H2 v (a.trans b) q
  | exc C ns xs h2 => exact fun ρ2 H2 x vs b e n l q => p ρ2 H2 x vs (a.trans b) e n l q
  | bad => exact p
theorem kao_.imp (p : kao_ rel W ρ h H r Q) (hq : ∀ v H, Q v H → Q' v H) (hw : ∀ c d H, W c d H → W' c d H) : kao_ rel W' ρ h H r Q' := by
  cases r with
  | ok d h2 => exact fun ρ2 H2 v b q => hq _ _ (p ρ2 H2 v b q)
  | exc C ns xs h2 => exact fun ρ2 H2 x vs b e n l q => hw _ _ _ (p ρ2 H2 x vs b e n l q)
  | bad => exact p
theorem kao_.bind {a : M α} {f : α → M γ} {Q2 : δ → Hp → Prop} (p : kao_ rel2 W ρ h H (M.bind a f h) Q2) :
    kao_ rel W ρ h H (a h) (fun b H1 => ∃ ρ1 h1 x, Step ρ h H ρ1 h1 H1 ∧ rel ρ1 h1 H1 b x ∧ kao_ rel2 W ρ1 h1 H1 (f x h1) Q2) := by
  unfold M.bind at p
  cases e : a h with
  | ok x h1 =>
    rw [e] at p
    exact fun ρ1 H1 b s r => ⟨ρ1, h1, x, s, r, p.step s⟩
  | exc C ns xs h1 =>
    rw [e] at p
    exact p
  | bad =>
    rw [e] at p
    exact p
theorem kao_.pure {a : α} (p : kao_ rel W ρ h H (M.pure a h) Q) (w : Wd ρ h H) {b : β} (r : rel ρ h H b a) : Q b H := p ρ H b (Step.refl w) r
end
abbrev relV : Rh → OH → Hp → V → D → Prop := fun ρ h H v d => R ρ (own ρ h) H v d
abbrev relA : Rh → OH → Hp → List V → List D → Prop := fun ρ h H v d => RAll ρ (own ρ h) H v d
abbrev relB : Rh → OH → Hp → Bool → Bool → Prop := fun _ _ _ b a => b = a
abbrev WXat (W : WX) (σ : L2.St) : Value → Option Addr → Hp → Prop := fun c d H => W c d σ H
def tM (ex : Ex) (W : WX) (m : Env → M D) : TE := fun σ H Q => ∃ ρ h δ, Wd ρ h H ∧ Sls ex ρ (own ρ h) H σ δ ∧ kao_ relV (WXat W σ) ρ h H (m δ h) Q
def tA (ex : Ex) (W : WX) (m : Env → M (List D)) : TA := fun σ H Q => ∃ ρ h δ, Wd ρ h H ∧ Sls ex ρ (own ρ h) H σ δ ∧ kao_ relA (WXat W σ) ρ h H (m δ h) Q
def tT (ex : Ex) (W : WX) (m : Env → M Bool) : TT := fun σ H Q => ∃ ρ h δ, Wd ρ h H ∧ Sls ex ρ (own ρ h) H σ δ ∧ kao_ relB (WXat W σ) ρ h H (m δ h) Q
variable (ex : Ex) (X : Cx) (W : WX)
def DE (e : Expr) (m : Env → M D) : Prop := PE X e (tM ex W m)
def DA (es : List Expr) (m : Env → M (List D)) : Prop := PA X es (tA ex W m)
def DT (e : Expr) (m : Env → M Bool) : Prop := PT X e (tT ex W m)
inductive Fl where
  | nx (δ : Env) | rt (d : D) | bk (δ : Env) | ct (δ : Env)
inductive RS where
  | ok (f : Fl) (h : OH) | exc (C : Value) (ns : List Str) (vs : List D) (δ : Env) (h : OH) | bad
abbrev MS := Env → OH → RS
def khH_ (ex : Ex) (W : WX) (ρ : Rh) (h : OH) (H : Hp) (r : RS) (E : Ends) : Prop :=
  match r with
  | .ok (.nx δ) h' => ∀ ρ' H' σ, Step ρ h H ρ' h' H' → Sls ex ρ' (own ρ' h') H' σ δ → E.nx σ H'
  | .ok (.bk δ) h' => ∀ ρ' H' σ, Step ρ h H ρ' h' H' → Sls ex ρ' (own ρ' h') H' σ δ → E.bk σ H'
  | .ok (.ct δ) h' => ∀ ρ' H' σ, Step ρ h H ρ' h' H' → Sls ex ρ' (own ρ' h') H' σ δ → E.ct σ H'
  | .ok (.rt d) h' => ∀ ρ' H' v, Step ρ h H ρ' h' H' → R ρ' (own ρ' h') H' v d → E.rt v H'
  | .exc C ns xs δ h' => ∀ ρ' H' x vs σ, Step ρ h H ρ' h' H' → Sls ex ρ' (own ρ' h') H' σ δ → H' x = some (.xd (ns.zip vs)) → ¬ own ρ' h' x → ns.length = vs.length → RAll ρ' (own ρ' h') H' vs xs → W C (some x) σ H'
  | .bad => False
theorem khH_.step {ex : Ex} {W : WX} {ρ ρ' : Rh} {h h' : OH} {H H' : Hp} {r : RS} {E : Ends} (p : khH_ ex W ρ h H r E) (a : Step ρ h H ρ' h' H') : khH_ ex W ρ' h' H' r E := by
  cases r with
  | ok f h2 =>
    cases f with
    | nx δ => exact fun ρ2 H2 v b q => p ρ2 H2 v (a.trans b) q
    | bk δ => exact fun ρ2 H2 v b q => p ρ2 H2 v (a.trans b) q
    | ct δ => exact fun ρ2 H2 v b q => p ρ2 H2 v (a.trans b) q
    | rt d => exact fun ρ2 H2 v b q => p ρ2 H2 v (a.trans b) q
  | exc C ns xs δ h2 => exact fun ρ2 H2 x vs σ b s e n l q => p ρ2 H2 x vs σ (a.trans b) s e n l q
  | bad => exact p
def tS (ex : Ex) (W : WX) (m : MS) : TS := fun E σ H => ∃ ρ h δ, Wd ρ h H ∧ Sls ex ρ (own ρ h) H σ δ ∧ khH_ ex W ρ h H (m δ h) E
def DS (s : Stmt) (m : MS) : Prop := PS X s (tS ex W m)
def DSs (s : List Stmt) (m : MS) : Prop := PSs X s (tS ex W m)
end Z
set_option Elab.async false
set_option linter.all false
set_option maxRecDepth 100000
set_option maxHeartbeats 4000000
namespace Z
open PySem PySem.Spec PyProof.Rows L2 TL Y
abbrev lim : Nat := 16000000
theorem kaT_ {n : Nat} (h : n ≤ lim) : n ≤ sizeLine := by rw [sizeLine_eq]; show n ≤ 16777216; have : n ≤ 16000000 := h; omega
theorem kgc_ {x : Str} : PyData.strOk x = true ↔ ∀ c ∈ tl x, c < 1114112 := by
  unfold PyData.strOk
  rw [← Array.all_toList, List.all_eq_true]
  exact ⟨fun h c hc => of_decide_eq_true (h c hc), fun h c hc => decide_eq_true (h c hc)⟩
theorem kt3_ {x y : Str} (h : PyData.strOk x = true) (s : ∀ c ∈ tl y, c ∈ tl x) : PyData.strOk y = true := kgc_.mpr fun c hc => kgc_.mp h c (s c hc)
theorem kd8_ {x y : Str} (hx : PyData.strOk x = true) (hy : PyData.strOk y = true) : PyData.strOk (x ++ y) = true := kgc_.mpr fun c hc => by
  rw [tl_append] at hc
  exact (List.mem_append.mp hc).elim (kgc_.mp hx c) (kgc_.mp hy c)
theorem kpN_ (a b : Str) : (a ++ b).length = a.length + b.length := by rw [len_tl, tl_append, List.length_append, ← len_tl, ← len_tl]
theorem kU_ (s : String) : PyData.strOk (PySem.Str.ofString s) = true := kgc_.mpr fun c hc => by
  have e : tl (PySem.Str.ofString s) = s.toList.map Char.toNat := by
    rw [PySem.Str.ofString_eq_toList]
  rw [e] at hc
  obtain ⟨k, _, rfl⟩ := List.mem_map.mp hc
  have h := k.valid
  unfold UInt32.isValidChar Nat.isValidChar at h
  show k.val.toNat < 1114112
  omega
def kW_ (h : OH) : D → Option (List D)
  | .lst xs => some xs
  | .ptr k => match h[k]? with
    | some (.lst xs) => some xs
    | _ => none
  | _ => none
def kjD_ : D → Option (List D)
  | .tup xs => some xs
  | _ => none
def kgd_ (h : OH) (d : D) : Option (List D) := (kW_ h d).or (kjD_ d)
section
variable {ρ : Rh} {h : OH} {H : Hp} {v : V} {d : D} {xs : List D}
theorem kaE_ (w : Wd ρ h H) (r : R ρ (own ρ h) H v d) (e : kW_ h d = some xs) : ∃ a vs, v = .ref a ∧ H a = some (.lst vs) ∧ RAll ρ (own ρ h) H vs xs := by
  cases r with
  | lst e1 n al => cases e; exact ⟨_, _, rfl, e1, al⟩
  | @ptr k a e1 =>
    have e : (match h[k]? with
      | some (.lst xs) => some xs
      | _ => none) = some xs := e
    cases q : h[k]? with
    | none => rw [q] at e; cases e
    | some o =>
      rw [q] at e
      cases o with
      | lst ys =>
        cases e
        obtain ⟨vs, e2, al⟩ := w.at' k a _ e1 q
        exact ⟨a, vs, rfl, e2, al⟩
      | _ => cases e
  | _ => cases e
theorem keJ_ (r : R ρ (own ρ h) H v d) (e : kjD_ d = some xs) : ∃ a vs, v = .ref a ∧ H a = some (.tup vs) ∧ ¬ own ρ h a ∧ RAll ρ (own ρ h) H vs xs ∧ d = .tup xs := by
  cases r with
  | tup e1 n al => cases e; exact ⟨_, _, rfl, e1, n, al, rfl⟩
  | _ => cases e
theorem kpO_ (w : Wd ρ h H) (r : R ρ (own ρ h) H v d) (e : kgd_ h d = some xs) : ∃ a vs, v = .ref a ∧ (H a = some (.lst vs) ∨ H a = some (.tup vs)) ∧ RAll ρ (own ρ h) H vs xs := by
  unfold kgd_ at e
  cases q : kW_ h d with
  | some ys =>
    rw [q] at e
    cases e
    obtain ⟨a, vs, e1, e2, e3⟩ := kaE_ w r q
    exact ⟨a, vs, e1, .inl e2, e3⟩
  | none =>
    rw [q] at e
    obtain ⟨a, vs, e1, e2, _, e3, _⟩ := keJ_ r (by simpa using e)
    exact ⟨a, vs, e1, .inr e2, e3⟩
theorem krI_ (w : Wd ρ h H) {p : Addr} {vs : List V} (e : H p = none) (al : RAll ρ (own ρ h) H vs xs) : R ρ (own ρ h) (upd H p (.lst vs)) (.ref p) (.lst xs) :=
  .lst upd_same (w.not e) ((w.new (.lst vs) e).RAll al)
theorem kmy_ (w : Wd ρ h H) {p : Addr} {vs : List V} (e : H p = none) (al : RAll ρ (own ρ h) H vs xs) : R ρ (own ρ h) (upd H p (.tup vs)) (.ref p) (.tup xs) :=
  .tup upd_same (w.not e) ((w.new (.tup vs) e).RAll al)
end
abbrev O2 := OH → D → D → Option D
def rD (op : O2) : R2 := fun x y H Q => ∃ ρ h d e z, Wd ρ h H ∧ R ρ (own ρ h) H x d ∧ R ρ (own ρ h) H y e ∧ op h d e = some z ∧ ∀ ρ' H' v, Step ρ h H ρ' h H' → R ρ' (own ρ' h) H' v z → Q v H'
def OpD (X : Cx) (f : Value → Value → Sem Value) (op : O2) : Prop := OpR X f (rD op)
def o2or (a b : O2) : O2 := fun h d e => (a h d e).or (b h d e)
def klj_ (f : OH → Option D) : M D := fun h => match f h with
  | some z => .ok z h
  | none => .bad
def mOp2 (op : O2) (ma mb : Env → M D) : Env → M D := fun δ => M.bind (ma δ) fun d => M.bind (mb δ) fun e => klj_ fun h => op h d e
section
variable {ex : Ex} {X : Cx} {W : WX} {f : Value → Value → Sem Value} {a b : O2}
theorem OpD.or (ha : OpD X f a) (hb : OpD X f b) : OpD X f (o2or a b) := by
  intro pins s σ H x y v u Q I rx ry ⟨ρ, h, d, e, z, w, r1, r2, hz, q⟩
  unfold o2or at hz
  cases p : a h d e with
  | some y' =>
    rw [p] at hz; cases hz
    exact ha pins s σ H x y v u Q I rx ry ⟨ρ, h, d, e, z, w, r1, r2, p, q⟩
  | none =>
    rw [p] at hz
    exact hb pins s σ H x y v u Q I rx ry ⟨ρ, h, d, e, z, w, r1, r2, by simpa using hz, q⟩
theorem OpD.of {r : R2} (ho : OpR X f r) (h : ∀ ρ h H d e z x y Q, Wd ρ h H → R ρ (own ρ h) H x d → R ρ (own ρ h) H y e → a h d e = some z → (∀ ρ' H' v, Step ρ h H ρ' h H' → R ρ' (own ρ' h) H' v z → Q v H') → r x y H Q) : OpD X f a :=
  fun pins s σ H x y v u Q I rx ry ⟨ρ, h', d, e, z, w, r1, r2, hz, q⟩ => ho pins s σ H x y v u Q I rx ry (h ρ h' H d e z x y Q w r1 r2 hz q)
theorem khI_ {ma mb : Env → M D} {op : O2} {σ : L2.St} {H : Hp} {Q : VK} (p : tM ex W (mOp2 op ma mb) σ H Q) : tOp (rD op) (tM ex W ma) (tM ex W mb) σ H Q := by
  obtain ⟨ρ, h, δ, w, sl, p⟩ := p
  refine ⟨ρ, h, δ, w, sl, (kao_.bind (rel := relV) p).imp (fun x H1 ⟨ρ1, h1, d, s1, r1, p1⟩ => ?_) fun _ _ _ z => z⟩
  refine ⟨ρ1, h1, δ, s1.wd, s1.Sls sl, (kao_.bind (rel := relV) p1).imp (fun y H2 ⟨ρ2, h2, e, s2, r2, p2⟩ => ?_) fun _ _ _ z => z⟩
  have p2 : kao_ relV (WXat W σ) ρ2 h2 H2 (match op h2 d e with
    | some z => .ok z h2
    | none => .bad) Q := p2
  cases hz : op h2 d e with
  | none => rw [hz] at p2; exact p2.elim
  | some z =>
    rw [hz] at p2
    exact ⟨ρ2, h2, d, e, z, s2.wd, s2.R r1, r2, hz, fun ρ' H' v s r => p2 ρ' H' v s r⟩
theorem DE.of {e : Expr} {t : TE} {m : Env → M D} (h : PE X e t) (hm : ∀ σ H Q, tM ex W m σ H Q → t σ H Q) : DE ex X W e m := ⟨fun pins s σ H Q I q => h.run pins s σ H Q I (hm σ H Q q)⟩
theorem DT.of {e : Expr} {t : TT} {m : Env → M Bool} (h : PT X e t) (hm : ∀ σ H Q, tT ex W m σ H Q → t σ H Q) : DT ex X W e m := ⟨fun pins s σ H Q I q => h.run pins s σ H Q I (hm σ H Q q)⟩
theorem DS.of {e : Stmt} {t : TS} {m : MS} (h : PS X e t) (hm : ∀ D σ H, tS ex W m D σ H → t D σ H) : DS ex X W e m := ⟨fun pins s σ H D I q => h.run pins s σ H D I (hm D σ H q)⟩
theorem DSs.of {e : List Stmt} {t : TS} {m : MS} (h : PSs X e t) (hm : ∀ D σ H, tS ex W m D σ H → t D σ H) : DSs ex X W e m := ⟨fun pins s σ H D I q => h.run pins s σ H D I (hm D σ H q)⟩
theorem kcv_ {x y : Expr} {pos : Pos} {o : Operator} {op : O2} {ma mb : Env → M D} (ho : OpD X (binaryOp o) op) (ha : DE ex X W x ma) (hb : DE ex X W y mb) : DE ex X W (.BinOp x o y pos) (mOp2 op ma mb) :=
  .of (pe_op ho ha hb) fun _ _ _ p => khI_ p
theorem kge_ {x y : Expr} {pos : Pos} {o : CmpOp} {op : O2} {ma mb : Env → M D} (ho : OpD X (compareOp o) op) (ha : DE ex X W x ma) (hb : DE ex X W y mb) (hm : behindInMarks o y = false) : DE ex X W (.Compare x [o] [y] pos) (mOp2 op ma mb) :=
  .of (pe_cmpR ho ha hb hm) fun _ _ _ p => khI_ p
end
def i2 (g : Int → Int → Option D) : O2 := fun _ d e => match d, e with
  | .int i, .int j => g i j
  | _, _ => none
section
variable {X : Cx} {f : Value → Value → Sem Value}
theorem ko8_ {g : Int → Int → Option D} {r : R2} (ho : OpR X f r) (h : ∀ i j z, g i j = some z → ∃ v, (∀ ρ N H, R ρ N H v z) ∧ ∀ (H : Hp) (Q : VK), Q v H → r (.int i) (.int j) H Q) : OpD X f (i2 g) :=
  .of ho fun ρ hh H d e z x y Q w r1 r2 hz q => by
    cases d <;> try (cases hz; done)
    cases e <;> try (cases hz; done)
    cases r1
    cases r2
    obtain ⟨v, hv, hr⟩ := h _ _ z hz
    exact hr H Q (q ρ H v (Step.refl w) (hv _ _ _))
def iAdd : O2 := i2 fun i j => some (.int (i + j))
def iSub : O2 := i2 fun i j => some (.int (i - j))
def iMul : O2 := i2 fun i j => if (-(2 ^ 64) < i ∧ i < 2 ^ 64) ∨ (-(2 ^ 64) < j ∧ j < 2 ^ 64) then some (.int (i * j)) else none
def iDiv : O2 := i2 fun i j => if j ≠ 0 ∧ j.natAbs < 1073741824 then some (.int (i.fdiv j)) else none
def iMod : O2 := i2 fun i j => if j ≠ 0 then some (.int (i.fmod j)) else none
def iPow : O2 := i2 fun i j => if 0 ≤ j ∧ j ≤ 1000000 ∧ i.natAbs < 2 ^ 64 then some (.int (i ^ j.toNat)) else none
theorem kpP_ : OpD X (binaryOp .Add) iAdd := ko8_ op_add fun i j z e => ⟨_, fun _ _ _ => by cases e; exact .int _, fun H Q q => ⟨i, j, rfl, rfl, q⟩⟩
theorem kpQ_ : OpD X (binaryOp .Sub) iSub := ko8_ op_sub fun i j z e => ⟨_, fun _ _ _ => by cases e; exact .int _, fun H Q q => ⟨i, j, rfl, rfl, q⟩⟩
theorem kpR_ : OpD X (binaryOp .Mult) iMul := ko8_ op_mul fun i j z e => by
  by_cases c : (-(2 ^ 64) < i ∧ i < 2 ^ 64) ∨ (-(2 ^ 64) < j ∧ j < 2 ^ 64)
  · rw [if_pos c] at e
    exact ⟨_, fun _ _ _ => by cases e; exact .int _, fun H Q q => ⟨i, j, rfl, rfl, c, q⟩⟩
  · rw [if_neg c] at e; cases e
theorem kmz_ : OpD X (binaryOp .FloorDiv) iDiv := ko8_ op_fdivN fun i j z e => by
  by_cases c : j ≠ 0 ∧ j.natAbs < 1073741824
  · rw [if_pos c] at e
    exact ⟨_, fun _ _ _ => by cases e; exact .int _, fun H Q q => ⟨i, j, rfl, rfl, c, q⟩⟩
  · rw [if_neg c] at e; cases e
theorem keK_ : OpD X (binaryOp .Mod) iMod := ko8_ op_modN fun i j z e => by
  by_cases c : j ≠ 0
  · rw [if_pos c] at e
    exact ⟨_, fun _ _ _ => by cases e; exact .int _, fun H Q q => ⟨i, j, rfl, rfl, c, q⟩⟩
  · rw [if_neg c] at e; cases e
theorem khJ_ : OpD X (binaryOp .Pow) iPow := ko8_ op_pow fun i j z e => by
  by_cases c : 0 ≤ j ∧ j ≤ 1000000 ∧ i.natAbs < 2 ^ 64
  · rw [if_pos c] at e
    exact ⟨_, fun _ _ _ => by cases e; exact .int _, fun H Q q => ⟨i, j, rfl, rfl, c, q⟩⟩
  · rw [if_neg c] at e; cases e
def iLt : O2 := i2 fun i j => some (.bl (decide (i < j)))
def iLe : O2 := i2 fun i j => some (.bl (decide (i ≤ j)))
def iGt : O2 := i2 fun i j => some (.bl (decide (j < i)))
def iGe : O2 := i2 fun i j => some (.bl (decide (j ≤ i)))
theorem krJ_ : OpD X (compareOp .Lt) iLt := ko8_ op_lt fun i j z e => ⟨_, fun _ _ _ => by cases e; exact .bl _, fun H Q q => ⟨i, j, rfl, rfl, q⟩⟩
theorem ko9_ : OpD X (compareOp .Gt) iGt := ko8_ op_gt fun i j z e => ⟨_, fun _ _ _ => by cases e; exact .bl _, fun H Q q => ⟨i, j, rfl, rfl, q⟩⟩
def sAdd : O2 := fun _ d e => match d, e with
  | .str a, .str b => if a.length + b.length ≤ lim then some (.str (a ++ b)) else none
  | _, _ => none
theorem kpS_ : OpD X (binaryOp .Add) sAdd := .of op_add_str fun ρ hh H d e z x y Q w r1 r2 hz q => by
  cases d <;> try (cases hz; done)
  cases e <;> try (cases hz; done)
  cases r1 with
  | str o1 l1 =>
    cases r2 with
    | str o2 l2 =>
      rename_i a b
      unfold sAdd at hz
      dsimp only at hz
      by_cases c : a.length + b.length ≤ lim
      · rw [if_pos c] at hz
        cases hz
        exact ⟨_, _, rfl, rfl, kaT_ c, q ρ H _ (Step.refl w) (.str (kd8_ o1 o2) (by rw [kpN_]; exact kaT_ c))⟩
      · rw [if_neg c] at hz; cases hz
def tAdd : O2 := fun _ d e => match kjD_ d, kjD_ e with
  | some xs, some ys => if xs.isEmpty = false ∧ xs.length + ys.length ≤ lim then some (.tup (xs ++ ys)) else none
  | _, _ => none
theorem kpT_ : OpD X (binaryOp .Add) tAdd := .of op_catT fun ρ hh H d e z x y Q w r1 r2 hz q => by
  unfold tAdd at hz
  cases e1 : kjD_ d with
  | none => rw [e1] at hz; cases hz
  | some xs =>
    cases e2 : kjD_ e with
    | none => rw [e1, e2] at hz; cases hz
    | some ys =>
      rw [e1, e2] at hz
      dsimp only at hz
      by_cases c : xs.isEmpty = false ∧ xs.length + ys.length ≤ lim
      · rw [if_pos c] at hz
        cases hz
        obtain ⟨a, vs, rfl, h1, n1, a1, rfl⟩ := keJ_ r1 e1
        obtain ⟨b, us, rfl, h2, n2, a2, rfl⟩ := keJ_ r2 e2
        have l1 := a1.length
        have l2 := a2.length
        refine ⟨a, b, vs, us, rfl, rfl, SqT.of h1, SqT.of h2, fun z => ?_, by rw [l1, l2]; exact kaT_ c.2, fun z => ?_, fun _ p hp => ?_⟩
        · rw [z] at l1
          have : xs = [] := List.length_eq_zero_iff.mp l1.symm
          rw [this] at c
          exact Bool.noConfusion c.1
        · have : ys = [] := by rw [z] at l2; exact List.length_eq_zero_iff.mp l2.symm
          subst this
          rw [List.append_nil] at q
          exact q ρ H _ (Step.refl w) (.tup h1 n1 a1)
        · exact q ρ _ _ (w.new _ hp) (kmy_ w hp (a1.append a2))
      · rw [if_neg c] at hz; cases hz
def lAdd : O2 := fun h d e => match kW_ h d, kW_ h e with
  | some xs, some ys => if xs.length + ys.length ≤ lim then some (.lst (xs ++ ys)) else none
  | _, _ => none
theorem kpU_ : OpD X (binaryOp .Add) lAdd := .of op_cat fun ρ hh H d e z x y Q w r1 r2 hz q => by
  unfold lAdd at hz
  cases e1 : kW_ hh d with
  | none => rw [e1] at hz; cases hz
  | some xs =>
    cases e2 : kW_ hh e with
    | none => rw [e1, e2] at hz; cases hz
    | some ys =>
      rw [e1, e2] at hz
      dsimp only at hz
      by_cases c : xs.length + ys.length ≤ lim
      · rw [if_pos c] at hz
        cases hz
        obtain ⟨a, vs, rfl, h1, a1⟩ := kaE_ w r1 e1
        obtain ⟨b, us, rfl, h2, a2⟩ := kaE_ w r2 e2
        exact ⟨a, b, vs, us, rfl, rfl, h1, h2, by rw [a1.length, a2.length]; exact kaT_ c, fun p hp => q ρ _ _ (w.new _ hp) (krI_ w hp (a1.append a2))⟩
      · rw [if_neg c] at hz; cases hz
def dAdd : O2 := o2or iAdd (o2or sAdd (o2or lAdd tAdd))
theorem kaf_ : OpD X (binaryOp .Add) dAdd := kpP_.or (kpS_.or (kpU_.or kpT_))
end
end Z
set_option Elab.async false
set_option linter.all false
set_option maxRecDepth 100000
set_option maxHeartbeats 4000000
namespace Z
open PySem PySem.Spec PyProof.Rows L2 TL Y
theorem krK_ (k : Char) : k.toNat < 1114112 := by
  have h := k.valid
  unfold UInt32.isValidChar Nat.isValidChar at h
  show k.val.toNat < 1114112
  omega
theorem klL_ {q c : Nat} (hq : q < 1114112) (hc : c < 1114112) : ∀ d ∈ Builtin.Str.reprChar q c, d < 1114112 := by
  intro d hd
  have hex : ∀ w, d ∈ List.replicate (w - ((Nat.toDigits 16 c).map Char.toNat).length) 48 ++ (Nat.toDigits 16 c).map Char.toNat → d < 1114112 := by
    intro w h
    rcases List.mem_append.mp h with h | h
    · have := (List.mem_replicate.mp h).2; omega
    · obtain ⟨k, _, rfl⟩ := List.mem_map.mp h; exact krK_ k
  unfold Builtin.Str.reprChar at hd
  dsimp only at hd
  have two : ∀ a b : Nat, a < 1114112 → b < 1114112 → d ∈ [a, b] → d < 1114112 := fun a b ha hb h => by
    rcases List.mem_cons.mp h with rfl | h
    · exact ha
    · rw [List.mem_singleton.mp h]; exact hb
  split at hd
  · exact two _ _ (by decide) hc hd
  · split at hd
    · exact two _ _ (by decide) (by decide) hd
    · split at hd
      · exact two _ _ (by decide) (by decide) hd
      · split at hd
        · exact two _ _ (by decide) (by decide) hd
        · split at hd
          · rw [List.mem_singleton.mp hd]; exact hc
          · split at hd
            · rcases List.mem_append.mp hd with h | h
              · exact two _ _ (by decide) (by decide) h
              · exact hex 2 h
            · split at hd
              · rcases List.mem_append.mp hd with h | h
                · exact two _ _ (by decide) (by decide) h
                · exact hex 4 h
              · rcases List.mem_append.mp hd with h | h
                · exact two _ _ (by decide) (by decide) h
                · exact hex 8 h
theorem klM_ {x : Str} (h : PyData.strOk x = true) : PyData.strOk (reprText x) = true := by
  refine kgc_.mpr fun c hc => ?_
  have hq : reprQuote x < 1114112 := by unfold reprQuote; split <;> decide
  have go : ∀ (l : List Nat) (acc : Array Nat), (∀ c ∈ l, c < 1114112) → (∀ c ∈ acc.toList, c < 1114112) →
      ∀ c ∈ (l.foldl (fun out c => out ++ (Builtin.Str.reprChar (reprQuote x) c).toArray) acc).toList, c < 1114112 := by
    intro l
    induction l with
    | nil => intro acc _ h2 c hc; exact h2 c hc
    | cons a r ih =>
      intro acc h1 h2 c hc
      refine ih _ (fun d hd => h1 d (List.mem_cons_of_mem _ hd)) (fun d hd => ?_) c hc
      rw [Array.toList_append] at hd
      rcases List.mem_append.mp hd with hd | hd
      · exact h2 d hd
      · exact klL_ hq (h1 a List.mem_cons_self) d hd
  have e : tl (reprText x) = (x.cps.toList.foldl (fun out c => out ++ (Builtin.Str.reprChar (reprQuote x) c).toArray) #[reprQuote x]).toList ++ [reprQuote x] := by
    unfold reprText
    simp [tl]
  rw [e] at hc
  rcases List.mem_append.mp hc with hc | hc
  · exact go _ _ (fun c hc => kgc_.mp h c hc) (fun c hc => by simp at hc; rw [hc]; exact hq) c hc
  · rw [List.mem_singleton.mp hc]; exact hq
theorem kmA_ {sep : Str} (hs : PyData.strOk sep = true) : ∀ {l : List Str}, (∀ x ∈ l, PyData.strOk x = true) → PyData.strOk (Str.join sep l) = true
  | [], _ => kU_ ""
  | [x], h => h x List.mem_cons_self
  | x :: y :: r, h => by
    show PyData.strOk (x ++ sep ++ Str.join sep (y :: r)) = true
    exact kd8_ (kd8_ (h x List.mem_cons_self) hs) (kmA_ hs fun z hz => h z (List.mem_cons_of_mem _ hz))
theorem khu_ : ∀ (l : List Str) (k : Nat) (acc : Str), PyData.strOk acc = true → (∀ x ∈ l, PyData.strOk x = true) → PyData.strOk (textFrom k acc l) = true
  | [], _, _, h, _ => h
  | t :: ts, k, acc, h, hl => by
    refine khu_ ts (k + 1) _ (kd8_ (kd8_ h ?_) (hl t List.mem_cons_self)) fun z hz => hl z (List.mem_cons_of_mem _ hz)
    split <;> exact kU_ _
mutual
theorem khK_ : ∀ d : PyData, cpOk d = true → PyData.strOk d.shown = true
  | .none, _ => kU_ "None"
  | .bool b, _ => by cases b <;> exact kU_ _
  | .int i, _ => kU_ _
  | .str x, h => klM_ (by simpa only [cpOk] using h)
  | .list xs, h => by
    have := kdY_ xs (by simpa only [cpOk] using h)
    show PyData.strOk (listText (PyData.shownAll xs)) = true
    unfold listText
    exact kd8_ (khu_ _ _ _ (kU_ "[") this) (kU_ "]")
  | .tuple xs, h => by
    have := kdY_ xs (by simpa only [cpOk] using h)
    show PyData.strOk (tupleText (PyData.shownAll xs)) = true
    unfold tupleText
    refine kd8_ (kd8_ (kU_ "(") (kmA_ (kU_ _) this)) ?_
    split <;> exact kU_ _
  | .dict kvs, h => by
    have := kjE_ kvs (by simpa only [cpOk] using h)
    show PyData.strOk (dictText (PyData.shownKv kvs)) = true
    unfold dictText
    exact kd8_ (kd8_ (kU_ "{") (kmA_ (kU_ _) this)) (kU_ "}")
theorem kdY_ : ∀ ds : List PyData, keF_ ds = true → ∀ x ∈ PyData.shownAll ds, PyData.strOk x = true
  | [], _, _, h => by simp [PyData.shownAll] at h
  | d :: ds, h, x, hx => by
    have h' : cpOk d = true ∧ keF_ ds = true := by simpa only [keF_, Bool.and_eq_true] using h
    rcases List.mem_cons.mp (show x ∈ d.shown :: PyData.shownAll ds from hx) with rfl | hx
    · exact khK_ d h'.1
    · exact kdY_ ds h'.2 x hx
theorem kjE_ : ∀ ds : List (PyData × PyData), cpKv ds = true → ∀ x ∈ PyData.shownKv ds, PyData.strOk x = true
  | [], _, _, h => by simp [PyData.shownKv] at h
  | (a, b) :: ds, h, x, hx => by
    have h' : (cpOk a = true ∧ cpOk b = true) ∧ cpKv ds = true := by simpa only [cpKv, Bool.and_eq_true] using h
    rcases List.mem_cons.mp (show x ∈ (a.shown ++ ": " ++ b.shown) :: PyData.shownKv ds from hx) with rfl | hx
    · exact kd8_ (kd8_ (khK_ a h'.1.1) (kU_ _)) (khK_ b h'.1.2)
    · exact kjE_ ds h'.2 x hx
end
def kP : Key → PyData
  | .inl i => .int i
  | .inr x => .str x
mutual
def pyD (o : Nat → Option PyData) : D → Option PyData
  | .non => some .none
  | .bl b => some (.bool b)
  | .int i => some (.int i)
  | .str x => some (.str x)
  | .lst xs => (pyL o xs).map .list
  | .tup xs => (pyL o xs).map .tuple
  | .dct ks vs => if ks.all (fun k => match k with | .inl _ => true | .inr x => PyData.strOk x) && ks.length == vs.length then (pyL o vs).map fun ps => .dict ((ks.map kP).zip ps) else none
  | .ptr k => o k
  | .dcT ks vs => if ks.all (fun k => k.all (fun k => match k with | .inl _ => true | .inr x => PyData.strOk x)) && ks.length == vs.length then (pyL o vs).map fun ps => .dict ((ks.map fun k => PyData.tuple (k.map kPd)).zip ps) else none
  | .ins _ _ _ => none
def pyL (o : Nat → Option PyData) : List D → Option (List PyData)
  | [] => some []
  | x :: xs => (pyD o x).bind fun p => (pyL o xs).map fun ps => p :: ps
end
def okLf (k : Lf) : Bool := match k with
  | .str x => PyData.strOk x
  | _ => true
def pyO : Nat → OH → Nat → Option PyData
  | 0, _, _ => none
  | n + 1, h, k => match h[k]? with
    | some (.lst xs) => (pyL (pyO n h) xs).map .list
    | some (.dct ks vs) => pyD (pyO n h) (.dct ks vs)
    | some (.dcT ks vs) => pyD (pyO n h) (.dcT ks vs)
    | some (.mix ks vs) => if ks.all okLf && ks.length == vs.length then (pyL (pyO n h) vs).map fun ps => .dict ((ks.map lfP).zip ps) else none
    | _ => none
def py (h : OH) (d : D) : Option PyData := pyD (pyO 8 h) d
section
variable {ρ : Rh} {N : Addr → Prop} {h : OH} {H : Hp} {o : Nat → Option PyData}
theorem krL_ {ks : List Key} {vs : List V} (l : ks.length = vs.length) : (ks.zip vs).map (fun p => kV p.1) = ks.map kV ∧ (ks.zip vs).map (fun p => p.2) = vs := by
  constructor
  · rw [show (fun p : Key × V => kV p.1) = kV ∘ Prod.fst from rfl, ← List.map_map, List.map_fst_zip (by omega)]
  · exact List.map_snd_zip (by omega)
theorem krM_ (ks : List Key) : ka5_ No H (ks.map kV) (ks.map kP) := by
  induction ks with
  | nil => exact .nil
  | cons k r ih => exact .cons (by cases k <;> constructor) ih
theorem kdD_ : ∀ {xs : List D} {ps : List PyData}, pyL o xs = some ps → ps.length = xs.length
  | [], ps, e => by simp only [pyL] at e; cases e; rfl
  | x :: xs, ps, e => by
    simp only [pyL] at e
    cases e1 : pyD o x with
    | none => rw [e1] at e; cases e
    | some p =>
      rw [e1, Option.bind_some] at e
      cases e2 : pyL o xs with
      | none => rw [e2] at e; cases e
      | some qs =>
        rw [e2] at e; cases e
        simp [kdD_ e2]
theorem krN_ {a : Addr} {ks : List Key} {vs : List V} {xs : List D} {q : PyData} (rd : Rd H a (.dK (ks.zip vs))) (l : ks.length = vs.length) (la : vs.length = xs.length) (dq : ∀ ps, pyL o xs = some ps → ka5_ No H vs ps ∧ keF_ ps = true) (e : pyD o (.dct ks xs) = some q) :
    Dq No H (.ref a) q ∧ cpOk q = true := by
  simp only [pyD] at e
  split at e
  · rename_i hk
    cases e2 : pyL o xs with
    | none => rw [e2] at e; cases e
    | some ps =>
      rw [e2] at e
      cases e
      have z := krL_ l
      have lp := kdD_ e2
      have hm : ((ks.map kP).zip ps).map (fun p => p.1) = ks.map kP := List.map_fst_zip (by simp; omega)
      have hm2 : ((ks.map kP).zip ps).map (fun p => p.2) = ps := List.map_snd_zip (by simp; omega)
      refine ⟨.dct rd id (by rw [z.1, hm]; exact krM_ ks) (by rw [z.2, hm2]; exact (dq ps e2).1), ?_⟩
      have hc := (dq ps e2).2
      rw [Bool.and_eq_true] at hk
      simp only [cpOk]
      have go : ∀ (ks : List Key) (ps : List PyData), ks.all (fun k => match k with | .inl _ => true | .inr x => PyData.strOk x) = true → keF_ ps = true → cpKv ((ks.map kP).zip ps) = true := by
        intro ks
        induction ks with
        | nil => intro ps _ _; rfl
        | cons k r ih =>
          intro ps h1 h2
          cases ps with
          | nil => rfl
          | cons p q =>
            rw [List.all_cons, Bool.and_eq_true] at h1
            have h2' : cpOk p = true ∧ keF_ q = true := by simpa only [keF_, Bool.and_eq_true] using h2
            show (cpOk (kP k) && cpOk p && cpKv ((r.map kP).zip q)) = true
            rw [h2'.1, ih q h1.2 h2'.2]
            cases k with
            | inl i => rfl
            | inr x =>
              have h3 : PyData.strOk x = true := h1.1
              simp only [kP, cpOk]
              rw [h3]
              rfl
      exact go ks ps hk.1 hc
  · cases e
theorem krO_ {a : Addr} {ks : List (List Key)} {vs : List V} {xs : List D} {q : PyData} (rd : Rd H a (.dT (ks.zip vs))) (l : ks.length = vs.length) (la : vs.length = xs.length) (dq : ∀ ps, pyL o xs = some ps → ka5_ No H vs ps ∧ keF_ ps = true) (e : pyD o (.dcT ks xs) = some q) :
    Dq No H (.ref a) q ∧ cpOk q = true := by
  simp only [pyD] at e
  split at e
  · rename_i hk
    cases e4 : pyL o xs with
    | none => rw [e4] at e; cases e
    | some ps =>
      rw [e4] at e
      cases e
      have dq := dq ps e4
      have lp := kdD_ e4
      have m1 : ((ks.map fun k => PyData.tuple (k.map kPd)).zip ps).map (fun p => p.1) = ks.map fun k => PyData.tuple (k.map kPd) := List.map_fst_zip (by simp; omega)
      have m2 : ((ks.map fun k => PyData.tuple (k.map kPd)).zip ps).map (fun p => p.2) = ps := List.map_snd_zip (by simp; omega)
      have n1 : (ks.zip vs).map (fun p => PyData.tuple (p.1.map kPd)) = ks.map fun k => PyData.tuple (k.map kPd) := by
        rw [show (fun p : List Key × V => PyData.tuple (p.1.map kPd)) = (fun k => PyData.tuple (k.map kPd)) ∘ Prod.fst from rfl, ← List.map_map, List.map_fst_zip (by omega)]
      have n2 : (ks.zip vs).map (fun p => p.2) = vs := List.map_snd_zip (by omega)
      refine ⟨.dT rd id (by rw [m1, n1]) (by rw [n2, m2]; exact dq.1), ?_⟩
      rw [Bool.and_eq_true] at hk
      simp only [cpOk]
      have one : ∀ k : List Key, k.all (fun k => match k with | .inl _ => true | .inr x => PyData.strOk x) = true → keF_ (k.map kPd) = true := by
        intro k
        induction k with
        | nil => intro _; rfl
        | cons x r ih =>
          intro h1
          rw [List.all_cons, Bool.and_eq_true] at h1
          rw [List.map_cons]
          simp only [keF_, ih h1.2, Bool.and_true]
          cases x with
          | inl i => rfl
          | inr y => simp only [kPd, cpOk]; exact h1.1
      have go : ∀ (ks : List (List Key)) (ps : List PyData), ks.all (fun k => k.all (fun k => match k with | .inl _ => true | .inr x => PyData.strOk x)) = true → keF_ ps = true → cpKv ((ks.map fun k => PyData.tuple (k.map kPd)).zip ps) = true := by
        intro ks
        induction ks with
        | nil => intro ps _ _; rfl
        | cons k r ih =>
          intro ps h1 h2
          cases ps with
          | nil => rfl
          | cons p q =>
            rw [List.all_cons, Bool.and_eq_true] at h1
            have h2' : cpOk p = true ∧ keF_ q = true := by simpa only [keF_, Bool.and_eq_true] using h2
            show (cpOk (.tuple (k.map kPd)) && cpOk p && cpKv ((r.map fun k => PyData.tuple (k.map kPd)).zip q)) = true
            rw [h2'.1, ih q h1.2 h2'.2]
            simp only [cpOk, one k h1.1, Bool.and_self]
      exact go ks ps hk.1 dq.2
  · cases e
theorem kw6_ {a : Addr} {od : Obj} {ks : List Lf} {vs : List V} {xs : List D} {q : PyData} (rd : H a = some (mixO od)) (w : RawD od (ks.zip vs)) (l : ks.length = vs.length) (la : vs.length = xs.length) (dq : ∀ ps, pyL o xs = some ps → ka5_ No H vs ps ∧ keF_ ps = true)
    (e : (if ks.all okLf && ks.length == xs.length then (pyL o xs).map fun ps => PyData.dict ((ks.map lfP).zip ps) else none) = some q) :
    Dq No H (.ref a) q ∧ cpOk q = true := by
  split at e
  · rename_i hk
    cases e4 : pyL o xs with
    | none => rw [e4] at e; cases e
    | some ps =>
      rw [e4] at e
      cases e
      have dq := dq ps e4
      have lp := kdD_ e4
      have m1 : ((ks.map lfP).zip ps).map (fun p => p.1) = ks.map lfP := List.map_fst_zip (by simp; omega)
      have m2 : ((ks.map lfP).zip ps).map (fun p => p.2) = ps := List.map_snd_zip (by simp; omega)
      have n1 : (ks.zip vs).map (fun p => lfP p.1) = ks.map lfP := by
        rw [show (fun p : Lf × V => lfP p.1) = lfP ∘ Prod.fst from rfl, ← List.map_map, List.map_fst_zip (by omega)]
      have n2 : (ks.zip vs).map (fun p => p.2) = vs := List.map_snd_zip (by omega)
      refine ⟨.dM rd id w (by rw [m1, n1]) (by rw [n2, m2]; exact dq.1), ?_⟩
      rw [Bool.and_eq_true] at hk
      simp only [cpOk]
      have go : ∀ (ks : List Lf) (ps : List PyData), ks.all okLf = true → keF_ ps = true → cpKv ((ks.map lfP).zip ps) = true := by
        intro ks
        induction ks with
        | nil => intro ps _ _; rfl
        | cons k r ih =>
          intro ps h1 h2
          cases ps with
          | nil => rfl
          | cons p q =>
            rw [List.all_cons, Bool.and_eq_true] at h1
            have h2' : cpOk p = true ∧ keF_ q = true := by simpa only [keF_, Bool.and_eq_true] using h2
            show (cpOk (lfP k) && cpOk p && cpKv ((r.map lfP).zip q)) = true
            rw [h2'.1, ih q h1.2 h2'.2]
            cases k with
            | str x =>
              have h3 : PyData.strOk x = true := h1.1
              simp only [lfP, cpOk]
              rw [h3]; rfl
            | _ => rfl
      exact go ks ps hk.1 dq.2
  · cases e
mutual
theorem kt4_ (ho : ∀ k a q, ρ.l[k]? = some a → o k = some q → Dq No H (.ref a) q ∧ cpOk q = true) : ∀ {v : V} {d : D} {p : PyData}, R ρ N H v d → pyD o d = some p → Dq No H v p ∧ cpOk p = true
  | _, _, _, .non, e => by cases e; exact ⟨.non, rfl⟩
  | _, _, _, .bl b, e => by cases e; exact ⟨.bl b, rfl⟩
  | _, _, _, .int i, e => by cases e; exact ⟨.int i, rfl⟩
  | _, _, _, .str a b, e => by cases e; exact ⟨.str _, a⟩
  | _, _, _, @R.lst _ _ _ a vs xs e1 n al, e => by
    simp only [pyD] at e
    cases e2 : pyL o xs with
    | none => rw [e2] at e; cases e
    | some ps => rw [e2] at e; cases e; exact ⟨.lst e1 id (kgf_ ho al e2).1, by simpa only [cpOk] using (kgf_ ho al e2).2⟩
  | _, _, _, @R.tup _ _ _ a vs xs e1 n al, e => by
    simp only [pyD] at e
    cases e2 : pyL o xs with
    | none => rw [e2] at e; cases e
    | some ps => rw [e2] at e; cases e; exact ⟨.tup e1 id (kgf_ ho al e2).1, by simpa only [cpOk] using (kgf_ ho al e2).2⟩
  | _, _, _, .dct e1 n l al, e => krN_ (.inr ⟨_, e1⟩) l al.length (fun ps e2 => kgf_ ho al e2) e
  | _, _, _, .dcT e1 n l al, e => krO_ (.inr ⟨_, e1⟩) l al.length (fun ps e2 => kgf_ ho al e2) e
  | _, _, _, .ins _ _ _ _, e => by cases e
  | _, _, _, .ptr e1, e => ho _ _ _ e1 e
theorem kgf_ (ho : ∀ k a q, ρ.l[k]? = some a → o k = some q → Dq No H (.ref a) q ∧ cpOk q = true) : ∀ {vs : List V} {ds : List D} {ps : List PyData}, RAll ρ N H vs ds → pyL o ds = some ps → ka5_ No H vs ps ∧ keF_ ps = true
  | _, _, _, .nil, e => by cases e; exact ⟨.nil, rfl⟩
  | _, _, _, @RAll.cons _ _ _ v vs d ds r al, e => by
    simp only [pyL] at e
    cases e1 : pyD o d with
    | none => rw [e1] at e; cases e
    | some p =>
      rw [e1, Option.bind_some] at e
      cases e2 : pyL o ds with
      | none => rw [e2] at e; cases e
      | some qs =>
        rw [e2] at e; cases e
        have a := kt4_ ho r e1
        have b := kgf_ ho al e2
        exact ⟨.cons a.1 b.1, by simp only [keF_, a.2, b.2, Bool.and_self]⟩
end
theorem kmB_ (w : Wd ρ h H) : ∀ (n : Nat) (k : Nat) (a : Addr) (q : PyData), ρ.l[k]? = some a → pyO n h k = some q → Dq No H (.ref a) q ∧ cpOk q = true
  | 0, _, _, _, _, e => by cases e
  | n + 1, k, a, q, e1, e => by
    have e : (match h[k]? with
      | some (.lst xs) => (pyL (pyO n h) xs).map .list
      | some (.dct ks vs) => pyD (pyO n h) (.dct ks vs)
      | some (.dcT ks vs) => pyD (pyO n h) (.dcT ks vs)
      | some (.mix ks vs) => if ks.all okLf && ks.length == vs.length then (pyL (pyO n h) vs).map fun ps => .dict ((ks.map lfP).zip ps) else none
      | _ => none) = some q := e
    cases e2 : h[k]? with
    | none => rw [e2] at e; cases e
    | some ob =>
      rw [e2] at e
      have x := w.at' k a ob e1 e2
      cases ob with
      | lst xs =>
        obtain ⟨vs, e3, al⟩ := x
        exact kt4_ (N := No) (kmB_ w n) (R.lst e3 id (al.mono (List.prefix_refl _) (fun _ _ _ _ z => z) fun _ z => z.elim)) (show pyD _ (.lst xs) = some q by simp only [pyD]; exact e)
      | dct ks vs' =>
        obtain ⟨vs, e3, l, al⟩ := x
        exact krN_ (.inl e3) l al.length (fun ps e4 => kgf_ (N := No) (kmB_ w n) (al.mono (List.prefix_refl _) (fun _ _ _ _ z => z) fun _ z => z.elim) e4) e
      | dcT ks vs' =>
        obtain ⟨vs, e3, l, al⟩ := x
        exact krO_ (.inl e3) l al.length (fun ps e4 => kgf_ (N := No) (kmB_ w n) (al.mono (List.prefix_refl _) (fun _ _ _ _ z => z) fun _ z => z.elim) e4) e
      | mix ks vs' =>
        obtain ⟨od, vs, e3, _, rw', l, al⟩ := x
        exact kw6_ e3 rw' l al.length (fun ps e4 => kgf_ (N := No) (kmB_ w n) (al.mono (List.prefix_refl _) (fun _ _ _ _ z => z) fun _ z => z.elim) e4) e
      | _ => cases e
theorem kt5_ (w : Wd ρ h H) {v : V} {d : D} {p : PyData} (r : R ρ (own ρ h) H v d) (e : py h d = some p) : Dq No H v p ∧ cpOk p = true := kt4_ (kmB_ w 8) r e
end
mutual
theorem lay_of : ∀ p : PyData, cpOk p = true → p.hasDict = false → p.canLay0 = true
  | .none, _, _ => rfl
  | .bool _, _, _ => rfl
  | .int _, _, _ => rfl
  | .str x, h, _ => by simp only [PyData.canLay0]; simpa only [cpOk] using h
  | .list xs, h, d => by simp only [PyData.canLay0]; exact kmC_ xs (by simpa only [cpOk] using h) (by simpa only [PyData.hasDict] using d)
  | .tuple xs, h, d => by simp only [PyData.canLay0]; exact kmC_ xs (by simpa only [cpOk] using h) (by simpa only [PyData.hasDict] using d)
  | .dict _, _, d => by simp [PyData.hasDict] at d
theorem kmC_ : ∀ ps : List PyData, keF_ ps = true → PyData.hasDictAll ps = false → PyData.canLayAll0 ps = true
  | [], _, _ => rfl
  | p :: ps, h, d => by
    have h' : cpOk p = true ∧ keF_ ps = true := by simpa only [keF_, Bool.and_eq_true] using h
    have d' : p.hasDict = false ∧ PyData.hasDictAll ps = false := by simpa only [PyData.hasDictAll, Bool.or_eq_false_iff] using d
    simp only [PyData.canLayAll0, lay_of p h'.1 d'.1, kmC_ ps h'.2 d'.2, Bool.and_self]
end
def ktI_ (p : PyData) : Bool := !p.hasDict && decide (p.depth ≤ 64)
theorem klk_ {p : PyData} (c : cpOk p = true) (f : ktI_ p = true) : SeqAt.shaped p = true := by
  unfold ktI_ at f
  rw [Bool.and_eq_true] at f
  unfold SeqAt.shaped
  rw [lay_of p c (by simpa using f.1), f.2]
  rfl
def pEq (neg : Bool) : O2 := fun h d e => match py h d, py h e with
  | some p, some q => if ktI_ p && ktI_ q then some (.bl (if neg then !PyData.eqv p q else PyData.eqv p q)) else none
  | _, _ => none
section
variable {X : Cx}
theorem kmD_ {neg : Bool} {f : Value → Value → Sem Value} (ho : OpR X f (rEqQ neg)) : OpD X f (pEq neg) := .of ho fun ρ hh H d e z x y Q w r1 r2 hz q => by
  unfold pEq at hz
  cases e1 : py hh d with
  | none => rw [e1] at hz; cases hz
  | some p1 =>
    cases e2 : py hh e with
    | none => rw [e1, e2] at hz; cases hz
    | some p2 =>
      rw [e1, e2] at hz
      dsimp only at hz
      split at hz
      · rename_i c
        cases hz
        rw [Bool.and_eq_true] at c
        have a := kt5_ w r1 e1
        have b := kt5_ w r2 e2
        exact ⟨No, p1, p2, a.1, b.1, klk_ a.2 c.1, klk_ b.2 c.2, q ρ H _ (Step.refl w) (.bl _)⟩
      · cases hz
theorem khL_ (hu : X.A.units + 64 < cLine) : OpD X (compareOp .Eq) (pEq false) := kmD_ (ktV_ hu)
theorem khM_ (hu : X.A.units + 64 < cLine) : OpD X (compareOp .NotEq) (pEq true) := kmD_ (ktW_ hu)
def dNon : D → Bool
  | .non => true
  | _ => false
def pIsN (neg : Bool) : O2 := fun _ d e => match e with
  | .non => some (.bl (if neg then !dNon d else dNon d))
  | _ => none
def pIsB (neg : Bool) : O2 := fun _ d e => match d, e with
  | .bl a, .bl b => some (.bl (if neg then !decide (a = b) else decide (a = b)))
  | _, _ => none
def krP_ (o1 o2 : O2) (ma mb mc : Env → M D) : Env → M D := fun δ => M.bind (ma δ) fun a => M.bind (mb δ) fun b => M.bind (klj_ fun h => o1 h a b) fun z => match z with
  | .bl true => M.bind (mc δ) fun c => klj_ fun h => o2 h b c
  | .bl false => M.pure (.bl false)
  | _ => M.bad
theorem kn7_ {W : Value → Option Addr → Hp → Prop} {ρ : Rh} {h : OH} {H : Hp} {f : OH → Option D} {Q : VK} (p : kao_ relV W ρ h H (klj_ f h) Q) : ∃ z, f h = some z ∧ ∀ ρ' H' v, Step ρ h H ρ' h H' → R ρ' (own ρ' h) H' v z → Q v H' := by
  unfold klj_ at p
  cases hz : f h with
  | none => rw [hz] at p; exact p.elim
  | some z => rw [hz] at p; exact ⟨z, rfl, p⟩
end
end Z
set_option Elab.async false
set_option linter.all false
set_option maxRecDepth 100000
set_option maxHeartbeats 4000000
namespace Z
open PySem PySem.Spec PyProof.Rows L2 TL Y
section
variable {ex : Ex} {X : Cx} {W : WX}
def mVar (i : Nat) : Env → M D := fun δ => match δ[i]? with
  | some (.val d) => M.pure d
  | _ => M.bad
def mC (d : D) : Env → M D := fun _ => M.pure d
theorem kt6_ {i : Nat} {x : Str} {pos : Pos} (hN : X.N[i]? = some x) (hv : Vis X.env.scope x) (hd : (x == ("__debug__" : Str)) = false := by decide) (hcd : (x == ("__classdict__" : Str)) = false := by decide) : DE ex X W (.Name x pos) (mVar i) :=
  .of (pe_var hN hv hd hcd) fun σ H Q ⟨ρ, h, δ, w, sl, p⟩ => by
    unfold mVar at p
    cases e : δ[i]? with
    | none => rw [e] at p; exact p.elim
    | some s =>
      rw [e] at p
      cases s with
      | val d =>
        obtain ⟨v, hv, r⟩ := sl.val e
        exact ⟨v, hv, kao_.pure p w r⟩
      | _ => exact p.elim
theorem de_c {e : Expr} {v : V} {d : D} (h : PE X e (tC v)) (r : ∀ ρ N H, R ρ N H v d) : DE ex X W e (mC d) := .of h fun σ H Q ⟨ρ, h, δ, w, sl, p⟩ => kao_.pure p w (r _ _ _)
theorem kQ_ {i j pos} : DE ex X W (.Constant (.int i) j pos) (mC (.int i)) := de_c pe_int fun _ _ _ => .int i
theorem kn8_ {b j pos} : DE ex X W (.Constant (.bool b) j pos) (mC (.bl b)) := de_c pe_bl fun _ _ _ => .bl b
theorem krQ_ {j pos} : DE ex X W (.Constant .none j pos) (mC .non) := de_c pe_non fun _ _ _ => .non
theorem kjF_ {x j pos} (h : (PyData.strOk x && decide (x.length ≤ lim)) = true := by decide +kernel) : DE ex X W (.Constant (.str x) j pos) (mC (.str x)) := by
  rw [Bool.and_eq_true] at h
  exact de_c pe_str fun _ _ _ => .str h.1 (kaT_ (of_decide_eq_true h.2))
def mNil : Env → M (List D) := fun _ => M.pure []
def kN_ (a : Env → M D) (b : Env → M (List D)) : Env → M (List D) := fun δ => M.bind (a δ) fun d => M.bind (b δ) fun ds => M.pure (d :: ds)
theorem kL_ : DA ex X W [] mNil := ⟨fun pos pins s σ H Q I ⟨ρ, h, δ, w, sl, p⟩ => pa_nil.run pos pins s σ H Q I (kao_.pure p w .nil)⟩
theorem kJ_ {e : Expr} {es : List Expr} {a : Env → M D} {b : Env → M (List D)} (ha : DE ex X W e a) (hb : DA ex X W es b)
    (hs : starEach (e :: es) X.env = (false, eval e X.env) :: starEach es X.env := by rfl) : DA ex X W (e :: es) (kN_ a b) :=
  ⟨fun pos pins s σ H Q I ⟨ρ, h, δ, w, sl, p⟩ => (pa_cons ha hb hs).run pos pins s σ H Q I
    ⟨ρ, h, δ, w, sl, (kao_.bind (rel := relV) p).imp (fun x H1 ⟨ρ1, h1, d, s1, r1, p1⟩ =>
      ⟨ρ1, h1, δ, s1.wd, s1.Sls sl, (kao_.bind (rel := relA) p1).imp (fun y H2 ⟨ρ2, h2, e, s2, r2, p2⟩ => kao_.pure p2 s2.wd (.cons (s2.R r1) r2)) fun _ _ _ z => z⟩) fun _ _ _ z => z⟩⟩
def kkt_ (W : Value → Option Addr → Hp → Prop) (ρ : Rh) (h : OH) (H : Hp) (r : Res (List D)) (Q : VK) : Prop :=
  match r with
  | .ok ds h' => ∀ ρ' H' p vs, kdB_ ρ h H ρ' h' H' p → H' p = some (.lst vs) → RAll ρ' (own ρ' h') H' vs ds → Q (.ref p) H'
  | .exc C ns xs h' => ∀ ρ' H' x vs, Step ρ h H ρ' h' H' → H' x = some (.xd (ns.zip vs)) → ¬ own ρ' h' x → ns.length = vs.length → RAll ρ' (own ρ' h') H' vs xs → W C (some x) H'
  | .bad => False
def tF (ex : Ex) (W : WX) (m : Env → M (List D)) : TE := fun σ H Q => ∃ ρ h δ, Wd ρ h H ∧ Sls ex ρ (own ρ h) H σ δ ∧ kkt_ (WXat W σ) ρ h H (m δ h) Q
def DF (ex : Ex) (X : Cx) (W : WX) (e : Expr) (m : Env → M (List D)) : Prop := PE X e (tF ex W m)
theorem DF.of {e : Expr} {t : TE} {m : Env → M (List D)} (h : PE X e t) (hm : ∀ σ H Q, tF ex W m σ H Q → t σ H Q) : DF ex X W e m := ⟨fun pins s σ H Q I q => h.run pins s σ H Q I (hm σ H Q q)⟩
theorem kkt_.step {W : Value → Option Addr → Hp → Prop} {ρ ρ' : Rh} {h h' : OH} {H H' : Hp} {r : Res (List D)} {Q : VK} (p : kkt_ W ρ h H r Q) (a : Step ρ h H ρ' h' H') : kkt_ W ρ' h' H' r Q := by
  cases r with
  | ok d h2 => exact fun ρ2 H2 v vs b q al => p ρ2 H2 v vs (.before a b) q al
  | exc C ns xs h2 => exact fun ρ2 H2 x vs b e n l q => p ρ2 H2 x vs (a.trans b) e n l q
  | bad => exact p
theorem kkt_.bind {α β : Type} {rel : Rh → OH → Hp → β → α → Prop} {W : Value → Option Addr → Hp → Prop} {ρ : Rh} {h : OH} {H : Hp} {a : M α} {f : α → M (List D)} {Q2 : VK} (p : kkt_ W ρ h H (M.bind a f h) Q2) :
    kao_ rel W ρ h H (a h) (fun b H1 => ∃ ρ1 h1 x, Step ρ h H ρ1 h1 H1 ∧ rel ρ1 h1 H1 b x ∧ kkt_ W ρ1 h1 H1 (f x h1) Q2) := by
  unfold M.bind at p
  cases e : a h with
  | ok x h1 =>
    rw [e] at p
    exact fun ρ1 H1 b s r => ⟨ρ1, h1, x, s, r, p.step s⟩
  | exc C ns xs h1 => rw [e] at p; exact p
  | bad => rw [e] at p; exact p
theorem kkt_.new {W : Value → Option Addr → Hp → Prop} {ρ : Rh} {h : OH} {H : Hp} {ds : List D} {Q : VK} (p : kkt_ W ρ h H (.ok ds h) Q) (w : Wd ρ h H) {vs : List V} (al : RAll ρ (own ρ h) H vs ds) {a : Addr} (e : H a = none) : Q (.ref a) (upd H a (.lst vs)) := by
  have s : kdB_ ρ h H (ρ.hold a) h (upd H a (.lst vs)) a := kdB_.of w ⟨_, rfl⟩ e
  exact p _ _ a vs s upd_same (s.RAll al)
def mVal (m : Env → M (List D)) : Env → M D := fun δ => M.bind (m δ) fun ds => M.pure (.lst ds)
def mOwn (m : Env → M (List D)) : Env → M D := fun δ => M.bind (m δ) fun ds h => .ok (.ptr h.length) (h ++ [.lst ds])
theorem kV_ {e : Expr} {m : Env → M (List D)} (hm : DF ex X W e m) : DE ex X W e (mVal m) := .of hm fun σ H Q ⟨ρ, h, δ, w, sl, p⟩ => by
  refine ⟨ρ, h, δ, w, sl, ?_⟩
  unfold mVal M.bind at p
  cases e1 : m δ h with
  | ok ds h1 =>
    rw [e1] at p
    intro ρ' H' a vs s e2 al
    obtain ⟨ρ2, s2, r2⟩ := s.value w e2 al
    exact p ρ2 H' _ s2 r2
  | exc C ns xs h1 => rw [e1] at p; exact p
  | bad => rw [e1] at p; exact p
theorem krR_ {e : Expr} {m : Env → M (List D)} (hm : DF ex X W e m) : DE ex X W e (mOwn m) := .of hm fun σ H Q ⟨ρ, h, δ, w, sl, p⟩ => by
  refine ⟨ρ, h, δ, w, sl, ?_⟩
  unfold mOwn M.bind at p
  cases e1 : m δ h with
  | ok ds h1 =>
    rw [e1] at p
    intro ρ' H' a vs s e2 al
    obtain ⟨ρ2, s2, r2⟩ := s.own w e2 al
    exact p ρ2 H' _ s2 r2
  | exc C ns xs h1 => rw [e1] at p; exact p
  | bad => rw [e1] at p; exact p
def mFew (m : Env → M (List D)) : Env → M (List D) := fun δ => M.bind (m δ) fun ds => if ds.length ≤ lim then M.pure ds else M.bad
theorem kX_ {es : List Expr} {m : Env → M (List D)} {pos : Pos} (h : DA ex X W es m) : DF ex X W (.List es pos) (mFew m) := .of (pe_lst h) fun σ H Q ⟨ρ, h, δ, w, sl, p⟩ => by
  refine ⟨ρ, h, δ, w, sl, (kkt_.bind (rel := relA) p).imp (fun vs H1 ⟨ρ1, h1, ds, s1, al, p1⟩ => ?_) fun _ _ _ z => z⟩
  split at p1
  · rename_i c
    exact ⟨by rw [al.length]; exact kaT_ c, fun a ha => p1.new s1.wd al ha⟩
  · exact p1.elim
def mTup (m : Env → M (List D)) : Env → M D := fun δ => M.bind (m δ) fun ds => if ds.length ≤ lim then M.pure (.tup ds) else M.bad
theorem kpV_ {es : List Expr} {m : Env → M (List D)} {x1} {pos : Pos} (h : DA ex X W es m) : DE ex X W (.Tuple es x1 pos) (mTup m) := .of (pe_tup h) fun σ H Q ⟨ρ, h, δ, w, sl, p⟩ => by
  refine ⟨ρ, h, δ, w, sl, (kao_.bind (rel := relA) p).imp (fun vs H1 ⟨ρ1, h1, ds, s1, al, p1⟩ => ?_) fun _ _ _ z => z⟩
  split at p1
  · rename_i c
    exact ⟨by rw [al.length]; exact kaT_ c, fun a ha => p1 ρ1 _ _ (s1.wd.new _ ha) (kmy_ s1.wd ha al)⟩
  · exact p1.elim
abbrev O2F := OH → D → D → Option (List D)
def PF (ρ : Rh) (h : OH) (H : Hp) (ds : List D) (Q : VK) : Prop := ∀ ρ' H' p vs, kdB_ ρ h H ρ' h H' p → H' p = some (.lst vs) → RAll ρ' (own ρ' h) H' vs ds → Q (.ref p) H'
theorem PF.new {ρ : Rh} {h : OH} {H : Hp} {ds : List D} {Q : VK} (p : PF ρ h H ds Q) (w : Wd ρ h H) {vs : List V} (al : RAll ρ (own ρ h) H vs ds) {a : Addr} (e : H a = none) : Q (.ref a) (upd H a (.lst vs)) := by
  have s : kdB_ ρ h H (ρ.hold a) h (upd H a (.lst vs)) a := kdB_.of w ⟨_, rfl⟩ e
  exact p _ _ a vs s upd_same (s.RAll al)
def rDF (op : O2F) : R2 := fun x y H Q => ∃ ρ h d e z, Wd ρ h H ∧ R ρ (own ρ h) H x d ∧ R ρ (own ρ h) H y e ∧ op h d e = some z ∧ PF ρ h H z Q
def kd9_ (f : OH → Option (List D)) : M (List D) := fun h => match f h with
  | some z => .ok z h
  | none => .bad
def kpW_ (op : O2F) (ma mb : Env → M D) : Env → M (List D) := fun δ => M.bind (ma δ) fun d => M.bind (mb δ) fun e => kd9_ fun h => op h d e
theorem kmE_ {W : Value → Option Addr → Hp → Prop} {ρ : Rh} {h : OH} {H : Hp} {f : OH → Option (List D)} {Q : VK} (p : kkt_ W ρ h H (kd9_ f h) Q) : ∃ z, f h = some z ∧ PF ρ h H z Q := by
  unfold kd9_ at p
  cases hz : f h with
  | none => rw [hz] at p; exact p.elim
  | some z => rw [hz] at p; exact ⟨z, rfl, p⟩
theorem ktJ_ {x y : Expr} {pos : Pos} {o : Operator} {op : O2F} {ma mb : Env → M D} (ho : OpR X (binaryOp o) (rDF op)) (ha : DE ex X W x ma) (hb : DE ex X W y mb) : DF ex X W (.BinOp x o y pos) (kpW_ op ma mb) :=
  .of (pe_op ho ha hb) fun σ H Q ⟨ρ, h, δ, w, sl, p⟩ => by
    refine ⟨ρ, h, δ, w, sl, (kkt_.bind (rel := relV) p).imp (fun x H1 ⟨ρ1, h1, d, s1, r1, p1⟩ => ?_) fun _ _ _ z => z⟩
    refine ⟨ρ1, h1, δ, s1.wd, s1.Sls sl, (kkt_.bind (rel := relV) p1).imp (fun y H2 ⟨ρ2, h2, e, s2, r2, p2⟩ => ?_) fun _ _ _ z => z⟩
    obtain ⟨z, hz, p3⟩ := kmE_ p2
    exact ⟨ρ2, h2, d, e, z, s2.wd, s2.R r1, r2, hz, p3⟩
theorem RAll.rep {ρ : Rh} {N : Addr → Prop} {H : Hp} {vs : List V} {ds : List D} (a : RAll ρ N H vs ds) : ∀ n : Nat, RAll ρ N H (List.replicate n vs).flatten (List.replicate n ds).flatten
  | 0 => .nil
  | n + 1 => by rw [List.replicate_succ, List.replicate_succ, List.flatten_cons, List.flatten_cons]; exact a.append (a.rep n)
def lRep : O2F := fun h d e => match kW_ h d, e with
  | some xs, .int k => if -(2 ^ 63) ≤ k ∧ k < 2 ^ 63 ∧ xs.length * k.toNat ≤ lim then some (List.replicate k.toNat xs).flatten else none
  | _, _ => none
theorem kjG_ : OpR X (binaryOp .Mult) (rDF lRep) := by
  intro pins s σ H x y v u Q I rx ry ⟨ρ, h, d, e, z, w, r1, r2, hz, q⟩
  refine op_rep pins s σ H x y v u Q I rx ry ?_
  unfold lRep at hz
  cases e1 : kW_ h d with
  | none => rw [e1] at hz; cases hz
  | some xs =>
    rw [e1] at hz
    cases e <;> try (cases hz; done)
    rename_i k
    dsimp only at hz
    by_cases c : -(2 ^ 63) ≤ k ∧ k < 2 ^ 63 ∧ xs.length * k.toNat ≤ lim
    · rw [if_pos c] at hz
      cases hz
      obtain ⟨a, vs, rfl, h1, a1⟩ := kaE_ w r1 e1
      cases r2
      exact ⟨a, k, vs, rfl, rfl, h1, c.1, c.2.1, by rw [a1.length]; exact kaT_ c.2.2, fun p hp => q.new w (a1.rep _) hp⟩
    · rw [if_neg c] at hz; cases hz
def truD (h : OH) : D → Option Bool
  | .non => some false
  | .bl b => some b
  | .int i => some (i != 0)
  | .str x => some ((x.length : Int) != 0)
  | .tup xs => some (!xs.isEmpty)
  | .lst xs => some (!xs.isEmpty)
  | .ptr k => match h[k]? with
    | some (.lst xs) => some (!xs.isEmpty)
    | _ => none
  | _ => none
theorem kds_ {ρ : Rh} {N : Addr → Prop} {H : Hp} {vs : List V} {ds : List D} (a : RAll ρ N H vs ds) : vs.isEmpty = ds.isEmpty := by cases a <;> rfl
theorem kpa_ {K : PySem.W.Frag} {ρ : Rh} {h : OH} {H : Hp} {v : V} {d : D} {k : Bool} (w : Wd ρ h H) (r : R ρ (own ρ h) H v d) (e : truD h d = some k) : TruV K v H k := by
  cases r with
  | non => cases e; rfl
  | bl b => cases e; rfl
  | int i => cases e; rfl
  | str o l => cases e; exact ⟨l, rfl⟩
  | lst e1 n al => cases e; exact .inl ⟨_, SqL.of e1, by rw [kds_ al]⟩
  | tup e1 n al => cases e; exact .inr (.inl ⟨_, SqT.of e1, by rw [kds_ al]⟩)
  | @ptr j a e1 =>
    have e : (match h[j]? with
      | some (.lst xs) => some (!xs.isEmpty)
      | _ => none) = some k := e
    cases q : h[j]? with
    | none => rw [q] at e; cases e
    | some o =>
      rw [q] at e
      cases o with
      | lst ys =>
        cases e
        obtain ⟨vs, e2, al⟩ := w.at' j a _ e1 q
        exact .inl ⟨_, SqL.of e2, by rw [kds_ al]⟩
      | _ => cases e
  | _ => cases e
def kjH_ (f : OH → Option Bool) : M Bool := fun h => match f h with
  | some z => .ok z h
  | none => .bad
theorem kjI_ {W : Value → Option Addr → Hp → Prop} {ρ : Rh} {h : OH} {H : Hp} {f : OH → Option Bool} {Q : Bool → Hp → Prop} (p : kao_ relB W ρ h H (kjH_ f h) Q) (w : Wd ρ h H) : ∃ z, f h = some z ∧ Q z H := by
  unfold kjH_ at p
  cases hz : f h with
  | none => rw [hz] at p; exact p.elim
  | some z => rw [hz] at p; exact ⟨z, rfl, p ρ H z (Step.refl w) rfl⟩
def mTru (m : Env → M D) : Env → M Bool := fun δ => M.bind (m δ) fun d => kjH_ fun h => truD h d
theorem kgg_ {e : Expr} {m : Env → M D} (hm : DE ex X W e m) (he : ∀ whole, isTrue e X.env whole = (do let v ← whole; standAt e.pos; holding [v] (truthy v)) := by intro _; rfl) : DT ex X W e (mTru m) :=
  .of (pt_truth hm he) fun σ H Q ⟨ρ, h, δ, w, sl, p⟩ => by
    refine ⟨ρ, h, δ, w, sl, (kao_.bind (rel := relV) p).imp (fun v H1 ⟨ρ1, h1, d, s1, r1, p1⟩ => ?_) fun _ _ _ z => z⟩
    obtain ⟨k, hk, q⟩ := kjI_ p1 s1.wd
    exact ⟨k, kpa_ s1.wd r1 hk, q⟩
def mAsB (d : D) : M Bool := match d with
  | .bl b => M.pure b
  | _ => M.bad
def kku_ (m : Env → M D) : Env → M Bool := fun δ => M.bind (m δ) mAsB
theorem kpX_ {W : Value → Option Addr → Hp → Prop} {ρ : Rh} {h : OH} {H : Hp} {d : D} {v : V} {Q : Bool → Hp → Prop} (p : kao_ relB W ρ h H (mAsB d h) Q) (w : Wd ρ h H) (r : R ρ (own ρ h) H v d) : ∃ k, v = .bl k ∧ Q k H := by
  cases d with
  | bl k => cases r; exact ⟨k, rfl, p ρ H k (Step.refl w) rfl⟩
  | _ => exact p.elim
theorem keL_ {x y : Expr} {pos : Pos} {o : CmpOp} {op : O2} {ma mb : Env → M D} (ho : OpD X (compareOp o) op) (ha : DE ex X W x ma) (hb : DE ex X W y mb) (hm : behindInMarks o y = false) : DT ex X W (.Compare x [o] [y] pos) (kku_ (mOp2 op ma mb)) :=
  .of (pt_cmpR ho ha hb hm) fun σ H Q ⟨ρ, h, δ, w, sl, p⟩ =>
    khI_ ⟨ρ, h, δ, w, sl, (kao_.bind (rel := relV) p).imp (fun v H1 ⟨ρ1, h1, d, s1, r1, p1⟩ => kpX_ p1 s1.wd r1) fun _ _ _ z => z⟩
def kmn_ (m : Env → M Bool) : Env → M Bool := fun δ => M.bind (m δ) fun k => M.pure (!k)
theorem khN_ {e : Expr} {pos : Pos} {m : Env → M Bool} (hm : DT ex X W e m) : DT ex X W (.UnaryOp .Not e pos) (kmn_ m) :=
  .of (pt_not hm) fun σ H Q ⟨ρ, h, δ, w, sl, p⟩ =>
    ⟨ρ, h, δ, w, sl, (kao_.bind (rel := relB) p).imp (fun k H1 ⟨ρ1, h1, d, s1, r1, p1⟩ => by cases r1; exact kao_.pure p1 s1.wd rfl) fun _ _ _ z => z⟩
def kwn_ (a b : Env → M Bool) : Env → M Bool := fun δ => M.bind (a δ) fun k => if k = true then b δ else M.pure false
def mOrT (a b : Env → M Bool) : Env → M Bool := fun δ => M.bind (a δ) fun k => if k = true then M.pure true else b δ
def DW (ex : Ex) (X : Cx) (W : WX) (e : Expr) (m : Env → M Bool) : Prop := PW X e (tT ex W m)
theorem DW.dt {e : Expr} {m : Env → M Bool} (h : DW ex X W e m) : DT ex X W e m := PW.pt h
theorem kmF_ {a : Expr} {pos : Pos} {m : Env → M Bool} (h : DT ex X W a m) : DW ex X W (.BoolOp .Or [a] pos) m := pw_or1 h
theorem DW.of {e : Expr} {t : TT} {m : Env → M Bool} (h : PW X e t) (hm : ∀ σ H Q, tT ex W m σ H Q → t σ H Q) : DW ex X W e m := ⟨fun wh pins s σ H Q I q => h.run wh pins s σ H Q I (hm σ H Q q)⟩
theorem kpb_ {a b : Expr} {rest : List Expr} {pos : Pos} {ma mb : Env → M Bool} (ha : DT ex X W a ma) (hb : DW ex X W (.BoolOp .Or (b :: rest) pos) mb) : DW ex X W (.BoolOp .Or (a :: b :: rest) pos) (mOrT ma mb) :=
  .of (pw_or ha hb) fun σ H Q ⟨ρ, h, δ, w, sl, p⟩ => by
    refine ⟨ρ, h, δ, w, sl, (kao_.bind (rel := relB) p).imp (fun k H1 ⟨ρ1, h1, d, s1, r1, p1⟩ => ?_) fun _ _ _ z => z⟩
    cases r1
    cases k with
    | true => exact kao_.pure p1 s1.wd rfl
    | false => exact ⟨ρ1, h1, δ, s1.wd, s1.Sls sl, p1⟩
def krg_ (a b : Env → M D) : Env → M D := fun δ => M.bind (a δ) fun d => M.bind (kjH_ fun h => truD h d) fun k => if k = true then b δ else M.pure d
def mOrV (a b : Env → M D) : Env → M D := fun δ => M.bind (a δ) fun d => M.bind (kjH_ fun h => truD h d) fun k => if k = true then M.pure d else b δ
def kwo_ (a : Env → M D) : Env → M D := fun δ => M.bind (a δ) fun d => M.bind (kjH_ fun h => truD h d) fun k => M.pure (.bl (!k))
theorem krS_ {op} {a : Expr} {pos : Pos} {m : Env → M D} (h : DE ex X W a m) : DE ex X W (.BoolOp op [a] pos) m := pe_one h
theorem kpY_ {a b : Expr} {rest : List Expr} {pos : Pos} {ma mb : Env → M D} (ha : DE ex X W a ma) (hb : DE ex X W (.BoolOp .And (b :: rest) pos) mb) : DE ex X W (.BoolOp .And (a :: b :: rest) pos) (krg_ ma mb) :=
  .of (pe_andT ha hb) fun σ H Q ⟨ρ, h, δ, w, sl, p⟩ => by
    refine ⟨ρ, h, δ, w, sl, (kao_.bind (rel := relV) p).imp (fun v H1 ⟨ρ1, h1, d, s1, r1, p1⟩ => ?_) fun _ _ _ z => z⟩
    obtain ⟨k, hk, ρ2, h2, k', s2, e2, p2⟩ := kjI_ (kao_.bind (rel := relB) p1) s1.wd
    cases e2
    refine ⟨k, kpa_ s1.wd r1 hk, ?_⟩
    cases k with
    | true => exact ⟨ρ2, h2, δ, s2.wd, s2.Sls (s1.Sls sl), p2⟩
    | false => exact kao_.pure p2 s2.wd (s2.R r1)
def mNeg (a : Env → M D) : Env → M D := fun δ => M.bind (a δ) fun d => match d with
  | .int i => M.pure (.int (-i))
  | _ => M.bad
theorem kt7_ {a : Expr} {pos : Pos} {ma : Env → M D} (ha : DE ex X W a ma) : DE ex X W (.UnaryOp .USub a pos) (mNeg ma) :=
  .of (pe_un un_neg ha) fun σ H Q ⟨ρ, h, δ, w, sl, p⟩ => by
    refine ⟨ρ, h, δ, w, sl, (kao_.bind (rel := relV) p).imp (fun v H1 ⟨ρ1, h1, d, s1, r1, p1⟩ => ?_) fun _ _ _ z => z⟩
    cases d with
    | int i => cases r1; exact ⟨i, rfl, kao_.pure p1 s1.wd (.int _)⟩
    | _ => exact p1.elim
def mIfE (c : Env → M Bool) (a b : Env → M D) : Env → M D := fun δ => M.bind (c δ) fun k => if k = true then a δ else b δ
end
end Z
set_option Elab.async false
set_option linter.all false
set_option maxRecDepth 100000
set_option maxHeartbeats 4000000
namespace Z
open PySem PySem.Spec PyProof.Rows L2 TL Y
section
variable {ex : Ex} {X : Cx} {W : WX}
theorem RAll.atI {ρ : Rh} {N : Addr → Prop} {H : Hp} {vs : List V} {ds : List D} {i : Int} {d : D} (al : RAll ρ N H vs ds) (e : L2.atI ds i = some d) : ∃ v, L2.atI vs i = some v ∧ R ρ N H v d := by
  unfold L2.atI at e ⊢
  rw [al.length]
  cases q : ixN ds.length i with
  | none => rw [q] at e; cases e
  | some j =>
    rw [q] at e
    obtain ⟨v, h1, h2⟩ := al.getD (by simpa using e : ds[j]? = some d)
    exact ⟨v, by simpa using h1, h2⟩
def lIx : O2 := fun h d e => match kW_ h d, e with
  | some xs, .int i => L2.atI xs i
  | _, _ => none
def tIx : O2 := fun h d e => match kjD_ d, e with
  | some xs, .int i => L2.atI xs i
  | _, _ => none
def sIx : O2 := fun h d e => match d, e with
  | .str z, .int i => (L2.atI (tl z) i).map fun c => .str ⟨#[c]⟩
  | _, _ => none
def IxD (X : Cx) (op : O2) : Prop := IxR X (rD op)
theorem IxD.or {a b : O2} (ha : IxD X a) (hb : IxD X b) : IxD X (o2or a b) := by
  intro value slice pins s σ H x y v u Q I rx ry ⟨ρ, h, d, e, z, w, r1, r2, hz, q⟩ hs
  unfold o2or at hz
  cases p : a h d e with
  | some y' =>
    rw [p] at hz; cases hz
    exact ha value slice pins s σ H x y v u Q I rx ry ⟨ρ, h, d, e, z, w, r1, r2, p, q⟩ hs
  | none =>
    rw [p] at hz
    exact hb value slice pins s σ H x y v u Q I rx ry ⟨ρ, h, d, e, z, w, r1, r2, by simpa using hz, q⟩ hs
theorem IxD.of {a : O2} {r : R2} (ho : IxR X r) (h : ∀ ρ h H d e z x y Q, Wd ρ h H → R ρ (own ρ h) H x d → R ρ (own ρ h) H y e → a h d e = some z → (∀ ρ' H' v, Step ρ h H ρ' h H' → R ρ' (own ρ' h) H' v z → Q v H') → r x y H Q) : IxD X a :=
  fun value slice pins s σ H x y v u Q I rx ry ⟨ρ, h', d, e, z, w, r1, r2, hz, q⟩ hs => ho value slice pins s σ H x y v u Q I rx ry (h ρ h' H d e z x y Q w r1 r2 hz q) hs
theorem kw7_ : IxD X lIx := .of ix_list fun ρ h H d e z x y Q w r1 r2 hz q => by
  unfold lIx at hz
  cases e1 : kW_ h d with
  | none => rw [e1] at hz; cases hz
  | some xs =>
    rw [e1] at hz
    cases e <;> try (cases hz; done)
    rename_i i
    obtain ⟨a, vs, rfl, h1, al⟩ := kaE_ w r1 e1
    obtain ⟨v, e2, r⟩ := al.atI hz
    cases r2
    exact ⟨a, vs, i, v, rfl, rfl, SqL.of h1, e2, q ρ H v (Step.refl w) r⟩
theorem kw8_ : IxD X tIx := .of ix_tup fun ρ h H d e z x y Q w r1 r2 hz q => by
  unfold tIx at hz
  cases e1 : kjD_ d with
  | none => rw [e1] at hz; cases hz
  | some xs =>
    rw [e1] at hz
    cases e <;> try (cases hz; done)
    rename_i i
    obtain ⟨a, vs, rfl, h1, _, al, _⟩ := keJ_ r1 e1
    obtain ⟨v, e2, r⟩ := al.atI hz
    cases r2
    exact ⟨a, vs, i, v, rfl, rfl, SqT.of h1, e2, q ρ H v (Step.refl w) r⟩
theorem krT_ {α : Type} {xs : List α} {i : Int} {v : α} (h : L2.atI xs i = some v) : v ∈ xs := by
  unfold L2.atI at h
  cases q : ixN xs.length i with
  | none => rw [q] at h; cases h
  | some j => rw [q] at h; exact List.mem_of_getElem? (by simpa using h)
theorem kw9_ : IxD X sIx := .of ix_str fun ρ h H d e z x y Q w r1 r2 hz q => by
  cases d <;> try (cases hz; done)
  cases e <;> try (cases hz; done)
  rename_i s i
  have hz : (L2.atI (tl s) i).map (fun c => D.str ⟨#[c]⟩) = some z := hz
  cases r1 with
  | str o l =>
    cases e1 : L2.atI (tl s) i with
    | none => rw [e1] at hz; cases hz
    | some c =>
      rw [e1] at hz
      cases hz
      cases r2
      refine ⟨s, i, c, rfl, rfl, l, e1, q ρ H _ (Step.refl w) (.str (kt3_ o fun d hd => ?_) (kaT_ (by show 1 ≤ 16000000; decide)))⟩
      have : d = c := by simpa [tl] using hd
      rw [this]
      exact krT_ e1
def dIx : O2 := o2or lIx (o2or tIx sIx)
theorem ixd : IxD X dIx := kw7_.or (kw8_.or kw9_)
theorem kll_ {a b : Expr} {pos : Pos} {ma mb : Env → M D} (ha : DE ex X W a ma) (hb : DE ex X W b mb) (hs : PlainIx b) : DE ex X W (.Subscript a b pos) (mOp2 dIx ma mb) := .of (pe_ix ixd ha hb hs) fun _ _ _ p => khI_ p
def cutD {α : Type} (xs : List α) (lo hi : Option Int) : List α := (xs.drop (HT.sIx xs.length 0 lo)).take (HT.sIx xs.length xs.length hi - HT.sIx xs.length 0 lo)
theorem RAll.cut {ρ : Rh} {N : Addr → Prop} {H : Hp} {vs : List V} {ds : List D} (al : RAll ρ N H vs ds) (lo hi : Option Int) : RAll ρ N H (cutV vs lo hi) (cutD ds lo hi) := by
  unfold cutV cutD
  rw [al.length]
  exact (al.drop _).take _
def kn0_ : Option (Env → M D) → Env → M (Option Int)
  | none => fun _ => M.pure none
  | some m => fun δ => M.bind (m δ) fun d => match d with
    | .int i => M.pure (some i)
    | _ => M.bad
def slV : OH → D → Option Int → Option Int → Option D := fun _ d lo hi => match d with
  | .str z => some (.str (cutS z lo hi))
  | .tup xs => some (.tup (cutD xs lo hi))
  | _ => none
def mSl (op : OH → D → Option Int → Option Int → Option D) (m : Env → M D) (lo hi : Option (Env → M D)) : Env → M D := fun δ => M.bind (m δ) fun d => M.bind (kn0_ lo δ) fun l => M.bind (kn0_ hi δ) fun u => klj_ fun h => op h d l u
def mSlF (m : Env → M D) (lo hi : Option (Env → M D)) : Env → M (List D) := fun δ => M.bind (m δ) fun d => M.bind (kn0_ lo δ) fun l => M.bind (kn0_ hi δ) fun u => kd9_ fun h => (kW_ h d).map fun xs => cutD xs l u
abbrev OC := OH → List D → Option D
def rC (op : OC) : List V → Hp → VK → Prop := fun vs H Q => ∃ ρ h ds z, Wd ρ h H ∧ RAll ρ (own ρ h) H vs ds ∧ op h ds = some z ∧ ∀ ρ' H' v, Step ρ h H ρ' h H' → R ρ' (own ρ' h) H' v z → Q v H'
def CallD (X : Cx) (f : Value) (op : OC) : Prop := CallR X f (rC op)
theorem CallD.of {f : Value} {op : OC} {r : List V → Hp → VK → Prop} (ho : CallR X f r) (h : ∀ ρ h H ds z vs Q, Wd ρ h H → RAll ρ (own ρ h) H vs ds → op h ds = some z → (∀ ρ' H' v, Step ρ h H ρ' h H' → R ρ' (own ρ' h) H' v z → Q v H') → r vs H Q) : CallD X f op :=
  fun pins s σ H xs us Q I r ⟨ρ, h', ds, z, w, al, hz, q⟩ => ho pins s σ H xs us Q I r (h ρ h' H ds z xs Q w al hz q)
theorem CallD.or {f : Value} {a b : OC} (ha : CallD X f a) (hb : CallD X f b) : CallD X f (fun h ds => (a h ds).or (b h ds)) := by
  intro pins s σ H xs us Q I r ⟨ρ, h, ds, z, w, al, hz, q⟩
  dsimp only at hz
  cases p : a h ds with
  | some y => rw [p] at hz; cases hz; exact ha pins s σ H xs us Q I r ⟨ρ, h, ds, z, w, al, p, q⟩
  | none => rw [p] at hz; exact hb pins s σ H xs us Q I r ⟨ρ, h, ds, z, w, al, by simpa using hz, q⟩
def khv_ (op : OC) (ms : Env → M (List D)) : Env → M D := fun δ => M.bind (ms δ) fun ds => klj_ fun h => op h ds
theorem kn9_ {op : OC} {ms : Env → M (List D)} {σ : L2.St} {H : Hp} {Q : VK} (p : tM ex W (khv_ op ms) σ H Q) : tCB (rC op) (tA ex W ms) σ H Q := by
  obtain ⟨ρ, h, δ, w, sl, p⟩ := p
  refine ⟨ρ, h, δ, w, sl, (kao_.bind (rel := relA) p).imp (fun v H1 ⟨ρ1, h1, d, s1, r1, p1⟩ => ?_) fun _ _ _ z => z⟩
  obtain ⟨z, hz, p2⟩ := kn7_ p1
  exact ⟨ρ1, h1, d, z, s1.wd, r1, hz, p2⟩
theorem kap_ {id : String} {x : Str} {p pos : Pos} {e : Expr} {es : List Expr} {op : OC} {ms : Env → M (List D)} (hc : CallD X (.builtin id) op) (hg : Gl X x) (hm : X.mg x = none) (hv : bootBuiltins x = some (.builtin id)) (ha : DA ex X W (e :: es) ms)
    (hn : x ≠ "__name__" := by decide) (hdb : (x == ("__debug__" : Str)) = false := by decide) (he : starEach (e :: es) X.env = (false, eval e X.env) :: starEach es X.env := by rfl)
    (hpl : (backTo pos (starEach es X.env)).any (·.1) = false := by rfl) : DE ex X W (.Call (.Name x p) (e :: es) [] pos) (khv_ op ms) :=
  .of (pe_callB hc hg hm hv ha hn hdb he hpl) fun _ _ _ p => kn9_ p
abbrev OCF := OH → List D → Option (List D)
def krU_ (op : OCF) (ms : Env → M (List D)) : Env → M (List D) := fun δ => M.bind (ms δ) fun ds => kd9_ fun h => op h ds
theorem ra1 {ρ : Rh} {N : Addr → Prop} {H : Hp} {vs : List V} {d : D} (a : RAll ρ N H vs [d]) : ∃ v, vs = [v] ∧ R ρ N H v d := by
  cases a with
  | cons r t => cases t; exact ⟨_, rfl, r⟩
theorem ra2 {ρ : Rh} {N : Addr → Prop} {H : Hp} {vs : List V} {d e : D} (a : RAll ρ N H vs [d, e]) : ∃ v u, vs = [v, u] ∧ R ρ N H v d ∧ R ρ N H u e := by
  cases a with
  | cons r t =>
    obtain ⟨u, rfl, r2⟩ := ra1 t
    exact ⟨_, _, rfl, r, r2⟩
def oLen : OC := fun h ds => match ds with
  | [d] => match d with
    | .str x => some (.int x.length)
    | d => (kgd_ h d).map fun xs => .int xs.length
  | _ => none
theorem kt8_ : CallD X (.builtin "len") oLen := .of call_len fun ρ h H ds z vs Q w al hz q => by
  match ds, hz with
  | [d], hz =>
    obtain ⟨v, rfl, r⟩ := ra1 al
    have seq : ∀ xs, kgd_ h d = some xs → z = .int xs.length → ∃ x n, [v] = [x] ∧ LenV X.K x H n ∧ Q (.int n) H := by
      intro xs e1 e2
      obtain ⟨a, us, rfl, h1, al1⟩ := kpO_ w r e1
      have hl := al1.length
      subst e2
      refine ⟨.ref a, us.length, rfl, ?_, ?_⟩
      · rcases h1 with h1 | h1
        · exact .inl ⟨us, SqL.of h1, rfl⟩
        · exact .inr ⟨us, SqT.of h1, rfl⟩
      · rw [hl]
        exact q ρ H _ (Step.refl w) (.int _)
    cases d with
    | str x =>
      cases r with
      | str o l =>
        cases hz
        exact ⟨.str x, x.length, rfl, ⟨l, rfl⟩, q ρ H _ (Step.refl w) (.int _)⟩
    | lst xs => cases hz; exact seq xs rfl rfl
    | tup xs => cases hz; exact seq xs rfl rfl
    | ptr k =>
      have hz : (kgd_ h (.ptr k)).map (fun xs => D.int xs.length) = some z := hz
      cases e1 : kgd_ h (.ptr k) with
      | none => rw [e1] at hz; cases hz
      | some xs => rw [e1] at hz; cases hz; exact seq xs e1 rfl
    | _ => cases hz
def o1i (g : Int → Option D) : OC := fun _ ds => match ds with
  | [.int i] => g i
  | _ => none
def oStr : OC := o1i fun i => if i.natAbs.log2 < 1920 then some (.str (toString i)) else none
def oMax : OC := fun _ ds => match ds with
  | [.int i, .int j] => some (.int (if j > i then j else i))
  | _ => none
def oMin : OC := fun _ ds => match ds with
  | [.int i, .int j] => some (.int (if j < i then j else i))
  | _ => none
theorem krV_ (hc : X.calm = true) : CallD X (.builtin "max") oMax := .of (call_max2 hc) fun ρ h H ds z vs Q w al hz q => by
  match ds, hz with
  | [.int i, .int j], hz =>
    obtain ⟨v, u, rfl, r, r2⟩ := ra2 al
    cases r; cases r2; cases hz
    exact ⟨i, j, rfl, q ρ H _ (Step.refl w) (.int _)⟩
theorem kt9_ (hc : X.calm = true) : CallD X (.builtin "min") oMin := .of (call_min2 hc) fun ρ h H ds z vs Q w al hz q => by
  match ds, hz with
  | [.int i, .int j], hz =>
    obtain ⟨v, u, rfl, r, r2⟩ := ra2 al
    cases r; cases r2; cases hz
    exact ⟨i, j, rfl, q ρ H _ (Step.refl w) (.int _)⟩
def kdE_ : OC := fun h ds => match ds with
  | [d] => match py h d with
    | some p => if p.showable = true ∧ p.leavesShort 64 = true ∧ p.bulk ≤ 200000 ∧ p.depth ≤ 60 then some (.str p.shown) else none
    | none => none
  | _ => none
theorem kcw_ (hG : X.A.guards = some []) (hu : X.A.units + 64 < cLine) (hs : ∃ o, X.base.get? sysModules = some o) : CallD X (.builtin "repr") kdE_ := .of (kms_ hG hu hs) fun ρ h H ds z vs Q w al hz q => by
  match ds, hz with
  | [d], hz =>
    obtain ⟨v, rfl, r⟩ := ra1 al
    have hz : (match py h d with
      | some p => if p.showable = true ∧ p.leavesShort 64 = true ∧ p.bulk ≤ 200000 ∧ p.depth ≤ 60 then some (D.str p.shown) else none
      | none => none) = some z := hz
    cases e : py h d with
    | none => rw [e] at hz; cases hz
    | some p =>
      rw [e] at hz
      dsimp only at hz
      by_cases c : p.showable = true ∧ p.leavesShort 64 = true ∧ p.bulk ≤ 200000 ∧ p.depth ≤ 60
      · rw [if_pos c] at hz
        cases hz
        have a := kt5_ w r e
        have f : Fine 200000 60 p := ⟨c.1, c.2.1, c.2.2.1, c.2.2.2, a.2⟩
        exact ⟨No, v, p, rfl, a.1, f, q ρ H _ (Step.refl w) (.str (khK_ p a.2) (f.fits (Nat.le_refl _)))⟩
      · rw [if_neg c] at hz; cases hz
def kxa_ : OCF := fun h ds => match ds with
  | [d] => kgd_ h d
  | _ => none
def oTup : OC := fun h ds => match ds with
  | [d] => (kgd_ h d).map .tup
  | _ => none
def tyS (h : OH) : D → Option String
  | .non => some "NoneType"
  | .bl _ => some "bool"
  | .int _ => some "int"
  | .str _ => some "str"
  | .lst _ => some "list"
  | .tup _ => some "tuple"
  | .dct _ _ => some "dict"
  | .dcT _ _ => some "dict"
  | .ins _ _ _ => none
  | .ptr k => match h[k]? with
    | some (.lst _) => some "list"
    | some (.dct _ _) => some "dict"
    | some (.dcT _ _) => some "dict"
    | some (.mix _ _) => some "dict"
    | _ => none
def mIsi (T : String) (m : Env → M D) : Env → M D := fun δ => M.bind (m δ) fun d => klj_ fun h => (tyS h d).bind fun t => (kitB t T).map .bl
def kwp_ (T T2 : String) (m : Env → M D) : Env → M D := fun δ => M.bind (m δ) fun d => klj_ fun h => (tyS h d).bind fun t => (kitB t T).bind fun a => (kitB t T2).map fun b => .bl (a || b)
abbrev OM := OH → D → List D → Option (D × OH)
def rMt (op : OM) : V → List V → Hp → VK → Prop := fun x vs H Q => ∃ ρ h d es z h', Wd ρ h H ∧ R ρ (own ρ h) H x d ∧ RAll ρ (own ρ h) H vs es ∧ op h d es = some (z, h') ∧ ∀ ρ' H' v, Step ρ h H ρ' h' H' → R ρ' (own ρ' h') H' v z → Q v H'
def MtD (X : Cx) (id : String) (op : OM) : Prop := MtR X id (rMt op)
theorem MtD.of {id : String} {op : OM} {r : V → List V → Hp → VK → Prop} (ho : MtR X id r) (hh : ∀ ρ h H d es z h' x vs Q, Wd ρ h H → R ρ (own ρ h) H x d → RAll ρ (own ρ h) H vs es → op h d es = some (z, h') → (∀ ρ' H' v, Step ρ h H ρ' h' H' → R ρ' (own ρ' h') H' v z → Q v H') → r x vs H Q) : MtD X id op :=
  fun pins s σ H x xs v us Q I rx rxs ⟨ρ, h, d, es, z, h', w, r1, r2, hz, q⟩ => ho pins s σ H x xs v us Q I rx rxs (hh ρ h H d es z h' x xs Q w r1 r2 hz q)
def ofTy (T : String) (h : OH) (d : D) : Bool := match d with
  | .str _ => T == "str"
  | d => (T == "list") && (kW_ h d).isSome
def ktK_ (T : String) (op : OM) (mo : Env → M D) (ms : Env → M (List D)) : Env → M D := fun δ => M.bind (mo δ) fun d h0 => if ofTy T h0 d = true then M.bind (ms δ) (fun es h => match op h d es with
  | some (z, h') => .ok z h'
  | none => .bad) h0 else .bad
theorem krW_ {K : PySem.W.Frag} {T : String} {ρ : Rh} {h : OH} {H : Hp} {v : V} {d : D} (w : Wd ρ h H) (r : R ρ (own ρ h) H v d) (e : ofTy T h d = true) : tyV K T v H := by
  have lst : ∀ xs, kW_ h d = some xs → T = "list" → tyV K T v H := fun xs e1 e2 => by
    obtain ⟨a, vs, rfl, h1, _⟩ := kaE_ w r e1
    exact .inl ⟨e2, vs, SqL.of h1⟩
  have two : (T == "list" && (kW_ h d).isSome) = true → tyV K T v H := fun e => by
    rw [Bool.and_eq_true] at e
    obtain ⟨xs, hx⟩ := Option.isSome_iff_exists.mp e.2
    exact lst xs hx (eq_of_beq e.1)
  cases d with
  | str x => cases r; exact eq_of_beq e
  | non => exact two e
  | bl _ => exact two e
  | int _ => exact two e
  | lst _ => exact two e
  | tup _ => exact two e
  | dct _ _ => exact two e
  | dcT _ _ => exact two e
  | ins _ _ _ => exact two e
  | ptr _ => exact two e
theorem koa_ {W : Value → Option Addr → Hp → Prop} {ρ : Rh} {h : OH} {H : Hp} {op : OM} {d : D} {es : List D} {Q : VK} (p : kao_ relV W ρ h H ((fun h => match op h d es with
  | some (z, h') => Res.ok z h'
  | none => .bad) h) Q) : ∃ z h', op h d es = some (z, h') ∧ ∀ ρ' H' v, Step ρ h H ρ' h' H' → R ρ' (own ρ' h') H' v z → Q v H' := by
  dsimp only at p
  cases hz : op h d es with
  | none => rw [hz] at p; exact p.elim
  | some z => rw [hz] at p; exact ⟨z.1, z.2, rfl, p⟩
theorem krX_ {o e : Expr} {es : List Expr} {name : Str} {apos cpos : Pos} {T id : String} {op : OM} {mo : Env → M D} {ms : Env → M (List D)} (pa : PlainAttrs T) (slot : Slot T name id) (hty : typeOf (.builtin id) = pure (.type "method_descriptor")) (hm : MtD X id op) (ho : DE ex X W o mo) (ha : DA ex X W (e :: es) ms)
    (hbase : attributeBase o name X.env (eval o X.env) = eval o X.env := by rfl)
    (hfew : ((backTo cpos (starEach (e :: es) X.env)).all (fun x => !x.1) && (backToKw cpos (keywordEach [] X.env)).all (fun x => x.1.isSome)
      && decide ((e :: es).length + ([] : List Keyword).length + (if ([] : List Keyword).isEmpty then 0 else 1) < 30)) = true := by rfl)
    (hline : (apos.endLine == cpos.line) = true := by rfl) (hs : starEach (e :: es) X.env = (false, eval e X.env) :: starEach es X.env := by rfl) (hplain : (backTo cpos (starEach es X.env)).any (·.1) = false := by rfl) :
    DE ex X W (.Call (.Attribute o name apos) (e :: es) [] cpos) (ktK_ T op mo ms) :=
  .of (pe_bm pa slot hty hm ho ha hbase hfew hline hs hplain) fun σ H Q ⟨ρ, h, δ, w, sl, p⟩ => by
    refine ⟨ρ, h, δ, w, sl, (kao_.bind (rel := relV) p).imp (fun v H1 ⟨ρ1, h1, d, s1, r1, p1⟩ => ?_) fun _ _ _ z => z⟩
    split at p1
    · rename_i c
      refine ⟨krW_ s1.wd r1 c, ρ1, h1, δ, s1.wd, s1.Sls sl, (kao_.bind (rel := relA) p1).imp (fun vs H2 ⟨ρ2, h2, es, s2, r2, p2⟩ => ?_) fun _ _ _ z => z⟩
      obtain ⟨z, h', hz, q⟩ := koa_ p2
      exact ⟨ρ2, h2, d, es, z, h', s2.wd, s2.R r1, r2, hz, q⟩
    · exact p1.elim
def krY_ (T : String) (op : OM) (mo : Env → M D) : Env → M D := fun δ => M.bind (mo δ) fun d h => if ofTy T h d = true then (match op h d [] with
  | some (z, h') => .ok z h'
  | none => .bad) else .bad
def ownL (h : OH) : D → Option (Nat × List D)
  | .ptr k => match h[k]? with
    | some (.lst xs) => some (k, xs)
    | _ => none
  | _ => none
theorem kpc_ {ρ : Rh} {h : OH} {H : Hp} {v : V} {d : D} {k : Nat} {xs : List D} (w : Wd ρ h H) (r : R ρ (own ρ h) H v d) (e : ownL h d = some (k, xs)) :
    ∃ a vs, v = .ref a ∧ H a = some (.lst vs) ∧ RAll ρ (own ρ h) H vs xs ∧ d = .ptr k ∧ h[k]? = some (.lst xs) ∧
      ∀ (us : List V) (ys : List D), RAll ρ (own ρ h) H us ys → Step ρ h H ρ (h.set k (.lst ys)) (upd H a (.lst us)) := by
  cases r with
  | @ptr j a e1 =>
    have e : (match h[j]? with
      | some (.lst xs) => some (j, xs)
      | _ => none) = some (k, xs) := e
    cases q : h[j]? with
    | none => rw [q] at e; cases e
    | some o =>
      rw [q] at e
      cases o with
      | lst zs =>
        cases e
        obtain ⟨vs, e2, al⟩ := w.at' k a _ e1 q
        refine ⟨a, vs, rfl, e2, al, rfl, q, fun us ys al2 => w.put kgb_ e1 q (fun z => nomatch z) ⟨us, upd_same, ?_⟩⟩
        have oa : own ρ h a := .inr ⟨k, _, e1, q, fun z => nomatch z⟩
        have nOwn : ∀ b, own ρ (h.set k (.lst ys)) b → own ρ h b := by
          rintro b (z | ⟨i, v, f1, f2, n⟩)
          · exact .inl z
          by_cases hj : i = k
          · subst hj; rw [e1] at f1; cases f1; exact oa
          · rw [List.getElem?_set_ne (Ne.symm hj)] at f2
            exact .inr ⟨i, v, f1, f2, n⟩
        exact al2.mono (List.prefix_refl _) (fun b v nb _ q => by rw [upd_ne (fun z => nb (by rw [z]; exact oa))]; exact q) fun b z => .inl (nOwn b z)
      | _ => cases e
  | _ => cases e
def kjJ_ : OM := fun h d es => match ownL h d, es with
  | some (k, xs), [y] => if xs.length < lim then some (.non, h.set k (.lst (xs ++ [y]))) else none
  | _, _ => none
theorem kob_ : MtD X "list.append" kjJ_ := .of mt_append fun ρ h H d es z h' x vs Q w r1 r2 hz q => by
  unfold kjJ_ at hz
  cases e1 : ownL h d with
  | none => rw [e1] at hz; cases hz
  | some kx =>
    obtain ⟨k, xs⟩ := kx
    rw [e1] at hz
    match es, hz with
    | [y], hz =>
      dsimp only at hz
      by_cases c : xs.length < lim
      · rw [if_pos c] at hz
        cases hz
        obtain ⟨a, us, rfl, h1, al, rfl, e2, st⟩ := kpc_ w r1 e1
        obtain ⟨u, rfl, ru⟩ := ra1 r2
        exact ⟨a, us, u, rfl, rfl, h1, by rw [al.length]; exact kaT_ (Nat.succ_le_of_lt c), q ρ _ _ (st _ _ (al.append (.cons ru .nil))) .non⟩
      · rw [if_neg c] at hz; cases hz
def oPop : OM := fun h d es => match ownL h d, es with
  | some (k, xs), [] => (xs[xs.length - 1]?).map fun y => (y, h.set k (.lst xs.dropLast))
  | some (k, xs), [.int i] => if -(2 ^ 63) ≤ i ∧ i < 2 ^ 63 then (seqIndex? i xs.length).bind fun j => (xs[j]?).map fun y => (y, h.set k (.lst (xs.eraseIdx j))) else none
  | _, _ => none
theorem RAll.dropLast {ρ : Rh} {N : Addr → Prop} {H : Hp} {vs : List V} {ds : List D} (al : RAll ρ N H vs ds) : RAll ρ N H vs.dropLast ds.dropLast := by
  rw [List.dropLast_eq_take, List.dropLast_eq_take, al.length]; exact al.take _
def krZ_ : OM := fun h d es => match ownL h d, es with
  | some (k, xs), [] => some (.non, h.set k (.lst []))
  | _, _ => none
def kpd_ : OM := fun h d es => match ownL h d, es with
  | some (k, xs), [e] => match kW_ h e with
    | some ys => if xs.length + ys.length ≤ lim then some (.non, h.set k (.lst (xs ++ ys))) else none
    | none => none
  | _, _ => none
def oS1 (g : Str → Str → Option D) : OM := fun h d es => match d, es with
  | .str a, [.str b] => (g a b).map fun z => (z, h)
  | _, _ => none
def klN_ : OM := oS1 fun a b => some (.bl (Txt.startswith a b))
def koc_ : OM := oS1 fun a b => some (.bl (Txt.endswith a b))
def kua_ : OM := oS1 fun a b => some (.str (Txt.stripChars a b))
def kr0_ : OM := oS1 fun a b => some (.str (Txt.lstripChars a b))
def kr1_ : OM := oS1 fun a b => some (.str (Txt.rstripChars a b))
def strsOf : List D → Option (List Str)
  | [] => some []
  | .str x :: r => (strsOf r).map (x :: ·)
  | _ :: _ => none
def kwq_ : OM := fun h d es => match d, es with
  | .str a, [e] => match kgd_ h e with
    | some xs => match strsOf xs with
      | some ys => if (ys.map (·.length)).sum + ys.length * a.length ≤ lim then some (.str (Txt.join a ys), h) else none
      | none => none
    | none => none
  | _, _ => none
def fmtD : D → Option Str
  | .str x => some x
  | .int i => if i.natAbs.log2 < 1920 then some (toString i) else none
  | _ => none
def mFmt (m : Env → M D) : Env → M D := fun δ => M.bind (m δ) fun d => klj_ fun _ => (fmtD d).map .str
def mJs : List (Env → M D) → Str → Env → M D
  | [], acc => fun _ => M.pure (.str acc)
  | m :: ms, acc => fun δ => M.bind (m δ) fun d => match d with
    | .str y => if (acc ++ y).length ≤ lim then mJs ms (acc ++ y) δ else M.bad
    | _ => M.bad
def kxb_ : OM := fun h d es => match d, es with
  | .str a, [.str b] => if (b.length == 0) = false then some (.tup [.str (Txt.partition a b).1, .str (Txt.partition a b).2.1, .str (Txt.partition a b).2.2], h) else none
  | _, _ => none
end
end Z
set_option Elab.async false
set_option linter.all false
set_option maxRecDepth 100000
set_option maxHeartbeats 4000000
namespace Z
open PySem PySem.Spec PyProof.Rows L2 TL Y
open Classical
section
variable {ex : Ex} {X : Cx} {W : WX}
abbrev GD := D → Env → Option Env
def Chg (is : List Nat) (σ σ' : L2.St) : Prop := ∀ vs : List Nat, (∀ i ∈ is, i ∈ vs) → wipe σ' vs = wipe σ vs
theorem kkw_ {σ : L2.St} {i : Nat} {x : Option V} : ∀ {vs : List Nat}, i ∈ vs → wipe (σ.set i x) vs = wipe σ vs
  | v :: vs, h => by
    unfold wipe
    by_cases e : i ∈ vs
    · rw [kkw_ e]
    · have hv : i = v := (List.mem_cons.mp h).resolve_right e
      subst hv
      have go : ∀ (vs : List Nat) (τ : L2.St), (wipe (τ.set i x) vs).set i none = (wipe τ vs).set i none := by
        intro vs
        induction vs with
        | nil => intro τ; unfold wipe; rw [List.set_set]
        | cons u us ih =>
          intro τ
          unfold wipe
          by_cases hu : u = i
          · subst hu; rw [List.set_set, List.set_set]; exact ih τ
          · rw [List.set_comm _ _ hu, ih τ, List.set_comm _ _ (Ne.symm hu)]
      exact go vs σ
def tG (ex : Ex) (is : List Nat) (g : GD) : TG := fun v σ H Q => ∃ ρ h δ d δ', Wd ρ h H ∧ Sls ex ρ (own ρ h) H σ δ ∧ R ρ (own ρ h) H v d ∧ g d δ = some δ' ∧ ∀ σ', Sls ex ρ (own ρ h) H σ' δ' → Chg is σ σ' → Q σ' H
def DG (ex : Ex) (X : Cx) (e : Expr) (is : List Nat) (g : GD) : Prop := PG X e (tG ex is g)
def gNm (i : Nat) : GD := fun d δ => some (δ.set i (.val d))
theorem kdf_ {i : Nat} {x : Str} {pos : Pos} (hN : X.N.Nodup) (hi : X.N[i]? = some x) (hx : Loc X.env.scope x) (hf : X.fn x = true ∨ X.env.scope.names.lookup x = some .local := by first | exact .inl rfl | exact .inr rfl | assumption) : DG ex X (.Name x pos) [i] (gNm i) :=
  ⟨fun pins s σ H v u Q I r ⟨ρ, h, δ, d, δ', w, sl, rd, e, q⟩ => (pg_name (i := i) hN hi hx hf).run pins s σ H v u Q I r (by
    cases e
    exact q _ (sl.set (o := some v) (s := .val d) ⟨v, rfl, rd⟩) fun vs hv => kkw_ (hv i List.mem_cons_self))⟩
def gAll : List GD → List D → Env → Option Env
  | [], [], δ => some δ
  | g :: gs, d :: ds, δ => (g d δ).bind fun δ' => gAll gs ds δ'
  | _, _, _ => none
def tGs (ex : Ex) (is : List Nat) (gs : List GD) : TGs := fun vs σ H Q => ∃ ρ h δ ds δ', Wd ρ h H ∧ Sls ex ρ (own ρ h) H σ δ ∧ RAll ρ (own ρ h) H vs ds ∧ gAll gs ds δ = some δ' ∧ ∀ σ', Sls ex ρ (own ρ h) H σ' δ' → Chg is σ σ' → Q σ' H
def DGs (ex : Ex) (X : Cx) (es : List Expr) (is : List Nat) (gs : List GD) : Prop := PGs X es (tGs ex is gs)
theorem kpe_ : DGs ex X [] [] [] := ⟨fun pins s σ H vs us Q I r ⟨ρ, h, δ, ds, δ', w, sl, al, e, q⟩ => pgs_nil.run pins s σ H vs us Q I r (by
  cases al with
  | nil => cases e; exact ⟨rfl, q σ sl fun _ _ => rfl⟩
  | cons _ _ => cases e)⟩
theorem khO_ {e : Expr} {es : List Expr} {i j : List Nat} {g : GD} {gs : List GD} (h1 : DG ex X e i g) (h2 : DGs ex X es j gs)
    (hs : (assignEach (e :: es) X.env).map (·.2) = assign e X.env :: (assignEach es X.env).map (·.2) := by rfl) : DGs ex X (e :: es) (i ++ j) (g :: gs) :=
  ⟨fun pins s σ H vs us Q I r ⟨ρ, h, δ, ds, δ', w, sl, al, e, q⟩ => (pgs_cons h1 h2 hs).run pins s σ H vs us Q I r (by
    cases al with
    | nil => cases e
    | @cons v vs d ds rd al =>
      have e : (g d δ).bind (fun δ' => gAll gs ds δ') = some δ' := e
      cases e1 : g d δ with
      | none => rw [e1] at e; cases e
      | some δ1 =>
        rw [e1, Option.bind_some] at e
        refine ⟨v, vs, rfl, ρ, h, δ, d, δ1, w, sl, rd, e1, fun σ' sl' c' => ?_⟩
        exact ⟨ρ, h, δ1, ds, δ', w, sl', al, e, fun σ2 sl2 c2 => q σ2 sl2 fun vs hv => (c2 vs fun i hi => hv i (List.mem_append_right _ hi)).trans (c' vs fun i hi => hv i (List.mem_append_left _ hi))⟩)⟩
def sqOf : D → Option (List D)
  | .tup xs => some xs
  | .lst xs => some xs
  | _ => none
def gTp (gs : List GD) : GD := fun d δ => match sqOf d with
  | some xs => if xs.length = gs.length then gAll gs xs δ else none
  | none => none
def gSeq (K : PySem.W.Frag) (n : Nat) (t : TGs) : TG := fun v σ H Q => ∃ a xs, v = .ref a ∧ (SqT K H a xs ∨ SqL K H a xs) ∧ xs.length = n ∧ t xs σ H Q
theorem kub_ {es : List Expr} {k : Nat} {t : TGs} {n : Nat} {pos : Pos} (hc : X.calm = true) (h : PGs X es t)
    (hn : (assignEach es X.env).length = n := by rfl) (hst : (assignEach es X.env).findIdx? (·.1) = none := by rfl) : PG X (.Tuple es k pos) (gSeq X.K n t) := by
  refine ⟨fun pins s σ H v u Q I r hw => ?_⟩
  obtain ⟨a, xs, e1, hq, hl, hw⟩ := hw
  rcases hq with hq | hq
  · exact (pg_tup hc h hn hst).run pins s σ H v u Q I r ⟨a, xs, e1, hq, hl, hw⟩
  subst e1
  cases r
  obtain ⟨its, rv, ⟨o, n', e, cl, _, dt⟩, hz⟩ := I.list hq
  rw [arm_assign_Tuple]
  refine wpAny_bind (wpAny_standAt ?_)
  unfold unpack
  rw [hst, show (assignEach es X.env).length = its.toArray.size by simp [hn, ← hl, rv.length]]
  refine wpAny_bind (wpAny_holding (PySem.W.kun_itemsOf (I.ok.hd hc) ⟨o, e, cl, n', dt⟩ fun h' hx => ?_))
  have I1 : Inv X pins σ H { s with heap := h' } := I.kept (t' := s.toks) fun b o e => hx b o (Nat.ne_of_lt (Heap.lt_size e)) e
  exact h.run pins _ σ H xs _ Q I1 (by simpa using rv) hw
theorem kr2_ {es : List Expr} {k : Nat} {is : List Nat} {gs : List GD} {pos : Pos} (hc : X.calm = true) (h : DGs ex X es is gs) (hn : (assignEach es X.env).length = gs.length := by rfl) (hst : (assignEach es X.env).findIdx? (·.1) = none := by rfl) :
    DG ex X (.Tuple es k pos) is (gTp gs) := ⟨fun pins s σ H v u Q I r ⟨ρ, hh, δ, d, δ', w, sl, rd, e, q⟩ => (kub_ hc h hn hst).run pins s σ H v u Q I r (by
  unfold gTp at e
  cases e1 : sqOf d with
  | none => rw [e1] at e; cases e
  | some xs =>
    rw [e1] at e
    dsimp only at e
    by_cases c : xs.length = gs.length
    · rw [if_pos c] at e
      cases d with
      | tup ys =>
        cases e1
        obtain ⟨a, vs, rfl, h1, _, al, _⟩ := keJ_ rd rfl
        exact ⟨a, vs, rfl, .inl (SqT.of h1), by rw [al.length]; exact c, ρ, hh, δ, _, δ', w, sl, al, e, q⟩
      | lst ys =>
        cases e1
        cases rd with
        | lst h1 _ al => exact ⟨_, _, rfl, .inr (SqL.of h1), by rw [al.length]; exact c, ρ, hh, δ, _, δ', w, sl, al, e, q⟩
      | _ => cases e1
    · rw [if_neg c] at e; cases e)⟩
@[inline] def kbV_ {α : Type} (m : Env → M α) (f : α → MS) : MS := fun δ h => match m δ h with
  | .ok a h' => f a δ h'
  | .exc C ns vs h' => .exc C ns vs δ h'
  | .bad => .bad
theorem kaF_ {α β : Type} {rel : Rh → OH → Hp → β → α → Prop} {m : Env → M α} {f : α → MS} {ρ : Rh} {h : OH} {H : Hp} {σ : L2.St} {δ : Env} {E : Ends} (sl : Sls ex ρ (own ρ h) H σ δ) (p : khH_ ex W ρ h H (kbV_ m f δ h) E) :
    kao_ rel (WXat W σ) ρ h H (m δ h) (fun b H1 => ∃ ρ1 h1 x, Step ρ h H ρ1 h1 H1 ∧ rel ρ1 h1 H1 b x ∧ khH_ ex W ρ1 h1 H1 (f x δ h1) E) := by
  unfold kbV_ at p
  cases e : m δ h with
  | ok x h1 => rw [e] at p; exact fun ρ1 H1 b s r => ⟨ρ1, h1, x, s, r, p.step s⟩
  | exc C ns xs h1 => rw [e] at p; exact fun ρ1 H1 x vs s e1 n l al => p ρ1 H1 x vs σ s (s.Sls sl) e1 n l al
  | bad => rw [e] at p; exact p
theorem khH_.nx {ρ : Rh} {h : OH} {H : Hp} {σ : L2.St} {δ : Env} {E : Ends} (p : khH_ ex W ρ h H (.ok (.nx δ) h) E) (w : Wd ρ h H) (sl : Sls ex ρ (own ρ h) H σ δ) : E.nx σ H := p ρ H σ (Step.refl w) sl
def sNx : MS := fun δ h => .ok (.nx δ) h
def sSeq (a b : MS) : MS := fun δ h => match a δ h with
  | .ok (.nx δ') h' => b δ' h'
  | r => r
theorem kdg_ : DSs ex X W [] sNx := .of pss_nil fun E σ H ⟨ρ, h, δ, w, sl, p⟩ => khH_.nx p w sl
theorem seq_post {a b : MS} {ρ : Rh} {h : OH} {H : Hp} {δ : Env} {E : Ends} {t : TS} (hb : ∀ D σ H, tS ex W b D σ H → t D σ H) (p : khH_ ex W ρ h H (sSeq a b δ h) E) : khH_ ex W ρ h H (a δ h) { E with nx := t E } := by
  unfold sSeq at p
  cases e : a δ h with
  | ok f h1 =>
    rw [e] at p
    cases f with
    | nx δ1 => exact fun ρ1 H1 σ1 s sl => hb E σ1 H1 ⟨ρ1, h1, δ1, s.wd, sl, p.step s⟩
    | rt d => exact p
    | bk δ1 => exact p
    | ct δ1 => exact p
  | exc C ns xs δ1 h1 => rw [e] at p; exact p
  | bad => rw [e] at p; exact p
theorem kO_ {st : Stmt} {rest : List Stmt} {a b : MS} (h1 : DS ex X W st a) (h2 : DSs ex X W rest b) : DSs ex X W (st :: rest) (sSeq a b) := .of (pss_cons h1 h2) fun E σ H ⟨ρ, h, δ, w, sl, p⟩ =>
  ⟨ρ, h, δ, w, sl, seq_post (fun _ _ _ z => z) p⟩
theorem k7_ {st : Stmt} {a : MS} (h1 : DS ex X W st a) : DSs ex X W [st] a := pss_one h1
def sSet (i : Nat) (m : Env → M D) : MS := kbV_ m fun d δ h => .ok (.nx (δ.set i (.val d))) h
theorem kaD_ {i : Nat} {x : Str} {e : Expr} {m : Env → M D} {pos pos' : Pos} (hN : X.N.Nodup) (hi : X.N[i]? = some x) (hx : Loc X.env.scope x) (he : DE ex X W e m) (hs : swapsWith e (some (.Name x pos')) pos.line X.env = pure false := by rfl)
    (hf : X.fn x = true ∨ X.env.scope.names.lookup x = some .local := by first | exact .inl rfl | exact .inr rfl | assumption) : DS ex X W (.Assign [.Name x pos'] e pos) (sSet i m) :=
  .of (ps_set hN hi hx he hs hf) fun E σ H ⟨ρ, h, δ, w, sl, p⟩ =>
    ⟨ρ, h, δ, w, sl, (kaF_ (rel := relV) sl p).imp (fun v H1 ⟨ρ1, h1, d, s1, r1, p1⟩ => khH_.nx p1 s1.wd ((s1.Sls sl).set (o := some v) (s := .val d) ⟨v, rfl, r1⟩)) fun _ _ _ z => z⟩
def sAsg (g : GD) (m : Env → M D) : MS := kbV_ m fun d δ h => match g d δ with
  | some δ' => .ok (.nx δ') h
  | none => .bad
def sPar (i j : Nat) (ms : Env → M (List D)) : MS := kbV_ ms fun ds δ h => match ds with
  | [a, b] => .ok (.nx ((δ.set i (.val a)).set j (.val b))) h
  | _ => .bad
def ktL_ (m : Env → M D) : MS := kbV_ m fun _ δ h => .ok (.nx δ) h
theorem kr3_ {e : Expr} {m : Env → M D} {pos : Pos} (he : DE ex X W e m) (hs : swapsWith e none pos.line X.env = pure false := by rfl) : DS ex X W (.Expr e pos) (ktL_ m) :=
  .of (ps_expr he hs) fun E σ H ⟨ρ, h, δ, w, sl, p⟩ =>
    ⟨ρ, h, δ, w, sl, (kaF_ (rel := relV) sl p).imp (fun v H1 ⟨ρ1, h1, d, s1, r1, p1⟩ => khH_.nx p1 s1.wd (s1.Sls sl)) fun _ _ _ z => z⟩
def sRet (m : Env → M D) : MS := kbV_ m fun d _ h => .ok (.rt d) h
theorem kbW_ {e : Expr} {m : Env → M D} {pos : Pos} (he : DE ex X W e m) : DS ex X W (.Return (some e) pos) (sRet m) :=
  .of (ps_ret he) fun E σ H ⟨ρ, h, δ, w, sl, p⟩ =>
    ⟨ρ, h, δ, w, sl, (kaF_ (rel := relV) sl p).imp (fun v H1 ⟨ρ1, h1, d, s1, r1, p1⟩ => p1 ρ1 H1 v (Step.refl s1.wd) r1) fun _ _ _ z => z⟩
def kxc_ : MS := fun _ h => .ok (.rt .non) h
def sIf (c : Env → M Bool) (a b : MS) : MS := kbV_ c fun k δ h => if k = true then a δ h else b δ h
theorem kn1_ {c : Expr} {a b : List Stmt} {mc : Env → M Bool} {ma mb : MS} {pos : Pos} (hc : DT ex X W c mc) (ha : DSs ex X W a ma) (hb : DSs ex X W b mb) : DS ex X W (.If c a b pos) (sIf mc ma mb) :=
  .of (ps_if hc ha hb) fun E σ H ⟨ρ, h, δ, w, sl, p⟩ =>
    ⟨ρ, h, δ, w, sl, (kaF_ (rel := relB) sl p).imp (fun k H1 ⟨ρ1, h1, d, s1, r1, p1⟩ => by
      cases r1
      cases k with
      | true => exact ⟨ρ1, h1, δ, s1.wd, s1.Sls sl, p1⟩
      | false => exact ⟨ρ1, h1, δ, s1.wd, s1.Sls sl, p1⟩) fun _ _ _ z => z⟩
def sBk : MS := fun δ h => .ok (.bk δ) h
def sCt : MS := fun δ h => .ok (.ct δ) h
def iOp (f : Int → Int → Int) (a b : D) : Option D := match a, b with
  | .int i, .int j => some (.int (f i j))
  | _, _ => none
def sAug (i : Nat) (f : Int → Int → Int) (m : Env → M D) : MS := fun δ h => match δ[i]? with
  | some (.val a) => kbV_ m (fun b δ h => match iOp f a b with
    | some z => .ok (.nx (δ.set i (.val z))) h
    | none => .bad) δ h
  | _ => .bad
structure Its where
  xs : List D
  ok : OH → Prop
structure Lat (ρ : Rh) (h : OH) (H : Hp) (ρ' : Rh) (h' : OH) (H' : Hp) : Prop where
  pre : ρ.l <+: ρ'.l
  wd : Wd ρ' h' H'
  keep : ∀ a o, ¬ own ρ h a → (∀ ps, o ≠ .tbl ps) → H a = some o → H' a = some o
  news : ∀ a, own ρ' h' a → own ρ h a ∨ NT H a
theorem Lat.of {ρ ρ' : Rh} {h h' : OH} {H H' : Hp} (s : Step ρ h H ρ' h' H') : Lat ρ h H ρ' h' H' := ⟨s.pre, s.wd, s.keep, s.news⟩
theorem Lat.ofF {ρ ρ' : Rh} {h h' : OH} {H H' : Hp} {p : Addr} (s : kdB_ ρ h H ρ' h' H' p) : Lat ρ h H ρ' h' H' := ⟨s.pre, s.wd, s.keep, s.news⟩
theorem Lat.RAll {ρ ρ' : Rh} {h h' : OH} {H H' : Hp} (a : Lat ρ h H ρ' h' H') {vs : List V} {ds : List D} (r : Z.RAll ρ (own ρ h) H vs ds) : Z.RAll ρ' (own ρ' h') H' vs ds := r.mono a.pre a.keep a.news
theorem Lat.R {ρ ρ' : Rh} {h h' : OH} {H H' : Hp} (a : Lat ρ h H ρ' h' H') {vs : V} {ds : D} (r : Z.R ρ (own ρ h) H vs ds) : Z.R ρ' (own ρ' h') H' vs ds := r.mono a.pre a.keep a.news
structure kwr_ (J : It) (ρ : Rh) (h : OH) (H : Hp) (its : Its) (G : Hp → Prop) (Y : Nat → Hp → V → Hp → Prop) : Prop where
  w : Walk J its.xs.length G Y
  stay : ∀ ρ' h' H', Lat ρ h H ρ' h' H' → its.ok h' → G H'
  gives : ∀ ρ' h' Hc i x Hc', Lat ρ h H ρ' h' Hc → its.ok h' → i < its.xs.length → Y i Hc x Hc' → ∃ d, its.xs[i]? = some d ∧ (∀ a o, Hc a = some o → Hc' a = some o) ∧ R ρ' (own ρ' h') Hc' x d
  now : its.ok h
abbrev relI : Rh → OH → Hp → It → Its → Prop := fun ρ h H J its => ∃ G Y, kwr_ J ρ h H its G Y
def tI (ex : Ex) (W : WX) (m : Env → M Its) : TI := fun σ H Rr => ∃ ρ h δ, Wd ρ h H ∧ Sls ex ρ (own ρ h) H σ δ ∧ kao_ relI (WXat W σ) ρ h H (m δ h) Rr
def DI (ex : Ex) (X : Cx) (W : WX) (tg e : Expr) (m : Env → M Its) : Prop := PI X tg e (tI ex W m)
theorem DI.of {tg e : Expr} {t : TI} {m : Env → M Its} (h : PI X tg e t) (hm : ∀ σ H Q, tI ex W m σ H Q → t σ H Q) : DI ex X W tg e m := ⟨fun pins s σ H Q I q => h.run pins s σ H Q I (hm σ H Q q)⟩
def stays (d : D) (xs : List D) : OH → Prop := match d with
  | .ptr k => fun h => h[k]? = some (.lst xs)
  | _ => fun _ => True
def mItL (m : Env → M D) : Env → M Its := fun δ => M.bind (m δ) fun d h => match kW_ h d with
  | some xs => .ok ⟨xs, stays d xs⟩ h
  | none => .bad
theorem klO_ {ρ ρ' : Rh} {h h' : OH} {H H' : Hp} {a : Addr} {d : D} {xs : List D} (w : Wd ρ h H) (r : R ρ (own ρ h) H (.ref a) d) (e : kW_ h d = some xs) (l : Lat ρ h H ρ' h' H') (s : stays d xs h') : ∃ vs, H' a = some (.lst vs) ∧ RAll ρ' (own ρ' h') H' vs xs :=
  let ⟨b, vs, e1, e2, al⟩ := kaE_ l.wd (l.R r) (show kW_ h' d = some xs by
    cases d with
    | ptr k =>
      have s : h'[k]? = some (.lst xs) := s
      show (match h'[k]? with
        | some (.lst xs) => some xs
        | _ => none) = some xs
      rw [s]
    | lst ys => exact e
    | _ => cases e)
  by cases e1; exact ⟨vs, e2, al⟩
theorem khP_ {h : OH} {d : D} {xs : List D} (e : kW_ h d = some xs) : stays d xs h := by
  cases d with
  | ptr k =>
    have e : (match h[k]? with
        | some (.lst xs) => some xs
        | _ => none) = some xs := e
    show h[k]? = some (.lst xs)
    cases q : h[k]? with
    | none => rw [q] at e; cases e
    | some o =>
      rw [q] at e
      cases o with
      | lst ys => cases e; rfl
      | _ => cases e
  | _ => trivial
theorem kod_ {tg e : Expr} {m : Env → M D} (he : DE ex X W e m) : DI ex X W tg e (mItL m) := .of (pi_list he) fun σ H Q ⟨ρ, h, δ, w, sl, p⟩ => by
  refine ⟨ρ, h, δ, w, sl, (kao_.bind (rel := relV) p).imp (fun v H1 ⟨ρ1, h1, d, s1, r1, p1⟩ => ?_) fun _ _ _ z => z⟩
  cases e1 : kW_ h1 d with
  | none => simp only [e1] at p1; exact p1.elim
  | some xs =>
    simp only [e1] at p1
    obtain ⟨a, vs, rfl, h2, al⟩ := kaE_ s1.wd r1 e1
    refine ⟨a, rfl, ⟨vs, SqL.of h2⟩, p1 ρ1 H1 _ (Step.refl s1.wd) ⟨fun H => ∃ us, H a = some (.lst us) ∧ us.length = xs.length, fun i H x H' => H' = H ∧ ∃ us, H a = some (.lst us) ∧ us[i]? = some x, ⟨⟨?_, ?_, ?_⟩, ?_, ?_, khP_ e1⟩⟩⟩
    · rintro i H hi ⟨us, hu, hl⟩
      exact ⟨us, us[i]'(by rw [hl]; exact hi), SqL.of hu, by simp [hl, hi]⟩
    · rintro H ⟨us, hu, hl⟩
      exact ⟨us, SqL.of hu, Nat.le_of_eq hl⟩
    · rintro i H x H' hi ⟨us, hu, hl⟩ y
      exact ⟨y.1, us, hu, y.2 us (SqL.of hu)⟩
    · intro ρ' h' H' l s
      obtain ⟨us, hu, al2⟩ := klO_ s1.wd r1 e1 l s
      exact ⟨us, hu, al2.length⟩
    · rintro ρ' h' Hc i x Hc' l s hi ⟨rfl, us, hu, hx⟩
      obtain ⟨us2, hu2, al2⟩ := klO_ s1.wd r1 e1 l s
      rw [hu] at hu2; cases hu2
      obtain ⟨d', hd', r'⟩ := al2.get hx
      exact ⟨d', hd', fun _ _ z => z, r'⟩
def kcC_ : OH → Prop := fun _ => True
def mItT (m : Env → M D) : Env → M Its := fun δ => M.bind (m δ) fun d h => match kjD_ d with
  | some xs => .ok ⟨xs, kcC_⟩ h
  | none => .bad
def rngD (lo : Int) (n : Nat) : List D := (List.range n).map fun (i : Nat) => D.int (lo + i)
def kr4_ (m : Env → M D) : Env → M Its := fun δ => M.bind (m δ) fun d => match d with
  | .int j => if -(2 ^ 62) ≤ j ∧ j < 2 ^ 62 then M.pure ⟨rngD 0 j.toNat, kcC_⟩ else M.bad
  | _ => M.bad
def kws_ (m m2 : Env → M D) : Env → M Its := fun δ => M.bind (m δ) fun d => M.bind (m2 δ) fun e => match d, e with
  | .int i, .int j => if -(2 ^ 62) ≤ i ∧ i < 2 ^ 62 ∧ -(2 ^ 62) ≤ j ∧ j < 2 ^ 62 then M.pure ⟨rngD i (j - i).toNat, kcC_⟩ else M.bad
  | _, _ => M.bad
theorem kpZ_ {ρ : Rh} {h : OH} {H : Hp} {lo : Int} {n : Nat} : relI ρ h H (Itr lo n) ⟨rngD lo n, kcC_⟩ := by
  have hl : (rngD lo n).length = n := by unfold rngD; simp
  refine ⟨fun _ => True, YFn fun i => .int (lo + i), ⟨by show Walk _ (rngD lo n).length _ _; rw [hl]; exact walk_range, fun _ _ _ _ _ => trivial, ?_, trivial⟩⟩
  rintro ρ' h' Hc i x Hc' l _ hi ⟨rfl, rfl⟩
  have hi : i < (rngD lo n).length := hi
  rw [hl] at hi
  refine ⟨.int (lo + i), ?_, fun _ _ z => z, .int _⟩
  show (rngD lo n)[i]? = _
  unfold rngD
  simp [hi]
theorem klm_ {tg a : Expr} {m : Env → M D} {p pos : Pos} (hg : Gl X "range") (hm : X.mg "range" = none) (ha : DE ex X W a m) (hs : starEach [a] X.env = [(false, eval a X.env)] := by rfl) : DI ex X W tg (.Call (.Name "range" p) [a] [] pos) (kr4_ m) :=
  .of (pi_range1 hg hm (pa_cons ha pa_nil (by rw [hs]; rfl)) hs) fun σ H Q ⟨ρ, h, δ, w, sl, p⟩ => by
    refine ⟨ρ, h, δ, w, sl, (kao_.bind (rel := relV) p).imp (fun v H1 ⟨ρ1, h1, d, s1, r, p1⟩ => ?_) fun _ _ _ z => z⟩
    cases d <;> try exact p1.elim
    rename_i j
    cases r
    dsimp only at p1
    by_cases c : -(2 ^ 62) ≤ j ∧ j < 2 ^ 62
    · rw [if_pos c] at p1
      exact ⟨j, rfl, c.1, c.2, p1 ρ1 H1 _ (Step.refl s1.wd) kpZ_⟩
    · rw [if_neg c] at p1; exact p1.elim
def sgD (x : Str) : List D := (tl x).map fun c => D.str ⟨#[c]⟩
def mItS (m : Env → M D) : Env → M Its := fun δ => M.bind (m δ) fun d => match d with
  | .str x => M.pure ⟨sgD x, kcC_⟩
  | _ => M.bad
theorem kmG_ {ρ' : Rh} {h' : OH} {Hc Hc' : Hp} {T : Addr} {x y : V} {d e : D} (w : Wd ρ' h' Hc) (eT : Hc T = none) (eH : Hc' = upd Hc T (.tup [x, y])) (r1 : R ρ' (own ρ' h') Hc x d) (r2 : R ρ' (own ρ' h') Hc y e) :
    (∀ a o, Hc a = some o → Hc' a = some o) ∧ R ρ' (own ρ' h') Hc' (.ref T) (.tup [d, e]) := by
  subst eH
  exact ⟨fun a o q => kcB_ eT a o q, kmy_ w eT (.cons r1 (.cons r2 .nil))⟩
def ktM_ (xs : List D) : List D := xs.zipIdx.map fun p => D.tup [.int (p.2 : Nat), p.1]
def mItE (m : Env → M D) : Env → M Its := fun δ => M.bind (m δ) fun d h => match kW_ h d with
  | some xs => .ok ⟨ktM_ xs, stays d xs⟩ h
  | none => .bad
def zipD (xs ys : List D) : List D := (xs.zip ys).map fun p => D.tup [p.1, p.2]
def mItZ (m m2 : Env → M D) : Env → M Its := fun δ => M.bind (m δ) fun d => M.bind (m2 δ) fun e h => match kW_ h d, kW_ h e with
  | some xs, some ys => .ok ⟨zipD xs ys, fun h => stays d xs h ∧ stays e ys h⟩ h
  | _, _ => .bad
theorem kr5_ {e e2 : Expr} {m m2 : Env → M D} {p pos tpos : Pos} {elts : List Expr} {kk : Nat} (hg : Gl X "zip") (hm : X.mg "zip" = none) (he : DE ex X W e m) (he2 : DE ex X W e2 m2)
    (hs : starEach [e, e2] X.env = (false, eval e X.env) :: starEach [e2] X.env := by rfl) (hs2 : starEach [e2] X.env = (false, eval e2 X.env) :: starEach [] X.env := by rfl) (hpl : (backTo pos (starEach [e2] X.env)).any (·.1) = false := by rfl) :
    DI ex X W (.Tuple elts kk tpos) (.Call (.Name "zip" p) [e, e2] [] pos) (mItZ m m2) := .of (pi_zip hg hm (pa_cons he (pa_cons he2 pa_nil hs2) hs) hs hpl) fun σ H Q ⟨ρ, h, δ, w, sl, p⟩ => by
  refine ⟨ρ, h, δ, w, sl, (kao_.bind (rel := relV) p).imp (fun v H1 ⟨ρ1, h1, d, s1, r1, p1⟩ => ?_) fun _ _ _ z => z⟩
  refine ⟨ρ1, h1, δ, s1.wd, s1.Sls sl, (kao_.bind (rel := relV) p1).imp (fun u H2 ⟨ρ2, h2, e, s2, r2, p2⟩ => ?_) fun _ _ _ z => z⟩
  have r1' := s2.R r1
  cases e1 : kW_ h2 d with
  | none => simp only [e1] at p2; exact p2.elim
  | some xs =>
    cases e2 : kW_ h2 e with
    | none => simp only [e1, e2] at p2; exact p2.elim
    | some ys =>
      simp only [e1, e2] at p2
      obtain ⟨a, vs, rfl, f1, al⟩ := kaE_ s2.wd r1' e1
      obtain ⟨b, us, rfl, f2, bl⟩ := kaE_ s2.wd r2 e2
      have hZ : (zipD xs ys).length = min xs.length ys.length := by unfold zipD; simp
      refine ⟨a, b, vs, us, rfl, SqL.of f1, SqL.of f2, p2 ρ2 H2 _ (Step.refl s2.wd) ⟨fun H => ∃ ps qs, H a = some (.lst ps) ∧ ps.length = xs.length ∧ H b = some (.lst qs) ∧ qs.length = ys.length,
        fun i H v H' => ∃ T x y ps qs, v = .ref T ∧ H T = none ∧ H' = upd H T (.tup [x, y]) ∧ H a = some (.lst ps) ∧ ps[i]? = some x ∧ H b = some (.lst qs) ∧ qs[i]? = some y, ⟨⟨?_, ?_, ?_⟩, ?_, ?_, ⟨khP_ e1, khP_ e2⟩⟩⟩⟩
      · rintro i H hi ⟨ps, qs, g1, g2, g3, g4⟩
        have hi : i < (zipD xs ys).length := hi
        rw [hZ] at hi
        exact ⟨ps, qs, ps[i]'(by omega), qs[i]'(by omega), SqL.of g1, SqL.of g3, by simp [show i < ps.length by omega], by simp [show i < qs.length by omega]⟩
      · rintro H ⟨ps, qs, g1, g2, g3, g4⟩
        exact ⟨ps, qs, SqL.of g1, SqL.of g3, by show ps.length ≤ (zipD xs ys).length ∨ qs.length ≤ (zipD xs ys).length; omega⟩
      · rintro i H v H' hi ⟨ps, qs, g1, g2, g3, g4⟩ ⟨T, x, y, k1, k2, k3, k4, k5⟩
        exact ⟨T, x, y, ps, qs, k1, k2, k3, g1, k4 ps (SqL.of g1), g3, k5 qs (SqL.of g3)⟩
      · rintro ρ' h' H' l ⟨st1, st2⟩
        obtain ⟨ps, hp, al2⟩ := klO_ s2.wd r1' e1 l st1
        obtain ⟨qs, hq, bl2⟩ := klO_ s2.wd r2 e2 l st2
        exact ⟨ps, qs, hp, al2.length, hq, bl2.length⟩
      · rintro ρ' h' Hc i x Hc' l ⟨st1, st2⟩ hi ⟨T, x', y', ps, qs, rfl, hT, hH, g1, g2, g3, g4⟩
        obtain ⟨ps2, hp, al2⟩ := klO_ s2.wd r1' e1 l st1
        obtain ⟨qs2, hq, bl2⟩ := klO_ s2.wd r2 e2 l st2
        rw [g1] at hp; cases hp
        rw [g3] at hq; cases hq
        obtain ⟨d1, hd1, q1⟩ := al2.get g2
        obtain ⟨d2, hd2, q2⟩ := bl2.get g4
        have g := kmG_ l.wd hT hH q1 q2
        refine ⟨.tup [d1, d2], ?_, g.1, g.2⟩
        show (zipD xs ys)[i]? = _
        unfold zipD
        rw [List.getElem?_map, List.getElem?_zip_eq_some (z := (d1, d2)) |>.mpr ⟨hd1, hd2⟩]
        rfl
end
end Z
set_option Elab.async false
set_option linter.all false
set_option maxRecDepth 100000
set_option maxHeartbeats 4000000
namespace Z
open PySem PySem.Spec PyProof.Rows L2 TL Y
open Classical
section
variable {ex : Ex} {X : Cx} {W : WX}
noncomputable def kgh_ (g : GD) (b : MS) (ok : OH → Prop) : List D → MS
  | [] => sNx
  | d :: ds => fun δ h => match g d δ with
    | none => .bad
    | some δ1 => match b δ1 h with
      | .ok (.nx δ2) h2 => if ok h2 then kgh_ g b ok ds δ2 h2 else .bad
      | .ok (.ct δ2) h2 => if ok h2 then kgh_ g b ok ds δ2 h2 else .bad
      | .ok (.bk δ2) h2 => .ok (.nx δ2) h2
      | r => r
noncomputable def sFor (m : Env → M Its) (g : GD) (b : MS) : MS := kbV_ m fun its δ h => kgh_ g b its.ok its.xs δ h
theorem kmH_ {tg iter : Expr} {body : List Stmt} {is : List Nat} {g : GD} {m : Env → M Its} {b : MS} {pos : Pos} (hp : PassesOwn (model X.prog X.w) X.A X.env X.xe) (hc : X.calm = true) (hi : DI ex X W tg iter m) (hg : DG ex X tg is g) (hb : DSs ex X W body b)
    (hs : ∀ x, foldedSetIterable iter X.env x = pure x := by intro _; rfl) : DS ex X W (.For tg iter body [] pos) (sFor m g b) :=
  .of (ps_for hp hc hi hg hb hs) fun E σ H ⟨ρ, h, δ, w, sl, p⟩ => by
    refine ⟨ρ, h, δ, w, sl, (kaF_ (rel := relI) sl p).imp (fun J H1 ⟨ρ1, h1, its, s1, ⟨G, Y, wk⟩, p1⟩ => ?_) fun _ _ _ z => z⟩
    refine for_it wk.w (fun i σ' H' => ∃ ρ2 h2 δ2, Step ρ1 h1 H1 ρ2 h2 H' ∧ Sls ex ρ2 (own ρ2 h2) H' σ' δ2 ∧ its.ok h2 ∧ khH_ ex W ρ2 h2 H' (kgh_ g b its.ok (its.xs.drop i) δ2 h2) E)
      ⟨ρ1, h1, δ, Step.refl s1.wd, s1.Sls sl, wk.now, p1⟩ (fun i σ' H' _ ⟨ρ2, h2, δ2, s2, _, o2, _⟩ => wk.stay ρ2 h2 H' (Lat.of s2) o2) ?_ ?_
    · rintro i x σ' H' H'' hi ⟨ρ2, h2, δ2, s2, sl2, o2, p2⟩ y
      obtain ⟨d, hd, kp, r⟩ := wk.gives ρ2 h2 H' i x H'' (Lat.of s2) o2 hi y
      have s3 := s2.wd.step kp
      have ed : its.xs.drop i = d :: its.xs.drop (i + 1) := by
        obtain ⟨h1, h2⟩ := List.getElem?_eq_some_iff.mp hd
        rw [← h2]; exact List.drop_eq_getElem_cons h1
      rw [ed] at p2
      have p2 : khH_ ex W ρ2 h2 H' (match g d δ2 with
        | none => .bad
        | some δ1 => match b δ1 h2 with
          | .ok (.nx δ2) h2 => if its.ok h2 then kgh_ g b its.ok (its.xs.drop (i + 1)) δ2 h2 else .bad
          | .ok (.ct δ2) h2 => if its.ok h2 then kgh_ g b its.ok (its.xs.drop (i + 1)) δ2 h2 else .bad
          | .ok (.bk δ2) h2 => .ok (.nx δ2) h2
          | r => r) E := p2
      cases e1 : g d δ2 with
      | none => rw [e1] at p2; exact p2.elim
      | some δ3 =>
        rw [e1] at p2
        dsimp only at p2
        have s23 := s2.trans s3
        refine ⟨ρ2, h2, δ2, d, δ3, s3.wd, s3.Sls sl2, r, e1, fun σ3 sl3 _ => ⟨ρ2, h2, δ3, s3.wd, sl3, ?_⟩⟩
        have p2 := p2.step s3
        have go : ∀ δ4 h4, khH_ ex W ρ2 h2 H'' (if its.ok h4 then kgh_ g b its.ok (its.xs.drop (i + 1)) δ4 h4 else .bad) E →
            ∀ ρ' H4 σ4, Step ρ2 h2 H'' ρ' h4 H4 → Sls ex ρ' (own ρ' h4) H4 σ4 δ4 → ∃ ρ2 h2 δ2, Step ρ1 h1 H1 ρ2 h2 H4 ∧ Sls ex ρ2 (own ρ2 h2) H4 σ4 δ2 ∧ its.ok h2 ∧ khH_ ex W ρ2 h2 H4 (kgh_ g b its.ok (its.xs.drop (i + 1)) δ2 h2) E := by
          intro δ4 h4 q ρ' H4 σ4 st sl4
          by_cases c : its.ok h4
          · rw [if_pos c] at q
            exact ⟨ρ', h4, δ4, s23.trans st, sl4, c, q.step st⟩
          · rw [if_neg c] at q; exact q.elim
        cases e2 : b δ3 h2 with
        | ok f h4 =>
          rw [e2] at p2
          cases f with
          | nx δ4 => exact go δ4 h4 p2
          | ct δ4 => exact go δ4 h4 p2
          | bk δ4 => exact p2
          | rt d => exact p2
        | exc C ns xs δ4 h4 => rw [e2] at p2; exact p2
        | bad => rw [e2] at p2; exact p2
    · rintro σ' H' ⟨ρ2, h2, δ2, s2, sl2, o2, p2⟩
      rw [List.drop_length] at p2
      exact khH_.nx p2 s2.wd sl2
def koe_ (c : Env → M Bool) (b : MS) : Nat → MS
  | 0 => fun _ _ => .bad
  | n + 1 => kbV_ c fun k δ h => if k = true then (match b δ h with
    | .ok (.nx δ2) h2 => koe_ c b n δ2 h2
    | .ok (.ct δ2) h2 => koe_ c b n δ2 h2
    | .ok (.bk δ2) h2 => .ok (.nx δ2) h2
    | r => r) else .ok (.nx δ) h
noncomputable def kr6_ (c : Env → M Bool) (b : MS) : MS := fun δ h => if hx : ∃ n, koe_ c b n δ h ≠ .bad then koe_ c b (Classical.choose hx) δ h else .bad
abbrev WF : WX := fun _ _ _ _ => False
theorem kr7_ {X : Cx} : Takes X WF := fun _ _ ⟨_, _, _, _, _, _, _, _, _, _, _, _, _, _, _, _, z⟩ => z.elim
@[inline] def M.calm {α : Type} (m : M α) : M α := fun h => match m h with
  | .exc _ _ _ _ => .bad
  | r => r
def kgi_ (δ : Env) : List Nat → Env
  | [] => δ
  | v :: vs => (kgi_ δ vs).set v .un
theorem khQ_ {ρ : Rh} {N : Addr → Prop} {H : Hp} {σ : L2.St} {δ : Env} (sl : Sls ex ρ N H σ δ) : ∀ vs : List Nat, Sls ex ρ N H (wipe σ vs) (kgi_ δ vs)
  | [] => sl
  | v :: vs => by
    unfold wipe kgi_
    exact (khQ_ sl vs).set (o := none) (s := .un) trivial
noncomputable def lcGo (g : GD) (tt : Env → M Bool) (te : Env → M D) (ok : OH → Prop) (δ : Env) : List D → List D → M (List D)
  | [], acc => M.pure acc
  | d :: ds, acc => fun h => match g d δ with
    | none => .bad
    | some δ1 => M.bind (M.calm (tt δ1)) (fun k => if k = true then M.bind (M.calm (te δ1)) (fun y h2 => if acc.length < lim ∧ ok h2 then lcGo g tt te ok δ ds (acc ++ [y]) h2 else .bad) else fun h2 => if ok h2 then lcGo g tt te ok δ ds acc h2 else .bad) h
noncomputable def mLc (m : Env → M Its) (g : GD) (tt : Env → M Bool) (te : Env → M D) (vs : List Nat) : Env → M (List D) := fun δ => M.bind (m δ) fun its => lcGo g tt te its.ok (kgi_ δ vs) its.xs []
def DTs (ex : Ex) (X : Cx) (W : WX) (es : List Expr) (m : Env → M Bool) : Prop := PTs X es (tT ex W m)
def mYes : Env → M Bool := fun _ => M.pure true
theorem kmI_ {c : Expr} {m : Env → M Bool} (h : DT ex X W c m) : DTs ex X W [c] m := pts_one h
theorem kr8_ {g : GD} {is vs : List Nat} {tt : Env → M Bool} {te : Env → M D} {its : Its} {J : It} {G : Hp → Prop} {Y : Nat → Hp → V → Hp → Prop} {ρ : Rh} {h : OH} {H1 : Hp} {σ : L2.St} {δ : Env} {Q : VK} {D' : Addr}
    (hiv : ∀ i ∈ is, i ∈ vs) (w : Wd ρ h H1) (sl : Sls ex ρ (own ρ h) H1 σ δ) (wk : kwr_ J ρ h H1 its G Y) (hD : H1 D' = none) (p : kkt_ (WXat W σ) ρ h H1 (lcGo g tt te its.ok (kgi_ δ vs) its.xs [] h) Q) :
    ∃ Wz : Nat → Nat → Hp → Prop, (∃ m, Wz 0 m (upd H1 D' (.lst []))) ∧ ∀ i m H, Wz i m H →
      (J.stop i H ∧ Q (.ref D') H) ∨ (J.go i H ∧ ∃ Nx : Hp → Prop, (∀ H', Nx H' → ∃ m', m' < m ∧ Wz (i + 1) m' H') ∧ ∀ x H', J.yld i H x H' → tG ex is g x (wipe σ vs) H' fun σ2 H2 => wipe σ2 vs = wipe σ vs ∧ tT ex WF tt σ2 H2 fun b H3 =>
        if b = true then tM ex WF te σ2 H3 fun y H4 => ∃ acc, H4 D' = some (.lst acc) ∧ acc.length < sizeLine ∧ Nx (upd H4 D' (.lst (acc ++ [y]))) else Nx H3) := by
  have wipe2 : wipe (wipe σ vs) vs = wipe σ vs := by
    have go : ∀ (us : List Nat) (τ : L2.St), (∀ i ∈ us, i ∈ vs) → wipe (wipe τ us) vs = wipe τ vs := by
      intro us
      induction us with
      | nil => intro τ _; rfl
      | cons u us ih =>
        intro τ hu
        show wipe ((wipe τ us).set u none) vs = _
        rw [kkw_ (hu u List.mem_cons_self)]
        exact ih τ fun i hi => hu i (List.mem_cons_of_mem _ hi)
    exact go vs σ fun _ z => z
  have s0 : kdB_ ρ h H1 (ρ.hold D') h (upd H1 D' (.lst [])) D' := kdB_.of w ⟨_, rfl⟩ hD
  let Pv : Nat → Hp → Prop := fun i H' => ∃ ρ2 h2 vs2 acc, kdB_ ρ h H1 ρ2 h2 H' D' ∧ H' D' = some (.lst vs2) ∧ RAll ρ2 (own ρ2 h2) H' vs2 acc ∧ its.ok h2 ∧
    (match lcGo g tt te its.ok (kgi_ δ vs) (its.xs.drop i) acc h2 with
      | .ok ds h' => ∀ ρ' H'' p vs, kdB_ ρ h H1 ρ' h' H'' p → H'' p = some (.lst vs) → RAll ρ' (own ρ' h') H'' vs ds → Q (.ref p) H''
      | _ => False)
  have noexc : ∀ (xs acc : List D) (h' : OH) C ns us h2, lcGo g tt te its.ok (kgi_ δ vs) xs acc h' ≠ .exc C ns us h2 := by
    intro xs
    induction xs with
    | nil => intro acc h' C ns us h2 e; cases e
    | cons d ds ih =>
      intro acc h' C ns us h2 e
      unfold lcGo at e
      cases e1 : g d (kgi_ δ vs) with
      | none => rw [e1] at e; cases e
      | some δ1 =>
        rw [e1] at e
        unfold M.bind M.calm at e
        dsimp only at e
        cases e2 : tt δ1 h' with
        | ok k h3 =>
          rw [e2] at e
          dsimp only at e
          cases k with
          | true =>
            rw [if_pos rfl] at e
            cases e3 : te δ1 h3 with
            | ok y h4 =>
              rw [e3] at e
              dsimp only at e
              split at e
              · exact ih _ _ _ _ _ _ e
              · cases e
            | exc _ _ _ _ => rw [e3] at e; cases e
            | bad => rw [e3] at e; cases e
          | false =>
            rw [if_neg (by decide)] at e
            split at e
            · exact ih _ _ _ _ _ _ e
            · cases e
        | exc _ _ _ _ => rw [e2] at e; cases e
        | bad => rw [e2] at e; cases e
  refine lc_it wk.w Pv ?_ (fun i H' _ ⟨ρ2, h2, _, _, s2, _, _, o2, _⟩ => wk.stay ρ2 h2 H' (Lat.ofF s2) o2) ?_ ?_
  · refine ⟨ρ.hold D', h, [], [], s0, upd_same, .nil, wk.now, ?_⟩
    rw [List.drop_zero]
    unfold kkt_ at p
    cases e : lcGo g tt te its.ok (kgi_ δ vs) its.xs [] h with
    | ok ds h' => rw [e] at p; exact p
    | exc C ns us h2 => exact absurd e (noexc _ _ _ _ _ _ _)
    | bad => rw [e] at p; exact p
  · rintro i x H' H'' hi ⟨ρ2, h2, vs2, acc, s2, eD, al, o2, p2⟩ y
    obtain ⟨d, hd, kp, r⟩ := wk.gives ρ2 h2 H' i x H'' (Lat.ofF s2) o2 hi y
    have s3 := s2.wd.step kp
    have ed : its.xs.drop i = d :: its.xs.drop (i + 1) := by
      obtain ⟨h1, h2⟩ := List.getElem?_eq_some_iff.mp hd
      rw [← h2]; exact List.drop_eq_getElem_cons h1
    rw [ed] at p2
    unfold lcGo at p2
    cases e1 : g d (kgi_ δ vs) with
    | none => simp only [e1] at p2
    | some δ1 =>
      simp only [e1] at p2
      have slw : Sls ex ρ2 (own ρ2 h2) H'' (wipe σ vs) (kgi_ δ vs) := s3.Sls ⟨⟨(khQ_ sl vs).1.1, s2.tsq.trans (khQ_ sl vs).1.2⟩, fun j s e => let ⟨o, q, z⟩ := (khQ_ sl vs).2 j s e; ⟨o, q, z.mono s2.pre s2.keep s2.news⟩⟩
      refine ⟨ρ2, h2, _, d, δ1, s3.wd, slw, r, e1, fun σ3 sl3 ch => ⟨by rw [ch vs hiv, wipe2], ρ2, h2, δ1, s3.wd, sl3, ?_⟩⟩
      have sF3 := s2.then s3
      unfold M.bind M.calm at p2
      cases e2 : tt δ1 h2 with
      | exc _ _ _ _ => simp only [e2] at p2
      | bad => simp only [e2] at p2
      | ok k h3 =>
        simp only [e2] at p2
        intro ρ3 H3 k' s4 ek
        have ek : k' = k := ek
        subst ek
        have sF4 := sF3.then s4
        have eD4 : H3 D' = some (.lst vs2) := by rw [s4.res D' (by rw [s2.rsq]; exact List.mem_cons_self)]; exact kp _ _ eD
        have al4 := s4.RAll (s3.RAll al)
        cases k' with
        | false =>
          simp only [Bool.false_eq_true, if_false] at p2 ⊢
          by_cases c : its.ok h3
          · rw [if_pos c] at p2
            exact ⟨ρ3, h3, vs2, acc, sF4, eD4, al4, c, p2⟩
          · rw [if_neg c] at p2; exact p2.elim
        | true =>
          simp only [if_true] at p2 ⊢
          refine ⟨ρ3, h3, δ1, s4.wd, s4.Sls sl3, ?_⟩
          cases e3 : te δ1 h3 with
          | exc _ _ _ _ => simp only [e3] at p2
          | bad => simp only [e3] at p2
          | ok yv h4 =>
            simp only [e3] at p2
            intro ρ5 H5 v s5 rv
            have sF5 := sF4.then s5
            have pin : D' ∈ ρ5.rs := by rw [sF5.rsq]; exact List.mem_cons_self
            have eD5 : H5 D' = some (.lst vs2) := by rw [s5.res D' (by rw [sF4.rsq]; exact List.mem_cons_self)]; exact eD4
            by_cases c : acc.length < lim ∧ its.ok h4
            · rw [if_pos c] at p2
              refine ⟨vs2, eD5, by rw [al.length]; exact kaT_ (Nat.succ_le_of_lt c.1), ρ5, h4, vs2 ++ [v], acc ++ [yv], sF5.fill ⟨_, rfl⟩ ⟨_, eD5⟩, upd_same, ?_, c.2, p2⟩
              exact kn6_ pin ((s5.RAll al4).append (.cons rv .nil))
            · rw [if_neg c] at p2; exact p2.elim
  · rintro H' ⟨ρ2, h2, vs2, acc, s2, eD, al, o2, p2⟩
    rw [List.drop_length] at p2
    exact p2 ρ2 H' D' vs2 s2 eD al
theorem kuc_ {elt tg iter : Expr} {ifs : List Expr} {scope : Scope} {ow : List (Str × Nat)} {pos : Pos} {m : Env → M Its} {is : List Nat} {g : GD} {tt : Env → M Bool} {te : Env → M D} (hc : X.calm = true) (hN : X.N.Nodup) (hi : DI ex X W tg iter m) (ok : BlkOk X.N X.env.scope scope ow)
    (hg : ∀ (s : Shared) (H : Hp) (C : Addr) (cl : List (Str × Addr)) (fp : List Addr), DG ex (X.blk s H scope (compEnvC scope cl C X.env) fp) tg is g) (ht : ∀ (s : Shared) (H : Hp) (C : Addr) (cl : List (Str × Addr)) (fp : List Addr), DTs ex (X.blk s H scope (compEnvC scope cl C X.env) fp) WF ifs tt)
    (he : ∀ (s : Shared) (H : Hp) (C : Addr) (cl : List (Str × Addr)) (fp : List Addr), DE ex (X.blk s H scope (compEnvC scope cl C X.env) fp) WF elt te) (hiv : ∀ i ∈ is, i ∈ ow.map (·.2) := by decide) (hs : ∀ x, foldedSetIterable iter X.env x = pure x := by intro _; rfl) :
    DF ex X W (.ListComp elt [⟨tg, iter, ifs, 0⟩] scope pos) (mLc m g tt te (ow.map (·.2))) :=
  .of (pe_lc hc hN hi ok hg ht he hs) fun σ H Q ⟨ρ, h, δ, w, sl, p⟩ => by
    refine ⟨ρ, h, δ, w, sl, (kkt_.bind (rel := relI) p).imp (fun J H1 ⟨ρ1, h1, its, s1, ⟨G, Y, wk⟩, p1⟩ => ?_) fun _ _ _ z => z⟩
    exact fun D' hD => kr8_ hiv s1.wd (s1.Sls sl) wk hD p1
end
end Z
set_option Elab.async false
set_option linter.all false
set_option maxRecDepth 100000
set_option maxHeartbeats 4000000
namespace Z
open PySem PySem.Spec PyProof.Rows L2 TL Y
open Classical
def spD (T : List (Addr × Str)) (n : Nat) (f : List D → M D) : Sp := fun vs H Q E => ∃ ρ h ds, Wd ρ h H ∧ ρ.ts = T ∧ RAll ρ (own ρ h) H vs ds ∧ vs.length = n ∧ kao_ relV (fun c d H => E c d H) ρ h H (f ds h) Q
def FnD (gd : Bool) (P : Program) (w : World) (K : PySem.W.Frag) (mg : Str → Option Value) (base : Heap) (k : Nat) (fa : Addr) (fd : FuncData) (ps : List Str) (sp : Sp) : Prop :=
  match gd with
  | true => FnG P w K mg base (L2.CX P w) k fa fd ps sp
  | false => FnOk P w K mg base (L2.CX P w) k fa fd ps sp
def HasD (P : Program) (w : World) (K : PySem.W.Frag) (mg : Str → Option Value) (base : Heap) (T : List (Addr × Str)) (gd : Bool) (x : Str) (n k : Nat) (f : List D → M D) : Prop :=
  ∃ (ps : List Str) (fa : Addr) (fd : FuncData), ps.length = n ∧ mg x = some (.ref fa) ∧ PySem.W.keepIn K (.ref fa) = true ∧ Binds K fd ps [] ∧ FnD gd P w K mg base k fa fd ps (spD T n f)
def envOf (n : Nat) (ds : List D) : Env := ds.map Sl.val ++ List.replicate (n - ds.length) Sl.un
def defE (b : MS) (δ : Env) : M D := fun h => match b δ h with
  | .ok (.rt d) h' => .ok d h'
  | .ok (.nx _) h' => .ok .non h'
  | .ok _ _ => .bad
  | .exc C ns vs _ h' => .exc C ns vs h'
  | .bad => .bad
def defM (n : Nat) (b : MS) (ds : List D) : M D := defE b (envOf n ds)
theorem kln_ {ex : Ex} {ρ : Rh} {Nn : Addr → Prop} {H : Hp} {N : List Str} {vs : List V} {ds : List D} (et : ρ.ts = ex.T) (al : RAll ρ Nn H vs ds) : Sls ex ρ Nn H (L2.start N vs) (envOf N.length ds) := by
  have hl := al.length
  refine ⟨⟨by unfold L2.start envOf; simp [hl], et⟩, fun i s e => ?_⟩
  unfold envOf at e
  unfold L2.start
  by_cases hi : i < ds.length
  · rw [List.getElem?_append_left (by simpa using hi), List.getElem?_map] at e
    rw [List.getElem?_append_left (by simpa [hl] using hi), List.getElem?_map]
    cases e1 : ds[i]? with
    | none => rw [e1] at e; cases e
    | some d =>
      rw [e1] at e
      cases e
      obtain ⟨v, hv, r⟩ := al.getD e1
      rw [hv]
      exact ⟨some v, rfl, v, rfl, r⟩
  · rw [List.getElem?_append_right (by simpa using Nat.le_of_not_lt hi), List.length_map] at e
    rw [List.getElem?_append_right (by simpa [hl] using Nat.le_of_not_lt hi), List.length_map, hl]
    rw [List.getElem?_replicate] at e ⊢
    split at e
    · rename_i c
      cases e
      rw [if_pos c]
      exact ⟨none, rfl, trivial⟩
    · cases e
section
variable {P : Program} {w : World} {K : PySem.W.Frag} {mg : Str → Option Value} {base : Heap}
abbrev WE0 (E : XK) : WX := fun c d _ H => E c d H
theorem kmJ_ {ex : Ex} {N : List Str} {b : MS} {vs : List V} {H : Hp} {Q : VK} {E : XK} {n : Nat} (h : spD ex.T n (defM N.length b) vs H Q E) :
    tS ex (WE0 E) b { nx := fun _ H' => Q .non H', rt := Q } (L2.start N vs) H := by
  obtain ⟨ρ, hh, ds, w, et, al, hl, p⟩ := h
  refine ⟨ρ, hh, envOf N.length ds, w, kln_ et al, ?_⟩
  unfold defM defE at p
  cases e : b (envOf N.length ds) hh with
  | ok f h' =>
    rw [e] at p
    cases f with
    | rt d => exact p
    | nx δ => exact fun ρ' H' σ s sl => p ρ' H' .non s .non
    | bk δ => exact p.elim
    | ct δ => exact p.elim
  | exc C ns xs δ h' => rw [e] at p; exact fun ρ' H' x vs σ s sl e1 n l al => p ρ' H' x vs s e1 n l al
  | bad => rw [e] at p; exact p.elim
theorem kpf_ {T : List (Addr × Str)} {n : Nat} {f : List D → M D} {ps : List Str} (hn : ps.length = n) : ∀ vs H Q E, spD T n f vs H Q E → vs.length = ps.length := fun vs H Q E ⟨ρ, hh, ds, w, et, al, hl, p⟩ => by rw [hl, hn]
theorem kp0_ {T : List (Addr × Str)} {x : Str} {st : Stmt} {N ps : List Str} {k n m : Nat} {b : MS} (D : Def K mg x st ps) (S : FnScope N ps (defScope st)) (hn : ps.length = n) (hl : N.length = m)
    (hbody : ∀ (f : Addr) (cdv : Value) (A : Around) (outer : List PySem.Env) (s : Shared) (H : Hp) (E : XK), A.guards = some [] →
      Room k (A.deeper (envOfC x (defScope st) s.heap.objs.size f cdv)) →
      DSs ⟨0, 0, T⟩ (cxOf (L2.CX P w) P w K mg base N x (defScope st) f cdv A outer s H E) (WE0 E) (defBody st) b) :
    HasD P w K mg base T true x n (k + 1) (defM m b) := by
  subst hl
  obtain ⟨f, fd, F, hm, hb⟩ := D
  refine ⟨ps, f, fd, hn, hm, F.kp, hb, ?_⟩
  obtain ⟨oc, od, kV, doc, pm, an, cdv, ct, osl, rfl, lk, hcd⟩ := F.ex
  exact kro_ (N := N) lk hcd S (kpf_ hn) fun A outer s H vs Q E hgd hr hsp => ⟨_, hbody f cdv A outer s H E hgd hr, kmJ_ (ex := ⟨0, 0, T⟩) hsp⟩
theorem kdt_ {T : List (Addr × Str)} {x : Str} {st : Stmt} {N ps : List Str} {k n m : Nat} {b : MS} (D : Def K mg x st ps) (S : FnScope N ps (defScope st)) (hn : ps.length = n) (hl : N.length = m)
    (hbody : ∀ (f : Addr) (cdv : Value) (A : Around) (outer : List PySem.Env) (s : Shared) (H : Hp) (E : XK),
      Room k (A.deeper (envOfC x (defScope st) s.heap.objs.size f cdv)) →
      DSs ⟨0, 0, T⟩ (cxOf (L2.CX P w) P w K mg base N x (defScope st) f cdv A outer s H E) (WE0 E) (defBody st) b) :
    HasD P w K mg base T false x n (k + 1) (defM m b) := by
  subst hl
  obtain ⟨f, fd, F, hm, hb⟩ := D
  refine ⟨ps, f, fd, hn, hm, F.kp, hb, ?_⟩
  exact F.okX S (kpf_ hn) fun cdv A outer s H vs Q E hr hsp => ⟨_, hbody f cdv A outer s H E hr, kmJ_ (ex := ⟨0, 0, T⟩) hsp⟩
end
section
variable {X : Cx} {CX : CXT} {k : Nat} {f : Addr} {fd : FuncData} {ps : List Str} {sp : Sp} {dvs : List V} {ds : List Value} {E : L2.St → XK} {x : Str} {p pos : Pos} {e : Expr} {es : List Expr} {t : TA}
theorem kmK_ {pins : List (Addr × Obj)} {σ : L2.St} {H : Hp} {s : Shared} {Q : VK} {us : List Value} {vs : List V} (F : FnG X.prog X.w X.K X.mg X.base CX k f fd ps sp) (hG : X.A.guards = some []) (hr : Room k X.A) (hb : Binds X.K fd ps ds) (hd : Vals dvs ds) (hx : PassesAt CX X σ (E σ))
    (I : Inv X pins σ H s) (r : Vals vs us) (h : sp (vs ++ dvs) H Q (E σ)) : wpAny (model X.prog X.w) X.A (call (.ref f) us) (EP X pins σ Q) X.xe s := by
  have r2 : Vals (vs ++ dvs) (us ++ ds) := Vals.append r hd
  have hl : (us ++ ds).length = ps.length := by rw [← r2.length]; exact F.len _ _ _ _ h
  refine wpAny_call (codeAny_mono (F.go X.A X.stack s H ⟨us, []⟩ (us ++ ds) (vs ++ dvs) Q (E σ) hG hr I.env0 (hb s us I.kIn hl) r2 h) fun r s' hq => ?_)
  cases r with
  | error e => exact hx pins H s e s' I hq
  | ok fl =>
    cases fl with
    | ret u => exact I.after hq
    | next => exact False.elim hq
    | brk => exact False.elim hq
    | cont => exact False.elim hq
theorem klo_ (F : FnG X.prog X.w X.K X.mg X.base CX k f fd ps sp) (hG : X.A.guards = some []) (hr : Room k X.A) (hg : Gl X x) (hm : X.mg x = some (.ref f)) (hk : PySem.W.keepIn X.K (.ref f) = true) (hb : Binds X.K fd ps ds) (hd : Vals dvs ds) (hx : ∀ σ, PassesAt CX X σ (E σ))
    (ha : PA X (e :: es) t) (hdb : (x == ("__debug__" : Str)) = false := by decide) (he : starEach (e :: es) X.env = (false, eval e X.env) :: starEach es X.env := by rfl) (hpl : (backTo pos (starEach es X.env)).any (·.1) = false := by rfl) :
    PE X (.Call (.Name x p) (e :: es) [] pos) (tCallSD sp dvs E t) := by
  refine ⟨fun pins s σ H Q I h => ?_⟩
  refine wpAny_Call_Name_kw (ld_glob I hg hm ?_ hdb)
  refine PySem.W.callWith_K (h₀ := X.base) I.ok.mod.kin hk (thn (ha.run pos pins s σ H _ I h) fun us s1 ⟨vs, H1, I1, r, q⟩ => ⟨I1.kIn, ?_⟩) he hpl
  exact kmK_ F hG hr hb hd (hx σ) I1 r q
theorem kmL_ (F : FnG X.prog X.w X.K X.mg X.base CX k f fd ps sp) (hG : X.A.guards = some []) (hr : Room k X.A) (hg : Gl X x) (hm : X.mg x = some (.ref f)) (hk : PySem.W.keepIn X.K (.ref f) = true) (hb : Binds X.K fd ps ds) (hd : Vals dvs ds) (hx : ∀ σ, PassesAt CX X σ (E σ))
    (hdb : (x == ("__debug__" : Str)) = false := by decide) : PE X (.Call (.Name x p) [] [] pos) (tCallSD sp dvs E tNil) := by
  refine ⟨fun pins s σ H Q I h => ?_⟩
  refine wpAny_Call_Name_kw (ld_glob I hg hm ?_ hdb)
  exact PySem.W.callWith_K0 I.kIn hk (kmK_ (us := []) F hG hr hb hd (hx σ) I .nil h)
end
section
variable {X : Cx} {CX : CXT} {k : Nat} {f : Addr} {fd : FuncData} {ps : List Str} {sp : Sp} {dvs : List V} {ds : List Value} {E : L2.St → XK} {x : Str} {p pos : Pos} {e : Expr} {es : List Expr} {t : TA}
theorem kmM_ (F : FnOk X.prog X.w X.K X.mg X.base CX k f fd ps sp) (hr : Room k X.A) (hg : Gl X x) (hm : X.mg x = some (.ref f)) (hk : PySem.W.keepIn X.K (.ref f) = true) (hb : Binds X.K fd ps ds) (hd : Vals dvs ds) (hx : ∀ σ, PassesAt CX X σ (E σ))
    (hdb : (x == ("__debug__" : Str)) = false := by decide) : PE X (.Call (.Name x p) [] [] pos) (tCallSD sp dvs E tNil) := by
  refine ⟨fun pins s σ H Q I h => ?_⟩
  refine wpAny_Call_Name_kw (ld_glob I hg hm ?_ hdb)
  exact PySem.W.callWith_K0 I.kIn hk (run_fnSD (us := []) F hr hb hd (hx σ) I .nil h)
end
section
variable {ex : Ex} {X : Cx} {W : WX}
def mFn (n : Nat) (f : List D → M D) (ms : Env → M (List D)) : Env → M D := fun δ => M.bind (ms δ) fun ds => if ds.length = n then f ds else M.bad
theorem kpg_ {n : Nat} {f : List D → M D} {ms : Env → M (List D)} {σ : L2.St} {H : Hp} {Q : VK} (p : tM ex W (mFn n f ms) σ H Q) : tCallSD (spD ex.T n f) [] (fun σ c d H => W c d σ H) (tA ex W ms) σ H Q := by
  obtain ⟨ρ, h, δ, w, sl, p⟩ := p
  refine ⟨ρ, h, δ, w, sl, (kao_.bind (rel := relA) p).imp (fun vs H1 ⟨ρ1, h1, ds, s1, al, p1⟩ => ?_) fun _ _ _ z => z⟩
  by_cases c : ds.length = n
  · rw [if_pos c] at p1
    exact ⟨ρ1, h1, ds, s1.wd, s1.tsq.trans sl.1.2, by rw [List.append_nil]; exact al, by rw [List.append_nil, al.length]; exact c, p1⟩
  · rw [if_neg c] at p1; exact p1.elim
theorem kaG_ {gd : Bool} {x : Str} {n k : Nat} {f : List D → M D} {p pos : Pos} {e : Expr} {es : List Expr} {ms : Env → M (List D)} (F : HasD X.prog X.w X.K X.mg X.base ex.T gd x n k f) (hG : gd = true → X.A.guards = some []) (tk : Takes X W) (hr : Room k X.A) (hg : Gl X x) (ha : DA ex X W (e :: es) ms)
    (hdb : (x == ("__debug__" : Str)) = false := by decide) (he : starEach (e :: es) X.env = (false, eval e X.env) :: starEach es X.env := by rfl)
    (hpl : (backTo pos (starEach es X.env)).any (·.1) = false := by rfl) : DE ex X W (.Call (.Name x p) (e :: es) [] pos) (mFn n f ms) := by
  obtain ⟨ps, fa, fd, hn, hm, hk, hb, F⟩ := F
  cases gd with
  | true => exact .of (klo_ F (hG rfl) hr hg hm hk hb .nil (E := fun σ c d H => W c d σ H) (fun σ => passAt tk σ) ha hdb he hpl) fun σ H Q p => kpg_ p
  | false => exact .of (pe_callSD F hr hg hm hk hb .nil (E := fun σ c d H => W c d σ H) (fun σ => passAt tk σ) ha hdb he hpl) fun σ H Q p => kpg_ p
theorem kp1_ {gd : Bool} {x : Str} {k : Nat} {f : List D → M D} {p pos : Pos} (F : HasD X.prog X.w X.K X.mg X.base ex.T gd x 0 k f) (hG : gd = true → X.A.guards = some []) (tk : Takes X W) (hr : Room k X.A) (hg : Gl X x)
    (hdb : (x == ("__debug__" : Str)) = false := by decide) : DE ex X W (.Call (.Name x p) [] [] pos) (mFn 0 f mNil) := by
  obtain ⟨ps, fa, fd, hn, hm, hk, hb, F⟩ := F
  have post : ∀ σ H Q, tM ex W (mFn 0 f mNil) σ H Q → tCallSD (spD ex.T 0 f) [] (fun σ c d H => W c d σ H) tNil σ H Q := fun σ H Q ⟨ρ, h, δ, w, sl, p⟩ => ⟨ρ, h, [], w, sl.1.2, .nil, rfl, p⟩
  cases gd with
  | true => exact .of (kmL_ F (hG rfl) hr hg hm hk hb .nil (E := fun σ c d H => W c d σ H) (fun σ => passAt tk σ) hdb) post
  | false => exact .of (kmM_ F hr hg hm hk hb .nil (E := fun σ c d H => W c d σ H) (fun σ => passAt tk σ) hdb) post
def kr9_ (C : Addr) (par : Str) (m : Env → M D) : MS := kbV_ m fun d δ h => .exc (.ref C) [par] [d] δ h
def kph_ (C : Addr) (p1 p2 : Str) (m1 m2 : Env → M D) : MS := kbV_ m1 fun a => kbV_ m2 fun b δ h => .exc (.ref C) [p2, p1] [b, a] δ h
structure Cs where
  C : Addr
  slot : Option Nat
  b : MS
def khw_ (i : Nat) : RS → RS
  | .ok (.nx δ) h => .ok (.nx (δ.set i .un)) h
  | .ok (.bk δ) h => .ok (.bk (δ.set i .un)) h
  | .ok (.ct δ) h => .ok (.ct (δ.set i .un)) h
  | .ok (.rt d) h => .ok (.rt d) h
  | .exc _ _ _ _ _ => .bad
  | .bad => .bad
def khR_ (δ : Env) : Bool := δ.all fun s => match s with
  | .exn _ _ => false
  | _ => true
def kde_ : RS → Bool
  | .ok (.nx δ) _ => khR_ δ
  | .ok (.bk δ) _ => khR_ δ
  | .ok (.ct δ) _ => khR_ δ
  | _ => true
abbrev Under := Value → Addr → Option Bool
noncomputable def kp2_ (u : Under) : List Cs → Value → List Str → List D → MS
  | [], C, ns, vs => fun δ h => .exc C ns vs δ h
  | c :: r, C, ns, vs => fun δ h => match u C c.C with
    | some true => if khR_ δ = true then
        (match c.slot with
        | some i => if C = .ref c.C ∧ kde_ (khw_ i (c.b (δ.set i (.exn ns vs)) h)) = true then khw_ i (c.b (δ.set i (.exn ns vs)) h) else .bad
        | none => if kde_ (khw_ δ.length (c.b δ h)) = true then khw_ δ.length (c.b δ h) else .bad) else .bad
    | some false => kp2_ u r C ns vs δ h
    | none => .bad
noncomputable def sTry (u : Under) (b : MS) (cs : List Cs) : MS := fun δ h => match b δ h with
  | .exc C ns vs δ' h' => kp2_ u cs C ns vs δ' h'
  | r => r
def mExn (i : Nat) (a : Str) : Env → M D := fun δ => match δ[i]? with
  | some (.exn ns ds) => (match (ns.zip ds).lookup a with
    | some d => M.pure d
    | none => M.bad)
  | _ => M.bad
inductive CsOk (Tt : List (Addr × Str)) (X : Cx) : List ExceptHandler → List Cs → Prop
  | nil : CsOk Tt X [] []
  | bare {x : Str} {C : Addr} {b : MS} {st : Stmt} {more : List Stmt} {np q : Pos} {hds : List ExceptHandler} {l : List Cs} (hc : Names X x (.ref C))
      (hsu : ∀ (a : Addr) (oe : Obj) (cls : Value) (d : Option Addr) (pn : List (Addr × Obj)), Zc cls d oe → (∃ vs, oe.data = .fields vs) → DSs ⟨a, d.getD 0, Tt⟩ (X.suite a ((a, oe) :: pn)) WF (st :: more) b) (r : CsOk Tt X hds l) :
      CsOk Tt X (.ExceptHandler (some (.Name x np)) none (st :: more) q :: hds) (⟨C, none, b⟩ :: l)
  | as {x n : Str} {i : Nat} {C : Addr} {b : MS} {st : Stmt} {more : List Stmt} {np q : Pos} {hds : List ExceptHandler} {l : List Cs} (hc : Names X x (.ref C)) (hi : X.N[i]? = some n) (hln : X.env.kindOf n = some .local)
      (hsu : ∀ (a : Addr) (oe : Obj) (cls : Value) (d : Option Addr) (pn : List (Addr × Obj)), cls = .ref C → (∃ q, d = some q) → Zc cls d oe → (∃ vs, oe.data = .fields vs) → DSs ⟨a, d.getD 0, Tt⟩ (X.suite a ((a, oe) :: pn)) WF (st :: more) b) (r : CsOk Tt X hds l) :
      CsOk Tt X (.ExceptHandler (some (.Name x np)) (some n) (st :: more) q :: hds) (⟨C, some i, b⟩ :: l)
  | as2 {x1 x2 n : Str} {i : Nat} {C1 C2 : Addr} {b1 b2 : MS} {st : Stmt} {more : List Stmt} {np1 np2 tp q : Pos} {kk : Nat} {hds : List ExceptHandler} {l : List Cs} (hc1 : Names X x1 (.ref C1)) (hc2 : Names X x2 (.ref C2))
      (hx : ∃ b, PySem.W.exmOne X.K (.ref C1) (.ref C2) = some b) (hi : X.N[i]? = some n) (hln : X.env.kindOf n = some .local)
      (hsu1 : ∀ (a : Addr) (oe : Obj) (cls : Value) (d : Option Addr) (pn : List (Addr × Obj)), cls = .ref C1 → (∃ q, d = some q) → Zc cls d oe → (∃ vs, oe.data = .fields vs) → DSs ⟨a, d.getD 0, Tt⟩ (X.suite a ((a, oe) :: pn)) WF (st :: more) b1)
      (hsu2 : ∀ (a : Addr) (oe : Obj) (cls : Value) (d : Option Addr) (pn : List (Addr × Obj)), cls = .ref C2 → (∃ q, d = some q) → Zc cls d oe → (∃ vs, oe.data = .fields vs) → DSs ⟨a, d.getD 0, Tt⟩ (X.suite a ((a, oe) :: pn)) WF (st :: more) b2) (r : CsOk Tt X hds l) :
      CsOk Tt X (.ExceptHandler (some (.Tuple [.Name x1 np1, .Name x2 np2] kk tp)) (some n) (st :: more) q :: hds) (⟨C1, some i, b1⟩ :: ⟨C2, some i, b2⟩ :: l)
def clOf (Tt : List (Addr × Str)) (c : Cs) : Cl := ⟨.ref c.C, c.slot, fun a cls d E σ H => (c.slot ≠ none → cls = .ref c.C ∧ ∃ q, d = some q) ∧ tS ⟨a, d.getD 0, Tt⟩ WF c.b E σ H⟩
theorem CsOk.mix {Tt : List (Addr × Str)} {hds : List ExceptHandler} {l : List Cs} (h : CsOk Tt X hds l) : ko5_ X hds (l.map (clOf Tt)) := by
  induction h with
  | nil => exact .nil
  | @bare x C b st more np q hds l hc hsu r ih =>
    exact .bare (ts := (clOf Tt ⟨C, none, b⟩).ts) hc (fun a oe cls d pn hz hf => ⟨fun pins s σ H D I ⟨_, q⟩ => (hsu a oe cls d pn hz hf).run pins s σ H D I q⟩) ih
  | @as x n i C b st more np q hds l hc hi hln hsu r ih =>
    exact .as (ts := (clOf Tt ⟨C, some i, b⟩).ts) hc hi hln (fun a oe cls d pn hz hf => ⟨fun pins s σ H D I ⟨k, q⟩ => by
      obtain ⟨k1, k2⟩ := k (by simp)
      exact (hsu a oe cls d pn k1 k2 hz hf).run pins s σ H D I q⟩) ih
  | @as2 x1 x2 n i C1 C2 b1 b2 st more np1 np2 tp q kk hds l hc1 hc2 hx hi hln hsu1 hsu2 r ih =>
    exact .as2 (ts1 := (clOf Tt ⟨C1, some i, b1⟩).ts) (ts2 := (clOf Tt ⟨C2, some i, b2⟩).ts) hc1 hc2 hx (fun a cls d D σ H z => (z.1 (by simp)).1) hi hln
      (fun a oe cls d pn hz hf => ⟨fun pins s σ H D I ⟨k, q⟩ => by
        obtain ⟨k1, k2⟩ := k (by simp)
        exact (hsu1 a oe cls d pn k1 k2 hz hf).run pins s σ H D I q⟩)
      (fun a oe cls d pn hz hf => ⟨fun pins s σ H D I ⟨k, q⟩ => by
        obtain ⟨k1, k2⟩ := k (by simp)
        exact (hsu2 a oe cls d pn k1 k2 hz hf).run pins s σ H D I q⟩) ih
end
end Z
set_option Elab.async false
set_option linter.all false
set_option maxRecDepth 100000
set_option maxHeartbeats 4000000
namespace Z
open PySem PySem.Spec PyProof.Rows L2 TL Y
open Classical
section
variable {ex : Ex} {X : Cx} {W : WX}
theorem dv (i : Nat) {x : Str} {pos : Pos} (hN : X.N[i]? = some x := by rfl) (hv : Vis X.env.scope x := by first | exact Or.inl rfl | exact Or.inr (Or.inl rfl) | exact Or.inr (Or.inr rfl)) (hd : (x == ("__debug__" : Str)) = false := by decide)
    (hcd : (x == ("__classdict__" : Str)) = false := by decide) : DE ex X W (.Name x pos) (mVar i) := kt6_ hN hv hd hcd
theorem klp_ : ∀ (n : Nat) (x acc : Array Nat), ((List.replicate n x).foldl (· ++ ·) acc).toList = acc.toList ++ (List.replicate n x.toList).flatten
  | 0, x, acc => by simp
  | n + 1, x, acc => by
    rw [List.replicate_succ, List.foldl_cons, klp_ n x (acc ++ x), Array.toList_append, List.replicate_succ, List.flatten_cons, List.append_assoc]
theorem ksa_ (x : Str) (k : Int) : tl (Txt.mul x k) = (List.replicate k.toNat (tl x)).flatten := by
  unfold Txt.mul
  by_cases h1 : k < 1
  · rw [if_pos h1, show k.toNat = 0 by omega]; rfl
  · rw [if_neg h1]
    by_cases h2 : (k == 1 || x.length == 0) = true
    · rw [if_pos h2]
      rcases Bool.or_eq_true _ _ |>.mp h2 with h | h
      · rw [eq_of_beq h]; show tl x = (List.replicate 1 (tl x)).flatten; simp
      · have e : tl x = [] := List.length_eq_zero_iff.mp (by rw [← len_tl]; exact eq_of_beq h)
        rw [e]
        induction k.toNat with
        | zero => rfl
        | succ n ih => rw [List.replicate_succ, List.flatten_cons, ← ih]; rfl
    · rw [if_neg h2]
      show ((List.replicate k.toNat x.cps).foldl (· ++ ·) #[]).toList = _
      rw [klp_]; rfl
theorem len_mul (x : Str) (k : Int) : (Txt.mul x k).length = k.toNat * x.length := by
  rw [len_tl, ksa_, List.length_flatten, List.map_replicate, List.sum_replicate_nat, ← len_tl]
theorem kud_ {x : Str} {k : Int} (h : PyData.strOk x = true) : PyData.strOk (Txt.mul x k) = true := kgc_.mpr fun c hc => by
  rw [ksa_] at hc
  obtain ⟨l, hl, hm⟩ := List.mem_flatten.mp hc
  rw [(List.mem_replicate.mp hl).2] at hm
  exact kgc_.mp h c hm
def sMul : O2 := fun _ d e => match d, e with
  | .str a, .int k => if -100000 ≤ k ∧ k ≤ 100000 ∧ k.toNat * a.length ≤ 1000000 then some (.str (Txt.mul a k)) else none
  | _, _ => none
theorem ksb_ : OpR X (binaryOp .Mult) (fun x y H Q => ∃ (z : Str) (k : Int), x = .str z ∧ y = .int k ∧ -100000 ≤ k ∧ k ≤ 100000 ∧ k.toNat * z.length ≤ 1000000 ∧ Q (.str (Txt.mul z k)) H) := by
  intro pins s σ H x y v u Q I rx ry h
  obtain ⟨z, k, rfl, rfl, h1, h2, h3, q⟩ := h
  obtain ⟨t, rfl⟩ := (show ∃ t, v = Value.str z t from rx)
  obtain ⟨t', rfl⟩ := (show ∃ t, u = Value.int k t from ry)
  refine SB.mul ⟨?_, fun c _ => ?_, fun c _ => ?_⟩ fun t2 tk => ⟨.str _, H, I.tok tk, ⟨t2, rfl⟩, q⟩
  · have a1 : ¬ k < -(2 ^ 63 : Int) := by omega
    have a2 : ¬ k ≥ 2 ^ 63 := by omega
    rw [decide_eq_false a1, decide_eq_false a2]
    rfl
  · have hz : (z.length : Int) ≤ 1000000 := by
      have : 1 * z.length ≤ k.toNat * z.length := Nat.mul_le_mul_right _ (by omega)
      omega
    have a3 : (1000000 : Int) * k ≤ 2 ^ 63 - 1 := by omega
    have a4 : (1000000 : Int) ≤ (2 ^ 63 - 1) / k := (Int.le_ediv_iff_mul_le (by omega)).mpr a3
    omega
  · have a6 : ¬ z.length * k.toNat > 2 ^ 24 := by rw [Nat.mul_comm]; omega
    simpa [Builtin.Str.tooLong, sizeLine] using a6
theorem kp3_ : OpD X (binaryOp .Mult) sMul := .of ksb_ fun ρ hh H d e z x y Q w r1 r2 hz q => by
  cases d <;> try (cases hz; done)
  cases e <;> try (cases hz; done)
  rename_i a k
  have hz : (if -100000 ≤ k ∧ k ≤ 100000 ∧ k.toNat * a.length ≤ 1000000 then some (D.str (Txt.mul a k)) else none) = some z := hz
  by_cases c : -100000 ≤ k ∧ k ≤ 100000 ∧ k.toNat * a.length ≤ 1000000
  · rw [if_pos c] at hz; cases hz
    cases r1 with
    | str o l =>
      cases r2
      exact ⟨a, k, rfl, rfl, c.1, c.2.1, c.2.2, q ρ H _ (Step.refl w) (.str (kud_ o) (by rw [len_mul]; exact kaT_ (by show _ ≤ 16000000; omega)))⟩
  · rw [if_neg c] at hz; cases hz
theorem ksc_ {f : Value → Value → Sem Value} {op : O2F} (ho : OpR X f (rDF op)) : OpD X f (fun h d e => (op h d e).map .lst) := by
  intro pins s σ H x y v u Q I rx ry ⟨ρ, h, d, e, z, w, r1, r2, hz, q⟩
  have hz : (op h d e).map D.lst = some z := hz
  cases e1 : op h d e with
  | none => rw [e1] at hz; cases hz
  | some xs =>
    rw [e1] at hz; cases hz
    refine ho pins s σ H x y v u Q I rx ry ⟨ρ, h, d, e, xs, w, r1, r2, e1, fun ρ' H' p vs st e2 al => ?_⟩
    obtain ⟨ρ2, s2, r2⟩ := st.value w e2 al
    exact q ρ2 H' _ s2 r2
def lMul : O2 := fun h d e => (lRep h d e).map .lst
def dMul : O2 := o2or iMul (o2or sMul lMul)
theorem kmN_ : OpD X (binaryOp .Mult) dMul := kpR_.or (kp3_.or (ksc_ kjG_))
def slA : OH → D → Option Int → Option Int → Option D := fun h d lo hi => (slV h d lo hi).or ((kW_ h d).map fun xs => .lst (cutD xs lo hi))
def sSub (m mo mi : Env → M D) : MS := kbV_ m fun d => kbV_ mo fun o => kbV_ mi fun i δ h => match ownL h o, i with
  | some (k, xs), .int i => match ixN xs.length i with
    | some j => .ok (.nx δ) (h.set k (.lst (xs.set j d)))
    | none => .bad
  | _, _ => .bad
theorem ksd_ {e o i : Expr} {m mo mi : Env → M D} {pos tp : Pos} (he : DE ex X W e m) (ho : DE ex X W o mo) (hi : DE ex X W i mi)
    (ha : ∀ v, assign (.Subscript o i tp) X.env v = (do
      let ov ← holding [v] (eval o X.env)
      let iv ← holding [v, ov] (eval i X.env)
      standAt tp
      holding [v, ov, iv] (setItem ov iv v)
      release [v, ov, iv] []) := by intro _; rfl) (hs : swapsWithSole [.Subscript o i tp] e pos.line X.env = pure false := by rfl) (hw : swappedStores [.Subscript o i tp] e X.env = pure none := by rfl)
    (h1 : (assignEach [.Subscript o i tp] X.env).map (·.2) = [assign (.Subscript o i tp) X.env] := by rfl) : DS ex X W (.Assign [.Subscript o i tp] e pos) (sSub m mo mi) :=
  .of (ps_asg he (pg_sub ho hi set_list ha) hs hw h1) fun E σ H ⟨ρ, h, δ, w, sl, p⟩ => by
    refine ⟨ρ, h, δ, w, sl, (kaF_ (rel := relV) sl p).imp (fun v H1 ⟨ρ1, h1, d, s1, r1, p1⟩ => ?_) fun _ _ _ z => z⟩
    refine ⟨ρ1, h1, δ, s1.wd, s1.Sls sl, (kaF_ (rel := relV) (s1.Sls sl) p1).imp (fun ov H2 ⟨ρ2, h2, od, s2, r2, p2⟩ => ?_) fun _ _ _ z => z⟩
    refine ⟨ρ2, h2, δ, s2.wd, s2.Sls (s1.Sls sl), (kaF_ (rel := relV) (s2.Sls (s1.Sls sl)) p2).imp (fun iv H3 ⟨ρ3, h3, id, s3, r3, p3⟩ => ?_) fun _ _ _ z => z⟩
    have r2' := s3.R r2
    have r1' := s3.R (s2.R r1)
    cases e1 : ownL h3 od with
    | none => simp only [e1] at p3; exact p3.elim
    | some kx =>
      obtain ⟨k, xs⟩ := kx
      cases id with
      | int i =>
        simp only [e1] at p3
        cases e2 : ixN xs.length i with
        | none => simp only [e2] at p3; exact p3.elim
        | some j =>
          simp only [e2] at p3
          cases r3
          obtain ⟨a, us, rfl, f1, al, rfl, f2, st⟩ := kpc_ s3.wd r2' e1
          have s4 := st _ _ (al.set r1' j)
          exact ⟨a, us, i, j, rfl, rfl, f1, by rw [al.length]; exact e2, p3 ρ3 _ σ s4 (s4.Sls (s3.Sls (s2.Sls (s1.Sls sl))))⟩
      | _ => simp only [e1] at p3; exact p3.elim
def kwt_ (m : Env → M D) : Env → M Its := fun δ => M.bind (m δ) fun d => match d with
  | .str x => M.pure ⟨ktM_ (sgD x), kcC_⟩
  | _ => M.bad
def kue_ : Env → M D := mC (.dct [] [])
theorem klq_ {e : Expr} {te : TE} (he : PE X e te) : PE X e (fun σ H Q => te σ H fun v H1 => ∃ a u, v = .ref a ∧ H1 a = some u ∧ Mut (some u) ∧ ∀ od, Q v (upd H1 a (.frz od u))) := ⟨fun pins s σ H Q I h =>
  thn (he.run pins s σ H _ I h) fun u s1 ⟨v, H1, I1, rv, a, o, ev, eH, mu, q⟩ => by
    obtain ⟨od, I2⟩ := I1.lock eH mu
    exact ⟨v, _, I2, rv, q od⟩⟩
theorem kse_ {pos : Pos} : DE ex X W (.Dict [] [] pos) kue_ := .of (klq_ pe_dnewK) fun σ H Q ⟨ρ, h, δ, w, sl, p⟩ => fun d hd => ⟨d, _, rfl, upd_same, trivial, fun od => by
    rw [upd_upd]
    exact p ρ _ _ (w.new _ hd) (.dct (vs := []) upd_same (w.not hd) rfl .nil)⟩
end
def under (l : List Addr) : Under := fun C c => match C with
  | .ref a => if a = c then (if a ∈ l then some true else none) else if a ∈ l ∧ c ∈ l then some false else none
  | _ => none
end Z
set_option Elab.async false
set_option linter.all false
set_option maxRecDepth 100000
set_option maxHeartbeats 4000000
namespace Z
open PySem PySem.Spec PyProof.Rows L2 TL Y LamX
open Classical
def clean (δ : Env) : List (Option D) := δ.map fun s => match s with
  | .val d => some d
  | _ => none
def kbX_ (ds : List (Option D)) : Env := ds.map fun o => match o with
  | some d => .val d
  | none => .un
noncomputable def mGot (i : Nat) (s : Sl) (am : M D) : Env → M D := fun δ => if δ[i]? = some s then am else M.bad
def Cap (ρ : Rh) (N : Addr → Prop) (H : Hp) (σ : L2.St) (ds : List (Option D)) : Prop := σ.length = ds.length ∧ ∀ (i : Nat) (d : D), ds[i]? = some (some d) → ∃ v, σ[i]? = some (some v) ∧ R ρ N H v d
theorem Sls.cap {ex : Ex} {ρ : Rh} {N : Addr → Prop} {H : Hp} {σ : L2.St} {δ : Env} (s : Sls ex ρ N H σ δ) : Cap ρ N H σ (clean δ) := by
  refine ⟨by unfold clean; rw [List.length_map]; exact s.1.1, fun i d e => ?_⟩
  unfold clean at e
  rw [List.getElem?_map] at e
  cases q : δ[i]? with
  | none => rw [q] at e; cases e
  | some sl =>
    rw [q] at e
    cases sl with
    | val d' => cases e; exact s.val q
    | _ => cases e
section
variable {X : Cx}
def mLam (fc : M D → M D) (mb : Env → M D) : Env → M D := fun δ => M.calm (fc (mb (kbX_ (clean δ))))
end
def kwu_ (n : Nat) (m : Env → M D) : MS := fun δ h => match m δ h with
  | .ok d h' => .ok (.rt d) h'
  | .exc C ns vs h' => .exc C ns vs (List.replicate n .un) h'
  | .bad => .bad
def DefC (K : PySem.W.Frag) (mg : Str → Option Value) (x : Str) (st : Stmt) (ps : List Str) (c : Addr) : Prop :=
  ∃ (f : Addr) (fd : FuncData), Fun K x x st f fd ∧ mg x = some (.ref f) ∧ Binds K fd ps [] ∧ fd.code = .ref c
theorem DefC.def {K : PySem.W.Frag} {mg : Str → Option Value} {x : Str} {st : Stmt} {ps : List Str} {c : Addr} (D : DefC K mg x st ps c) : Def K mg x st ps := let ⟨f, fd, a, b, e, _⟩ := D; ⟨f, fd, a, b, e⟩
end Z
set_option Elab.async false
set_option linter.all false
set_option maxRecDepth 100000
set_option maxHeartbeats 4000000
namespace Z
open PySem PySem.Spec PyProof.Rows L2 TL Y
open Classical
section
variable {ex : Ex} {X : Cx} {W : WX}
def tSc (ex : Ex) (K : PySem.W.Frag) (i : Nat) (m : Addr → List Int → Env → M D) (W : WX) : TE := fun σ H Q => ∃ ρ h δ a ns, Wd ρ h H ∧ Sls ex ρ (own ρ h) H σ δ ∧ δ[i]? = some (.scr K a ns) ∧ kao_ relV (WXat W σ) ρ h H (m a ns δ h) Q
noncomputable def mScr (K : PySem.W.Frag) (i : Nat) (m : Addr → List Int → Env → M D) : Env → M D := fun δ => match δ[i]? with
  | some (.scr K' a ns) => if K' = K then m a ns δ else M.bad
  | _ => M.bad
theorem khS_ {K : PySem.W.Frag} {i : Nat} {m : Addr → List Int → Env → M D} {σ : L2.St} {H : Hp} {Q : VK} (p : tM ex W (mScr K i m) σ H Q) : tSc ex K i m W σ H Q := by
  obtain ⟨ρ, h, δ, w, sl, p⟩ := p
  unfold mScr at p
  cases e : δ[i]? with
  | none => rw [e] at p; exact p.elim
  | some s =>
    rw [e] at p
    cases s with
    | scr K' a ns =>
      by_cases c : K' = K
      · subst c
        dsimp only at p
        rw [if_pos rfl] at p
        exact ⟨ρ, h, δ, a, ns, w, sl, e, p⟩
      · dsimp only at p
        rw [if_neg c] at p
        exact p.elim
    | _ => exact p.elim
theorem Sls.scr {ρ : Rh} {N : Addr → Prop} {H : Hp} {σ : L2.St} {δ : Env} (x : Sls ex ρ N H σ δ) {i : Nat} {K : PySem.W.Frag} {a : Addr} {ns : List Int} (e : δ[i]? = some (.scr K a ns)) : σ[i]? = some (some (.ref a)) ∧ kpM_ K N H a ns := by
  obtain ⟨o, q, rfl, r⟩ := x.2 i _ e
  exact ⟨q, r⟩
noncomputable def kjK_ (K : PySem.W.Frag) (i : Nat) : Env → M D := mScr K i fun _ ns _ => M.pure (.int ns.length)
theorem klr_ {i : Nat} {x y : Str} {p p2 pos : Pos} (hg : Gl X x) (hm : X.mg x = none) (hv : bootBuiltins x = some (.builtin "len")) (hN : X.N[i]? = some y := by rfl) (hvis : Vis X.env.scope y := by first | exact Or.inl rfl | exact Or.inr (Or.inl rfl) | exact Or.inr (Or.inr rfl))
    (hd : (y == ("__debug__" : Str)) = false := by decide) (hcd : (y == ("__classdict__" : Str)) = false := by decide)
    (hn : x ≠ "__name__" := by decide) (hdb : (x == ("__debug__" : Str)) = false := by decide) (he : starEach [.Name y p2] X.env = (false, eval (.Name y p2) X.env) :: starEach [] X.env := by rfl)
    (hpl : (backTo pos (starEach [] X.env)).any (·.1) = false := by rfl) : DE ex X W (.Call (.Name x p) [.Name y p2] [] pos) (kjK_ X.K i) :=
  .of (pe_callB call_len hg hm hv (pa_cons (pe_var hN hvis hd hcd) pa_nil he) hn hdb he hpl) fun σ H Q p => by
    obtain ⟨ρ, h, δ, a, ns, w, sl, e, p⟩ := khS_ p
    obtain ⟨q, r⟩ := sl.scr e
    refine ⟨.ref a, q, .ref a, ns.length, rfl, .inl ⟨_, r.sq, by rw [List.length_map]⟩, p.pure w (.int _)⟩
noncomputable def kof_ (K : PySem.W.Frag) (i : Nat) (mk : Env → M D) : Env → M D := mScr K i fun _ ns δ => M.bind (mk δ) fun d => match d with
  | .int k => match atI ns k with
    | some c => M.pure (.int c)
    | none => M.bad
  | _ => M.bad
theorem ksf_ {ns : List Int} {k c : Int} (e : atI ns k = some c) : atI (ns.map V.int) k = some (.int c) := by
  unfold atI at e ⊢
  rw [List.length_map]
  cases q : ixN ns.length k with
  | none => rw [q] at e; cases e
  | some j =>
    rw [q] at e
    show (ns.map V.int)[j]? = _
    have e : ns[j]? = some c := e
    rw [List.getElem?_map, e]; rfl
theorem kp4_ {i : Nat} {y : Str} {p2 pos : Pos} {b : Expr} {mk : Env → M D} (hb : DE ex X W b mk) (hs : PlainIx b) (hN : X.N[i]? = some y := by rfl) (hvis : Vis X.env.scope y := by first | exact Or.inl rfl | exact Or.inr (Or.inl rfl) | exact Or.inr (Or.inr rfl))
    (hd : (y == ("__debug__" : Str)) = false := by decide) (hcd : (y == ("__classdict__" : Str)) = false := by decide) : DE ex X W (.Subscript (.Name y p2) b pos) (kof_ X.K i mk) :=
  .of (pe_ix ix_list (pe_var hN hvis hd hcd) hb hs) fun σ H Q p => by
    obtain ⟨ρ, h, δ, a, ns, w, sl, e, p⟩ := khS_ p
    obtain ⟨q, r⟩ := sl.scr e
    refine ⟨.ref a, q, ρ, h, δ, w, sl, (kao_.bind (rel := relV) p).imp (fun v H1 ⟨ρ1, h1, d, s1, r1, p1⟩ => ?_) fun _ _ _ z => z⟩
    cases d with
    | int k =>
      cases r1
      dsimp only at p1
      cases e2 : atI ns k with
      | none => rw [e2] at p1; exact p1.elim
      | some c =>
        rw [e2] at p1
        exact ⟨a, _, k, _, rfl, rfl, ((s1.Sls sl).scr e).2.sq, ksf_ e2, p1.pure s1.wd (.int c)⟩
    | _ => exact p1.elim
end
def spS (K : PySem.W.Frag) (T : List (Addr × Str)) (n : Nat) (f : Addr → List Int → List D → M D) : Sp := fun vs H Q E =>
  ∃ ρ h a ns us ds, vs = .ref a :: us ∧ Wd ρ h H ∧ ρ.ts = T ∧ kpM_ K (own ρ h) H a ns ∧ RAll ρ (own ρ h) H us ds ∧ us.length = n ∧ kao_ relV (fun c d H => E c d H) ρ h H (f a ns ds h) Q
def HasS (P : Program) (w : World) (K : PySem.W.Frag) (mg : Str → Option Value) (base : Heap) (T : List (Addr × Str)) (gd : Bool) (x : Str) (n k : Nat) (f : Addr → List Int → List D → M D) : Prop :=
  ∃ (ps : List Str) (fa : Addr) (fd : FuncData), ps.length = n + 1 ∧ mg x = some (.ref fa) ∧ PySem.W.keepIn K (.ref fa) = true ∧ Binds K fd ps [] ∧ FnD gd P w K mg base k fa fd ps (spS K T n f)
def kpi_ (K : PySem.W.Frag) (m : Nat) (b : MS) (a : Addr) (ns : List Int) (ds : List D) : M D := defE b (.scr K a ns :: envOf (m - 1) ds)
theorem kp5_ {ex : Ex} {ρ : Rh} {Nn : Addr → Prop} {H : Hp} {σ : L2.St} {δ : Env} {o : Option V} {s : Sl} (x : Sls ex ρ Nn H σ δ) (r : SlOk ex ρ Nn H o s) : Sls ex ρ Nn H (o :: σ) (s :: δ) :=
  ⟨⟨by simp [x.1.1], x.1.2⟩, fun i t e => by
    cases i with
    | zero => cases e; exact ⟨o, rfl, r⟩
    | succ i => exact x.2 i t e⟩
section
variable {P : Program} {w : World} {K : PySem.W.Frag} {mg : Str → Option Value} {base : Heap}
theorem kls_ {ex : Ex} {N : List Str} {b : MS} {vs : List V} {H : Hp} {Q : VK} {E : XK} {n : Nat} (h : spS K ex.T n (kpi_ K N.length b) vs H Q E) :
    tS ex (WE0 E) b { nx := fun _ H' => Q .non H', rt := Q } (L2.start N vs) H := by
  obtain ⟨ρ, hh, a, ns, us, ds, rfl, w, et, hs, al, hl, p⟩ := h
  have sl : Sls ex ρ (own ρ hh) H (L2.start N (.ref a :: us)) (.scr K a ns :: envOf (N.length - 1) ds) := by
    have e : L2.start N (.ref a :: us) = some (.ref a) :: L2.start N.tail us := by
      unfold L2.start
      simp [Nat.add_comm, Nat.sub_sub]
    rw [e]
    have l : N.length - 1 = N.tail.length := by simp
    rw [l]
    exact kp5_ (kln_ et al) ⟨rfl, hs⟩
  refine ⟨ρ, hh, _, w, sl, ?_⟩
  unfold kpi_ defE at p
  cases e : b (.scr K a ns :: envOf (N.length - 1) ds) hh with
  | ok f h' =>
    rw [e] at p
    cases f with
    | rt d => exact p
    | nx δ => exact fun ρ' H' σ s sl => p ρ' H' .non s .non
    | bk δ => exact p.elim
    | ct δ => exact p.elim
  | exc C ns xs δ h' => rw [e] at p; exact fun ρ' H' x vs σ s sl e1 n l al => p ρ' H' x vs s e1 n l al
  | bad => rw [e] at p; exact p.elim
theorem kpj_ {T : List (Addr × Str)} {n : Nat} {f : Addr → List Int → List D → M D} {ps : List Str} (hn : ps.length = n + 1) : ∀ vs H Q E, spS K T n f vs H Q E → vs.length = ps.length := fun vs H Q E ⟨ρ, hh, a, ns, us, ds, e, w, et, hs, al, hl, p⟩ => by rw [e, hn, List.length_cons, hl]
def kp6_ (P : Program) (w : World) (K : PySem.W.Frag) (mg : Str → Option Value) (base : Heap) (T : List (Addr × Str)) (gd : Bool) (x : Str) (st : Stmt) (ps : List Str) (n k : Nat) (f : Addr → List Int → List D → M D) : Prop :=
  ∀ (fa : Addr) (fd : FuncData), Fun K x x st fa fd → FnD gd P w K mg base k fa fd ps (spS K T n f)
theorem kp6_.has {T : List (Addr × Str)} {gd : Bool} {x : Str} {st : Stmt} {ps : List Str} {n k : Nat} {f : Addr → List Int → List D → M D} (F : kp6_ P w K mg base T gd x st ps n k f) (D : Def K mg x st ps) (hn : ps.length = n + 1) : HasS P w K mg base T gd x n k f := by
  obtain ⟨fa, fd, Fu, hm, hb⟩ := D
  exact ⟨ps, fa, fd, hn, hm, Fu.kp, hb, F fa fd Fu⟩
theorem kog_ {T : List (Addr × Str)} {x : Str} {st : Stmt} {N ps : List Str} {k n m : Nat} {b : MS} (S : FnScope N ps (defScope st)) (hn : ps.length = n + 1) (hl : N.length = m)
    (hbody : ∀ (f : Addr) (cdv : Value) (A : Around) (outer : List PySem.Env) (s : Shared) (H : Hp) (E : XK), A.guards = some [] →
      Room k (A.deeper (envOfC x (defScope st) s.heap.objs.size f cdv)) →
      DSs ⟨0, 0, T⟩ (cxOf (L2.CX P w) P w K mg base N x (defScope st) f cdv A outer s H E) (WE0 E) (defBody st) b) :
    kp6_ P w K mg base T true x st ps n (k + 1) (kpi_ K m b) := by
  subst hl
  intro f fd F
  obtain ⟨oc, od, kV, doc, pm, an, cdv, ct, osl, rfl, lk, hcd⟩ := F.ex
  exact kro_ (N := N) lk hcd S (kpj_ hn) fun A outer s H vs Q E hgd hr hsp => ⟨_, hbody f cdv A outer s H E hgd hr, kls_ (ex := ⟨0, 0, T⟩) hsp⟩
theorem kp7_ {T : List (Addr × Str)} {x : Str} {st : Stmt} {N ps : List Str} {k n m : Nat} {b : MS} (S : FnScope N ps (defScope st)) (hn : ps.length = n + 1) (hl : N.length = m)
    (hbody : ∀ (f : Addr) (cdv : Value) (A : Around) (outer : List PySem.Env) (s : Shared) (H : Hp) (E : XK),
      Room k (A.deeper (envOfC x (defScope st) s.heap.objs.size f cdv)) →
      DSs ⟨0, 0, T⟩ (cxOf (L2.CX P w) P w K mg base N x (defScope st) f cdv A outer s H E) (WE0 E) (defBody st) b) :
    kp6_ P w K mg base T false x st ps n (k + 1) (kpi_ K m b) := by
  subst hl
  intro f fd F
  exact F.okX S (kpj_ hn) fun cdv A outer s H vs Q E hr hsp => ⟨_, hbody f cdv A outer s H E hr, kls_ (ex := ⟨0, 0, T⟩) hsp⟩
end
section
variable {ex : Ex} {X : Cx} {W : WX}
noncomputable def mFnS (K : PySem.W.Frag) (i n : Nat) (f : Addr → List Int → List D → M D) (ms : Env → M (List D)) : Env → M D := mScr K i fun a ns δ => M.bind (ms δ) fun ds => if ds.length = n then f a ns ds else M.bad
theorem kmO_ {K : PySem.W.Frag} {i n : Nat} {f : Addr → List Int → List D → M D} {ms : Env → M (List D)} {σ : L2.St} {H : Hp} {Q : VK} (p : tM ex W (mFnS K i n f ms) σ H Q) :
    tCallSD (spS K ex.T n f) [] (fun σ c d H => W c d σ H) (tCons (tVar i) (tA ex W ms)) σ H Q := by
  obtain ⟨ρ, h, δ, a, ns, w, sl, e, p⟩ := khS_ p
  refine ⟨.ref a, (sl.scr e).1, ρ, h, δ, w, sl, (kao_.bind (rel := relA) p).imp (fun vs H1 ⟨ρ1, h1, ds, s1, al, p1⟩ => ?_) fun _ _ _ z => z⟩
  by_cases c : ds.length = n
  · rw [if_pos c] at p1
    refine ⟨ρ1, h1, a, ns, vs, ds, by rw [List.append_nil], s1.wd, s1.tsq.trans sl.1.2, ((s1.Sls sl).scr e).2, al, by rw [al.length]; exact c, p1⟩
  · rw [if_neg c] at p1; exact p1.elim
theorem kp8_ {gd : Bool} {x y : Str} {i n k : Nat} {f : Addr → List Int → List D → M D} {p p2 pos : Pos} {es : List Expr} {ms : Env → M (List D)} (F : HasS X.prog X.w X.K X.mg X.base ex.T gd x n k f) (hG : gd = true → X.A.guards = some []) (tk : Takes X W) (hr : Room k X.A) (hg : Gl X x) (ha : DA ex X W es ms)
    (hN : X.N[i]? = some y := by rfl) (hvis : Vis X.env.scope y := by first | exact Or.inl rfl | exact Or.inr (Or.inl rfl) | exact Or.inr (Or.inr rfl))
    (hd : (y == ("__debug__" : Str)) = false := by decide) (hcd : (y == ("__classdict__" : Str)) = false := by decide)
    (hdb : (x == ("__debug__" : Str)) = false := by decide) (he : starEach (.Name y p2 :: es) X.env = (false, eval (.Name y p2) X.env) :: starEach es X.env := by rfl)
    (hpl : (backTo pos (starEach es X.env)).any (·.1) = false := by rfl) : DE ex X W (.Call (.Name x p) (.Name y p2 :: es) [] pos) (mFnS X.K i n f ms) := by
  obtain ⟨ps, fa, fd, hn, hm, hk, hb, F⟩ := F
  cases gd with
  | true => exact .of (klo_ F (hG rfl) hr hg hm hk hb .nil (E := fun σ c d H => W c d σ H) (fun σ => passAt tk σ) (pa_cons (pe_var hN hvis hd hcd) ha he) hdb he hpl) fun σ H Q p => kmO_ p
  | false => exact .of (pe_callSD F hr hg hm hk hb .nil (E := fun σ c d H => W c d σ H) (fun σ => passAt tk σ) (pa_cons (pe_var hN hvis hd hcd) ha he) hdb he hpl) fun σ H Q p => kmO_ p
end
theorem kxd_ {l : PySem.W.OpenLaw} {w : World} {K : PySem.W.Frag} {mg : Str → Option Value} {fa : Addr} {h : Heap} {k n : Nat} {gd : Bool} {x : Str} {f : Addr → List Int → List D → M D} (cs : List (Addr × Addr)) (T : List (Addr × Str)) (KX : K.In h)
    (hm : mg x = some (.ref fa)) (hT : ∀ p ∈ cs, h.get? p.2 = some { cls := .none, data := .fields #[] }) (nT : ∀ p ∈ cs, K.lookup p.2 = none) (C : ∀ p ∈ cs, PySem.W.codeHdIn K p.1 p.2 = true)
    (hTc : ∀ p ∈ T, ∃ c, (c, p.1) ∈ cs) (hlaw : ∀ a ns, ns.length ≤ n → ∃ h', f a ns [] [] = .ok (.bl true) h')
    {st : Stmt} {ps : List Str} (Dl : Def K mg x st ps) (hps : ps.length = 1)
    (F : ∀ base : Heap, (∃ o, base.get? sysModules = some o) → (∀ p ∈ cs, LamX.TabB base mg p.1 p.2) → kp6_ l.prog w K mg base T gd x st ps 0 k f) :
    kpI_ l w K (L2.CX l.prog w) k n mg fa h := by
  obtain ⟨f', fd, Fu, hm', hb⟩ := Dl
  cases hm.symm.trans hm'
  match ps, hps with
  | [y], _ =>
    refine ⟨fd, cs, spS K T 0 f, y, hT, nT, fun p hp => PySem.W.codeHd_of_K KX (C p hp), fun s u hK => hb s [u] hK rfl, fun H a ns hl hH hS => ?_, fun base hK hN hsys TB => ?_⟩
    · obtain ⟨h', e⟩ := hlaw a ns hl
      refine ⟨⟨[], [], T⟩, [], a, ns, [], [], rfl, ⟨rfl, .nil, fun _ z => (nomatch z), fun _ z => (nomatch z), fun p hp => ?_, fun k a o e => nomatch e⟩, rfl, .of hS ?_, .nil, rfl, ?_⟩
      · obtain ⟨c, hc⟩ := hTc p hp
        exact .nil (hH _ hc)
      · rintro (z | ⟨k, o, e1, _⟩)
        · cases z
        · cases e1
      · rw [e]
        intro ρ' H' v st r
        cases r
        rfl
    · have F := F base hsys TB fa fd Fu
      cases gd with
      | true => exact F
      | false => exact .of F
end Z
set_option Elab.async false
set_option linter.all false
set_option maxRecDepth 100000
set_option maxHeartbeats 4000000
namespace PySem.W
open PySem PySem.Calls PyProof.Rows
end PySem.W
namespace Z
open PySem PySem.Spec PyProof.Rows L2 TL Y
open Classical
def encD (h : OH) (d : D) : PyData := (py h d).getD .none
def ksg_ (h : OH) (xs : List D) : Prop := (∀ d ∈ xs, (py h d).isSome = true ∧ (encD h d).depth ≤ 40) ∧ PySem.W.AllAlike (xs.map (encD h)) ∧ PySem.W.Sortable (xs.map (encD h))
end Z
set_option Elab.async false
set_option linter.all false
set_option maxRecDepth 100000
set_option maxHeartbeats 4000000
namespace Z
open PySem PySem.Spec PyProof.Rows L2 TL Y
open Classical
def keyD : Key → D
  | .inl i => .int i
  | .inr x => .str x
def keysOf : List D → Option (List Key)
  | [] => some []
  | .int i :: r => (keysOf r).map (.inl i :: ·)
  | .str x :: r => if PyData.strOk x = true ∧ x.length ≤ lim then (keysOf r).map (.inr x :: ·) else none
  | _ :: _ => none
def keyT (d : D) : Option (List Key) := match d with
  | .tup xs => keysOf xs
  | _ => none
def keyI (d : D) : Option Key := match d with
  | .int i => some (.inl i)
  | .str x => if PyData.strOk x = true ∧ x.length ≤ lim then some (.inr x) else none
  | _ => none
section
variable {ρ : Rh} {N : Addr → Prop} {h : OH} {H : Hp} {κ : Type}
noncomputable def putV {κ : Type} [DecidableEq κ] (ks : List κ) (vs : List D) (k : κ) (z : D) : List D := if k ∈ ks then (ks.zip vs).map fun p => if p.1 = k then z else p.2 else vs ++ [z]
noncomputable def kn2_ {κ : Type} [DecidableEq κ] (ks : List κ) (k : κ) : List κ := if k ∈ ks then ks else ks ++ [k]
theorem RAll.upd [DecidableEq κ] {v : V} {z : D} {k : κ} (r : R ρ N H v z) : ∀ {ks : List κ} {us : List V} {ds : List D}, RAll ρ N H us ds →
    RAll ρ N H ((ks.zip us).map fun p => if p.1 = k then v else p.2) ((ks.zip ds).map fun p => if p.1 = k then z else p.2)
  | [], _, _, _ => .nil
  | _ :: _, _, _, .nil => .nil
  | c :: ks, _, _, .cons a b => by
    by_cases e : c = k
    · subst e; simp only [List.zip_cons_cons, List.map_cons, if_pos]; exact .cons r (RAll.upd r b)
    · simp only [List.zip_cons_cons, List.map_cons, if_neg e]; exact .cons a (RAll.upd r b)
end
theorem kp9_ {ρ : Rh} {h : OH} {H : Hp} {k : Nat} {a : Addr} {o o' : OO} {u : HO} (e1 : ρ.l[k]? = some a) (e2 : h[k]? = some o) (ng : o.nx ≠ .gone) {us : List V} {ds : List D} (al : RAll ρ (own ρ h) H us ds) :
    RAll ρ (own ρ (h.set k o')) (upd H a u) us ds := by
  have oa : own ρ h a := .inr ⟨k, o, e1, e2, ng⟩
  refine al.mono (List.prefix_refl _) (fun b v nb _ q => by rw [upd_ne fun z => nb (by rw [z]; exact oa)]; exact q) fun b z => .inl ?_
  rcases z with z | ⟨j, v, f1, f2, n⟩
  · exact .inl z
  by_cases hj : j = k
  · subst hj; rw [e1] at f1; cases f1; exact oa
  · rw [List.getElem?_set_ne (Ne.symm hj)] at f2
    exact .inr ⟨j, v, f1, f2, n⟩
noncomputable def putO (n : Nat) (y z : D) (h : OH) : Option OH := match h[n]? with
  | some (.dcT ks vs) => match keyT y with
    | some k => if ks.length < lim then some (h.set n (.dcT (kn2_ ks k) (putV ks vs k z))) else none
    | none => none
  | some (.dct ks vs) => match keyI y with
    | some k => if ks.length < lim then some (h.set n (.dct (kn2_ ks k) (putV ks vs k z))) else none
    | none => none
  | _ => none
def e0 : Bool → OO
  | true => .dct [] []
  | false => .dcT [] []
def h0 : Bool → HO
  | true => .dK []
  | false => .dT []
noncomputable def dcGo (g : GD) (tt : Env → M Bool) (tk tv : Env → M D) (ok : OH → Prop) (δ : Env) (n : Nat) : List D → M Unit
  | [] => M.pure ()
  | d :: ds => fun h => match g d δ with
    | none => .bad
    | some δ1 => M.bind (M.calm (tt δ1)) (fun b => if b = true then M.bind (M.calm (tk δ1)) (fun y => M.bind (M.calm (tv δ1)) (fun z h3 => match putO n y z h3 with
      | some h4 => if ok h4 then dcGo g tt tk tv ok δ n ds h4 else .bad
      | none => .bad)) else fun h2 => if ok h2 then dcGo g tt tk tv ok δ n ds h2 else .bad) h
noncomputable def mDcG (i : Bool) (m : Env → M Its) (g : GD) (tt : Env → M Bool) (tk tv : Env → M D) (vs : List Nat) : Env → M D := fun δ => M.bind (m δ) fun its h1 => if its.ok (h1 ++ [e0 i]) then M.bind (dcGo g tt tk tv its.ok (kgi_ δ vs) h1.length its.xs) (fun _ h2 => .ok (.ptr h1.length) h2) (h1 ++ [e0 i]) else .bad
noncomputable def frz (d : D) : M D := fun h => match d with
  | .ptr n => match h[n]? with
    | some (.dcT ks vs) => .ok (.dcT ks vs) (h.set n .gone)
    | some (.dct ks vs) => .ok (.dct ks vs) (h.set n .gone)
    | _ => .bad
  | _ => .bad
noncomputable def mFrz (m : Env → M D) : Env → M D := fun δ => M.bind (m δ) frz
theorem kqa_ {W : Value → Option Addr → Hp → Prop} {ρ : Rh} {h : OH} {H : Hp} {v : V} {d : D} {Q : VK} (w : Wd ρ h H) (r : R ρ (own ρ h) H v d) (p : kao_ relV W ρ h H (frz d h) Q) :
    ∃ a u, v = .ref a ∧ H a = some u ∧ Mut (some u) ∧ ∀ od, Q v (upd H a (.frz od u)) := by
  cases d with
  | ptr n =>
    unfold frz at p
    dsimp only at p
    cases e : h[n]? with
    | none => rw [e] at p; exact p.elim
    | some o =>
      rw [e] at p
      cases o with
      | dcT ks vs =>
        cases r with
        | ptr ea =>
          rename_i a
          obtain ⟨us, eH, l, al⟩ := w.at' n a _ ea e
          refine ⟨a, _, rfl, eH, trivial, fun od => ?_⟩
          have s := w.put (o' := .gone) (u := .frz od (.dT (ks.zip us))) kdC_ ea e (fun z => nomatch z) ⟨_, kdC_, upd_same⟩
          exact p ρ _ (.ref a) s (.dcT upd_same (w.ko7_ ea) l (s.RAll al))
      | dct ks vs =>
        cases r with
        | ptr ea =>
          rename_i a
          obtain ⟨us, eH, l, al⟩ := w.at' n a _ ea e
          refine ⟨a, _, rfl, eH, trivial, fun od => ?_⟩
          have s := w.put (o' := .gone) (u := .frz od (.dK (ks.zip us))) kdC_ ea e (fun z => nomatch z) ⟨_, kdC_, upd_same⟩
          exact p ρ _ (.ref a) s (.dct upd_same (w.ko7_ ea) l (s.RAll al))
      | _ => exact p.elim
  | _ => exact p.elim
section
variable {ex : Ex} {X : Cx} {W : WX}
theorem kuf_ {e : Expr} {m : Env → M D} (he : DE ex X W e m) : DE ex X W e (mFrz m) :=
  .of (klq_ he) fun σ H Q ⟨ρ, h, δ, w, sl, p⟩ => ⟨ρ, h, δ, w, sl, (kao_.bind (rel := relV) p).imp (fun v H1 ⟨ρ1, h1, d, s1, r1, p1⟩ => kqa_ s1.wd r1 p1) fun _ _ _ z => z⟩
def keyB (k : Key) : Bool := match k with
  | .inl _ => true
  | .inr x => PyData.strOk x && decide (x.length ≤ lim)
def mItK (m : Env → M D) : Env → M Its := fun δ => M.bind (m δ) fun d => match d with
  | .dcT ks vs => if ks.all (fun k => k.all keyB) = true then M.pure ⟨ks.map fun k => D.tup (k.map keyD), kcC_⟩ else M.bad
  | .dct ks vs => if ks.all keyB = true then M.pure ⟨ks.map keyD, kcC_⟩ else M.bad
  | _ => M.bad
def kxe_ (ks : List (List Key)) : List D := ks.map fun k => D.tup (k.map keyD)
end
end Z
set_option Elab.async false
set_option linter.all false
set_option maxRecDepth 100000
set_option maxHeartbeats 4000000
namespace Z
open PySem PySem.Spec PyProof.Rows L2 TL Y
open Classical
section
variable {ex : Ex} {X : Cx} {W : WX}
def mItQ (m : Env → M D) : Env → M Its := fun δ => M.bind (m δ) fun d h => match kW_ h d with
  | some xs => .ok ⟨xs, stays d xs⟩ h
  | none => match kjD_ d with
    | some xs => .ok ⟨xs, kcC_⟩ h
    | none => .bad
def kwv_ (m : Env → M D) (ms : Env → M (List D)) : Env → M (List D) := fun δ => M.bind (m δ) fun d => M.bind (kd9_ fun h => kgd_ h d) fun xs => M.bind (ms δ) fun ys => M.pure (xs ++ ys)
def mFnV (n : Nat) (f : List D → M D) (ms : Env → M (List D)) : Env → M D := fun δ => M.bind (ms δ) fun ds => if n ≤ ds.length ∧ ds.length ≤ lim then f (ds.take n ++ [.tup (ds.drop n)]) else M.bad
end
end Z
set_option Elab.async false
set_option linter.all false
set_option maxRecDepth 100000
set_option maxHeartbeats 4000000
set_option Elab.async false
set_option linter.all false
set_option maxRecDepth 100000
set_option maxHeartbeats 4000000
namespace Z
open PySem PySem.Spec PyProof.Rows L2 TL Y
open Classical
section
variable {ex : Ex} {X : Cx} {W : WX}
def kb1_ (h : OH) (d : D) : Option (Addr × List Str × List D) := match d with
  | .ins C ns xs => some (C, ns, xs)
  | .ptr k => match h[k]? with
    | some (.ins C ns xs) => some (C, ns, xs)
    | _ => none
  | _ => none
theorem kqb_ {ρ : Rh} {h : OH} {H : Hp} {v : V} {d : D} {C : Addr} {ns : List Str} {xs : List D} (w : Wd ρ h H) (r : R ρ (own ρ h) H v d) (e : kb1_ h d = some (C, ns, xs)) :
    ∃ a dx vs, v = .ref a ∧ H a = some (.ins C dx (ns.zip vs)) ∧ ns.length = vs.length ∧ RAll ρ (own ρ h) H vs xs := by
  unfold kb1_ at e
  cases d with
  | ins C' ns' xs' =>
    cases e
    cases r with
    | ins e1 n l al => exact ⟨_, _, _, rfl, e1, l, al⟩
  | ptr k =>
    dsimp only at e
    cases e1 : h[k]? with
    | none => rw [e1] at e; cases e
    | some o =>
      rw [e1] at e
      cases o with
      | ins C' ns' xs' =>
        cases e
        cases r with
        | ptr ea =>
          obtain ⟨dx, vs, eH, l, al⟩ := w.at' k _ _ ea e1
          exact ⟨_, dx, vs, rfl, eH, l, al⟩
      | _ => cases e
  | _ => cases e
def mFld (C : Addr) (f : Str) (m : Env → M D) : Env → M D := fun δ => M.bind (m δ) fun d h => match kb1_ h d with
  | some (C', ns, xs) => if C' = C then (match (ns.zip xs).lookup f with
    | some z => .ok z h
    | none => .bad) else .bad
  | none => .bad
def ksh_ (f : Str) (z : D) : List Str → List D → List Str × List D
  | n :: ns, x :: xs => if n = f then (n :: ns, z :: xs) else let r := ksh_ f z ns xs; (n :: r.1, x :: r.2)
  | _, _ => ([f], [z])
def ownI (C : Addr) (h : OH) (d : D) : Option (Nat × List Str × List D) := match d with
  | .ptr k => match h[k]? with
    | some (.ins C' ns xs) => if C' = C then some (k, ns, xs) else none
    | _ => none
  | _ => none
noncomputable def kww_ (C : Addr) (f : Str) (m mo : Env → M D) : MS := kbV_ m fun z => kbV_ mo fun o δ h => match ownI C h o with
  | some (k, ns, xs) => if ns.length < 1000 then .ok (.nx δ) (h.set k (.ins C (ksh_ f z ns xs).1 (ksh_ f z ns xs).2)) else .bad
  | none => .bad
end
end Z
namespace Z
open PySem PySem.Spec PyProof.Rows L2 TL Y
open Classical
section
variable {ex : Ex} {X : Cx} {W : WX}
noncomputable def frzI (C : Addr) (k : Nat) : M D := fun h => match h[k]? with
  | some (.ins C' ns xs) => if C' = C then .ok (.ins C ns xs) (h.set k .gone) else .bad
  | _ => .bad
noncomputable def mkI (C : Addr) (f : List D → M D) (ds : List D) : M D := fun h => M.bind (f (.ptr h.length :: ds)) (fun r => match r with
  | .non => frzI C h.length
  | _ => M.bad) (h ++ [.ins C [] []])
noncomputable def kwx_ (C : Addr) (n : Nat) (f : List D → M D) (ms : Env → M (List D)) : Env → M D := fun δ => M.bind (ms δ) fun ds => if ds.length = n then mkI C f ds else M.bad
def isI (C : Addr) (m : Str) (d : D) : M Unit := fun h => match kb1_ h d with
  | some (C', ns, xs) => if C' = C ∧ (ns.zip xs).lookup m = none then .ok () h else .bad
  | none => .bad
noncomputable def mMe (C : Addr) (m : Str) (n : Nat) (f : List D → M D) (mo : Env → M D) (ms : Env → M (List D)) : Env → M D := fun δ => M.bind (mo δ) fun o => M.bind (isI C m o) fun _ => M.bind (ms δ) fun ds => if ds.length = n then f (o :: ds) else M.bad
noncomputable def mPr (C : Addr) (f : List D → M D) (mo : Env → M D) : Env → M D := fun δ => M.bind (mo δ) fun o h => match kb1_ h o with
  | some (C', _, _) => if C' = C then M.calm (f [o]) h else .bad
  | none => .bad
end
end Z
set_option Elab.async false
set_option linter.all false
set_option maxRecDepth 100000
set_option maxHeartbeats 4000000
namespace Z
open PySem PySem.Spec PyProof.Rows L2 TL Y
open Classical
section
variable {ex : Ex} {X : Cx} {W : WX}
def mOpM (op : D → D → M D) (ma mb : Env → M D) : Env → M D := fun δ => M.bind (ma δ) fun x => M.bind (mb δ) fun y => M.calm (op x y)
def rDM (T : List (Addr × Str)) (op : D → D → M D) : R2 := fun x y H Q => ∃ ρ h d e, Wd ρ h H ∧ ρ.ts = T ∧ R ρ (own ρ h) H x d ∧ R ρ (own ρ h) H y e ∧ kao_ relV (fun _ _ _ => False) ρ h H (op d e h) Q
def OpDM (X : Cx) (T : List (Addr × Str)) (f : Value → Value → Sem Value) (op : D → D → M D) : Prop := OpR X f (rDM T op)
structure OwnEq (K : PySem.W.Frag) (C g : Addr) : Prop where
  at_ : PySem.W.findIn K (.ref C) "__eq__" = some (some (.ref g))
  fn : PySem.W.isFn K (.ref g) = true
  nN : PySem.W.subIn K (.type "NoneType") (.ref C) = some false
  nS : PySem.W.subIn K (.type "str") (.ref C) = some false
  nI : PySem.W.subIn K (.type "int") (.ref C) = some false
  nB : PySem.W.subIn K (.type "bool") (.ref C) = some false
  rN : PySem.W.subIn K (.ref C) (.type "NoneType") = some false
  rS : PySem.W.subIn K (.ref C) (.type "str") = some false
  ne : PySem.W.findIn K (.ref C) "__ne__" = some (some (.builtin "object.__ne__"))
  mo : PySem.W.mroIn K C (.type "object") = some true
def eqOk (C : Addr) (h : OH) (e : D) : Prop := match e with
  | .non => True
  | .str _ => True
  | .int _ => True
  | .bl _ => True
  | e => ∃ ns xs, kb1_ h e = some (C, ns, xs)
noncomputable def iEqL (C : Addr) (f : List D → M D) (d e : D) : M D := fun h => match kb1_ h d with
  | some (C', _, _) => if C' = C ∧ eqOk C h e then f [d, e] h else .bad
  | none => .bad
end
end Z
namespace PySem.W
open PySem PySem.Spec PySem.Calls PyProof.Rows Lean
end PySem.W
namespace Z
open PySem PySem.Spec PyProof.Rows L2 TL Y
open Classical
section
variable {ex : Ex} {X : Cx} {W : WX}
noncomputable def iEq (C : Addr) (f : List D → M D) (d e : D) : M D := fun h => match kb1_ h d with
  | some _ => iEqL C f d e h
  | none => match d with
    | .non => if ∃ ns xs, kb1_ h e = some (C, ns, xs) then f [e, d] h else .bad
    | .str _ => if ∃ ns xs, kb1_ h e = some (C, ns, xs) then f [e, d] h else .bad
    | _ => .bad
end
end Z
set_option Elab.async false
set_option linter.all false
set_option maxRecDepth 100000
set_option maxHeartbeats 4000000
namespace PySem.W
open PySem PySem.Spec PySem.Calls PyProof.Rows Lean
end PySem.W
namespace Z
open PySem PySem.Spec PyProof.Rows L2 TL Y
open Classical
section
variable {ex : Ex} {X : Cx} {W : WX}
noncomputable def notM (r : D) : M D := match r with
  | .bl k => M.pure (.bl (!k))
  | _ => M.bad
noncomputable def iNe (C : Addr) (f : List D → M D) (d e : D) : M D := fun h => match kb1_ h d with
  | some (C', _, _) => if C' = C ∧ eqOk C h e then M.bind (f [d, e]) notM h else .bad
  | none => .bad
end
end Z
set_option Elab.async false
set_option linter.all false
set_option maxRecDepth 100000
set_option maxHeartbeats 4000000
namespace Z
open PySem PySem.Spec PyProof.Rows L2 TL Y
open Classical
def isTs : List String := ["NoneType", "bool", "int", "str", "list", "tuple", "dict"]
structure IsC (K : PySem.W.Frag) (C : Addr) : Prop where
  cl : Cls K C
  si : SlX.SIsi K C
  kN : PySem.W.kitOne K (.type "NoneType") (.ref C) = some false
  kB : PySem.W.kitOne K (.type "bool") (.ref C) = some false
  kI : PySem.W.kitOne K (.type "int") (.ref C) = some false
  kS : PySem.W.kitOne K (.type "str") (.ref C) = some false
  kL : PySem.W.kitOne K (.type "list") (.ref C) = some false
  kT : PySem.W.kitOne K (.type "tuple") (.ref C) = some false
  kD : PySem.W.kitOne K (.type "dict") (.ref C) = some false
theorem IsC.at_ {K : PySem.W.Frag} {C : Addr} (O : IsC K C) {t : String} (h : t ∈ isTs) : PySem.W.kitOne K (.type t) (.ref C) = some false := by
  unfold isTs at h
  simp only [List.mem_cons, List.not_mem_nil, or_false] at h
  rcases h with rfl | rfl | rfl | rfl | rfl | rfl | rfl
  · exact O.kN
  · exact O.kB
  · exact O.kI
  · exact O.kS
  · exact O.kL
  · exact O.kT
  · exact O.kD
noncomputable def isC (C : Addr) (h : OH) (d : D) : Option D := match kb1_ h d with
  | some (C', _, _) => if C' = C then some (.bl true) else none
  | none => (tyS h d).bind fun t => if t ∈ isTs then some (.bl false) else none
noncomputable def kwy_ (C : Addr) (m : Env → M D) : Env → M D := fun δ => M.bind (m δ) fun d => klj_ fun h => isC C h d
end Z
set_option Elab.async false
set_option linter.all false
set_option maxRecDepth 100000
set_option maxHeartbeats 4000000
namespace Z
open PySem PySem.Spec PyProof.Rows L2 TL Y
open Classical
section
variable {ex : Ex} {X : Cx} {W : WX}
def strM (r : D) : M D := match r with
  | .str x => M.pure (.str x)
  | _ => M.bad
noncomputable def atI' (C : Addr) (f : List D → M D) (k : D → M D) (d : D) : M D := fun h => match kb1_ h d with
  | some (C', _, _) => if C' = C then M.bind (f [d]) k h else .bad
  | none => .bad
def rCM (T : List (Addr × Str)) (op : List D → M D) : List V → Hp → VK → Prop := fun vs H Q => ∃ ρ h ds, Wd ρ h H ∧ ρ.ts = T ∧ RAll ρ (own ρ h) H vs ds ∧ kao_ relV (fun _ _ _ => False) ρ h H (op ds h) Q
def klP_ (X : Cx) (T : List (Addr × Str)) (f : Value) (op : List D → M D) : Prop := CallR X f (rCM T op)
def ksi_ (op : List D → M D) (ms : Env → M (List D)) : Env → M D := fun δ => M.bind (ms δ) fun ds => M.calm (op ds)
noncomputable def kxf_ (C : Addr) (f : List D → M D) (ds : List D) : M D := match ds with
  | [d] => atI' C f strM d
  | _ => M.bad
variable {T : List (Addr × Str)} {C g : Addr} {k : Nat} {ps : List Str} {fd : FuncData} {f : List D → M D}
noncomputable def kwz_ (C : Addr) (f : List D → M D) (m : Env → M D) : Env → M D := fun δ => M.bind (m δ) fun d => M.calm (atI' C f strM d)
end
end Z
set_option Elab.async false
set_option linter.all false
set_option maxRecDepth 100000
set_option maxHeartbeats 4000000
set_option Elab.async false
set_option linter.all false
set_option maxRecDepth 100000
set_option maxHeartbeats 4000000
namespace Z
open PySem PySem.Spec PyProof.Rows L2 TL Y
open Classical
def isIn (C : Addr) (h : OH) (d : D) : Prop := ∃ ns xs, kb1_ h d = some (C, ns, xs)
def kwA_ (op : O2) : D → D → M D := fun d e h => match op h d e with
  | some z => .ok z h
  | none => .bad
def kwB_ (op : OC) : List D → M D := fun ds h => match op h ds with
  | some z => .ok z h
  | none => .bad
noncomputable def orM (p : OH → D → D → Prop) (a b : D → D → M D) : D → D → M D := fun d e h => if p h d e then a d e h else b d e h
noncomputable def orCM (p : OH → List D → Prop) (a b : List D → M D) : List D → M D := fun ds h => if p h ds then a ds h else b ds h
section
variable {ex : Ex} {X : Cx} {W : WX} {T : List (Addr × Str)} {F : Value → Value → Sem Value}
theorem OpDM.of {op : O2} (ho : OpD X F op) : OpDM X T F (kwA_ op) := by
  intro pins s σ H x y v u Q I rx ry ⟨ρ, h, d, e, w, et, r1, r2, p⟩
  unfold kwA_ at p
  cases hz : op h d e with
  | none => rw [hz] at p; exact p.elim
  | some z =>
    rw [hz] at p
    exact ho pins s σ H x y v u Q I rx ry ⟨ρ, h, d, e, z, w, r1, r2, hz, fun ρ' H' v s r => p ρ' H' v s r⟩
theorem OpDM.or {p : OH → D → D → Prop} {a b : D → D → M D} (ha : OpDM X T F a) (hb : OpDM X T F b) : OpDM X T F (orM p a b) := by
  intro pins s σ H x y v u Q I rx ry ⟨ρ, h, d, e, w, et, r1, r2, q⟩
  unfold orM at q
  by_cases c : p h d e
  · rw [if_pos c] at q; exact ha pins s σ H x y v u Q I rx ry ⟨ρ, h, d, e, w, et, r1, r2, q⟩
  · rw [if_neg c] at q; exact hb pins s σ H x y v u Q I rx ry ⟨ρ, h, d, e, w, et, r1, r2, q⟩
theorem klP_.of {f : Value} {op : OC} (ho : CallD X f op) : klP_ X T f (kwB_ op) := by
  intro pins s σ H xs us Q I r ⟨ρ, h, ds, w, et, al, p⟩
  unfold kwB_ at p
  cases hz : op h ds with
  | none => rw [hz] at p; exact p.elim
  | some z =>
    rw [hz] at p
    exact ho pins s σ H xs us Q I r ⟨ρ, h, ds, z, w, al, hz, fun ρ' H' v s r => p ρ' H' v s r⟩
theorem klP_.or {f : Value} {p : OH → List D → Prop} {a b : List D → M D} (ha : klP_ X T f a) (hb : klP_ X T f b) : klP_ X T f (orCM p a b) := by
  intro pins s σ H xs us Q I r ⟨ρ, h, ds, w, et, al, q⟩
  unfold orCM at q
  by_cases c : p h ds
  · rw [if_pos c] at q; exact ha pins s σ H xs us Q I r ⟨ρ, h, ds, w, et, al, q⟩
  · rw [if_neg c] at q; exact hb pins s σ H xs us Q I r ⟨ρ, h, ds, w, et, al, q⟩
variable {C : Addr} {k : Nat} {f : List D → M D}
end
end Z
set_option Elab.async false
set_option linter.all false
set_option maxRecDepth 100000
set_option maxHeartbeats 4000000
namespace Z
open PySem PySem.Spec PyProof.Rows L2 TL Y
open Classical
section
variable {ex : Ex} {X : Cx} {W : WX}
noncomputable def mMe0 (C : Addr) (m : Str) (f : List D → M D) (mo : Env → M D) : Env → M D := fun δ => M.bind (mo δ) fun o => M.bind (isI C m o) fun _ => f [o]
noncomputable def setI (C : Addr) (f : Str) (z o : D) (h : OH) : Option OH := match ownI C h o with
  | some (k, ns, xs) => if ns.length < 1000 then some (h.set k (.ins C (ksh_ f z ns xs).1 (ksh_ f z ns xs).2)) else none
  | none => none
noncomputable def kwC_ (C : Addr) (f1 f2 : Str) (m mo : Env → M D) : MS := kbV_ m fun d => match d with
  | .tup [x1, x2] => kbV_ mo fun o δ h => match setI C f1 x1 o h with
    | some h1 => kbV_ mo (fun o2 δ h2 => match setI C f2 x2 o2 h2 with
      | some h3 => .ok (.nx δ) h3
      | none => .bad) δ h1
    | none => .bad
  | _ => fun _ _ => .bad
end
end Z
set_option Elab.async false
set_option linter.all false
set_option maxRecDepth 100000
set_option maxHeartbeats 4000000
set_option Elab.async false
set_option linter.all false
set_option maxRecDepth 100000
set_option maxHeartbeats 4000000
namespace Z
open PySem PySem.Spec PyProof.Rows L2 TL Y
open Classical
def dT (h : OH) (d : D) : Option (List (List Key) × List D) := match d with
  | .ptr k => match h[k]? with
    | some (.dcT ks vs) => some (ks, vs)
    | _ => none
  | .dcT ks vs => some (ks, vs)
  | _ => none
noncomputable def lkT {κ : Type} [DecidableEq κ] (k : κ) : List κ → List D → Option D
  | c :: ks, x :: xs => if c = k then some x else lkT k ks xs
  | _, _ => none
def dI (h : OH) (d : D) : Option (List Key × List D) := match d with
  | .ptr k => match h[k]? with
    | some (.dct ks vs) => some (ks, vs)
    | _ => none
  | .dct ks vs => some (ks, vs)
  | _ => none
noncomputable def ktN_ {α : Type} (h : OH) (d e : D) (f : Bool → Option D → α) : Option α := match dT h d with
  | some p => match keyT e with
    | some k => some (f (decide (k ∈ p.1)) (lkT k p.1 p.2))
    | none => none
  | none => match dI h d with
    | some p => match keyI e with
      | some k => some (f (decide (k ∈ p.1)) (lkT k p.1 p.2))
      | none => none
    | none => none
end Z
set_option Elab.async false
set_option linter.all false
set_option maxRecDepth 100000
set_option maxHeartbeats 4000000
namespace Z
open PySem PySem.Spec PyProof.Rows L2 TL Y
open Classical
def ownT (h : OH) : D → Option (Nat × List (List Key) × List D)
  | .ptr k => match h[k]? with
    | some (.dcT ks vs) => some (k, ks, vs)
    | _ => none
  | _ => none
def ownJ (h : OH) : D → Option (Nat × List Key × List D)
  | .ptr k => match h[k]? with
    | some (.dct ks vs) => some (k, ks, vs)
    | _ => none
  | _ => none
theorem ksj_ {ρ : Rh} {h : OH} {H : Hp} {v : V} {d : D} {k : Nat} {ks : List Key} {xs : List D} (w : Wd ρ h H) (r : R ρ (own ρ h) H v d) (e : ownJ h d = some (k, ks, xs)) :
    ∃ a vs, v = .ref a ∧ H a = some (.dK (ks.zip vs)) ∧ ks.length = vs.length ∧ RAll ρ (own ρ h) H vs xs ∧ d = .ptr k ∧ h[k]? = some (.dct ks xs) ∧
      ∀ (ks' : List Key) (us : List V) (ys : List D), ks'.length = us.length → RAll ρ (own ρ h) H us ys → Step ρ h H ρ (h.set k (.dct ks' ys)) (upd H a (.dK (ks'.zip us))) := by
  cases r with
  | @ptr j a e1 =>
    have e : (match h[j]? with
      | some (.dct ks vs) => some (j, ks, vs)
      | _ => none) = some (k, ks, xs) := e
    cases q : h[j]? with
    | none => rw [q] at e; cases e
    | some o =>
      rw [q] at e
      cases o with
      | dct zs ys =>
        cases e
        obtain ⟨vs, e2, l, al⟩ := w.at' k a _ e1 q
        exact ⟨a, vs, rfl, e2, l, al, rfl, q, fun ks' us ys l' al' => w.put kt1_ e1 q (fun z => nomatch z) ⟨us, upd_same, l', kp9_ e1 q (fun z => nomatch z) al'⟩⟩
      | _ => cases e
  | _ => cases e
noncomputable def setD (h : OH) (o i z : D) : Option OH := match ownT h o with
  | some p => match keyT i with
    | some kk => if p.2.1.length < lim then some (h.set p.1 (.dcT (kn2_ p.2.1 kk) (putV p.2.1 p.2.2 kk z))) else none
    | none => none
  | none => match ownJ h o with
    | some p => match keyI i with
      | some kk => if p.2.1.length < lim then some (h.set p.1 (.dct (kn2_ p.2.1 kk) (putV p.2.1 p.2.2 kk z))) else none
      | none => none
    | none => none
section
variable {ex : Ex} {X : Cx} {W : WX}
noncomputable def kwD_ (m mo mi : Env → M D) : MS := kbV_ m fun d => kbV_ mo fun o => kbV_ mi fun i δ h => match setD h o i d with
  | some h' => .ok (.nx δ) h'
  | none => .bad
noncomputable def ksk_ (op : OM) (mo : Env → M D) (ms : Env → M (List D)) : Env → M D := fun δ => M.bind (mo δ) fun d h0 => if (ownT h0 d).isSome = true then M.bind (ms δ) (fun es h => match op h d es with
  | some (z, h') => .ok z h'
  | none => .bad) h0 else .bad
def klQ_ : List D → Option (List (List Key × D))
  | [] => some []
  | .tup [k, v] :: r => match keyT k, klQ_ r with
    | some kk, some ps => some ((kk, v) :: ps)
    | _, _ => none
  | _ :: _ => none
noncomputable def kkx_ : List (List Key) × List D → List (List Key × D) → List (List Key) × List D
  | a, [] => a
  | a, p :: r => kkx_ (kn2_ a.1 p.1, putV a.1 a.2 p.1 p.2) r
noncomputable def kqc_ (m : Env → M D) : Env → M D := fun δ => M.bind (m δ) fun d h => match kW_ h d with
  | some xs => match klQ_ xs with
    | some ps => .ok (.ptr h.length) (h ++ [.dcT (kkx_ ([], []) ps).1 (kkx_ ([], []) ps).2])
    | none => .bad
  | none => .bad
noncomputable def sFrz (i : Nat) (b : MS) : MS := fun δ h => match δ[i]? with
  | some (.val (.ptr k)) => match h[k]? with
    | some (.dcT ks vs) => b (δ.set i (.val (.dcT ks vs))) (h.set k .gone)
    | some (.dct ks vs) => b (δ.set i (.val (.dct ks vs))) (h.set k .gone)
    | _ => .bad
  | _ => .bad
end
end Z
set_option Elab.async false
set_option linter.all false
set_option maxRecDepth 100000
set_option maxHeartbeats 4000000
namespace PySem
open PySem.Sem (wp)
abbrev kug_ (h : Heap) (z TI TO : Addr) (f0 : Value) (f1 : Value) : Prop :=
  h.get? z = some { cls := .type "zip", dict := none, data := .fields #[f0, f1, .bool false, .ref TI, .ref TO], slots := #[] }
section
variable {prog : Program} {w : World} {A : Around} {E : Value → Shared → Prop} {s : Shared}
def ZSt (h : Heap) (z TI TO i1 i2 S : Addr) (i : Nat) : Prop :=
  (i = 0 ∧ IsZip h z TI TO .none) ∨ ∃ (T : Addr) (b : Bool) (oT : Obj), kug_ h z TI TO (rawInt T) (.bool b) ∧ h.get? T = some oT ∧ T ≠ z ∧ T ≠ i1 ∧ T ≠ i2 ∧ T ≠ S
structure ZAr (h : Heap) (z TI TO i1 i2 l1 l2 S : Addr) (xs ys : Array Value) (i : Nat) : Prop where
  st : ZSt h z TI TO i1 i2 S i
  ti : IsPair h TI (.ref i1) (.ref i2)
  to : ∃ a b, IsPair h TO a b
  h1 : h.IsListIter i1 l1 i
  h2 : h.IsListIter i2 l2 i
  l1 : h.IsList l1 xs
  l2 : h.IsList l2 ys
theorem ZAr.keep {h h' : Heap} {z TI TO i1 i2 l1 l2 S : Addr} {xs ys : Array Value} {i : Nat} (a : ZAr h z TI TO i1 i2 l1 l2 S xs ys i) (k : ∀ b o, b ≠ S → h.get? b = some o → h'.get? b = some o) (n : ∀ c ∈ [z, TI, TO, i1, i2, l1, l2], c ≠ S) : ZAr h' z TI TO i1 i2 l1 l2 S xs ys i := by
  have kk : ∀ c ∈ [z, TI, TO, i1, i2, l1, l2], ∀ o, h.get? c = some o → h'.get? c = some o := fun c hc o e => k c o (n c hc) e
  refine ⟨?_, kk TI (by simp) _ a.ti, let ⟨x, y, e⟩ := a.to; ⟨x, y, kk TO (by simp) _ e⟩, a.h1.at (kk i1 (by simp)), a.h2.at (kk i2 (by simp)), a.l1.at (kk l1 (by simp)), a.l2.at (kk l2 (by simp))⟩
  rcases a.st with ⟨e, hz⟩ | ⟨T, b, oT, hz, hT, n1, n3, n4, n2⟩
  · exact .inl ⟨e, kk z (by simp) _ hz⟩
  · exact .inr ⟨T, b, oT, kk z (by simp) _ hz, k _ _ n2 hT, n1, n3, n4, n2⟩
end
end PySem
set_option Elab.async false
set_option linter.all false
set_option maxRecDepth 100000
set_option maxHeartbeats 4000000
namespace PySem
open PySem.Sem (wp)
structure ZG (xs ys : Array Value) (lo : Addr) (h : Heap) (as : List Addr) : Prop where
  rise : as.Pairwise (· < ·)
  above : ∀ a ∈ as, lo < a
  pairs : ∀ (j : Nat) (a : Addr), as[j]? = some a → ∃ x y, xs[j]? = some x ∧ ys[j]? = some y ∧ IsPair h a x y
theorem ZG.there {xs ys : Array Value} {lo : Addr} {h : Heap} {as : List Addr} (g : ZG xs ys lo h as) {a : Addr} (ha : a ∈ as) : a < h.objs.size := by
  obtain ⟨j, hj⟩ := List.mem_iff_getElem?.mp ha
  obtain ⟨_, _, _, _, e⟩ := g.pairs j a hj
  exact Heap.lt_size e
end PySem
set_option Elab.async false
set_option linter.all false
set_option maxRecDepth 100000
set_option maxHeartbeats 4000000
namespace Z
open PySem PySem.Spec PyProof.Rows L2 TL Y
section
variable {ex : Ex} {X : Cx} {W : WX}
def kwE_ (ma mb : Env → M D) : Env → M (List D) := fun δ => M.bind (ma δ) fun d => M.bind (mb δ) fun e => kd9_ fun h => match kW_ h d, kW_ h e with
  | some xs, some ys => some (zipD xs ys)
  | _, _ => none
end
end Z
set_option Elab.async false
set_option linter.all false
set_option maxRecDepth 100000
set_option maxHeartbeats 4000000
namespace Z
open PySem PySem.Spec PyProof.Rows L2 TL Y
noncomputable def kxg_ (i : Nat) (m : Env → M D) (op : O2) (mc : Env → M D) (b : MS) : MS := sSeq (sSet i m) (sIf (kku_ (mOp2 op (mVar i) mc)) b sBk)
noncomputable def ksl_ (i : Nat) (m : Env → M D) (op : O2) (mc : Env → M D) (b : MS) : MS := kr6_ mYes (kxg_ i m op mc b)
end Z
set_option Elab.async false
set_option linter.all false
set_option maxRecDepth 100000
set_option maxHeartbeats 4000000
namespace L2
open PySem PySem.Spec PyProof.Rows
def weave {α : Type} : List Bool → List α → List α → List α
  | [], _, _ => []
  | true :: p, ms, w :: ws => w :: weave p ms ws
  | true :: p, ms, [] => []
  | false :: p, m :: ms, ws => m :: weave p ms ws
  | false :: p, [], ws => []
end L2
namespace Z
open PySem PySem.Spec PyProof.Rows L2 TL Y
open Classical
section
variable {ex : Ex} {X : Cx} {W : WX}
noncomputable def ksm_ (C : Addr) (n m : Nat) (p : List Bool) (dl : List D) (f : List D → M D) (ms mk : Env → M (List D)) : Env → M D := fun δ => M.bind (ms δ) fun ds => M.bind (mk δ) fun zs =>
  if ds.length = n ∧ zs.length = m then mkI C f (ds ++ weave p dl zs) else M.bad
end
end Z
set_option Elab.async false
set_option linter.all false
set_option maxRecDepth 100000
set_option maxHeartbeats 4000000
namespace PySem.W
open PySem PySem.Spec PySem.Calls PyProof.Rows Lean
end PySem.W
namespace Z
open PySem PySem.Spec PyProof.Rows L2 TL Y
open Classical
structure kuh_ (K : PySem.W.Frag) (C : Addr) : Prop where
  nL : PySem.W.subIn K (.type "list") (.ref C) = some false
  nT : PySem.W.subIn K (.type "tuple") (.ref C) = some false
  nD : PySem.W.subIn K (.type "dict") (.ref C) = some false
  rI : PySem.W.subIn K (.ref C) (.type "int") = some false
  rB : PySem.W.subIn K (.ref C) (.type "bool") = some false
  rL : PySem.W.subIn K (.ref C) (.type "list") = some false
  rT : PySem.W.subIn K (.ref C) (.type "tuple") = some false
  rD : PySem.W.subIn K (.ref C) (.type "dict") = some false
def plnD (h : OH) (d : D) : Prop := ∃ t, tyS h d = some t ∧ t ∈ isTs
def insC (C : Addr) (h : OH) (d : D) : Prop := ∃ ns xs, kb1_ h d = some (C, ns, xs)
section
variable {X : Cx}
theorem OwnEq.sub {K : PySem.W.Frag} {C g : Addr} (O : OwnEq K C g) (E : kuh_ K C) {t : String} (h : t ∈ isTs) : PySem.W.subIn K (.type t) (.ref C) = some false ∧ PySem.W.subIn K (.ref C) (.type t) = some false := by
  unfold isTs at h
  simp only [List.mem_cons, List.not_mem_nil, or_false] at h
  rcases h with rfl | rfl | rfl | rfl | rfl | rfl | rfl
  · exact ⟨O.nN, O.rN⟩
  · exact ⟨O.nB, E.rB⟩
  · exact ⟨O.nI, E.rI⟩
  · exact ⟨O.nS, O.rS⟩
  · exact ⟨E.nL, E.rL⟩
  · exact ⟨E.nT, E.rT⟩
  · exact ⟨E.nD, E.rD⟩
noncomputable def jEq (C : Addr) (f : List D → M D) (d e : D) : M D := fun h =>
  if insC C h d then (if plnD h e ∨ insC C h e then f [d, e] h else .bad) else if plnD h d ∧ insC C h e then f [e, d] h else .bad
noncomputable def jNe (C : Addr) (f : List D → M D) (d e : D) : M D := fun h => if insC C h d ∧ (plnD h e ∨ insC C h e) then M.bind (f [d, e]) notM h else .bad
def lenM (r : D) : M D := match r with
  | .int n => if 0 ≤ n ∧ n < 2 ^ 63 then M.pure (.int n) else M.bad
  | _ => M.bad
noncomputable def kxh_ (C : Addr) (f : List D → M D) (ds : List D) : M D := match ds with
  | [d] => atI' C f lenM d
  | _ => M.bad
end
section
variable {ex : Ex} {X : Cx} {W : WX}
def kwF_ (m : Env → M D) : Env → M (List D) := fun δ => M.bind (m δ) fun d => kd9_ fun h => (kW_ h d).map List.reverse
end
end Z
set_option Elab.async false
set_option linter.all false
set_option maxRecDepth 100000
set_option maxHeartbeats 4000000
namespace Z
open PySem PySem.Spec PyProof.Rows L2 TL Y
section
variable {ex : Ex} {X : Cx} {W : WX}
noncomputable def kwG_ (i : Nat) (b : MS) : MS := fun δ h => match δ[i]? with
  | some (.val (.ptr k)) => match h[k]? with
    | some (.lst xs) => b (δ.set i (.val (.lst xs))) (h.set k .gone)
    | _ => .bad
  | _ => .bad
end
end Z
set_option Elab.async false
set_option linter.all false
set_option maxRecDepth 100000
set_option maxHeartbeats 4000000
namespace PySem.SeqAt
open PySem PySem.Spec PySem.Calls PyProof.Rows
open MeetsSeq MeetsSeq2 MeetsSeq3 SeqRoads2
end PySem.SeqAt
set_option Elab.async false
set_option linter.all false
set_option maxRecDepth 100000
set_option maxHeartbeats 4000000
set_option Elab.async false
set_option linter.all false
set_option maxRecDepth 100000
set_option maxHeartbeats 4000000
namespace L2
open PySem PySem.Spec PyProof.Rows
section
variable {X : Cx} {CX : CXT} {k n i : Nat} {C p g q f : Addr} {mc : Value} {fd : FuncData} {ps ks : List Str} {sp : Sp} {dvs : List V} {ds : List Value} {E : L2.St → XK} {x m : Str} {pp pos apos : Pos} {e o : Expr} {es : List Expr} {t tk : TA} {kws : List Keyword}
def unl (ns : List Int) : Nat := (PyProof.Rows.firstMet (fun i => ns.getD i 0) ns.length).length
end
end L2
namespace Z
open PySem PySem.Spec PyProof.Rows L2 TL Y
open Classical
def envC (n : Nat) (C : Addr) (ds : List D) : Env := Sl.cls C :: envOf (n - 1) ds
def kwH_ (C : Addr) (n : Nat) (b : MS) (ds : List D) : M D := defE b (envC n C ds)
section
variable {ex : Ex} {X : Cx} {W : WX}
noncomputable def mCls (i : Nat) (C : Addr) (m : Env → M D) : Env → M D := fun δ => match δ[i]? with
  | some (.cls C') => if C' = C then m δ else M.bad
  | _ => M.bad
def ktO_ : List D → Option (List Int)
  | [] => some []
  | .int i :: r => (ktO_ r).map (i :: ·)
  | _ :: _ => none
def kpk_ (m : Env → M D) : Env → M D := fun δ => M.bind (m δ) fun d h => match (kW_ h d).bind ktO_ with
  | some ns => if ns.length ≤ 4000 then .ok (.int (unl ns : Nat)) h else .bad
  | none => .bad
def krh_ (i j l : Nat) (ms : Env → M (List D)) : MS := kbV_ ms fun ds δ h => match ds with
  | [a, b, c] => .ok (.nx (((δ.set i (.val a)).set j (.val b)).set l (.val c))) h
  | _ => .bad
theorem ra3 {ρ : Rh} {N : Addr → Prop} {H : Hp} {vs : List V} {a b c : D} (al : RAll ρ N H vs [a, b, c]) : ∃ u v w, vs = [u, v, w] ∧ R ρ N H u a ∧ R ρ N H v b ∧ R ρ N H w c := by
  match vs, al with
  | _, .cons r1 (.cons r2 (.cons r3 .nil)) => exact ⟨_, _, _, rfl, r1, r2, r3⟩
theorem kmP_ {i j l : Nat} {x y z : Str} {a b c : Expr} {ms : Env → M (List D)} {px py pz pt pos : Pos} {kt k2 pt2} (hc : X.calm = true) (hN : X.N.Nodup) (hi : X.N[i]? = some x) (hj : X.N[j]? = some y) (hl : X.N[l]? = some z) (hij : i ≠ j) (hil : i ≠ l) (hjl : j ≠ l)
    (hx : X.env.scope.names.lookup x = some .local) (hy : X.env.scope.names.lookup y = some .local) (hz : X.env.scope.names.lookup z = some .local) (ha : DA ex X W [a, b, c] ms)
    (hw : swappedStores [.Tuple [.Name x px, .Name y py, .Name z pz] kt pt] (.Tuple [a, b, c] k2 pt2) X.env = pure (some [x, y, z]))
    (hs : swapsWithSole [.Tuple [.Name x px, .Name y py, .Name z pz] kt pt] (.Tuple [a, b, c] k2 pt2) pos.line X.env = pure false := by rfl) :
    DS ex X W (.Assign [.Tuple [.Name x px, .Name y py, .Name z pz] kt pt] (.Tuple [a, b, c] k2 pt2) pos) (krh_ i j l ms) :=
  .of (ps_par3 hc hN hi hj hl hij hil hjl hx hy hz ha hw hs) fun E σ H ⟨ρ, h, δ, w, sl, p⟩ =>
    ⟨ρ, h, δ, w, sl, (kaF_ (rel := relA) sl p).imp (fun vs H1 ⟨ρ1, h1, ds, s1, al, p1⟩ => by
      match ds, p1 with
      | [a, b, c], p1 =>
        obtain ⟨u, v, t, rfl, r1, r2, r3⟩ := ra3 al
        exact ⟨u, v, t, rfl, khH_.nx p1 s1.wd ((((s1.Sls sl).set (o := some u) (s := .val a) ⟨u, rfl, r1⟩).set (o := some v) (s := .val b) ⟨v, rfl, r2⟩).set (o := some t) (s := .val c) ⟨t, rfl, r3⟩)⟩
      | [], p1 => exact p1.elim
      | [_], p1 => exact p1.elim
      | [_, _], p1 => exact p1.elim
      | _ :: _ :: _ :: _ :: _, p1 => exact p1.elim) fun _ _ _ z => z⟩
end
end Z
set_option Elab.async false
set_option linter.all false
set_option maxRecDepth 100000
set_option maxHeartbeats 4000000
namespace PySem.W
open PySem PySem.Spec PySem.Calls PyProof.Rows
end PySem.W
namespace Z
open PySem PySem.Spec PyProof.Rows L2 TL Y
open Classical
section
variable {ex : Ex} {X : Cx} {W : WX}
theorem ksn_ {ρ : Rh} {h : OH} {H : Hp} {v : V} {d : D} {C : Addr} (w : Wd ρ h H) (r : R ρ (own ρ h) H v d) (c : insC C h d) : ∃ a dx fs, v = .ref a ∧ H a = some (.ins C dx fs) := by
  obtain ⟨ns, xs, e⟩ := c
  obtain ⟨a, dx, vs, rfl, eH, _, _⟩ := kqb_ w r e
  exact ⟨a, dx, _, rfl, eH⟩
noncomputable def kwI_ (C : Addr) (f : List D → M D) (ma mb : Env → M D) : Env → M D := fun δ => M.bind (ma δ) fun x => M.bind (mb δ) fun y h => if insC C h x ∧ (plnD h y ∨ insC C h y) then f [x, y] h else .bad
noncomputable def kwJ_ (C : Addr) (f : List D → M D) (ma : Env → M D) : Env → M D := fun δ => M.bind (ma δ) fun x h => if insC C h x then f [x] h else .bad
noncomputable def kso_ (i : Nat) (C : Addr) (n : Nat) (f : List D → M D) (ms : Env → M (List D)) : Env → M D := fun δ => M.bind (mVar i δ) fun x h => if insC C h x then M.bind (ms δ) (fun ds h => if insC C h x ∧ ds.length = n then f (x :: ds) h else .bad) h else .bad
end
end Z
set_option Elab.async false
set_option linter.all false
set_option maxRecDepth 100000
set_option maxHeartbeats 4000000
namespace Z
open PySem PySem.Spec PyProof.Rows L2 TL Y
open Classical
section
variable {ex : Ex} {X : Cx} {W : WX}
def kky_ (ks : List (List Key)) (vs : List D) : List D := (ks.zip vs).map fun p => .tup [.tup (p.1.map keyD), p.2]
def kmQ_ (ks : List Key) (vs : List D) : List D := (ks.zip vs).map fun p => .tup [keyD p.1, p.2]
def mItI (m : Env → M D) : Env → M Its := fun δ => M.bind (m δ) fun d => match d with
  | .dcT ks vs => if ks.all (fun k => k.all keyB) = true then M.pure ⟨kky_ ks vs, kcC_⟩ else M.bad
  | .dct ks vs => if ks.all keyB = true then M.pure ⟨kmQ_ ks vs, kcC_⟩ else M.bad
  | _ => M.bad
end
end Z
set_option Elab.async false
set_option linter.all false
set_option maxRecDepth 100000
set_option maxHeartbeats 4000000
namespace PySem.W
open PySem PySem.Calls PyProof.Rows PyProof.V PySem.Spec
end PySem.W
set_option Elab.async false
set_option linter.all false
set_option maxRecDepth 100000
set_option maxHeartbeats 4000000
namespace Z
open PySem PySem.Spec PyProof.Rows L2 TL Y
open Classical
def pv (h : OH) (d : D) : Option PyData := match py h d with
  | some p => if p.hasDict = false ∧ p.depth ≤ 60 then some p else none
  | none => none
noncomputable def kui_ {κ : Type} [DecidableEq κ] (h : OH) (ls : List κ) (ws : List D) : List κ → List D → Option Bool
  | k :: ks, v :: vs => match pv h v, kui_ h ls ws ks vs with
    | some p, some r => match lkT k ls ws with
      | none => some false
      | some y => (pv h y).map fun q => PyData.eqv p q && r
    | _, _ => none
  | _, _ => some true
noncomputable def kxi_ (h : OH) (d e : D) : Option Bool := match dT h d, dT h e with
  | some p, some q => (kui_ h q.1 q.2 p.1 p.2).map fun b => p.1.length == q.1.length && b
  | _, _ => match dI h d, dI h e with
    | some p, some q => (kui_ h q.1 q.2 p.1 p.2).map fun b => p.1.length == q.1.length && b
    | _, _ => none
end Z
set_option Elab.async false
set_option linter.all false
set_option maxRecDepth 100000
set_option maxHeartbeats 4000000
namespace Z
open PySem PySem.Spec PyProof.Rows L2 TL Y
open Classical
def flD : D → Bool
  | .non => true
  | .bl _ => true
  | .int _ => true
  | .str _ => true
  | _ => false
def Two (P : D → D → Prop) (xs ys : List D) : Prop := xs.length = ys.length ∧ ∀ (i : Nat) (x y : D), xs[i]? = some x → ys[i]? = some y → P x y
abbrev Ows := List (Addr × (List D → M D))
def kpl_ (cl : Ows) (h : OH) : Nat → D → D → Prop
  | 0 => fun d e => flD d = true ∧ d = e
  | n + 1 => fun d e => (flD d = true ∧ d = e) ∨ (∃ k, d = .ptr k ∧ e = .ptr k) ∨ (∃ xs ys, kW_ h d = some xs ∧ kW_ h e = some ys ∧ Two (kpl_ cl h n) xs ys) ∨
      (∃ xs ys, d = .tup xs ∧ e = .tup ys ∧ Two (kpl_ cl h n) xs ys) ∨ (∃ p ∈ cl, insC p.1 h d ∧ insC p.1 h e ∧ p.2 [d, e] h = .ok (.bl true) h) ∨ kxi_ h d e = some true
section
variable {X : Cx} {T : List (Addr × Str)} {cl : Ows} {k : Nat}
noncomputable def sEq (cl : Ows) (d e : D) : M D := fun h => if ∃ xs ys, kW_ h d = some xs ∧ kW_ h e = some ys ∧ Two (kpl_ cl h 7) xs ys then .ok (.bl true) h else .bad
end
end Z
set_option Elab.async false
set_option linter.all false
set_option maxRecDepth 100000
set_option maxHeartbeats 4000000
namespace Z
open PySem PySem.Spec PyProof.Rows L2 TL Y
open Classical
section
variable {X : Cx} {T : List (Addr × Str)} {cl : Ows} {k : Nat}
noncomputable def sNe (cl : Ows) (d e : D) : M D := fun h => if ∃ xs ys, kW_ h d = some xs ∧ kW_ h e = some ys ∧ Two (kpl_ cl h 7) xs ys then .ok (.bl false) h else .bad
end
end Z
set_option Elab.async false
set_option linter.all false
set_option maxRecDepth 100000
set_option maxHeartbeats 4000000
namespace PySem.W
open PySem PySem.Calls PyProof.Rows
end PySem.W
set_option Elab.async false
set_option linter.all false
set_option maxRecDepth 100000
set_option maxHeartbeats 4000000
namespace Z
open PySem PySem.Spec PyProof.Rows L2 TL Y
open Classical
section
variable {ρ : Rh} {h : OH} {H : Hp}
def Lf (h : OH) (d : D) : Prop := ((∀ k, d ≠ .ptr k) ∧ (∀ xs, d ≠ .lst xs) ∧ (∀ xs, d ≠ .tup xs)) ∨ (∃ C, insC C h d) ∨ ∃ k ks vs, d = .ptr k ∧ h[k]? = some (.dct ks vs)
def Dp (h : OH) : Nat → D → Prop
  | 0 => fun d => Lf h d
  | n + 1 => fun d => Lf h d ∨ (∃ xs, kW_ h d = some xs ∧ ∀ x ∈ xs, Dp h n x) ∨ (∃ xs, d = .tup xs ∧ ∀ x ∈ xs, Dp h n x)
theorem Dp.lf : ∀ {n : Nat} {d : D}, Lf h d → Dp h n d
  | 0, _, l => l
  | _ + 1, _, l => .inl l
theorem Dp.kuj_ : ∀ {n : Nat} {d : D}, Dp h n d → Dp h (n + 1) d
  | 0, _, l => .inl l
  | n + 1, d, l => by
    rcases l with l | ⟨xs, e, f⟩ | ⟨xs, e, f⟩
    · exact .inl l
    · exact .inr (.inl ⟨xs, e, fun x hx => Dp.kuj_ (f x hx)⟩)
    · exact .inr (.inr ⟨xs, e, fun x hx => Dp.kuj_ (f x hx)⟩)
theorem Dp.mono {n m : Nat} {d : D} (l : n ≤ m) (a : Dp h n d) : Dp h m d := by
  induction l with
  | refl => exact a
  | step _ ih => exact ih.kuj_
theorem koh_ {a : Addr} {d : D} {o : HO} (w : Wd ρ h H) (r : R ρ (own ρ h) H (.ref a) d) (l : Lf h d) (e : H a = some o) (ho : (∃ vs, o = .lst vs) ∨ ∃ vs, o = .tup vs) : False := by
  rcases l with ⟨l1, l2, l3⟩ | ⟨C, c⟩ | ⟨k, ks, xs, rfl, c⟩
  · cases r with
    | lst e2 _ _ => exact l2 _ rfl
    | tup e2 _ _ => exact l3 _ rfl
    | ptr e2 => exact l1 _ rfl
    | dct e2 _ _ _ => rw [e] at e2; cases e2; rcases ho with ⟨_, z⟩ | ⟨_, z⟩ <;> cases z
    | dcT e2 _ _ _ => rw [e] at e2; cases e2; rcases ho with ⟨_, z⟩ | ⟨_, z⟩ <;> cases z
    | ins e2 _ _ _ => rw [e] at e2; cases e2; rcases ho with ⟨_, z⟩ | ⟨_, z⟩ <;> cases z
  · obtain ⟨a', dx, fs, ea, e2⟩ := ksn_ w r c
    cases ea
    rw [e] at e2; cases e2; rcases ho with ⟨_, z⟩ | ⟨_, z⟩ <;> cases z
  · cases r with
    | ptr e2 =>
      obtain ⟨_, q, _⟩ := w.at' k _ _ e2 c
      rw [e] at q; cases q; rcases ho with ⟨_, z⟩ | ⟨_, z⟩ <;> cases z
theorem ksp_ (w : Wd ρ h H) : ∀ (n m : Nat) (d d' : D) (v : V), R ρ (own ρ h) H v d → R ρ (own ρ h) H v d' → Dp h n d → Dp h m d' → Dp h n d' := by
  have kids : ∀ {vs : List V} {xs ys : List D} {y : D}, RAll ρ (own ρ h) H vs xs → RAll ρ (own ρ h) H vs ys → y ∈ ys → ∃ v x, x ∈ xs ∧ R ρ (own ρ h) H v x ∧ R ρ (own ρ h) H v y := by
    intro vs xs ys y a b hy
    obtain ⟨i, hi⟩ := List.getElem?_of_mem hy
    obtain ⟨v, hv, rv⟩ := b.getD hi
    obtain ⟨x, hx, rx⟩ := a.get hv
    exact ⟨v, x, List.mem_of_getElem? hx, rx, rv⟩
  intro n
  induction n with
  | zero =>
    intro m d d' v r r' a b
    cases m with
    | zero => exact b
    | succ m =>
      rcases b with b | ⟨ys, e, f⟩ | ⟨ys, rfl, f⟩
      · exact b
      · obtain ⟨a', vs, rfl, eH, _⟩ := kaE_ w r' e
        exact (koh_ w r a eH (.inl ⟨_, rfl⟩)).elim
      · cases r' with
        | tup eH _ _ => exact (koh_ w r a eH (.inr ⟨_, rfl⟩)).elim
  | succ n ih =>
    intro m d d' v r r' a b
    cases m with
    | zero => exact Dp.lf b
    | succ m =>
      rcases b with b | ⟨ys, e, f⟩ | ⟨ys, rfl, f⟩
      · exact Dp.lf b
      · obtain ⟨a', vs, rfl, eH, al⟩ := kaE_ w r' e
        rcases a with a | ⟨xs, e1, f1⟩ | ⟨xs, rfl, f1⟩
        · exact (koh_ w r a eH (.inl ⟨_, rfl⟩)).elim
        · obtain ⟨a2, vs2, ea, eH2, al2⟩ := kaE_ w r e1
          cases ea
          rw [eH] at eH2
          cases eH2
          refine .inr (.inl ⟨ys, e, fun y hy => ?_⟩)
          obtain ⟨v, x, hx, rx, ry⟩ := kids al2 al hy
          exact ih m x y v rx ry (f1 x hx) (f y hy)
        · cases r with
          | tup eH2 _ _ => rw [eH] at eH2; cases eH2
      · cases r' with
        | @tup a' vs _ eH _ al =>
          rcases a with a | ⟨xs, e1, f1⟩ | ⟨xs, rfl, f1⟩
          · exact (koh_ w r a eH (.inr ⟨_, rfl⟩)).elim
          · obtain ⟨a2, vs2, ea, eH2, al2⟩ := kaE_ w r e1
            cases ea
            rw [eH] at eH2
            cases eH2
          · cases r with
            | @tup _ vs2 _ eH2 _ al2 =>
              rw [eH] at eH2
              cases eH2
              refine .inr (.inr ⟨ys, rfl, fun y hy => ?_⟩)
              obtain ⟨v, x, hx, rx, ry⟩ := kids al2 al hy
              exact ih m x y v rx ry (f1 x hx) (f y hy)
def GOK (g : List Code) (ρ : Rh) (h : OH) (H : Hp) (r : Nat) : Prop := ∀ (id : String) (a : Addr) (rest : List Value) (kw : List (Str × Value)), Code.builtin id ⟨.ref a :: rest, kw⟩ ∈ g → ∃ d m, R ρ (own ρ h) H (.ref a) d ∧ Dp h m d ∧ ¬ Dp h r d
theorem GOK.nil {r : Nat} : GOK [] ρ h H r := fun _ _ _ _ z => nomatch z
theorem GOK.mono {g : List Code} {r r' : Nat} (k : GOK g ρ h H r) (l : r' ≤ r) : GOK g ρ h H r' := fun id a rest kw z => by
  obtain ⟨d, m, r1, r2, r3⟩ := k id a rest kw z
  exact ⟨d, m, r1, r2, fun q => r3 (q.mono l)⟩
theorem GOK.step {g : List Code} {r : Nat} {ρ' : Rh} {H' : Hp} (k : GOK g ρ h H r) (st : Step ρ h H ρ' h H') : GOK g ρ' h H' r := fun id a rest kw z => by
  obtain ⟨d, m, r1, r2, r3⟩ := k id a rest kw z
  exact ⟨d, m, st.R r1, r2, r3⟩
theorem GOK.cons {g : List Code} {r m : Nat} {id : String} {a : Addr} {rest : List Value} {d : D} (k : GOK g ρ h H r) (r1 : R ρ (own ρ h) H (.ref a) d) (r2 : Dp h m d) (r3 : ¬ Dp h r d) : GOK (.builtin id ⟨.ref a :: rest, []⟩ :: g) ρ h H r := fun id' a' rest' kw' z => by
  rcases List.mem_cons.mp z with z | z
  · cases z; exact ⟨d, m, r1, r2, r3⟩
  · exact k id' a' rest' kw' z
theorem GOK.clear {g : List Code} {r : Nat} {a : Addr} {d : D} (w : Wd ρ h H) (k : GOK g ρ h H r) (r1 : R ρ (own ρ h) H (.ref a) d) (r2 : Dp h r d) : Clear g a := fun id v rest kw z e => by
  subst e
  obtain ⟨d', m, q1, q2, q3⟩ := k id a rest kw z
  exact q3 (ksp_ w r m d d' _ r1 q1 r2 q2)
end
end Z
set_option Elab.async false
set_option linter.all false
set_option maxRecDepth 100000
set_option maxHeartbeats 4000000
namespace Z
open PySem PySem.Spec PyProof.Rows L2 TL Y
open Classical
def Twt (P : D → Str → Prop) (xs : List D) (ts : List Str) : Prop := xs.length = ts.length ∧ ∀ (i : Nat) (x : D) (t : Str), xs[i]? = some x → ts[i]? = some t → P x t
def TxF (d : D) (t : Str) : Prop := match d with
  | .non => t = ("None" : String)
  | .bl b => t = (if b then "True" else "False" : String)
  | .int i => i.natAbs.log2 < 1920 ∧ t = toString i
  | .str x => ((reprText x).length ≤ sizeLine ∧ PyData.strOk x = true) ∧ t = reprText x
  | _ => False
def KsOk (ks : List Key) : Prop := ∀ k ∈ ks, (kPd k).showable = true ∧ (kPd k).shown.length ≤ sizeLine ∧ PyData.strOk (kPd k).shown = true
def TxD (cl : Ows) (h : OH) : Nat → D → Str → Prop
  | 0 => fun d t => TxF d t
  | n + 1 => fun d t => TxF d t ∨ (∃ xs ts, kW_ h d = some xs ∧ Twt (TxD cl h n) xs ts ∧ t = listText ts) ∨ (∃ xs ts, d = .tup xs ∧ Twt (TxD cl h n) xs ts ∧ t = tupleText ts) ∨ (∃ p ∈ cl, (insC p.1 h d ∧ p.2 [d] h = .ok (.str t) h) ∧ PyData.strOk t = true) ∨
      ∃ ks vs ts, (d = .dct ks vs ∨ ∃ k, d = .ptr k ∧ h[k]? = some (.dct ks vs)) ∧ KsOk ks ∧ Twt TxF vs ts ∧ t = dictText (List.zipWith (fun k v : Str => k ++ ": " ++ v) (ks.map fun k => (kPd k).shown) ts)
end Z
set_option Elab.async false
set_option linter.all false
set_option maxRecDepth 100000
set_option maxHeartbeats 4000000
namespace Z
open PySem PySem.Spec PyProof.Rows L2 TL Y
open Classical
section
variable {X : Cx} {T : List (Addr × Str)} {cl : Ows} {k : Nat}
def TxS (cl : Ows) (h : OH) (d : D) (t : Str) : Prop := (∃ xs ts, kW_ h d = some xs ∧ Twt (TxD cl h 6) xs ts ∧ t = listText ts ∧ t.length ≤ sizeLine ∧ xs ≠ []) ∨ ∃ xs ts, d = .tup xs ∧ Twt (TxD cl h 6) xs ts ∧ t = tupleText ts ∧ t.length ≤ sizeLine
noncomputable def ksq_ (cl : Ows) (ds : List D) : M D := fun h => match ds with
  | [d] => if e : ∃ t, TxS cl h d t then .ok (.str (choose e)) h else .bad
  | _ => .bad
end
end Z
set_option Elab.async false
set_option linter.all false
set_option maxRecDepth 100000
set_option maxHeartbeats 4000000
namespace Z
open PySem PySem.Spec PyProof.Rows L2 TL Y
section
variable {ex : Ex} {X : Cx} {W : WX}
def kuk_ : Env → M D := fun _ h => .ok (.ptr h.length) (h ++ [.dct [] []])
open Classical in
noncomputable def kwK_ (m mo mi : Env → M D) : MS := kbV_ m fun d => kbV_ mo fun o => kbV_ mi fun i δ h => match o, i with
  | .ptr k, .str x => if h[k]? = some (.dct [] []) then .ok (.nx δ) (h.set k (.dct [.inr x] [d])) else .bad
  | _, _ => .bad
end
end Z
set_option Elab.async false
set_option linter.all false
set_option maxRecDepth 100000
set_option maxHeartbeats 4000000
namespace PySem.W
open PySem PySem.Calls PyProof.Rows
section
variable {prog : Program} {w : World} {A : Around} {E : Value → Shared → Prop} {s : Shared} {K : Frag} {x D : Addr} {ox : Obj} {od : Option Obj}
theorem kjL_ {a g : Value} {name : Str} (hc : (clsIn K D).isSome = true) (ha : findIn K (.ref D) name = some (some a)) (hg : specialIn K a "__get__" = some (some g)) (ht : takesIn K a = some true) : findObj K D od name = some (.bind g a) := by
  obtain ⟨cd, hcd⟩ := Option.isSome_iff_exists.mp hc
  unfold findObj
  simp only [hcd, ha, hg, ht, Option.bind_some]
theorem kqd_ {Q : Option Value → Shared → Prop} (C : L2.ExcC K D) (X : K.In s.heap) (I : InstAt s.heap x ox D od) (h : Q (some (.ref D)) { s with toks := s.toks + 1 }) : wpAny (model prog w) A (getAttr? (.ref x) "__class__") Q E s := by
  have hf : findObj K D od "__class__" = some (.bind (.builtin "getset_descriptor.__get__") (.builtin "object.__class__")) := kjL_ (by obtain ⟨cd, hc, _⟩ := any_some C.hd; rw [hc]; rfl) C.ha C.hn C.ht
  obtain ⟨hp, g, d, t, os⟩ := s
  have T0 := I.type (M := model prog w)
  have A1 := looks_findIn (M := model prog w) X C.hg
  have A2 := looks_findIn (M := model prog w) X C.hk
  have A3 := looks_find (M := model prog w) X I hf
  have sub : Looks (model prog w) hp (isInstance (.ref x) (.type "BaseException")) true := T0.andThen (looks_subIn X C.hs)
  have n1 : (false && onTheHeap (Value.builtin "BaseException.__getattribute__")) = false := rfl
  have n2 : (onTheHeap (Value.ref D) && Value.builtin "BaseException.__getattribute__" == Value.builtin "object.__getattribute__") = false := by
    rw [show (Value.builtin "BaseException.__getattribute__" == Value.builtin "object.__getattribute__") = false by decide +kernel]; rfl
  unfold getAttr? getAttrBy? getAttrBy
  refine wpAny_bind (wpAny_mkText (wpAny_bind (wpAny_attempt (wpAny_holding (wpAny_bind (T0.at (wpAny_bind (A1.at ?_))))))))
  show wpAny _ _ (if (onTheHeap (Value.ref D) && Value.builtin "BaseException.__getattribute__" == Value.builtin "object.__getattribute__") = true then _ else _) _ _ _
  rw [n2, if_neg Bool.false_ne_true]
  unfold getAttrByItsOwn hookBefore
  refine wpAny_bind ?_
  rw [if_pos (show onTheHeap (Value.ref D) = true from rfl)]
  refine A2.at (wpAny_bind (wpAny_attempt (wpAny_holding ?_)))
  unfold callGetattribute
  rw [n1, if_neg Bool.false_ne_true]
  unfold boundAndCalled
  rw [PySem.F.excAttr_ValueError.ga.bind (.ref x)]
  refine wpAny_bind (wpAny_pure ?_)
  show wpAny _ _ (call (.builtin "BaseException.__getattribute__") [.ref x, .str "__class__" t]) _ _ _
  refine wpAny_call (codeAny_call_builtin PySem.F.excAttr_ValueError.ga.plain PySem.F.entry_bexc_ga ?_)
  refine @check_slot (model prog w) _ _ ⟨hp, g, d, t + 1, os⟩ "BaseException.__getattribute__" "BaseException" "__getattribute__" (.ref x) [.str "__class__" t] [] _ (by decide +kernel) (by decide +kernel) sub (PySem.F.args_bexc_ga (.ref x) (.str "__class__" t)) ?_
  unfold Builtin.«object.__getattribute__»
  refine wpAny_bind (wpAny_of_eq (a := ((Value.ref x : Value), [Value.str "__class__" t])) (by first | rfl | (simp only [slotArgs]; rfl)) ?_)
  refine wpAny_bind (wpAny_pure (wpAny_bind (T0.at (wpAny_bind (A3.at ?_)))))
  show wpAny _ _ (holding [Value.builtin "object.__class__"] (call (.builtin "getset_descriptor.__get__") [.builtin "object.__class__", .ref x, .ref D]) >>= ret) _ _ _
  refine wpAny_bind (wpAny_holding (wpAny_call (class_get (s := ⟨hp, g, d, t + 1, os⟩) (ox := ox) (od := od) X I C.hm ?_)))
  refine wpAny_pure ?_
  show wpAny _ _ (handedOut (.ref D)) _ _ _
  rw [handedOut_of (v := .ref D) rfl]
  first
    | exact wpAny_pure (wpAny_pure h)
    | exact wpAny_pure h
    | exact wpAny_pure (wpAny_bind (wpAny_pure (wpAny_pure h)))
    | exact wpAny_pure (wpAny_bind (wpAny_pure h))
theorem koi_ (C : L2.ExcC K D) : KitX K (.ref x) (.ref D) (fun h => InstAt h x ox D od) where
  ty := fun _ _ _ I => I.type
  it := fun _ _ X _ => by
    obtain ⟨cd, hc, _⟩ := any_some C.hd
    unfold clsIn at hc
    split at hc
    · rename_i ho
      intro A' Q' E' s' k q
      unfold isType loadHead
      exact wpAny_bind (wpAny_loadPart (k _ _ (X _ _ ho)) (wpAny_pure q))
    · cases hc
  ne := fun h tp dd its n sl X htp => by
    obtain ⟨cd, hc, _⟩ := any_some C.hd
    refine Bool.eq_false_iff.mpr fun q => ?_
    have e : D = tp := Value.ref.inj (beq_iff_eq.mp q)
    subst e
    unfold clsIn at hc
    split at hc
    · rename_i ho
      cases (X _ _ ho).symm.trans htp
    · cases hc
  ca := fun X I k => kqd_ C X I k
end
end PySem.W
namespace Z
open PySem PySem.Spec PyProof.Rows L2 TL Y
section
variable {ex : Ex} {X : Cx} {W : WX}
def mIsX (i : Nat) (b : Bool) : Env → M D := fun δ => match δ[i]? with
  | some (.exn _ _) => M.pure (.bl b)
  | _ => M.bad
end
end Z
set_option Elab.async false
set_option linter.all false
set_option maxRecDepth 100000
set_option maxHeartbeats 4000000
namespace Z
open PySem PySem.Spec PyProof.Rows L2 TL Y
section
variable {ex : Ex} {X : Cx} {W : WX}
def kul_ (x : Str) (d : D) : Env → M D := fun _ h => .ok (.ptr h.length) (h ++ [.dct [.inr x] [d]])
noncomputable def kwL_ (m mo mi : Env → M D) : MS := kbV_ m fun d => kbV_ mo fun o => kbV_ mi fun i δ h => match o, i with
  | .ptr k, .str x => (match h[k]? with
    | some (.dct [.inr y] [d0]) => if y = x then .bad else .ok (.nx δ) (h.set k (.dct [.inr y, .inr x] [d0, d]))
    | _ => .bad)
  | _, _ => .bad
end
end Z
set_option Elab.async false
set_option linter.all false
set_option maxRecDepth 100000
set_option maxHeartbeats 4000000
namespace Z
open PySem PySem.Spec PyProof.Rows L2 TL Y
open Classical
noncomputable def isC2 (C O : Addr) (h : OH) (d : D) : Option D := match kb1_ h d with
  | some (C', _, _) => if C' = C then some (.bl true) else if C' = O then some (.bl false) else none
  | none => (tyS h d).bind fun t => if t ∈ isTs then some (.bl false) else none
noncomputable def ksr_ (C O : Addr) (m : Env → M D) : Env → M D := fun δ => M.bind (m δ) fun d => klj_ fun h => isC2 C O h d
def kwM_ : OC := fun _ ds => match ds with
  | [.bl b] => some (.int (if b then 1 else 0))
  | _ => none
end Z
set_option Elab.async false
set_option linter.all false
set_option maxRecDepth 100000
set_option maxHeartbeats 4000000
set_option Elab.async false
set_option linter.all false
set_option maxRecDepth 100000
set_option maxHeartbeats 4000000
namespace PySem.W
open PySem PySem.Calls PyProof.Rows
end PySem.W
namespace Z
open PySem PySem.Spec PyProof.Rows L2 TL Y
open Classical
section
variable {ex : Ex} {X : Cx} {W : WX}
def rngC (lo : Int) (n : Nat) : List D := (List.range n).map fun (i : Nat) => D.int (lo + i * (-1))
def r3P (ds : List D) : Option Its := match ds with
  | [.int i, .int j, .int c] => if c = -1 ∧ -(2 ^ 62) ≤ i ∧ i < 2 ^ 62 ∧ -(2 ^ 62) ≤ j ∧ j < 2 ^ 62 then some ⟨rngC i (i - j).toNat, kcC_⟩ else none
  | _ => none
def kwN_ (ms : Env → M (List D)) : Env → M Its := fun δ => M.bind (ms δ) fun ds h => match r3P ds with
  | some i => .ok i h
  | none => .bad
noncomputable def kwO_ (m mk : Env → M D) : Env → M D := fun δ => M.bind (m δ) fun d h0 => if (dT h0 d).isSome = true ∨ (dI h0 d).isSome = true then M.bind (mk δ) (fun e h => match ktN_ h d e fun _ z => z.getD .non with
  | some z => .ok z h
  | none => .bad) h0 else .bad
noncomputable def kpm_ (m : Env → M D) : Env → M (List D) := fun δ => M.bind (m δ) fun d => kd9_ fun h => match dT h d with
  | some p => if p.1.all (fun k => k.all keyB) = true ∧ p.1.length ≤ lim ∧ ksg_ h (kky_ p.1 p.2) then some ((kky_ p.1 p.2).mergeSort (PySem.W.dataLe false (encD h))) else none
  | none => none
end
end Z
set_option Elab.async false
set_option linter.all false
set_option maxRecDepth 100000
set_option maxHeartbeats 4000000
namespace Z
open PySem PySem.Spec PyProof.Rows L2 TL Y
open Classical
section
variable {ex : Ex} {X : Cx} {W : WX}
def flt : D → Bool
  | .non => true
  | .bl _ => true
  | .int _ => true
  | .str _ => true
  | _ => false
theorem khT_ {T : List (Addr × Str)} {a : Addr} : ¬ own (⟨[], [], T⟩ : Rh) [] a := by
  rintro (z | ⟨k, o, e, _⟩)
  · exact (List.not_mem_nil z).elim
  · simp at e
end
end Z
set_option Elab.async false
set_option linter.all false
set_option maxRecDepth 100000
set_option maxHeartbeats 4000000
namespace Z
open PySem PySem.Spec PyProof.Rows L2 TL Y
open Classical
section
variable {ex : Ex} {X : Cx} {W : WX}
noncomputable def mFnK (n m : Nat) (p : List Bool) (dl : List D) (f : List D → M D) (ms mk : Env → M (List D)) : Env → M D := fun δ => M.bind (ms δ) fun ds => M.bind (mk δ) fun zs =>
  if ds.length = n ∧ zs.length = m then f (ds ++ weave p dl zs) else M.bad
end
end Z
set_option Elab.async false
set_option linter.all false
set_option maxRecDepth 100000
set_option maxHeartbeats 4000000
namespace Z
open PySem PySem.Spec PyProof.Rows L2 TL Y
open Classical
structure kpn_ (ρ : Rh) (h : OH) (H : Hp) (ρ' : Rh) (h' : OH) (H' : Hp) (p : Addr) : Prop where
  pre : ρ.l <+: ρ'.l
  wd : Wd ρ' h' H'
  keep : ∀ a o, ¬ own ρ h a → (∀ ps, o ≠ .tbl ps) → H a = some o → H' a = some o
  live : ∀ a o, (∀ ps, o ≠ .tbl ps) → H a = some o → ∃ o', (∀ ps, o' ≠ .tbl ps) ∧ H' a = some o'
  news : ∀ a, own ρ' h' a → own ρ h a ∨ NT H a
  rsq : ρ'.rs = ρ.rs
  tsq : ρ'.ts = ρ.ts
  res : ∀ a ∈ ρ.rs, a ≠ p → H' a = H a
section
variable {ρ ρ' ρ2 : Rh} {h h' h2 : OH} {H H' H2 : Hp} {p : Addr}
theorem kpn_.refl (w : Wd ρ h H) : kpn_ ρ h H ρ h H p := ⟨List.prefix_refl _, w, fun _ _ _ _ e => e, fun _ o n e => ⟨o, n, e⟩, fun _ z => .inl z, rfl, rfl, fun _ _ _ => rfl⟩
theorem kpn_.then (a : kpn_ ρ h H ρ' h' H' p) (b : Step ρ' h' H' ρ2 h2 H2) : kpn_ ρ h H ρ2 h2 H2 p where
  pre := a.pre.trans b.pre
  wd := b.wd
  keep := fun c o n nt e => b.keep c o (fun z => (a.news c z).elim n fun q => q.no e nt) nt (a.keep c o n nt e)
  live := fun c o n e => let ⟨_, n', q⟩ := a.live c o n e; b.live c _ n' q
  news := fun c z => (b.news c z).elim (a.news c) fun q => .inr fun o e => by
    by_cases y : ∃ ps, o = .tbl ps
    · exact y
    · obtain ⟨o', n, q'⟩ := a.live c o (fun ps w => y ⟨ps, w⟩) e
      exact (q.no q' n).elim
  rsq := b.rsq.trans a.rsq
  tsq := b.tsq.trans a.tsq
  res := fun c hc n => (b.res c (by rw [a.rsq]; exact hc)).trans (a.res c hc n)
theorem kpn_.fill {o : HO} (a : kpn_ ρ h H ρ' h' H' p) (no : ∃ vs, o = .lst vs) (hp : p ∈ ρ.rs) (hl : ∃ vs, H' p = some (.lst vs)) : kpn_ ρ h H ρ' h' (upd H' p o) p where
  pre := a.pre
  wd := a.wd.fill no (by rw [a.rsq]; exact hp) hl
  keep := fun c u n nt e => by rw [upd_ne (fun z => n (.inl (by rw [z]; exact hp)))]; exact a.keep c u n nt e
  live := fun c u n e => by
    by_cases z : c = p
    · obtain ⟨vs, rfl⟩ := no
      exact ⟨.lst vs, kgb_, by rw [z, upd_same]⟩
    · rw [upd_ne z]; exact a.live c u n e
  news := a.news
  rsq := a.rsq
  tsq := a.tsq
  res := fun c hc n => by rw [upd_ne n]; exact a.res c hc n
end
section
variable {ex : Ex} {X : Cx} {W : WX}
noncomputable def ktP_ (g : GD) (tt : Env → M Bool) (m1 : Env → M Its) (g1 : GD) (tt1 : Env → M Bool) (te : Env → M D) (ok : OH → Prop) (vs1 : List Nat) (δ : Env) : List D → List D → M (List D)
  | [], acc => M.pure acc
  | d :: ds, acc => fun h => match g d δ with
    | none => .bad
    | some δ1 => M.bind (M.calm (tt δ1)) (fun k => if k = true then M.bind (M.calm (m1 δ1)) (fun its1 h2 => if ok h2 then M.bind (lcGo g1 tt1 te (fun h => ok h ∧ its1.ok h) (kgi_ δ1 vs1) its1.xs acc) (fun acc' h3 => if ok h3 then ktP_ g tt m1 g1 tt1 te ok vs1 δ ds acc' h3 else .bad) h2 else .bad)
      else fun h2 => if ok h2 then ktP_ g tt m1 g1 tt1 te ok vs1 δ ds acc h2 else .bad) h
noncomputable def mLc2 (m : Env → M Its) (g : GD) (tt : Env → M Bool) (m1 : Env → M Its) (g1 : GD) (tt1 : Env → M Bool) (te : Env → M D) (vs vs1 : List Nat) : Env → M (List D) := fun δ => M.bind (m δ) fun its => ktP_ g tt m1 g1 tt1 te its.ok vs1 (kgi_ δ vs) its.xs []
end
end Z
set_option Elab.async false
set_option linter.all false
set_option maxRecDepth 100000
set_option maxHeartbeats 4000000
namespace Z
open PySem PySem.Spec PyProof.Rows L2 TL Y
open Classical
section
variable {ex : Ex} {X : Cx} {W : WX}
def mItV (m : Env → M D) : Env → M Its := fun δ => M.bind (m δ) fun d => match d with
  | .dcT _ vs => M.pure ⟨vs, kcC_⟩
  | .dct _ vs => M.pure ⟨vs, kcC_⟩
  | _ => M.bad
def khx_ : List D → Option (List (Key × D))
  | [] => some []
  | .tup [k, v] :: r => match keyI k, khx_ r with
    | some kk, some ps => some ((kk, v) :: ps)
    | _, _ => none
  | _ :: _ => none
noncomputable def keM_ : List Key × List D → List (Key × D) → List Key × List D
  | a, [] => a
  | a, p :: r => keM_ (kn2_ a.1 p.1, putV a.1 a.2 p.1 p.2) r
noncomputable def kqe_ (m : Env → M D) : Env → M D := fun δ => M.bind (m δ) fun d h => match kW_ h d with
  | some xs => match khx_ xs with
    | some ps => .ok (.ptr h.length) (h ++ [.dct (keM_ ([], []) ps).1 (keM_ ([], []) ps).2])
    | none => .bad
  | none => .bad
def kum_ : Env → M D := fun _ h => .ok (.ptr h.length) (h ++ [.dcT [] []])
end
end Z
set_option Elab.async false
set_option linter.all false
set_option maxRecDepth 100000
set_option maxHeartbeats 4000000
namespace Z
open PySem PySem.Spec PyProof.Rows L2 TL Y
open Classical
section
variable {ex : Ex} {X : Cx} {W : WX}
def kss_ (i j : Int) (x y : D) : Env → M D := fun _ h => .ok (.ptr h.length) (h ++ [.dct [.inl i, .inl j] [x, y]])
end
end Z
set_option Elab.async false
set_option linter.all false
set_option maxRecDepth 100000
set_option maxHeartbeats 4000000
set_option Elab.async false
set_option linter.all false
set_option maxRecDepth 100000
set_option maxHeartbeats 4000000
namespace Z
open PySem PySem.Spec PyProof.Rows L2 TL Y
open Classical
section
variable {ex : Ex} {X : Cx} {W : WX}
def dspV (n : Nat) (k v : D) : M D := fun h2 => match h2[n]?, k with
  | some (.dct [] []), .int i => .ok (.ptr n) (h2.set n (.dct [.inl i] [v]))
  | _, _ => .bad
def kst_ (mk mv : Env → M D) : Env → M D := fun δ h => M.bind (mk δ) (fun k => M.bind (mv δ) fun v => dspV h.length k v) (h ++ [.dct [] []])
end
end Z
set_option Elab.async false
set_option linter.all false
set_option maxRecDepth 100000
set_option maxHeartbeats 4000000
namespace Z
open PySem PySem.Spec PyProof.Rows L2 TL Y
open Classical
section
variable {ex : Ex} {X : Cx} {W : WX}
def two? : D → Option (D × D)
  | .tup [x, y] => some (x, y)
  | _ => none
noncomputable def kri_ (o i z : D) (k : MS) : MS := fun δ h => match setD h o i z with
  | some h' => k δ h'
  | none => .bad
theorem kjM_ {o i z : D} {k : MS} {δ : Env} {h h' : OH} (e : setD h o i z = some h') : kri_ o i z k δ h = k δ h' := by unfold kri_; rw [e]
theorem kjN_ {o i z : D} {k : MS} {δ : Env} {h : OH} (e : setD h o i z = none) : kri_ o i z k δ h = .bad := by unfold kri_; rw [e]
noncomputable def kwP_ (m mo mi mp mj : Env → M D) : MS := kbV_ m fun d => match two? d with
  | some p => kbV_ mo fun o => kbV_ mi fun i => kri_ o i p.1 (kbV_ mp fun o2 => kbV_ mj fun i2 => kri_ o2 i2 p.2 fun δ h => .ok (.nx δ) h)
  | none => fun _ _ => .bad
end
end Z
set_option Elab.async false
set_option linter.all false
set_option maxRecDepth 100000
set_option maxHeartbeats 4000000
set_option Elab.async false
set_option linter.all false
set_option maxRecDepth 100000
set_option maxHeartbeats 4000000
set_option Elab.async false
set_option linter.all false
set_option maxRecDepth 100000
set_option maxHeartbeats 4000000
namespace Z
open PySem PySem.Spec PyProof.Rows L2 TL Y
open Classical
section
variable {ex : Ex} {X : Cx} {W : WX}
noncomputable def dspT (n : Nat) (k v : D) : M D := fun h2 => match h2[n]?, keyT k with
  | some (.dcT [] []), some kk => .ok (.ptr n) (h2.set n (.dcT [kk] [v]))
  | _, _ => .bad
noncomputable def ksu_ (mk mv : Env → M D) : Env → M D := fun δ h => M.bind (mk δ) (fun k => M.bind (mv δ) fun v => dspT h.length k v) (h ++ [.dcT [] []])
end
section
variable {ex : Ex} {X : Cx} {W : WX}
noncomputable def ksv_ (i j : Nat) (b : MS) : MS := fun δ h => match δ[i]? with
  | some (.val (.lst xs)) => match xs[j]? with
    | some (.ptr k) => match h[k]? with
      | some (.dcT ks vs) => b (δ.set i (.val (.lst (xs.set j (.dcT ks vs))))) (h.set k .gone)
      | some (.dct ks vs) => b (δ.set i (.val (.lst (xs.set j (.dct ks vs))))) (h.set k .gone)
      | _ => .bad
    | _ => .bad
  | _ => .bad
theorem RAll.put {ρ : Rh} {N : Addr → Prop} {H : Hp} {v : V} {d : D} {vs : List V} {ds : List D} {j : Nat} (al : RAll ρ N H vs ds) (e : vs[j]? = some v) (r : R ρ N H v d) : RAll ρ N H vs (ds.set j d) := by
  have := al.set r j
  rw [show vs.set j v = vs by
    refine List.ext_getElem? fun k => ?_
    by_cases c : j = k
    · subst c; rw [List.getElem?_set_self (List.getElem?_eq_some_iff.mp e).1, e]
    · rw [List.getElem?_set_ne c]] at this
  exact this
end
end Z
set_option Elab.async false
set_option linter.all false
set_option maxRecDepth 100000
set_option maxHeartbeats 4000000
namespace Z
open PySem PySem.Spec PyProof.Rows L2 TL Y
open Classical
section
variable {ex : Ex} {X : Cx} {W : WX}
noncomputable def kpo_ (m : Env → M D) : Env → M (List D) := fun δ => M.bind (m δ) fun d => kd9_ fun h => match dI h d with
  | some p => if p.1.all keyB = true then some (kmQ_ p.1 p.2) else none
  | none => none
end
end Z
set_option Elab.async false
set_option linter.all false
set_option maxRecDepth 100000
set_option maxHeartbeats 4000000
set_option Elab.async false
set_option linter.all false
set_option maxRecDepth 100000
set_option maxHeartbeats 4000000
set_option Elab.async false
set_option linter.all false
set_option maxRecDepth 100000
set_option maxHeartbeats 4000000
set_option Elab.async false
set_option linter.all false
set_option maxRecDepth 100000
set_option maxHeartbeats 4000000
set_option Elab.async false
set_option linter.all false
set_option maxRecDepth 100000
set_option maxHeartbeats 4000000
set_option Elab.async false
set_option linter.all false
set_option maxRecDepth 100000
set_option maxHeartbeats 4000000
namespace Z
open PySem PySem.Spec PyProof.Rows L2 TL Y
open Classical
section
variable {ex : Ex} {X : Cx} {W : WX}
mutual
def plain : D → Bool
  | .non => true
  | .bl _ => true
  | .int _ => true
  | .str _ => true
  | .tup xs => kjO_ xs
  | .lst _ => false
  | .dct _ _ => false
  | .dcT _ _ => false
  | .ins _ _ _ => false
  | .ptr _ => false
def kjO_ : List D → Bool
  | [] => true
  | d :: ds => plain d && kjO_ ds
end
mutual
def kmR_ : D → Bool
  | .non => true
  | .bl _ => true
  | .int _ => true
  | .str _ => true
  | .tup xs => kgj_ xs
  | .lst xs => kgj_ xs
  | .dct _ xs => kgj_ xs
  | .dcT _ xs => kgj_ xs
  | .ins _ _ xs => kgj_ xs
  | .ptr _ => false
def kgj_ : List D → Bool
  | [] => true
  | d :: ds => kmR_ d && kgj_ ds
end
def kea_ (r : Res D) (h : OH) : Res D := match r with
  | .ok (.ptr j) h1 => match h1[j]? with
    | some (.lst xs) => if kjO_ xs = true then .ok (.lst xs) h else .bad
    | _ => .bad
  | .ok d _ => if plain d = true then .ok d h else .bad
  | _ => .bad
mutual
theorem kpp_ {ρ ρ' : Rh} {N N' : Addr → Prop} {H H' : Hp} (kp : ∀ a vs, ¬ N a → H a = some (.tup vs) → H' a = some (.tup vs) ∧ ¬ N' a) : ∀ {v : V} {d : D}, plain d = true → R ρ N H v d → R ρ' N' H' v d
  | _, _, _, .non => .non
  | _, _, _, .bl b => .bl b
  | _, _, _, .int i => .int i
  | _, _, _, .str a b => .str a b
  | _, _, f, .tup e n a => .tup (kp _ _ n e).1 (kp _ _ n e).2 (keN_ kp (by simpa only [plain] using f) a)
  | _, _, f, .lst e n a => by simp [plain] at f
  | _, _, f, .dct e n l a => by simp [plain] at f
  | _, _, f, .dcT e n l a => by simp [plain] at f
  | _, _, f, .ins e n l a => by simp [plain] at f
  | _, _, f, .ptr e => by simp [plain] at f
theorem keN_ {ρ ρ' : Rh} {N N' : Addr → Prop} {H H' : Hp} (kp : ∀ a vs, ¬ N a → H a = some (.tup vs) → H' a = some (.tup vs) ∧ ¬ N' a) : ∀ {vs : List V} {ds : List D}, kjO_ ds = true → RAll ρ N H vs ds → RAll ρ' N' H' vs ds
  | _, _, _, .nil => .nil
  | _, _, f, .cons a b => by
    simp only [kjO_, Bool.and_eq_true] at f
    exact .cons (kpp_ kp f.1 a) (keN_ kp f.2 b)
end
mutual
theorem kpq_ {ρ ρ' : Rh} {N N' : Addr → Prop} {H H' : Hp} (kp : ∀ a o, ¬ N a → H a = some o → H' a = some o) (no : ∀ a, ¬ N' a) : ∀ {v : V} {d : D}, kmR_ d = true → R ρ N H v d → R ρ' N' H' v d
  | _, _, _, .non => .non
  | _, _, _, .bl b => .bl b
  | _, _, _, .int i => .int i
  | _, _, _, .str a b => .str a b
  | _, _, f, .tup e n a => .tup (kp _ _ n e) (no _) (kbY_ kp no (by simpa only [kmR_] using f) a)
  | _, _, f, .lst e n a => .lst (kp _ _ n e) (no _) (kbY_ kp no (by simpa only [kmR_] using f) a)
  | _, _, f, .dct e n l a => .dct (kp _ _ n e) (no _) l (kbY_ kp no (by simpa only [kmR_] using f) a)
  | _, _, f, .dcT e n l a => .dcT (kp _ _ n e) (no _) l (kbY_ kp no (by simpa only [kmR_] using f) a)
  | _, _, f, .ins e n l a => .ins (kp _ _ n e) (no _) l (kbY_ kp no (by simpa only [kmR_] using f) a)
  | _, _, f, .ptr e => by simp [kmR_] at f
theorem kbY_ {ρ ρ' : Rh} {N N' : Addr → Prop} {H H' : Hp} (kp : ∀ a o, ¬ N a → H a = some o → H' a = some o) (no : ∀ a, ¬ N' a) : ∀ {vs : List V} {ds : List D}, kgj_ ds = true → RAll ρ N H vs ds → RAll ρ' N' H' vs ds
  | _, _, _, .nil => .nil
  | _, _, f, .cons a b => by
    simp only [kgj_, Bool.and_eq_true] at f
    exact .cons (kpq_ kp no f.1 a) (kbY_ kp no f.2 b)
end
mutual
theorem klR_ : ∀ {d : D}, plain d = true → kmR_ d = true
  | .non, _ => rfl
  | .bl _, _ => rfl
  | .int _, _ => rfl
  | .str _, _ => rfl
  | .tup xs, h => by
    simp only [plain] at h
    simp only [kmR_]
    exact keO_ h
  | .lst _, h => by simp [plain] at h
  | .dct _ _, h => by simp [plain] at h
  | .dcT _ _, h => by simp [plain] at h
  | .ins _ _ _, h => by simp [plain] at h
  | .ptr _, h => by simp [plain] at h
theorem keO_ : ∀ {ds : List D}, kjO_ ds = true → kgj_ ds = true
  | [], _ => rfl
  | d :: ds, h => by
    simp only [kjO_, Bool.and_eq_true] at h
    simp only [kgj_, Bool.and_eq_true]
    exact ⟨klR_ h.1, keO_ h.2⟩
end
structure Lkd (A : Addr → Prop) (ρ : Rh) (h : OH) (H H' : Hp) : Prop where
  stay : ∀ b, ¬ A b → H' b = H b
  mine : ∀ b, A b → own ρ h b
  dict : ∀ b, A b → ∃ u, H b = some u ∧ ((∃ kv, u = .dK kv) ∨ ∃ kv, u = .dT kv)
  frz : ∀ b, A b → ∃ od u, H' b = some (.frz od u)
theorem Lkd.kp {A : Addr → Prop} {ρ : Rh} {h : OH} {H H' : Hp} (l : Lkd A ρ h H H') : ∀ b o, ¬ own ρ h b → H b = some o → H' b = some o := fun b o n e => by
  rw [l.stay b (fun z => n (l.mine b z))]; exact e
theorem Lkd.tabs {A : Addr → Prop} {ρ : Rh} {h : OH} {H H' : Hp} (l : Lkd A ρ h H H') (w : Wd ρ h H) : LamX.Tabs ρ.ts H' := keH_ w.tabs (fun b ps q => by
    by_cases z : A b
    · obtain ⟨u, e, k | k⟩ := l.dict b z <;> obtain ⟨kv, rfl⟩ := k <;> rw [e] at q <;> cases q
    · rw [l.stay b z]; exact q) fun c q' q => by
    by_cases z : A c
    · obtain ⟨u, e, k | k⟩ := l.dict c z <;> obtain ⟨kv, rfl⟩ := k <;> rw [e] at q <;> cases q
    · rw [l.stay c z]; exact q
theorem Lkd.wd {A : Addr → Prop} {ρ : Rh} {h : OH} {H H' : Hp} (l : Lkd A ρ h H H') (w : Wd ρ h H) : Wd (⟨[], [], ρ.ts⟩ : Rh) [] H' :=
  ⟨rfl, List.nodup_nil, fun b hb => (List.not_mem_nil hb).elim, fun b hb => (List.not_mem_nil hb).elim, l.tabs w, fun j b o f1 _ => by simp at f1⟩
theorem Lkd.R {A : Addr → Prop} {ρ : Rh} {h : OH} {H H' : Hp} (l : Lkd A ρ h H H') {v : V} {d : D} (f : kmR_ d = true) (r : Z.R ρ (own ρ h) H v d) : Z.R ⟨[], [], ρ.ts⟩ (own ⟨[], [], ρ.ts⟩ []) H' v d :=
  kpq_ l.kp (fun _ => khT_) f r
theorem kmS_ {ρ : Rh} {h : OH} {H : Hp} {b : Addr} (w : Wd ρ h H) (z : own ρ h b) : ∃ o, H b = some o ∧ (∀ vs, o ≠ .tup vs) ∧ ∀ ps, o ≠ .tbl ps := by
  rcases z with z | ⟨k, o, e1, e2, n⟩
  · obtain ⟨us, q⟩ := w.there b z
    exact ⟨_, q, (fun _ z => nomatch z), fun _ z => nomatch z⟩
  · have x := w.at' k b o e1 e2
    cases o with
    | gone => exact absurd rfl n
    | lst xs => obtain ⟨us, q, _⟩ := x; exact ⟨_, q, (fun _ z => nomatch z), fun _ z => nomatch z⟩
    | dct ks xs => obtain ⟨us, q, _⟩ := x; exact ⟨_, q, (fun _ z => nomatch z), fun _ z => nomatch z⟩
    | dcT ks xs => obtain ⟨us, q, _⟩ := x; exact ⟨_, q, (fun _ z => nomatch z), fun _ z => nomatch z⟩
    | ins C ns xs => obtain ⟨dx, us, q, _⟩ := x; exact ⟨_, q, (fun _ z => nomatch z), fun _ z => nomatch z⟩
    | mix ks xs => obtain ⟨od, us, q, _⟩ := x; exact ⟨_, q, (fun _ z => nomatch z), fun _ z => nomatch z⟩
    | exc C ns xs => exact absurd rfl n
theorem Lkd.done {A : Addr → Prop} {ρ ρ1 : Rh} {h h1 : OH} {H H' H1 H2 : Hp} (l : Lkd A ρ h H H') (w : Wd ρ h H) (s1 : Step ⟨[], [], ρ.ts⟩ [] H' ρ1 h1 H1)
    (g1 : ∀ b, ¬ A b → H2 b = H1 b) (g2 : ∀ b, A b → H2 b = H b) (g3 : ∀ b, A b → ∃ od u, H1 b = some (.frz od u)) {Wx : Value → Option Addr → Hp → Prop} {r : D} {Q : VK} {v : V}
    (p : kao_ relV Wx ρ h H (kea_ (.ok r h1) h) Q) (rr : Z.R ρ1 (own ρ1 h1) H1 v r) : Q v H2 := by
  have ext : LamX.ExtN H H2 := fun b o q n => by
    by_cases hb : A b
    · rw [g2 b hb]; exact q
    · rw [g1 b hb]
      exact s1.keep b o khT_ n (by rw [l.stay b hb]; exact q)
  have t1 : LamX.Tabs ρ.ts H2 := keH_ (by have := s1.wd.tabs; rw [s1.tsq] at this; exact this) (fun b ps q => by
      by_cases hb : A b
      · obtain ⟨od, u, e⟩ := g3 b hb; rw [e] at q; cases q
      · rw [g1 b hb]; exact q) fun c q' q => by
      by_cases hb : A c
      · obtain ⟨od, u, e⟩ := g3 c hb; rw [e] at q; cases q
      · rw [g1 c hb]; exact q
  have st : Step ρ h H ρ h H2 := w.lam ext t1
  have kept : ∀ b o, own ρ h b → H b = some o → (∀ ps, o ≠ .tbl ps) → ¬ A b → H1 b = some o := fun b o _ e n hb => s1.keep b o khT_ n (by rw [l.stay b hb]; exact e)
  have tp : ∀ b vs, ¬ own ρ1 h1 b → H1 b = some (.tup vs) → H2 b = some (.tup vs) ∧ ¬ own ρ h b := fun b vs _ e => by
    have nA : ¬ A b := fun hb => by obtain ⟨od, u, e2⟩ := g3 b hb; rw [e2] at e; cases e
    refine ⟨by rw [g1 b nA]; exact e, fun z => ?_⟩
    obtain ⟨o, e2, n1, n2⟩ := kmS_ w z
    rw [kept b o z e2 n2 nA] at e
    cases e
    exact n1 _ rfl
  have pl : ∀ d, plain d = true → (Res.ok d h : Res D) = kea_ (.ok r h1) h → Z.R ρ1 (own ρ1 h1) H1 v d → Q v H2 := fun d f e rd => by
    rw [← e] at p
    exact p ρ H2 v st (kpp_ tp f rd)
  cases r with
  | ptr j =>
    cases rr with
    | @ptr _ a ea =>
      cases ej : h1[j]? with
      | none => simp only [kea_, ej] at p; exact p.elim
      | some o =>
        cases o with
        | lst xs =>
          by_cases f : kjO_ xs = true
          · simp only [kea_, ej, if_pos f] at p
            obtain ⟨vs, eH, al⟩ := s1.wd.at' j a _ ea ej
            have nA : ¬ A a := fun hb => by obtain ⟨od, u, e2⟩ := g3 a hb; rw [e2] at eH; cases eH
            have no : ¬ own ρ h a := fun z => by
              obtain ⟨o, e2, n1, n2⟩ := kmS_ w z
              rcases s1.news a (.inr ⟨j, _, ea, ej, (fun z => nomatch z)⟩) with y | y
              · exact khT_ y
              · exact y.no (by rw [l.stay a nA]; exact e2) n2
            exact p ρ H2 _ st (.lst (by rw [g1 a nA]; exact eH) no (keN_ tp f al))
          · simp only [kea_, ej, if_neg f] at p; exact p.elim
        | _ => simp only [kea_, ej] at p; exact p.elim
  | non => exact pl _ rfl rfl rr
  | bl b => exact pl _ rfl rfl rr
  | int b => exact pl _ rfl rfl rr
  | str b => exact pl _ rfl rfl rr
  | tup xs =>
    by_cases f : plain (.tup xs) = true
    · exact pl _ f (by simp only [kea_, if_pos f]) rr
    · simp only [kea_, if_neg f] at p; exact p.elim
  | lst xs => simp [kea_, plain] at p; exact p.elim
  | dct ks xs => simp [kea_, plain] at p; exact p.elim
  | dcT ks xs => simp [kea_, plain] at p; exact p.elim
  | ins C ns xs => simp [kea_, plain] at p; exact p.elim
end
end Z
set_option Elab.async false
set_option linter.all false
set_option maxRecDepth 100000
set_option maxHeartbeats 4000000
set_option Elab.async false
set_option linter.all false
set_option maxRecDepth 100000
set_option maxHeartbeats 4000000
set_option Elab.async false
set_option linter.all false
set_option maxRecDepth 100000
set_option maxHeartbeats 4000000
set_option Elab.async false
set_option linter.all false
set_option maxRecDepth 100000
set_option maxHeartbeats 4000000
set_option Elab.async false
set_option linter.all false
set_option maxRecDepth 100000
set_option maxHeartbeats 4000000
namespace Z
open PySem PySem.Spec PyProof.Rows L2 TL Y
section
variable {ex : Ex} {X : Cx} {W : WX}
theorem kqf_ {ρ : Rh} {h : OH} {H : Hp} {b : Addr} (w : Wd ρ h H) (e : H b = none) : ¬ own ρ h b := by
  rintro (z | ⟨k, o, e1, e2, n⟩)
  · obtain ⟨us, q⟩ := w.there b z; rw [e] at q; cases q
  · obtain ⟨u, _, q⟩ := w.some e1; rw [e] at q; cases q
theorem kqg_ {ρ : Rh} {h : OH} {H : Hp} {a d C : Addr} {od : Obj} {ns : List Str} {vs : List V} {xs : List D} (w : Wd ρ h H) (ha : H a = none) (hd : H d = none) (ne : d ≠ a) (l : ns.length = vs.length) (al : RAll ρ (own ρ h) H vs xs) :
    Step ρ h H (ρ.push a) (h ++ [.exc C ns xs]) (upd (upd H d (exd d (ns.zip vs).reverse)) a (.frz od (exo a C (some d)))) := by
  have s1 := w.new (p := d) (exd d (ns.zip vs).reverse) hd
  have ha' : upd H d (exd d (ns.zip vs).reverse) a = none := by rw [upd_ne (Ne.symm ne)]; exact ha
  refine s1.trans (s1.wd.push (p := a) (u := .frz od (exo a C (some d))) (o := .exc C ns xs) ha' (.inl ⟨od, d, vs, upd_same, by rw [upd_ne ne, upd_same], fun z => ?_, l, ?_⟩))
  · rcases khG_ w.len z with z | z
    · exact kqf_ w hd z
    · exact ne z
  · exact (s1.RAll al).mono (List.prefix_append _ _) (fun b o _ _ z => kcB_ ha' b o z) fun b z => (khG_ w.len z).elim .inl fun y => .inr (by rw [y]; exact .of ha')
theorem klt_ {ρ : Rh} {h : OH} {H : Hp} {a C : Addr} {od : Obj} (w : Wd ρ h H) (ha : H a = none) :
    Step ρ h H (ρ.push a) (h ++ [.exc C [] []]) (upd H a (.frz od (exo a C none))) :=
  w.push (p := a) (u := .frz od (exo a C none)) (o := .exc C [] []) ha (.inr ⟨⟨od, upd_same⟩, rfl, rfl⟩)
theorem kkz_ {ρ : Rh} {h : OH} {H H' : Hp} {a : Addr} {N : Addr → Prop} (w : Wd ρ h H) : R (ρ.push a) N H' (.ref a) (.ptr h.length) := .ptr (by rw [List.getElem?_append_right (by rw [w.len]; exact Nat.le_refl _), w.len, Nat.sub_self]; rfl)
def k1_ (C : Addr) (ns : List Str) (ms : Env → M (List D)) : Env → M D := fun δ => M.bind (ms δ) fun ds h => if ds.length = ns.length then .ok (.ptr h.length) (h ++ [.exc C ns ds]) else .bad
theorem kP_ {b : BX} {x : Str} {pars : List Str} {st : Stmt} {C : Addr} {e : Expr} {es : List Expr} {ms : Env → M (List D)} {p pos : Pos} (Dx : XDef b X.K X.mg x pars st C) (I : kan_ st pars) (hP : PTx X.prog) (hr : Room 2 X.A) (hg : Gl X x) (ha : DA ex X W (e :: es) ms)
    (hdb : (x == ("__debug__" : Str)) = false := by decide) (he : starEach (e :: es) X.env = (false, eval e X.env) :: starEach es X.env := by rfl)
    (hpl : (backTo pos (starEach es X.env)).any (·.1) = false := by rfl) : DE ex X W (.Call (.Name x p) (e :: es) [] pos) (k1_ C pars ms) :=
  .of (kw3_ Dx I hP hr hg ha hdb he hpl) fun σ H Q ⟨ρ, h, δ, w, sl, p⟩ => by
    refine ⟨ρ, h, δ, w, sl, (kao_.bind (rel := relA) p).imp (fun vs H1 ⟨ρ1, h1, ds, s1, al, p1⟩ => ?_) fun _ _ _ z => z⟩
    by_cases c : ds.length = pars.length
    · rw [if_pos c] at p1
      refine ⟨by rw [al.length, c], fun a d od ha hd ne => ?_⟩
      have s2 := kqg_ (C := C) (od := od) s1.wd ha hd ne (by rw [al.length, c]) al
      exact p1 _ _ _ s2 (kkz_ s1.wd)
    · rw [if_neg c] at p1; exact p1.elim
def kmT_ (C : Addr) : Env → M D := fun _ h => .ok (.ptr h.length) (h ++ [.exc C [] []])
theorem koj_ {b : BX} {x : Str} {st : Stmt} {C : Addr} {p pos : Pos} (Dx : XDef b X.K X.mg x [] st C) (I : kli_ st) (hP : PTx X.prog) (hr : Room 2 X.A) (hg : Gl X x) (hdb : (x == ("__debug__" : Str)) = false := by decide) :
    DE ex X W (.Call (.Name x p) [] [] pos) (kmT_ C) :=
  .of (kt0_ Dx I hP hr hg hdb) fun σ H Q ⟨ρ, h, δ, w, sl, p⟩ => fun a od ha => p _ _ _ (klt_ w ha) (kkz_ w)
def khy_ (C : Addr) (ms : Env → M (List D)) : Env → M D := fun δ => M.bind (ms δ) fun ds h => if ds.length ≤ 1000 then .ok (.ptr h.length) (h ++ [.exc C [] []]) else .bad
theorem khU_ {b : BX} {x : Str} {C : Addr} {e : Expr} {es : List Expr} {ms : Env → M (List D)} {p pos : Pos} (ok : b.Ok) (ok0 : b.Ok0) (T : OexB b X.K C) (hB : b.tl.contains (.type b.iB) = true) (iC : PySem.W.findIn X.K (.ref C) "__init__" = some (some (.builtin b.initId))) (hg : Gl X x) (hm : X.mg x = some (.ref C)) (ha : DA ex X W (e :: es) ms)
    (hdb : (x == ("__debug__" : Str)) = false := by decide) (he : starEach (e :: es) X.env = (false, eval e X.env) :: starEach es X.env := by rfl) (hpl : (backTo pos (starEach es X.env)).any (·.1) = false := by rfl) :
    DE ex X W (.Call (.Name x p) (e :: es) [] pos) (khy_ C ms) :=
  .of (kw4_ ok ok0 T hB iC hg hm ha hdb he hpl) fun σ H Q ⟨ρ, h, δ, w, sl, p⟩ => by
    refine ⟨ρ, h, δ, w, sl, (kao_.bind (rel := relA) p).imp (fun vs H1 ⟨ρ1, h1, ds, s1, al, p1⟩ => ?_) fun _ _ _ z => z⟩
    by_cases c : ds.length ≤ 1000
    · rw [if_pos c] at p1
      exact ⟨by rw [al.length]; exact c, fun a od ha => p1 _ _ _ (klt_ s1.wd ha) (kkz_ s1.wd)⟩
    · rw [if_neg c] at p1; exact p1.elim
structure Row where
  L : List Addr
  tb : List (Addr × Addr)
  tt : List (Addr × String)
  fs : List Str
structure kmU_ (K : PySem.W.Frag) (R : Row) : Prop where
  nd : R.L.Nodup
  own : ∀ C ∈ R.L, ∀ c ∈ R.L, PySem.W.kitOne K (.ref C) (.ref c) = some (decide (C = c ∨ (C, c) ∈ R.tb))
  blt : ∀ C ∈ R.L, ∀ T ∈ ["ValueError", "KeyError", "LookupError"], PySem.W.kitOne K (.ref C) (.type T) = some (decide ((C, T) ∈ R.tt))
  xc : ∀ C ∈ R.L, ExcC K C
  xf : ∀ C ∈ R.L, XfC K C
  nof : ∀ C ∈ R.L, ∀ f ∈ R.fs, PySem.W.findIn K (.ref C) f = some none
def xcB (K : PySem.W.Frag) (D : Addr) : Bool := decide (PySem.W.findIn K (.ref D) "__class__" = some (some (.builtin "object.__class__"))) && (decide (PySem.W.specialIn K (.builtin "object.__class__") "__get__" = some (some (.builtin "getset_descriptor.__get__"))) && (decide (PySem.W.takesIn K (.builtin "object.__class__") = some true) && decide (PySem.W.mroIn K D (.type "object") = some true)))
def kpr_ (K : PySem.W.Frag) (R : Row) : Bool := decide R.L.Nodup && R.L.all fun C => xfB K C && (xcB K C && (R.L.all (fun c => decide (PySem.W.kitOne K (.ref C) (.ref c) = some (decide (C = c ∨ (C, c) ∈ R.tb)))) &&
  (["ValueError", "KeyError", "LookupError"].all (fun T => decide (PySem.W.kitOne K (.ref C) (.type T) = some (decide ((C, T) ∈ R.tt)))) && R.fs.all (fun f => decide (PySem.W.findIn K (.ref C) f = some none)))))
theorem kok_ {K : PySem.W.Frag} {R : Row} (h : kpr_ K R = true) : kmU_ K R := by
  obtain ⟨h0, h⟩ := Bool.and_eq_true_iff.mp h
  have g : ∀ C ∈ R.L, xfB K C = true ∧ xcB K C = true ∧ (∀ c ∈ R.L, PySem.W.kitOne K (.ref C) (.ref c) = some (decide (C = c ∨ (C, c) ∈ R.tb))) ∧ (∀ T ∈ ["ValueError", "KeyError", "LookupError"], PySem.W.kitOne K (.ref C) (.type T) = some (decide ((C, T) ∈ R.tt))) ∧ ∀ f ∈ R.fs, PySem.W.findIn K (.ref C) f = some none := fun C hC => by
    have q := List.all_eq_true.mp h C hC
    obtain ⟨q1, q⟩ := Bool.and_eq_true_iff.mp q
    obtain ⟨q2, q⟩ := Bool.and_eq_true_iff.mp q
    obtain ⟨q3, q⟩ := Bool.and_eq_true_iff.mp q
    obtain ⟨q4, q5⟩ := Bool.and_eq_true_iff.mp q
    exact ⟨q1, q2, fun c hc => of_decide_eq_true (List.all_eq_true.mp q3 c hc), fun T hT => of_decide_eq_true (List.all_eq_true.mp q4 T hT), fun f hf => of_decide_eq_true (List.all_eq_true.mp q5 f hf)⟩
  refine ⟨of_decide_eq_true h0, fun C hC => (g C hC).2.2.1, fun C hC => (g C hC).2.2.2.1, fun C hC => ?_, fun C hC => xfB_ok (g C hC).1, fun C hC => (g C hC).2.2.2.2⟩
  have x := xfB_ok (g C hC).1
  obtain ⟨q1, q⟩ := Bool.and_eq_true_iff.mp (g C hC).2.1
  obtain ⟨q2, q⟩ := Bool.and_eq_true_iff.mp q
  obtain ⟨q3, q4⟩ := Bool.and_eq_true_iff.mp q
  exact ⟨x.ga, x.gg, x.exC, x.hdC, of_decide_eq_true q1, of_decide_eq_true q2, of_decide_eq_true q3, of_decide_eq_true q4⟩
def excOf (h : OH) (d : D) : Option (Addr × List Str × List D) := match d with
  | .ptr k => match h[k]? with
    | some (.exc C ns xs) => some (C, ns, xs)
    | _ => none
  | _ => none
theorem kkA_ {ρ : Rh} {h : OH} {H : Hp} {v : V} {d : D} {C : Addr} {ns : List Str} {xs : List D} (w : Wd ρ h H) (r : R ρ (own ρ h) H v d) (e : excOf h d = some (C, ns, xs)) :
    ∃ a, v = .ref a ∧ OOk ρ (own ρ h) H a (.exc C ns xs) := by
  unfold excOf at e
  cases d with
  | ptr k =>
    dsimp only at e
    cases e1 : h[k]? with
    | none => rw [e1] at e; cases e
    | some o =>
      rw [e1] at e
      cases o with
      | exc C' ns' xs' =>
        cases e
        cases r with
        | ptr ea => exact ⟨_, rfl, w.at' k _ _ ea e1⟩
      | _ => cases e
  | _ => cases e
theorem ksw_ {pins : List (Addr × Obj)} {σ : L2.St} {H : Hp} {s : Shared} {a C : Addr} {od : Obj} {d : Option Addr} (I : Inv X pins σ H s) (e : H a = some (.frz od (exo a C d))) : s.heap.get? a = some od ∧ ∃ t1 : Addr, od = ({ cls := .ref C, dict := d, data := .fields #[.ref t1, .none, .none, .none, .bool false, .none] } : Obj) := by
  obtain ⟨h1, h2⟩ := (show ObjOk X.prog X.w H s.heap a (.frz od (exo a C d)) from I.hok a _ e)
  obtain ⟨⟨t1, h3⟩, _⟩ := (show ObjOk X.prog X.w H s.heap a (exo a C d) from h2)
  rw [h1] at h3
  exact ⟨h1, t1, Option.some.inj h3⟩
def rIsV (K : PySem.W.Frag) : List V → Hp → VK → Prop := fun xs H Q => ∃ (a C : Addr) (od : Obj) (d : Option Addr) (c : V) (cv : Value) (b : Bool), xs = [.ref a, c] ∧ H a = some (.frz od (exo a C d)) ∧ (∀ q, d = some q → ∃ fs, H q = some (exd q fs)) ∧ (∀ u, RelV c u → u = cv) ∧ ExcC K C ∧ PySem.W.kitOne K (.ref C) cv = some b ∧ Q (.bl b) H
theorem kmV_ : CallR X (.builtin "isinstance") (rIsV X.K) := by
  intro pins s σ H xs us Q I r h
  obtain ⟨a, C, od, d, c, cv, b, rfl, ea, hd, hcv, xc, e, k⟩ := h
  cases r with
  | cons rx rr =>
    cases rr with
    | cons rt rr =>
      cases rr
      cases rx
      obtain rfl := hcv _ rt
      obtain ⟨h1, t1, eo⟩ := ksw_ I ea
      have J : ∃ oD, PySem.W.InstAt s.heap a od C oD := by
        cases d with
        | none => exact ⟨none, h1, by rw [eo], by rw [eo]; rfl, by rw [eo]; trivial⟩
        | some q =>
          obtain ⟨fs, eq⟩ := hd q rfl
          obtain ⟨mA, hns, _⟩ := exd_at I.hok eq
          obtain ⟨oD, _, _, hoD, _⟩ := hns
          exact ⟨some oD, h1, by rw [eo], by rw [eo]; rfl, by rw [eo]; exact hoD⟩
      obtain ⟨oD, J⟩ := J
      exact PySem.W.kia_one (PySem.W.koi_ xc) I.kIn J e (fun z => nomatch z) fun tk => ⟨.bl b, H, I.kept (t' := tk) fun _ _ z => z, rfl, k⟩
def mIsE (R : Row) (c : Addr) (m : Env → M D) : Env → M D := fun δ => M.bind (m δ) fun d h => match excOf h d with
  | some (C, _, _) => if C ∈ R.L then .ok (.bl (decide (C = c ∨ (C, c) ∈ R.tb))) h else .bad
  | none => .bad
def mIsT (R : Row) (T : String) (m : Env → M D) : Env → M D := fun δ => M.bind (m δ) fun d h => match excOf h d with
  | some (C, _, _) => if C ∈ R.L then .ok (.bl (decide ((C, T) ∈ R.tt))) h else .bad
  | none => .bad
theorem kps_ {ρ : Rh} {N : Addr → Prop} {H : Hp} {a C : Addr} {ns : List Str} {xs : List D} (x : OOk ρ N H a (.exc C ns xs)) : ∃ (od : Obj) (d : Option Addr), H a = some (.frz od (exo a C d)) ∧ ∀ q, d = some q → ∃ fs, H q = some (exd q fs) := by
  rcases x with ⟨od, q, vs, e, eq, _⟩ | ⟨⟨od, e⟩, _⟩
  · exact ⟨od, some q, e, fun q' z => by cases z; exact ⟨_, eq⟩⟩
  · exact ⟨od, none, e, fun q' z => by cases z⟩
theorem kag_ {x : Expr} {R : Row} {c : Addr} {n : Str} {p p1 pos : Pos} {m : Env → M D} (E : kmU_ X.K R) (hc : c ∈ R.L) (hm : DE ex X W x m) (hg : Gl X "isinstance") (hi : X.mg "isinstance" = none) (hg2 : Gl X n) (hi2 : X.mg n = some (.ref c)) (hdb : (n == ("__debug__" : Str)) = false := by decide)
    (h1 : starEach [x, .Name n p1] X.env = (false, eval x X.env) :: starEach [.Name n p1] X.env := by rfl) (h2 : starEach [.Name n p1] X.env = (false, eval (.Name n p1) X.env) :: starEach [] X.env := by rfl)
    (h3 : (backTo pos (starEach [.Name n p1] X.env)).any (·.1) = false := by rfl) : DE ex X W (.Call (.Name "isinstance" p) [x, .Name n p1] [] pos) (mIsE R c m) :=
  .of (pe_callB kmV_ hg hi (by decide +kernel) (pa_cons hm (pa_cons (pe_glob (v := .ref c) hg2 hi2 rfl hdb) pa_nil h2) h1) (he := h1) (hpl := h3)) fun σ H Q ⟨ρ, h, δ, w, sl, p⟩ => by
    refine ⟨ρ, h, δ, w, sl, (kao_.bind (rel := relV) p).imp (fun v H1 ⟨ρ1, h1, d, s1, r1, p1⟩ => ?_) fun _ _ _ z => z⟩
    cases e1 : excOf h1 d with
    | none => simp only [e1] at p1; exact p1.elim
    | some q =>
      obtain ⟨C, ns, xs⟩ := q
      simp only [e1] at p1
      by_cases hC : C ∈ R.L
      · rw [if_pos hC] at p1
        obtain ⟨a, rfl, x⟩ := kkA_ s1.wd r1 e1
        obtain ⟨od, d', ea, ed⟩ := kps_ x
        exact ⟨a, C, od, d', .ref c, .ref c, _, rfl, ea, ed, fun u r => r, E.xc C hC, E.own C hC c hc, p1 ρ1 H1 _ (Step.refl s1.wd) (.bl _)⟩
      · rw [if_neg hC] at p1; exact p1.elim
theorem kqh_ {x : Expr} {R : Row} {T : String} {n : Str} {p p1 pos : Pos} {m : Env → M D} (E : kmU_ X.K R) (hT : T ∈ ["ValueError", "KeyError", "LookupError"]) (hm : DE ex X W x m) (hg : Gl X "isinstance") (hi : X.mg "isinstance" = none) (hg2 : Gl X n) (hi2 : X.mg n = none) (hb : bootBuiltins n = some (.type T)) (hn : n ≠ "__name__" := by decide) (hdb : (n == ("__debug__" : Str)) = false := by decide)
    (h1 : starEach [x, .Name n p1] X.env = (false, eval x X.env) :: starEach [.Name n p1] X.env := by rfl) (h2 : starEach [.Name n p1] X.env = (false, eval (.Name n p1) X.env) :: starEach [] X.env := by rfl)
    (h3 : (backTo pos (starEach [.Name n p1] X.env)).any (·.1) = false := by rfl) : DE ex X W (.Call (.Name "isinstance" p) [x, .Name n p1] [] pos) (mIsT R T m) :=
  .of (pe_callB kmV_ hg hi (by decide +kernel) (pa_cons hm (pa_cons (pe_bltn (v := .ty T) hg2 hi2 hb rfl hn hdb) pa_nil h2) h1) (he := h1) (hpl := h3)) fun σ H Q ⟨ρ, h, δ, w, sl, p⟩ => by
    refine ⟨ρ, h, δ, w, sl, (kao_.bind (rel := relV) p).imp (fun v H1 ⟨ρ1, h1, d, s1, r1, p1⟩ => ?_) fun _ _ _ z => z⟩
    cases e1 : excOf h1 d with
    | none => simp only [e1] at p1; exact p1.elim
    | some q =>
      obtain ⟨C, ns, xs⟩ := q
      simp only [e1] at p1
      by_cases hC : C ∈ R.L
      · rw [if_pos hC] at p1
        obtain ⟨a, rfl, x⟩ := kkA_ s1.wd r1 e1
        obtain ⟨od, d', ea, ed⟩ := kps_ x
        exact ⟨a, C, od, d', .ty T, .type T, _, rfl, ea, ed, fun u r => r, E.xc C hC, E.blt C hC T hT, p1 ρ1 H1 _ (Step.refl s1.wd) (.bl _)⟩
      · rw [if_neg hC] at p1; exact p1.elim
theorem kmW_ {ρ : Rh} {N : Addr → Prop} {H : Hp} {f : Str} {z : D} : ∀ {ps : List (Str × V)} {qs : List (Str × D)}, Paired (fun (p : Str × V) (q : Str × D) => p.1 = q.1 ∧ R ρ N H p.2 q.2) ps qs → qs.lookup f = some z → ∃ u, ps.lookup f = some u ∧ R ρ N H u z
  | [], [], _, e => by cases e
  | [], _ :: _, p, _ => by cases p
  | _ :: _, [], p, _ => by cases p
  | (n, v) :: ps, (m, x) :: qs, .cons r q, e => by
    obtain ⟨e1, rv⟩ := r
    have e1 : n = m := e1
    subst e1
    rw [List.lookup_cons] at e ⊢
    cases c : f == n with
    | true => rw [c] at e; cases e; exact ⟨v, rfl, rv⟩
    | false => rw [c] at e; exact kmW_ q e
theorem khz_ {α β : Type} {F : α → β → Prop} {x : α} {y : β} (r : F x y) : ∀ {xs : List α} {ys : List β}, Paired F xs ys → Paired F (xs ++ [x]) (ys ++ [y])
  | [], [], .nil => .cons r .nil
  | _ :: _, _ :: _, .cons a b => .cons a (khz_ r b)
theorem kjP_ {α β : Type} {F : α → β → Prop} : ∀ {xs : List α} {ys : List β}, Paired F xs ys → Paired F xs.reverse ys.reverse
  | [], [], .nil => .nil
  | x :: xs, y :: ys, .cons a b => by rw [List.reverse_cons, List.reverse_cons]; exact khz_ a (kjP_ b)
def kf9_ (R : Row) (f : Str) (m : Env → M D) : Env → M D := fun δ => M.bind (m δ) fun d h => match excOf h d with
  | some (C, ns, xs) => if C ∈ R.L then (match (ns.zip xs).reverse.lookup f with
    | some z => .ok z h
    | none => .bad) else .bad
  | none => .bad
def tXv (K : PySem.W.Frag) (f : Str) (te : TE) : TE := fun σ H Q => te σ H fun x H1 => ∃ (a C q : Addr) (od : Obj) (fs : List (Str × V)) (v : V), x = .ref a ∧ H1 a = some (.frz od (exo a C (some q))) ∧ H1 q = some (exd q fs) ∧ XfC K C ∧ PySem.W.findIn K (.ref C) f = some none ∧ fs.lookup f = some v ∧ Q v H1
theorem kun_ {e : Expr} {te : TE} {pos : Pos} {n : Str} (he : PE X e te) (hb : attributeBase e n X.env (eval e X.env) = eval e X.env := by rfl) : PE X (.Attribute e n pos) (tXv X.K n te) := by
  refine ⟨fun pins s σ H Q I h => ?_⟩
  refine attr_of hb (thn (he.run pins s σ H _ I h) fun u s1 hh => ?_)
  obtain ⟨x, H1, I1, rx, a, C, q, od, fs, v, ex, ea, eq, T, hno, l, k⟩ := hh
  subst ex
  obtain rfl : u = Value.ref a := rx
  obtain ⟨h1, t1, eo⟩ := ksw_ I1 ea
  obtain ⟨mA, hns, hr⟩ := exd_at I1.hok eq
  obtain ⟨oD, ho, hl⟩ := lookIn_ns hns
  obtain ⟨u, hu, ru⟩ := RelO.some_of (v := v) (o := mA n) (by rw [← l]; exact hr n)
  have J : PySem.W.InstAt s1.heap a od C (some oD) := ⟨h1, by rw [eo], by rw [eo]; rfl, by rw [eo]; exact ho⟩
  exact HandSPX.exc_get I1.kIn J T.ga T.gg T.exC (PySem.W.findObj_own T.hdC hno rfl (by rw [hl, hu])) (handed_of ru) ⟨v, H1, I1.tok _, ru, k⟩
theorem kjQ_ {ρ : Rh} {N : Addr → Prop} {H : Hp} : ∀ {ns : List Str} {vs : List V} {xs : List D}, ns.length = vs.length → RAll ρ N H vs xs → Paired (fun (p : Str × V) (q : Str × D) => p.1 = q.1 ∧ R ρ N H p.2 q.2) (ns.zip vs) (ns.zip xs)
  | [], [], _, _, .nil => .nil
  | [], _ :: _, _, l, _ => by cases l
  | _ :: _, [], _, l, _ => by cases l
  | n :: ns, v :: vs, _, l, .cons r al => .cons ⟨rfl, r⟩ (kjQ_ (Nat.succ.inj l) al)
theorem kaH_ {e : Expr} {R : Row} {f : Str} {pos : Pos} {m : Env → M D} (E : kmU_ X.K R) (hf : f ∈ R.fs) (he : DE ex X W e m) (hb : attributeBase e f X.env (eval e X.env) = eval e X.env := by rfl) : DE ex X W (.Attribute e f pos) (kf9_ R f m) :=
  .of (kun_ he hb) fun σ H Q ⟨ρ, h, δ, w, sl, p⟩ => by
    refine ⟨ρ, h, δ, w, sl, (kao_.bind (rel := relV) p).imp (fun v H1 ⟨ρ1, h1, d, s1, r1, p1⟩ => ?_) fun _ _ _ z => z⟩
    cases e1 : excOf h1 d with
    | none => simp only [e1] at p1; exact p1.elim
    | some q =>
      obtain ⟨C, ns, xs⟩ := q
      simp only [e1] at p1
      by_cases hC : C ∈ R.L
      · rw [if_pos hC] at p1
        obtain ⟨a, rfl, x⟩ := kkA_ s1.wd r1 e1
        cases e2 : (ns.zip xs).reverse.lookup f with
        | none => simp only [e2] at p1; exact p1.elim
        | some z =>
          simp only [e2] at p1
          rcases x with ⟨od, q, vs, ea, eq, _, l, al⟩ | ⟨_, rfl, rfl⟩
          · have pr := (kjQ_ l al)
            obtain ⟨u, hu, ru⟩ := kmW_ (ps := (ns.zip vs).reverse) (qs := (ns.zip xs).reverse) (kjP_ pr) e2
            exact ⟨a, C, q, od, _, u, rfl, ea, eq, E.xf C hC, E.nof C hC f hf, hu, p1 ρ1 H1 _ (Step.refl s1.wd) ru⟩
          · cases e2
      · rw [if_neg hC] at p1; exact p1.elim
def dspS (n : Nat) (x : Str) (v : D) : M D := fun h2 => match h2[n]? with
  | some (.dct [] []) => .ok (.ptr n) (h2.set n (.dct [.inr x] [v]))
  | _ => .bad
def kol_ (x : Str) (mv : Env → M D) : Env → M D := fun δ h => M.bind (mv δ) (fun v => dspS h.length x v) (h ++ [.dct [] []])
theorem kqi_ {ke ve : Expr} {x : Str} {mv : Env → M D} {pos : Pos} (hk : PE X ke (tC (.str x))) (hv : DE ex X W ve mv) : DE ex X W (.Dict [some ke] [ve] pos) (kol_ x mv) :=
  .of (pe_disp (pps_cons hk hv pps_nil) rfl rfl (by simp) (by simp)) fun σ H Q ⟨ρ, h, δ, w, sl, p⟩ => fun d hd => by
    have s0 := w.push (p := d) (u := .dK []) (o := .dct [] []) hd ⟨[], upd_same, rfl, .nil⟩
    have p' := kao_.step p s0
    have rp : R (ρ.push d) (own (ρ.push d) (h ++ [.dct [] []])) (upd H d (.dK [])) (.ref d) (.ptr h.length) := .ptr (by
      show (ρ.l ++ [d])[h.length]? = _
      rw [List.getElem?_append_right (by rw [w.len]; exact Nat.le_refl _), w.len, Nat.sub_self]; rfl)
    refine ⟨ρ.push d, _, δ, s0.wd, s0.Sls sl, (kao_.bind (rel := relV) p').imp (fun y H2 ⟨ρ2, h2, vd, s2, r2, p2⟩ => ?_) fun _ _ _ z => z⟩
    have rp2 := s2.R rp
    have key : h2[h.length]? = some (.dct [] []) ∧ kao_ relV (WXat W σ) ρ2 h2 H2 (Res.ok (D.ptr h.length) (h2.set h.length (.dct [.inr x] [vd]))) Q := by
      unfold dspS at p2
      cases e1 : h2[h.length]? with
      | none => rw [e1] at p2; exact p2.elim
      | some o =>
        rw [e1] at p2
        cases o with
        | dct ks vs =>
          cases ks with
          | cons _ _ => exact p2.elim
          | nil =>
            cases vs with
            | cons _ _ => exact p2.elim
            | nil => exact ⟨rfl, p2⟩
        | _ => exact p2.elim
    obtain ⟨e1, p3⟩ := key
    have ej : ownJ h2 (.ptr h.length) = some (h.length, [], []) := by
      unfold ownJ
      dsimp only
      rw [e1]
    obtain ⟨a, us, ea, f1, l, al, ek, f2, st⟩ := ksj_ (k := h.length) (ks := []) (xs := []) s2.wd rp2 ej
    cases ea
    have s4 := st [.inr x] [y] [vd] rfl (.cons r2 .nil)
    refine ⟨f1, [(Sum.inr x, y)], rfl, Nat.le_add_left 1 14, ?_⟩
    exact p3 ρ2 _ _ s4 (s4.R rp2)
end
end Z
set_option Elab.async false
set_option linter.all false
set_option maxRecDepth 100000
set_option maxHeartbeats 4000000
namespace Z
open PySem PySem.Spec PyProof.Rows L2 TL Y
open Classical
universe uu
inductive Tg {α : Sort uu} (a : α) : Type
  | mk : Tg a
abbrev EQ := Value → List Str → List D → OH → Prop
abbrev ES := Value → List Str → List D → Env → OH → Prop
section
variable {α β : Type}
def WE (r : Res α) (Q : α → OH → Prop) (E : EQ) (t : Tg Q) (u : Tg E) : Prop := match r with
  | .ok a h => Q a h
  | .exc C ns vs h => E C ns vs h
  | .bad => False
def WS (r : RS) (Q : Fl → OH → Prop) (E : ES) (t : Tg Q) (u : Tg E) : Prop := match r with
  | .ok a h => Q a h
  | .exc C ns vs δ h => E C ns vs δ h
  | .bad => False
def WO (o : Option α) (Q : α → Prop) (t : Tg Q) : Prop := match o with
  | some a => Q a
  | none => False
def WM (o : Option (D × OH)) (Q : D → OH → Prop) (t : Tg Q) : Prop := match o with
  | some p => Q p.1 p.2
  | none => False
def WV (o : Option Sl) (Q : D → Prop) (t : Tg Q) : Prop := match o with
  | some (.val d) => Q d
  | _ => False
def WI (d : D) (Q : Int → Prop) (t : Tg Q) : Prop := match d with
  | .int i => Q i
  | _ => False
def WB (d : D) (Q : Bool → Prop) (t : Tg Q) : Prop := match d with
  | .bl i => Q i
  | _ => False
def WT (d : D) (Q : Str → Prop) (t : Tg Q) : Prop := match d with
  | .str i => Q i
  | _ => False
def Nd (p : Prop) (A : Prop) (t : Tg A) : Prop := p ∧ A
def WN (x : α) (Q : α → Prop) (t : Tg Q) : Prop := Q x
def Br (k : Bool) (A B : Prop) (t : Tg A) (u : Tg B) : Prop := (k = true → A) ∧ (k = false → B)
def noE : EQ := fun _ _ _ _ => False
def noES : ES := fun _ _ _ _ _ => False
end
theorem we_c {α : Type} {r : Res α} {Q Q' : α → OH → Prop} {E : EQ} {t : Tg Q} {t' : Tg Q'} {u u' : Tg E} (e : ∀ a h, Q a h = Q' a h) : WE r Q E t u = WE r Q' E t' u' := by
  have : Q = Q' := funext fun a => funext fun h => e a h
  subst this; rfl
theorem wo_c {α : Type} {r : Option α} {Q Q' : α → Prop} {t : Tg Q} {t' : Tg Q'} (e : ∀ a, Q a = Q' a) : WO r Q t = WO r Q' t' := by
  have : Q = Q' := funext fun a => e a
  subst this; rfl
section
variable {α β : Type} {Q : α → OH → Prop} {E : EQ} {t : Tg Q} {u : Tg E} {h h1 : OH} {δ : Env}
theorem nd_i {p A : Prop} {t : Tg A} (hp : p) (a : A) : Nd p A t := ⟨hp, a⟩
theorem br_d {p : Prop} {_ : Decidable p} {A B : Prop} {t : Tg A} {u : Tg B} (a : p → A) (b : ¬ p → B) : Br (decide p) A B t u := ⟨fun z => a (of_decide_eq_true z), fun z => b (of_decide_eq_false z)⟩
theorem kjR_ {Q' : α → OH → Prop} {E' : EQ} {t' : Tg Q'} {u' : Tg E'} {r : Res α} (o : WE r Q' E' t' u') (i : ∀ a h, Q' a h → Q a h) (j : ∀ C ns vs h, E' C ns vs h → E C ns vs h) : WE r Q E t u := by
  cases r with
  | ok a h => exact i _ _ o
  | exc _ _ _ _ => exact j _ _ _ _ o
  | bad => exact o.elim
theorem kuo_ {u' : Tg noE} {r : Res α} (o : WE r Q noE t u') : ∃ a h, r = .ok a h ∧ Q a h := by
  cases r with
  | ok a h => exact ⟨a, h, rfl, o⟩
  | exc _ _ _ _ => exact o.elim
  | bad => exact o.elim
theorem kup_ {Q Q' : Fl → OH → Prop} {E E' : ES} {t : Tg Q} {u : Tg E} {t' : Tg Q'} {u' : Tg E'} {r : RS} (o : WS r Q' E' t' u') (i : ∀ a h, Q' a h → Q a h) (j : ∀ C ns vs δ h, E' C ns vs δ h → E C ns vs δ h) : WS r Q E t u := by
  cases r with
  | ok a h => exact i _ _ o
  | exc _ _ _ _ _ => exact j _ _ _ _ _ o
  | bad => exact o.elim
theorem r_ok {a : α} : WE (.ok a h) Q E t u = Q a h := by exact propext Iff.rfl
theorem kxj_ {C : Value} {ns : List Str} {vs : List D} : WE (.exc C ns vs h : Res α) Q E t u = E C ns vs h := by exact propext Iff.rfl
theorem kuq_ {a : α} : WE (M.pure a h) Q E t u = Q a h := by exact propext Iff.rfl
theorem r_wo {Q : α → Prop} {t : Tg Q} {a : α} : WO (some a) Q t = Q a := by exact propext Iff.rfl
theorem r_wm {Q : D → OH → Prop} {t : Tg Q} {a : D} : WM (some (a, h)) Q t = Q a h := by exact propext Iff.rfl
theorem r_wv {Q : D → Prop} {t : Tg Q} {d : D} : WV (some (.val d)) Q t = Q d := by exact propext Iff.rfl
theorem r_wi {Q : Int → Prop} {t : Tg Q} {i : Int} : WI (.int i) Q t = Q i := by exact propext Iff.rfl
theorem r_wb {Q : Bool → Prop} {t : Tg Q} {i : Bool} : WB (.bl i) Q t = Q i := by exact propext Iff.rfl
theorem r_wt {Q : Str → Prop} {t : Tg Q} {i : Str} : WT (.str i) Q t = Q i := by exact propext Iff.rfl
theorem r_nd {A : Prop} {t : Tg A} : Nd True A t = A := by exact propext ⟨fun z => z.2, fun z => ⟨trivial, z⟩⟩
theorem r_bt {A B : Prop} {t : Tg A} {u : Tg B} : Br true A B t u = A := by exact propext ⟨fun z => z.1 rfl, fun z => ⟨fun _ => z, fun q => nomatch q⟩⟩
theorem r_bf {A B : Prop} {t : Tg A} {u : Tg B} : Br false A B t u = B := by exact propext ⟨fun z => z.2 rfl, fun z => ⟨(fun q => nomatch q), fun _ => z⟩⟩
theorem r_bn {k : Bool} {A B : Prop} {t : Tg A} {u : Tg B} : Br (!k) A B t u = Br k B A .mk .mk := by
  cases k
  · exact propext ⟨fun z => ⟨(fun q => nomatch q), fun _ => z.1 rfl⟩, fun z => ⟨fun _ => z.2 rfl, (fun q => nomatch q)⟩⟩
  · exact propext ⟨fun z => ⟨fun _ => z.2 rfl, (fun q => nomatch q)⟩, fun z => ⟨(fun q => nomatch q), fun _ => z.1 rfl⟩⟩
theorem kxk_ {γ : Type} {Q : List γ → Prop} {t : Tg Q} {a : γ} {l : List γ} : WN (a :: l) Q t = Q (a :: l) := by exact propext Iff.rfl
theorem kxl_ {γ : Type} {Q : List γ → Prop} {t : Tg Q} : WN ([] : List γ) Q t = Q [] := by exact propext Iff.rfl
theorem kM_ {m : M β} {f : β → M α} : WE (M.bind m f h) Q E t u = WE (m h) (fun a h1 => WE (f a h1) Q E .mk .mk) E .mk .mk := by
  unfold M.bind; cases m h <;> exact propext Iff.rfl
end
section
variable {Q : D → OH → Prop} {QL : List D → OH → Prop} {QB : Bool → OH → Prop} {E : EQ} {t : Tg Q} {tL : Tg QL} {tB : Tg QB} {u : Tg E} {h : OH} {δ : Env} {m a b c : Env → M D} {mc ma mb : Env → M Bool} {ms : Env → M (List D)}
theorem keP_ {f : OH → Option D} : WE (klj_ f h) Q E t u = WO (f h) (fun z => Q z h) .mk := by
  unfold klj_; cases f h <;> exact propext Iff.rfl
theorem kdF_ {f : OH → Option (List D)} : WE (kd9_ f h) QL E tL u = WO (f h) (fun z => QL z h) .mk := by
  unfold kd9_; cases f h <;> exact propext Iff.rfl
theorem kjS_ {f : OH → Option Bool} : WE (kjH_ f h) QB E tB u = WO (f h) (fun z => QB z h) .mk := by
  unfold kjH_; cases f h <;> exact propext Iff.rfl
theorem kxm_ {i : Nat} : WE (mVar i δ h) Q E t u = WV (δ[i]?) (fun d => Q d h) .mk := by
  unfold mVar
  cases e : δ[i]? with
  | none => exact propext Iff.rfl
  | some s => cases s <;> exact propext Iff.rfl
theorem r_c {d : D} : WE (mC d δ h) Q E t u = Q d h := by exact propext Iff.rfl
theorem kxn_ {op : O2} : WE (mOp2 op a b δ h) Q E t u = WE (a δ h) (fun x h1 => WE (b δ h1) (fun y h2 => WO (op h2 x y) (fun z => Q z h2) .mk) E .mk .mk) E .mk .mk := by
  unfold mOp2; rw [kM_]; refine we_c fun x h1 => ?_; rw [kM_]; refine we_c fun y h2 => ?_; rw [keP_]
theorem kur_ {op : O2F} : WE (kpW_ op a b δ h) QL E tL u = WE (a δ h) (fun x h1 => WE (b δ h1) (fun y h2 => WO (op h2 x y) (fun z => QL z h2) .mk) E .mk .mk) E .mk .mk := by
  unfold kpW_; rw [kM_]; refine we_c fun x h1 => ?_; rw [kM_]; refine we_c fun y h2 => ?_; rw [kdF_]
theorem kxo_ : WE (mNil δ h) QL E tL u = QL [] h := by exact propext Iff.rfl
theorem kus_ : WE (kN_ m ms δ h) QL E tL u = WE (m δ h) (fun d h1 => WE (ms δ h1) (fun ds h2 => QL (d :: ds) h2) E .mk .mk) E .mk .mk := by
  unfold kN_; rw [kM_]; refine we_c fun x h1 => ?_; rw [kM_]; exact we_c fun _ _ => rfl
theorem r_fn {n : Nat} {f : List D → M D} : WE (mFn n f ms δ h) Q E t u = WE (ms δ h) (fun ds h1 => Nd (ds.length = n) (WE (f ds h1) Q E .mk .mk) .mk) E .mk .mk := by
  unfold mFn; rw [kM_]; refine we_c fun x h1 => ?_
  by_cases e : x.length = n
  · rw [if_pos e]; exact propext ⟨fun z => ⟨e, z⟩, fun z => z.2⟩
  · rw [if_neg e]; exact propext ⟨fun z => z.elim, fun z => (e z.1).elim⟩
theorem kxp_ : WE (mVal ms δ h) Q E t u = WE (ms δ h) (fun ds h1 => Q (.lst ds) h1) E .mk .mk := by unfold mVal; rw [kM_]; exact we_c fun _ _ => rfl
theorem kxq_ : WE (mOwn ms δ h) Q E t u = WE (ms δ h) (fun ds h1 => Q (.ptr h1.length) (h1 ++ [.lst ds])) E .mk .mk := by unfold mOwn; rw [kM_]; exact we_c fun _ _ => rfl
theorem kxr_ : WE (mFew ms δ h) QL E tL u = WE (ms δ h) (fun ds h1 => Nd (ds.length ≤ lim) (QL ds h1) .mk) E .mk .mk := by
  unfold mFew; rw [kM_]; refine we_c fun x h1 => ?_
  by_cases e : x.length ≤ lim
  · rw [if_pos e]; exact propext ⟨fun z => ⟨e, z⟩, fun z => z.2⟩
  · rw [if_neg e]; exact propext ⟨fun z => z.elim, fun z => (e z.1).elim⟩
theorem kxs_ : WE (mTup ms δ h) Q E t u = WE (ms δ h) (fun ds h1 => Nd (ds.length ≤ lim) (Q (.tup ds) h1) .mk) E .mk .mk := by
  unfold mTup; rw [kM_]; refine we_c fun x h1 => ?_
  by_cases e : x.length ≤ lim
  · rw [if_pos e]; exact propext ⟨fun z => ⟨e, z⟩, fun z => z.2⟩
  · rw [if_neg e]; exact propext ⟨fun z => z.elim, fun z => (e z.1).elim⟩
theorem kxt_ : WE (mTru m δ h) QB E tB u = WE (m δ h) (fun d h1 => WO (truD h1 d) (fun k => QB k h1) .mk) E .mk .mk := by unfold mTru; rw [kM_]; refine we_c fun x h1 => ?_; rw [kjS_]
theorem kut_ : WE (kku_ m δ h) QB E tB u = WE (m δ h) (fun d h1 => WB d (fun k => QB k h1) .mk) E .mk .mk := by
  unfold kku_; rw [kM_]; refine we_c fun x h1 => ?_; cases x <;> exact propext Iff.rfl
theorem kuu_ : WE (kmn_ mc δ h) QB E tB u = WE (mc δ h) (fun k h1 => QB (!k) h1) E .mk .mk := by unfold kmn_; rw [kM_]; exact we_c fun _ _ => rfl
theorem kuv_ : WE (kwn_ ma mb δ h) QB E tB u = WE (ma δ h) (fun k h1 => Br k (WE (mb δ h1) QB E .mk .mk) (QB false h1) .mk .mk) E .mk .mk := by
  unfold kwn_; rw [kM_]; refine we_c fun k h1 => ?_; cases k
  · rw [r_bf]; exact propext Iff.rfl
  · rw [r_bt]; exact propext Iff.rfl
theorem kxu_ : WE (mOrT ma mb δ h) QB E tB u = WE (ma δ h) (fun k h1 => Br k (QB true h1) (WE (mb δ h1) QB E .mk .mk) .mk .mk) E .mk .mk := by
  unfold mOrT; rw [kM_]; refine we_c fun k h1 => ?_; cases k
  · rw [r_bf]; exact propext Iff.rfl
  · rw [r_bt]; exact propext Iff.rfl
theorem kxv_ : WE (mYes δ h) QB E tB u = QB true h := by exact propext Iff.rfl
theorem kuw_ : WE (krg_ a b δ h) Q E t u = WE (a δ h) (fun d h1 => WO (truD h1 d) (fun k => Br k (WE (b δ h1) Q E .mk .mk) (Q d h1) .mk .mk) .mk) E .mk .mk := by
  unfold krg_; rw [kM_]; refine we_c fun d h1 => ?_; rw [kM_, kjS_]; refine wo_c fun k => ?_; cases k
  · rw [r_bf]; exact propext Iff.rfl
  · rw [r_bt]; exact propext Iff.rfl
theorem kxw_ : WE (mOrV a b δ h) Q E t u = WE (a δ h) (fun d h1 => WO (truD h1 d) (fun k => Br k (Q d h1) (WE (b δ h1) Q E .mk .mk) .mk .mk) .mk) E .mk .mk := by
  unfold mOrV; rw [kM_]; refine we_c fun d h1 => ?_; rw [kM_, kjS_]; refine wo_c fun k => ?_; cases k
  · rw [r_bf]; exact propext Iff.rfl
  · rw [r_bt]; exact propext Iff.rfl
theorem kux_ : WE (kwo_ a δ h) Q E t u = WE (a δ h) (fun d h1 => WO (truD h1 d) (fun k => Q (.bl (!k)) h1) .mk) E .mk .mk := by
  unfold kwo_; rw [kM_]; refine we_c fun d h1 => ?_; rw [kM_, kjS_]; exact wo_c fun _ => rfl
theorem kxx_ : WE (mNeg a δ h) Q E t u = WE (a δ h) (fun d h1 => WI d (fun i => Q (.int (-i)) h1) .mk) E .mk .mk := by
  unfold mNeg; rw [kM_]; refine we_c fun d h1 => ?_; cases d <;> exact propext Iff.rfl
theorem kxy_ : WE (mIfE mc a b δ h) Q E t u = WE (mc δ h) (fun k h1 => Br k (WE (a δ h1) Q E .mk .mk) (WE (b δ h1) Q E .mk .mk) .mk .mk) E .mk .mk := by
  unfold mIfE; rw [kM_]; refine we_c fun k h1 => ?_; cases k
  · rw [r_bf]; exact propext Iff.rfl
  · rw [r_bt]; exact propext Iff.rfl
theorem ksx_ {Q : Option Int → OH → Prop} {t : Tg Q} : WE (kn0_ none δ h) Q E t u = Q none h := by exact propext Iff.rfl
theorem ksy_ {Q : Option Int → OH → Prop} {t : Tg Q} : WE (kn0_ (some m) δ h) Q E t u = WE (m δ h) (fun d h1 => WI d (fun i => Q (some i) h1) .mk) E .mk .mk := by
  show WE (M.bind (m δ) _ h) _ _ _ _ = _; rw [kM_]; refine we_c fun d h1 => ?_; cases d <;> exact propext Iff.rfl
theorem r_sl {op : OH → D → Option Int → Option Int → Option D} {lo hi : Option (Env → M D)} : WE (mSl op m lo hi δ h) Q E t u =
    WE (m δ h) (fun d h1 => WE (kn0_ lo δ h1) (fun l h2 => WE (kn0_ hi δ h2) (fun v h3 => WO (op h3 d l v) (fun z => Q z h3) .mk) E .mk .mk) E .mk .mk) E .mk .mk := by
  unfold mSl; rw [kM_]; refine we_c fun d h1 => ?_; rw [kM_]; refine we_c fun l h2 => ?_; rw [kM_]; refine we_c fun v h3 => ?_; rw [keP_]
theorem kxz_ {lo hi : Option (Env → M D)} : WE (mSlF m lo hi δ h) QL E tL u =
    WE (m δ h) (fun d h1 => WE (kn0_ lo δ h1) (fun l h2 => WE (kn0_ hi δ h2) (fun v h3 => WO (kW_ h3 d) (fun xs => QL (cutD xs l v) h3) .mk) E .mk .mk) E .mk .mk) E .mk .mk := by
  unfold mSlF; rw [kM_]; refine we_c fun d h1 => ?_; rw [kM_]; refine we_c fun l h2 => ?_; rw [kM_]; refine we_c fun v h3 => ?_; rw [kdF_]; cases kW_ h3 d <;> exact propext Iff.rfl
theorem kuy_ {op : OC} : WE (khv_ op ms δ h) Q E t u = WE (ms δ h) (fun ds h1 => WO (op h1 ds) (fun z => Q z h1) .mk) E .mk .mk := by unfold khv_; rw [kM_]; refine we_c fun d h1 => ?_; rw [keP_]
theorem ksz_ {op : OCF} : WE (krU_ op ms δ h) QL E tL u = WE (ms δ h) (fun ds h1 => WO (op h1 ds) (fun z => QL z h1) .mk) E .mk .mk := by unfold krU_; rw [kM_]; refine we_c fun d h1 => ?_; rw [kdF_]
theorem kxA_ {T : String} : WE (mIsi T m δ h) Q E t u = WE (m δ h) (fun d h1 => WO (tyS h1 d) (fun s => WO (kitB s T) (fun k => Q (.bl k) h1) .mk) .mk) E .mk .mk := by
  unfold mIsi; rw [kM_]; refine we_c fun d h1 => ?_; rw [keP_]
  cases tyS h1 d with
  | none => exact propext Iff.rfl
  | some s => rw [Option.bind_some]; cases e : kitB s T <;> (rw [r_wo]; simp only [e]; exact propext Iff.rfl)
theorem kuz_ {T T2 : String} : WE (kwp_ T T2 m δ h) Q E t u = WE (m δ h) (fun d h1 => WO (tyS h1 d) (fun s => WO (kitB s T) (fun k => WO (kitB s T2) (fun l => Q (.bl (k || l)) h1) .mk) .mk) .mk) E .mk .mk := by
  unfold kwp_; rw [kM_]; refine we_c fun d h1 => ?_; rw [keP_]
  cases tyS h1 d with
  | none => exact propext Iff.rfl
  | some s =>
    rw [Option.bind_some]
    cases e : kitB s T with
    | none => rw [r_wo]; simp only [e]; exact propext Iff.rfl
    | some k =>
      rw [r_wo]; simp only [e, Option.bind_some]; rw [r_wo]
      cases e2 : kitB s T2 with
      | none => exact propext Iff.rfl
      | some l => exact propext Iff.rfl
theorem kuA_ {T : String} {op : OM} : WE (ktK_ T op m ms δ h) Q E t u = WE (m δ h) (fun d h1 => Nd (ofTy T h1 d = true) (WE (ms δ h1) (fun es h2 => WM (op h2 d es) Q .mk) E .mk .mk) .mk) E .mk .mk := by
  unfold ktK_; rw [kM_]; refine we_c fun d h1 => ?_
  by_cases e : ofTy T h1 d = true
  · simp only [if_pos e]
    rw [kM_]
    refine propext ⟨fun z => ⟨e, ?_⟩, fun z => ?_⟩
    · refine kjR_ z (fun es h2 q => ?_) fun _ _ _ _ z => z
      cases e2 : op h2 d es with
      | none => simp only [e2] at q; exact q
      | some p => simp only [e2] at q; exact q
    · refine kjR_ z.2 (fun es h2 q => ?_) fun _ _ _ _ z => z
      cases e2 : op h2 d es with
      | none => rw [e2] at q; exact q
      | some p => rw [e2] at q; exact q
  · simp only [if_neg e]; exact propext ⟨fun z => z.elim, fun z => (e z.1).elim⟩
theorem ksA_ {T : String} {op : OM} : WE (krY_ T op m δ h) Q E t u = WE (m δ h) (fun d h1 => Nd (ofTy T h1 d = true) (WM (op h1 d []) Q .mk) .mk) E .mk .mk := by
  unfold krY_; rw [kM_]; refine we_c fun d h1 => ?_
  by_cases e : ofTy T h1 d = true
  · simp only [if_pos e]
    refine propext ⟨fun z => ⟨e, ?_⟩, fun z => ?_⟩
    · cases e2 : op h1 d [] with
      | none => simp only [e2] at z; exact z
      | some p => simp only [e2] at z; exact z
    · have z := z.2
      cases e2 : op h1 d [] with
      | none => rw [e2] at z; exact z
      | some p => rw [e2] at z; exact z
  · simp only [if_neg e]; exact propext ⟨fun z => z.elim, fun z => (e z.1).elim⟩
theorem kjT_ {α : Type} {m : M α} {Q : α → OH → Prop} {t : Tg Q} : WE (M.calm m h) Q E t u = WE (m h) Q noE .mk .mk := by
  unfold M.calm; cases m h <;> exact propext Iff.rfl
theorem kxB_ {fc : M D → M D} {mb : Env → M D} : WE (mLam fc mb δ h) Q E t u = WN (kbX_ (clean δ)) (fun δ' => WE (fc (mb δ') h) Q noE .mk .mk) .mk := by unfold mLam; rw [kjT_]; exact propext Iff.rfl
theorem kxC_ {i : Nat} {s : Sl} {am : M D} : WE (mGot i s am δ h) Q E t u = Nd (δ[i]? = some s) (WE (am h) Q E .mk .mk) .mk := by
  unfold mGot
  by_cases e : δ[i]? = some s
  · rw [if_pos e]; exact propext ⟨fun z => ⟨e, z⟩, fun z => z.2⟩
  · rw [if_neg e]; exact propext ⟨fun z => z.elim, fun z => (e z.1).elim⟩
theorem ksB_ {o1 o2 : O2} : WE (krP_ o1 o2 a b c δ h) Q E t u =
    WE (a δ h) (fun x h1 => WE (b δ h1) (fun y h2 => WO (o1 h2 x y) (fun z => WB z (fun k => Br k (WE (c δ h2) (fun w h3 => WO (o2 h3 y w) (fun z => Q z h3) .mk) E .mk .mk) (Q (.bl false) h2) .mk .mk) .mk) .mk) E .mk .mk) E .mk .mk := by
  unfold krP_; rw [kM_]; refine we_c fun x h1 => ?_; rw [kM_]; refine we_c fun y h2 => ?_; rw [kM_, keP_]; refine wo_c fun z => ?_
  cases z with
  | bl k =>
    rw [r_wb]
    cases k
    · rw [r_bf]; exact propext Iff.rfl
    · rw [r_bt]
      show WE (M.bind (c δ) _ h2) _ _ _ _ = _
      rw [kM_]; refine we_c fun w h3 => ?_; rw [keP_]
  | _ => exact propext Iff.rfl
theorem kuB_ : WE (kue_ δ h) Q E t u = Q (.dct [] []) h := by exact propext Iff.rfl
theorem kxD_ : WE (mFmt m δ h) Q E t u = WE (m δ h) (fun d h1 => WO (fmtD d) (fun s => Q (.str s) h1) .mk) E .mk .mk := by
  unfold mFmt; rw [kM_]; refine we_c fun d h1 => ?_; rw [keP_]; cases fmtD d <;> exact propext Iff.rfl
theorem kxE_ {acc : Str} : WE (mJs [] acc δ h) Q E t u = Q (.str acc) h := by exact propext Iff.rfl
theorem kxF_ {acc : Str} {l : List (Env → M D)} : WE (mJs (m :: l) acc δ h) Q E t u = WE (m δ h) (fun d h1 => WT d (fun y => Nd ((acc ++ y).length ≤ lim) (WE (mJs l (acc ++ y) δ h1) Q E .mk .mk) .mk) .mk) E .mk .mk := by
  show WE (M.bind (m δ) _ h) _ _ _ _ = _
  rw [kM_]; refine we_c fun d h1 => ?_
  cases d with
  | str y =>
    rw [r_wt]
    by_cases e : (acc ++ y).length ≤ lim
    · simp only [if_pos e]; exact propext ⟨fun z => ⟨e, z⟩, fun z => z.2⟩
    · simp only [if_neg e]; exact propext ⟨fun z => z.elim, fun z => (e z.1).elim⟩
  | _ => exact propext Iff.rfl
theorem kxG_ {Q : Its → OH → Prop} {t : Tg Q} : WE (mItL m δ h) Q E t u = WE (m δ h) (fun d h1 => WO (kW_ h1 d) (fun xs => Q ⟨xs, stays d xs⟩ h1) .mk) E .mk .mk := by
  unfold mItL; rw [kM_]; refine we_c fun d h1 => ?_; cases e : kW_ h1 d <;> (simp only [e]; exact propext Iff.rfl)
theorem kxH_ {Q : Its → OH → Prop} {t : Tg Q} : WE (mItT m δ h) Q E t u = WE (m δ h) (fun d h1 => WO (kjD_ d) (fun xs => Q ⟨xs, kcC_⟩ h1) .mk) E .mk .mk := by
  unfold mItT; rw [kM_]; refine we_c fun d h1 => ?_; cases e : kjD_ d <;> (simp only [e]; exact propext Iff.rfl)
theorem kxI_ {Q : Its → OH → Prop} {t : Tg Q} : WE (mItS m δ h) Q E t u = WE (m δ h) (fun d h1 => WT d (fun x => Q ⟨sgD x, kcC_⟩ h1) .mk) E .mk .mk := by
  unfold mItS; rw [kM_]; refine we_c fun d h1 => ?_; cases d <;> exact propext Iff.rfl
theorem kuC_ {Q : Its → OH → Prop} {t : Tg Q} : WE (kr4_ m δ h) Q E t u = WE (m δ h) (fun d h1 => WI d (fun j => Nd (-(2 ^ 62) ≤ j ∧ j < 2 ^ 62) (Q ⟨rngD 0 j.toNat, kcC_⟩ h1) .mk) .mk) E .mk .mk := by
  unfold kr4_; rw [kM_]; refine we_c fun d h1 => ?_
  cases d with
  | int j =>
    rw [r_wi]
    by_cases e : -(2 ^ 62) ≤ j ∧ j < 2 ^ 62
    · simp only [if_pos e]; exact propext ⟨fun z => ⟨e, z⟩, fun z => z.2⟩
    · simp only [if_neg e]; exact propext ⟨fun z => z.elim, fun z => (e z.1).elim⟩
  | _ => exact propext Iff.rfl
theorem kuD_ {Q : Its → OH → Prop} {t : Tg Q} {m2 : Env → M D} : WE (kws_ m m2 δ h) Q E t u = WE (m δ h) (fun d h1 => WE (m2 δ h1) (fun e h2 => WI d (fun i => WI e (fun j => Nd (-(2 ^ 62) ≤ i ∧ i < 2 ^ 62 ∧ -(2 ^ 62) ≤ j ∧ j < 2 ^ 62) (Q ⟨rngD i (j - i).toNat, kcC_⟩ h2) .mk) .mk) .mk) E .mk .mk) E .mk .mk := by
  unfold kws_; rw [kM_]; refine we_c fun d h1 => ?_; rw [kM_]; refine we_c fun e h2 => ?_
  cases d with
  | int i =>
    rw [r_wi]
    cases e with
    | int j =>
      rw [r_wi]
      by_cases e : -(2 ^ 62) ≤ i ∧ i < 2 ^ 62 ∧ -(2 ^ 62) ≤ j ∧ j < 2 ^ 62
      · simp only [if_pos e]; exact propext ⟨fun z => ⟨e, z⟩, fun z => z.2⟩
      · simp only [if_neg e]; exact propext ⟨fun z => z.elim, fun z => (e z.1).elim⟩
    | _ => exact propext Iff.rfl
  | _ => cases e <;> exact propext Iff.rfl
theorem kxJ_ {Q : Its → OH → Prop} {t : Tg Q} : WE (mItE m δ h) Q E t u = WE (m δ h) (fun d h1 => WO (kW_ h1 d) (fun xs => Q ⟨ktM_ xs, stays d xs⟩ h1) .mk) E .mk .mk := by
  unfold mItE; rw [kM_]; refine we_c fun d h1 => ?_; cases e : kW_ h1 d <;> (simp only [e]; exact propext Iff.rfl)
theorem kuE_ {Q : Its → OH → Prop} {t : Tg Q} : WE (kwt_ m δ h) Q E t u = WE (m δ h) (fun d h1 => WT d (fun x => Q ⟨ktM_ (sgD x), kcC_⟩ h1) .mk) E .mk .mk := by
  unfold kwt_; rw [kM_]; refine we_c fun d h1 => ?_; cases d <;> exact propext Iff.rfl
theorem kxK_ {Q : Its → OH → Prop} {t : Tg Q} {m2 : Env → M D} : WE (mItZ m m2 δ h) Q E t u = WE (m δ h) (fun d h1 => WE (m2 δ h1) (fun e h2 => WO (kW_ h2 d) (fun xs => WO (kW_ h2 e) (fun ys => Q ⟨zipD xs ys, fun h => stays d xs h ∧ stays e ys h⟩ h2) .mk) .mk) E .mk .mk) E .mk .mk := by
  unfold mItZ; rw [kM_]; refine we_c fun d h1 => ?_; rw [kM_]; refine we_c fun e h2 => ?_
  cases e1 : kW_ h2 d with
  | none => simp only [e1]; exact propext Iff.rfl
  | some xs => cases e2 : kW_ h2 e <;> (simp only [e1, e2]; exact propext Iff.rfl)
theorem r_lc {mi : Env → M Its} {g : GD} {tt : Env → M Bool} {te : Env → M D} {vs : List Nat} : WE (mLc mi g tt te vs δ h) QL E tL u = WE (mi δ h) (fun its h1 => WN (kgi_ δ vs) (fun δ1 => WE (lcGo g tt te its.ok δ1 its.xs [] h1) QL E .mk .mk) .mk) E .mk .mk := by unfold mLc; rw [kM_]; exact we_c fun _ _ => rfl
end
section
variable {Q : Fl → OH → Prop} {QD : D → OH → Prop} {E : ES} {t : Tg Q} {tD : Tg QD} {u : Tg E} {h h1 : OH} {δ : Env} {m : Env → M D} {mc : Env → M Bool} {a b : MS}
def eS (E : ES) (δ : Env) : EQ := fun C ns vs h => E C ns vs δ h
theorem r_es {C : Value} {ns : List Str} {vs : List D} : eS E δ C ns vs h = E C ns vs δ h := by exact propext Iff.rfl
theorem kxL_ {f : Fl} : WS (.ok f h) Q E t u = Q f h := by exact propext Iff.rfl
theorem kuF_ {C : Value} {ns : List Str} {vs : List D} : WS (.exc C ns vs δ h) Q E t u = E C ns vs δ h := by exact propext Iff.rfl
theorem kT_ {α : Type} {m : Env → M α} {f : α → MS} : WS (kbV_ m f δ h) Q E t u = WE (m δ h) (fun d h1 => WS (f d δ h1) Q E .mk .mk) (eS E δ) .mk .mk := by
  unfold kbV_; cases m δ h <;> exact propext Iff.rfl
def sq (b : MS) (Q : Fl → OH → Prop) (E : ES) (f : Fl) (h : OH) : Prop := match f with
  | .nx δ => WS (b δ h) Q E .mk .mk
  | f => Q f h
theorem kxM_ : sq b Q E (.nx δ) h = WS (b δ h) Q E .mk .mk := by exact propext Iff.rfl
theorem kxN_ {d : D} : sq b Q E (.rt d) h = Q (.rt d) h := by exact propext Iff.rfl
theorem kxO_ : sq b Q E (.bk δ) h = Q (.bk δ) h := by exact propext Iff.rfl
theorem kxP_ : sq b Q E (.ct δ) h = Q (.ct δ) h := by exact propext Iff.rfl
theorem kxQ_ : WS (sSeq a b δ h) Q E t u = WS (a δ h) (sq b Q E) E .mk .mk := by
  unfold sSeq
  cases e : a δ h with
  | ok f h1 => cases f <;> (simp only [e]; exact propext Iff.rfl)
  | exc _ _ _ _ _ => simp only [e]; exact propext Iff.rfl
  | bad => simp only [e]; exact propext Iff.rfl
theorem kxR_ {i : Nat} : WS (sSet i m δ h) Q E t u = WE (m δ h) (fun d h1 => WN (δ.set i (.val d)) (fun δ1 => Q (.nx δ1) h1) .mk) (eS E δ) .mk .mk := by unfold sSet; rw [kT_]; exact we_c fun _ _ => rfl
theorem kxS_ {g : GD} : WS (sAsg g m δ h) Q E t u = WE (m δ h) (fun d h1 => WO (g d δ) (fun δ1 => WN δ1 (fun δ1 => Q (.nx δ1) h1) .mk) .mk) (eS E δ) .mk .mk := by
  unfold sAsg; rw [kT_]; refine we_c fun d h1 => ?_; cases e : g d δ <;> (simp only [e]; exact propext Iff.rfl)
theorem kuG_ : WS (ktL_ m δ h) Q E t u = WE (m δ h) (fun d h1 => Q (.nx δ) h1) (eS E δ) .mk .mk := by unfold ktL_; rw [kT_]; exact we_c fun _ _ => rfl
theorem kxT_ : WS (sRet m δ h) Q E t u = WE (m δ h) (fun d h1 => Q (.rt d) h1) (eS E δ) .mk .mk := by unfold sRet; rw [kT_]; exact we_c fun _ _ => rfl
theorem kuH_ : WS (kxc_ δ h) Q E t u = Q (.rt .non) h := by exact propext Iff.rfl
theorem r_nx : WS (sNx δ h) Q E t u = Q (.nx δ) h := by exact propext Iff.rfl
theorem r_bk : WS (sBk δ h) Q E t u = Q (.bk δ) h := by exact propext Iff.rfl
theorem r_ct : WS (sCt δ h) Q E t u = Q (.ct δ) h := by exact propext Iff.rfl
theorem r_if : WS (sIf mc a b δ h) Q E t u = WE (mc δ h) (fun k h1 => Br k (WS (a δ h1) Q E .mk .mk) (WS (b δ h1) Q E .mk .mk) .mk .mk) (eS E δ) .mk .mk := by
  unfold sIf; rw [kT_]; refine we_c fun k h1 => ?_; cases k
  · rw [r_bf]; exact propext Iff.rfl
  · rw [r_bt]; exact propext Iff.rfl
theorem kxU_ {i j : Nat} {ms : Env → M (List D)} : WS (sPar i j ms δ h) Q E t u = WE (ms δ h) (fun ds h1 => WO (match ds with | [a, b] => some (a, b) | _ => none) (fun p => WN ((δ.set i (.val p.1)).set j (.val p.2)) (fun δ1 => Q (.nx δ1) h1) .mk) .mk) (eS E δ) .mk .mk := by
  unfold sPar; rw [kT_]; refine we_c fun ds h1 => ?_
  match ds with
  | [] => exact propext Iff.rfl
  | [_] => exact propext Iff.rfl
  | [_, _] => exact propext Iff.rfl
  | _ :: _ :: _ :: _ => exact propext Iff.rfl
theorem kxV_ {i : Nat} {f : Int → Int → Int} : WS (sAug i f m δ h) Q E t u = WV (δ[i]?) (fun a => WE (m δ h) (fun b h1 => WI a (fun x => WI b (fun y => WN (δ.set i (.val (.int (f x y)))) (fun δ1 => Q (.nx δ1) h1) .mk) .mk) .mk) (eS E δ) .mk .mk) .mk := by
  unfold sAug
  cases e : δ[i]? with
  | none => simp only [e]; exact propext Iff.rfl
  | some s =>
    cases s with
    | val a =>
      simp only [e]
      rw [r_wv, kT_]; refine we_c fun b h1 => ?_
      cases a <;> (cases b <;> exact propext Iff.rfl)
    | _ => exact propext Iff.rfl
theorem kxW_ {mo mi : Env → M D} : WS (sSub m mo mi δ h) Q E t u = WE (m δ h) (fun d h1 => WE (mo δ h1) (fun o h2 => WE (mi δ h2) (fun i h3 => WO (ownL h3 o) (fun kx => WI i (fun j => WO (ixN kx.2.length j) (fun n => Q (.nx δ) (h3.set kx.1 (.lst (kx.2.set n d)))) .mk) .mk) .mk) (eS E δ) .mk .mk) (eS E δ) .mk .mk) (eS E δ) .mk .mk := by
  unfold sSub; rw [kT_]; refine we_c fun d h1 => ?_; rw [kT_]; refine we_c fun o h2 => ?_; rw [kT_]; refine we_c fun i h3 => ?_
  cases e : ownL h3 o with
  | none => simp only [e]; exact propext Iff.rfl
  | some kx =>
    try simp only [e]
    rw [r_wo]
    cases i with
    | int j =>
      rw [r_wi]
      cases e2 : ixN kx.2.length j with
      | none => simp only [e2]; exact propext Iff.rfl
      | some n => simp only [e2]; exact propext Iff.rfl
    | _ => exact propext Iff.rfl
theorem ksC_ {C : Addr} {par : Str} : WS (kr9_ C par m δ h) Q E t u = WE (m δ h) (fun d h1 => E (.ref C) [par] [d] δ h1) (eS E δ) .mk .mk := by unfold kr9_; rw [kT_]; exact we_c fun _ _ => rfl
theorem kxX_ {mi : Env → M Its} {g : GD} : WS (sFor mi g b δ h) Q E t u = WE (mi δ h) (fun its h1 => WS (kgh_ g b its.ok its.xs δ h1) Q E .mk .mk) (eS E δ) .mk .mk := by unfold sFor; rw [kT_]
theorem kqj_ {C : Addr} {p1 p2 : Str} {m1 m2 : Env → M D} : WS (kph_ C p1 p2 m1 m2 δ h) Q E t u = WE (m1 δ h) (fun a h1 => WE (m2 δ h1) (fun b h2 => E (.ref C) [p2, p1] [b, a] δ h2) (eS E δ) .mk .mk) (eS E δ) .mk .mk := by unfold kph_; rw [kT_]; refine we_c fun a h1 => ?_; rw [kT_]; exact we_c fun _ _ => rfl
def krj_ (Q : D → OH → Prop) (f : Fl) (h : OH) : Prop := match f with
  | .rt d => Q d h
  | .nx _ => Q .non h
  | _ => False
def dS (E : EQ) : ES := fun C ns vs _ h => E C ns vs h
theorem r_ds {E : EQ} {C : Value} {ns : List Str} {vs : List D} : dS E C ns vs δ h = E C ns vs h := by exact propext Iff.rfl
theorem r_dR {d : D} : krj_ QD (.rt d) h = QD d h := by exact propext Iff.rfl
theorem r_dN : krj_ QD (.nx δ) h = QD .non h := by exact propext Iff.rfl
theorem kom_ {E : EQ} {u : Tg E} : WE (defE b δ h) QD E tD u = WS (b δ h) (krj_ QD) (dS E) .mk .mk := by
  unfold defE
  cases e : b δ h with
  | ok f h1 => cases f <;> (try simp only [e]; exact propext Iff.rfl)
  | exc _ _ _ _ _ => try simp only [e]; exact propext Iff.rfl
  | bad => try simp only [e]; exact propext Iff.rfl
theorem kuI_ {E : EQ} {u : Tg E} {n : Nat} {ds : List D} : WE (defM n b ds h) QD E tD u = WN (envOf n ds) (fun δ => WS (b δ h) (krj_ QD) (dS E) .mk .mk) .mk := by unfold defM; rw [kom_]; exact propext Iff.rfl
theorem kuJ_ {E : EQ} {u : Tg E} {K : PySem.W.Frag} {n : Nat} {ad : Addr} {ns : List Int} {ds : List D} : WE (kpi_ K n b ad ns ds h) QD E tD u = WN (.scr K ad ns :: envOf (n - 1) ds) (fun δ => WS (b δ h) (krj_ QD) (dS E) .mk .mk) .mk := by unfold kpi_; rw [kom_]; exact propext Iff.rfl
def WC (o : Option Sl) (K : PySem.W.Frag) (Q : Addr → List Int → Prop) (t : Tg Q) : Prop := match o with
  | some (.scr K' a ns) => K' = K ∧ Q a ns
  | _ => False
theorem r_wc {K : PySem.W.Frag} {Q : Addr → List Int → Prop} {t : Tg Q} {a : Addr} {ns : List Int} : WC (some (.scr K a ns)) K Q t = Q a ns := by exact propext ⟨fun z => z.2, fun z => ⟨rfl, z⟩⟩
theorem ktQ_ {E : EQ} {u : Tg E} {K : PySem.W.Frag} {i : Nat} {m : Addr → List Int → Env → M D} : WE (mScr K i m δ h) QD E tD u = WC (δ[i]?) K (fun a ns => WE (m a ns δ h) QD E .mk .mk) .mk := by
  unfold mScr
  cases e : δ[i]? with
  | none => simp only [e]; exact propext Iff.rfl
  | some s =>
    cases s with
    | scr K' a ns =>
      simp only [e]
      by_cases c : K' = K
      · subst c; rw [r_wc]; simp
      · rw [if_neg c]; exact propext ⟨fun z => z.elim, fun z => (c z.1).elim⟩
    | _ => simp only [e]; exact propext Iff.rfl
theorem wc_c {r : Option Sl} {K : PySem.W.Frag} {Q Q' : Addr → List Int → Prop} {t : Tg Q} {t' : Tg Q'} (e : ∀ a b, Q a b = Q' a b) : WC r K Q t = WC r K Q' t' := by
  have : Q = Q' := funext fun a => funext fun b => e a b
  subst this; rfl
theorem kqk_ {E : EQ} {u : Tg E} {K : PySem.W.Frag} {i : Nat} : WE (kjK_ K i δ h) QD E tD u = WC (δ[i]?) K (fun a ns => QD (.int ns.length) h) .mk := by unfold kjK_; rw [ktQ_]; exact wc_c fun _ _ => rfl
theorem ksD_ {E : EQ} {u : Tg E} {K : PySem.W.Frag} {i : Nat} : WE (kof_ K i m δ h) QD E tD u = WC (δ[i]?) K (fun a ns => WE (m δ h) (fun d h1 => WI d (fun j => WO (atI ns j) (fun c => QD (.int c) h1) .mk) .mk) E .mk .mk) .mk := by
  unfold kof_; rw [ktQ_]; refine wc_c fun a ns => ?_; rw [kM_]; refine we_c fun d h1 => ?_
  cases d with
  | int j => rw [r_wi]; cases e : atI ns j <;> (simp only [e]; exact propext Iff.rfl)
  | _ => exact propext Iff.rfl
theorem kxY_ {E : EQ} {u : Tg E} {K : PySem.W.Frag} {i n : Nat} {f : Addr → List Int → List D → M D} {ms : Env → M (List D)} : WE (mFnS K i n f ms δ h) QD E tD u = WC (δ[i]?) K (fun a ns => WE (ms δ h) (fun ds h1 => Nd (ds.length = n) (WE (f a ns ds h1) QD E .mk .mk) .mk) E .mk .mk) .mk := by
  unfold mFnS; rw [ktQ_]; refine wc_c fun a ns => ?_; rw [kM_]; refine we_c fun x h1 => ?_
  by_cases e : x.length = n
  · rw [if_pos e]; exact propext ⟨fun z => ⟨e, z⟩, fun z => z.2⟩
  · rw [if_neg e]; exact propext ⟨fun z => z.elim, fun z => (e z.1).elim⟩
theorem kxZ_ {w : Under} {cs : List Cs} : WS (sTry w b cs δ h) Q E t u = WS (b δ h) Q (fun C ns vs δ1 h1 => WS (kp2_ w cs C ns vs δ1 h1) Q E .mk .mk) .mk .mk := by
  unfold sTry; cases e : b δ h <;> (simp only [e]; exact propext Iff.rfl)
theorem kx0_ {w : Under} {C : Value} {ns : List Str} {vs : List D} : WS (kp2_ w [] C ns vs δ h) Q E t u = E C ns vs δ h := by exact propext Iff.rfl
def kpt_ (i : Nat) (Q : Fl → OH → Prop) (f : Fl) (h : OH) : Prop := match f with
  | .rt d => Q (.rt d) h
  | .nx δ => khR_ (δ.set i .un) = true ∧ Q (.nx (δ.set i .un)) h
  | .bk δ => khR_ (δ.set i .un) = true ∧ Q (.bk (δ.set i .un)) h
  | .ct δ => khR_ (δ.set i .un) = true ∧ Q (.ct (δ.set i .un)) h
theorem kx1_ {i : Nat} {d : D} : kpt_ i Q (.rt d) h = Q (.rt d) h := by exact propext Iff.rfl
theorem kx2_ {i : Nat} : kpt_ i Q (.nx δ) h = Nd (khR_ (δ.set i .un) = true) (WN (δ.set i .un) (fun δ => Q (.nx δ) h) .mk) .mk := by exact propext Iff.rfl
def ktR_ (C : Value) (c : Cs) (ns : List Str) (vs : List D) (δ : Env) (h : OH) (Q : Fl → OH → Prop) : Prop := match c.slot with
  | some i => Nd (C = .ref c.C) (WN (δ.set i (.exn ns vs)) (fun δ1 => WS (c.b δ1 h) (kpt_ i Q) noES .mk .mk) .mk) .mk
  | none => WS (c.b δ h) (kpt_ δ.length Q) noES .mk .mk
theorem ksE_ {r : RS} {i : Nat} (o : WS r (kpt_ i Q) noES .mk .mk) : WS (if kde_ (khw_ i r) = true then khw_ i r else .bad) Q E t u := by
  cases r with
  | ok f h1 =>
    cases f with
    | rt d => rw [if_pos (show kde_ (khw_ i (.ok (.rt d) h1)) = true from rfl)]; exact o
    | nx δ => rw [if_pos (show kde_ (khw_ i (.ok (.nx δ) h1)) = true from o.1)]; exact o.2
    | bk δ => rw [if_pos (show kde_ (khw_ i (.ok (.bk δ) h1)) = true from o.1)]; exact o.2
    | ct δ => rw [if_pos (show kde_ (khw_ i (.ok (.ct δ) h1)) = true from o.1)]; exact o.2
  | exc _ _ _ _ _ => exact o.elim
  | bad => exact o.elim
theorem kpu_ {r : RS} {i : Nat} (o : WS (if kde_ (khw_ i r) = true then khw_ i r else .bad) Q E t u) : WS r (kpt_ i Q) noES .mk .mk := by
  cases r with
  | ok f h1 =>
    cases f with
    | rt d => rw [if_pos (show kde_ (khw_ i (.ok (.rt d) h1)) = true from rfl)] at o; exact o
    | nx δ =>
      by_cases c : kde_ (khw_ i (.ok (.nx δ) h1)) = true
      · rw [if_pos c] at o; exact ⟨c, o⟩
      · rw [if_neg c] at o; exact o.elim
    | bk δ =>
      by_cases c : kde_ (khw_ i (.ok (.bk δ) h1)) = true
      · rw [if_pos c] at o; exact ⟨c, o⟩
      · rw [if_neg c] at o; exact o.elim
    | ct δ =>
      by_cases c : kde_ (khw_ i (.ok (.ct δ) h1)) = true
      · rw [if_pos c] at o; exact ⟨c, o⟩
      · rw [if_neg c] at o; exact o.elim
  | exc C' ns' vs' δ' h' => rw [if_pos (show kde_ (khw_ i (.exc C' ns' vs' δ' h')) = true from rfl)] at o; exact o.elim
  | bad => rw [if_pos (show kde_ (khw_ i .bad) = true from rfl)] at o; exact o.elim
theorem kx3_ {w : Under} {c : Cs} {cs : List Cs} {C : Value} {ns : List Str} {vs : List D} : WS (kp2_ w (c :: cs) C ns vs δ h) Q E t u = WO (w C c.C) (fun k => Br k (Nd (khR_ δ = true) (ktR_ C c ns vs δ h Q) .mk) (WS (kp2_ w cs C ns vs δ h) Q E .mk .mk) .mk .mk) .mk := by
  conv => lhs; unfold kp2_
  cases e : w C c.C with
  | none => try simp only [e]; exact propext Iff.rfl
  | some k =>
    try simp only [e]
    rw [r_wo]
    cases k with
    | false => rw [r_bf]
    | true =>
      rw [r_bt]
      by_cases n : khR_ δ = true
      · simp only [if_pos n]
        unfold ktR_
        obtain ⟨cC, slot, cb⟩ := c
        cases slot with
        | none =>
          dsimp only
          exact propext ⟨fun o => ⟨n, kpu_ o⟩, fun o => ksE_ o.2⟩
        | some i =>
          dsimp only
          by_cases q : C = .ref cC
          · refine propext ⟨fun o => ⟨n, q, ?_⟩, fun o => ?_⟩
            · refine kpu_ (E := E) (t := .mk) (u := .mk) (i := i) ?_
              by_cases z : kde_ (khw_ i (cb (δ.set i (.exn ns vs)) h)) = true
              · rw [if_pos ⟨q, z⟩] at o; rw [if_pos z]; exact o
              · rw [if_neg fun y => z y.2] at o; exact o.elim
            · have o := ksE_ (Q := Q) (E := E) (t := .mk) (u := .mk) o.2.2
              by_cases z : kde_ (khw_ i (cb (δ.set i (.exn ns vs)) h)) = true
              · rw [if_pos z] at o; rw [if_pos ⟨q, z⟩]; exact o
              · rw [if_neg z] at o; exact o.elim
          · refine propext ⟨fun o => ?_, fun o => (q o.2.1).elim⟩
            rw [if_neg fun z => q z.1] at o
            exact o.elim
      · simp only [if_neg n]; exact propext ⟨fun z => z.elim, fun z => (n z.1).elim⟩
theorem kuK_ {C : Value} {c : Addr} {i : Nat} {b : MS} {ns : List Str} {vs : List D} : ktR_ C ⟨c, some i, b⟩ ns vs δ h Q = Nd (C = .ref c) (WN (δ.set i (.exn ns vs)) (fun δ1 => WS (b δ1 h) (kpt_ i Q) noES .mk .mk) .mk) .mk := by exact propext Iff.rfl
theorem kuL_ {C : Value} {c : Addr} {b : MS} {ns : List Str} {vs : List D} : ktR_ C ⟨c, none, b⟩ ns vs δ h Q = WS (b δ h) (kpt_ δ.length Q) noES .mk .mk := by exact propext Iff.rfl
theorem kuM_ {n : Nat} : WS (kwu_ n m δ h) Q E t u = WE (m δ h) (fun d h1 => Q (.rt d) h1) (fun C ns vs h1 => E C ns vs (List.replicate n .un) h1) .mk .mk := by unfold kwu_; cases e : m δ h <;> (simp only [e]; exact propext Iff.rfl)
def WX (o : Option Sl) (a : Str) (Q : D → Prop) (t : Tg Q) : Prop := match o with
  | some (.exn ns ds) => WO ((ns.zip ds).lookup a) Q t
  | _ => False
theorem r_wx {a : Str} {Q : D → Prop} {t : Tg Q} {d : D} {ns : List Str} {ds : List D} : WX (some (.exn (a :: ns) (d :: ds))) a Q t = Q d := by
  show WO (((a :: ns).zip (d :: ds)).lookup a) Q t = Q d
  rw [List.zip_cons_cons, List.lookup_cons]
  simp only [beq_self_eq_true]
  exact propext Iff.rfl
theorem kx4_ {Q : D → Prop} {t : Tg Q} {d e : D} : WX (some (.exn ["other", "one"] [e, d])) "one" Q t = Q d := by exact propext Iff.rfl
theorem kx5_ {Q : D → Prop} {t : Tg Q} {d e : D} : WX (some (.exn ["reason", "step"] [e, d])) "step" Q t = Q d := by exact propext Iff.rfl
theorem kx6_ {E : EQ} {u : Tg E} {i : Nat} {a : Str} : WE (mExn i a δ h) QD E tD u = WX (δ[i]?) a (fun d => QD d h) .mk := by
  unfold mExn
  cases e : δ[i]? with
  | none => simp only [e]; exact propext Iff.rfl
  | some s =>
    cases s with
    | exn ns ds =>
      dsimp only
      show _ = WO ((ns.zip ds).lookup a) (fun d => QD d h) .mk
      cases q : (ns.zip ds).lookup a with
      | none => exact propext Iff.rfl
      | some d => exact propext Iff.rfl
    | _ => exact propext Iff.rfl
end
end Z
set_option Elab.async false
set_option linter.all false
set_option maxRecDepth 100000
set_option maxHeartbeats 4000000
namespace Z
open PySem PySem.Spec PyProof.Rows L2 TL Y
open Classical
def hL (o : Option OO) : Option (List D) := match o with
  | some (.lst xs) => some xs
  | _ => none
def hT (o : Option OO) : Option String := match o with
  | some (.lst _) => some "list"
  | some (.dct _ _) => some "dict"
  | some (.dcT _ _) => some "dict"
  | some (.mix _ _) => some "dict"
  | _ => none
theorem hL_s {xs : List D} : hL (some (.lst xs)) = some xs := rfl
theorem hT_l {xs : List D} : hT (some (.lst xs)) = some "list" := rfl
theorem hT_d {ks : List Key} {vs : List D} : hT (some (.dct ks vs)) = some "dict" := rfl
theorem hT_t {ks : List (List Key)} {vs : List D} : hT (some (.dcT ks vs)) = some "dict" := rfl
section
variable {h : OH} {i j : Int} {a b : Str} {x y d : D} {xs ys : List D} {k : Nat} {r : Bool}
theorem kx7_ : tyS h .non = some "NoneType" := rfl
theorem kx8_ : tyS h (.bl r) = some "bool" := rfl
theorem kx9_ : tyS h (.int i) = some "int" := rfl
theorem kya_ : tyS h (.str a) = some "str" := rfl
theorem kyb_ : tyS h (.lst xs) = some "list" := rfl
theorem kyc_ : tyS h (.tup xs) = some "tuple" := rfl
theorem kyd_ {ks : List Key} {vs : List D} : tyS h (.dct ks vs) = some "dict" := rfl
theorem kuN_ : tyS h (.ptr k) = hT (h[k]?) := by
  show (match h[k]? with | some (.lst _) => _ | some (.dct _ _) => _ | some (.dcT _ _) => _ | some (.mix _ _) => _ | _ => _) = _
  cases e : h[k]? with
  | none => rfl
  | some o => cases o <;> rfl
theorem kgk_ : kitB "NoneType" "int" = some false := by decide +kernel
theorem keQ_ : kitB "NoneType" "bool" = some false := by decide +kernel
theorem kgl_ : kitB "NoneType" "str" = some false := by decide +kernel
theorem keb_ : kitB "NoneType" "tuple" = some false := by decide +kernel
theorem keR_ : kitB "NoneType" "list" = some false := by decide +kernel
theorem keS_ : kitB "NoneType" "dict" = some false := by decide +kernel
theorem klS_ : kitB "bool" "int" = some true := by decide +kernel
theorem kkB_ : kitB "bool" "bool" = some true := by decide +kernel
theorem klT_ : kitB "bool" "str" = some false := by decide +kernel
theorem kjU_ : kitB "bool" "tuple" = some false := by decide +kernel
theorem kkC_ : kitB "bool" "list" = some false := by decide +kernel
theorem kkD_ : kitB "bool" "dict" = some false := by decide +kernel
theorem kmX_ : kitB "int" "int" = some true := by decide +kernel
theorem klU_ : kitB "int" "bool" = some false := by decide +kernel
theorem kmY_ : kitB "int" "str" = some false := by decide +kernel
theorem kkE_ : kitB "int" "tuple" = some false := by decide +kernel
theorem klV_ : kitB "int" "list" = some false := by decide +kernel
theorem klW_ : kitB "int" "dict" = some false := by decide +kernel
theorem kmZ_ : kitB "str" "int" = some false := by decide +kernel
theorem klX_ : kitB "str" "bool" = some false := by decide +kernel
theorem km0_ : kitB "str" "str" = some true := by decide +kernel
theorem kkF_ : kitB "str" "tuple" = some false := by decide +kernel
theorem klY_ : kitB "str" "list" = some false := by decide +kernel
theorem klZ_ : kitB "str" "dict" = some false := by decide +kernel
theorem kl0_ : kitB "list" "int" = some false := by decide +kernel
theorem kkG_ : kitB "list" "bool" = some false := by decide +kernel
theorem kl1_ : kitB "list" "str" = some false := by decide +kernel
theorem kjV_ : kitB "list" "tuple" = some false := by decide +kernel
theorem kkH_ : kitB "list" "list" = some true := by decide +kernel
theorem kkI_ : kitB "list" "dict" = some false := by decide +kernel
theorem kkJ_ : kitB "tuple" "int" = some false := by decide +kernel
theorem kjW_ : kitB "tuple" "bool" = some false := by decide +kernel
theorem kkK_ : kitB "tuple" "str" = some false := by decide +kernel
theorem khV_ : kitB "tuple" "tuple" = some true := by decide +kernel
theorem kjX_ : kitB "tuple" "list" = some false := by decide +kernel
theorem kjY_ : kitB "tuple" "dict" = some false := by decide +kernel
theorem kl2_ : kitB "dict" "int" = some false := by decide +kernel
theorem kkL_ : kitB "dict" "bool" = some false := by decide +kernel
theorem kl3_ : kitB "dict" "str" = some false := by decide +kernel
theorem kjZ_ : kitB "dict" "tuple" = some false := by decide +kernel
theorem kkM_ : kitB "dict" "list" = some false := by decide +kernel
theorem kkN_ : kitB "dict" "dict" = some true := by decide +kernel
theorem q_l0 : kW_ h (.ptr k) = hL (h[k]?) := by
  show (match h[k]? with | some (.lst xs) => some xs | _ => none) = _
  cases e : h[k]? with
  | none => rfl
  | some o => cases o <;> rfl
theorem q_l1 : kW_ h (.lst xs) = some xs := rfl
theorem q_l2 : kW_ h (.tup xs) = none := rfl
theorem q_t1 : kjD_ (.tup xs) = some xs := rfl
theorem q_t2 : kjD_ (.lst xs) = none := rfl
theorem q_t3 : kjD_ (.ptr k) = none := rfl
theorem q_s1 : kgd_ h (.lst xs) = some xs := rfl
theorem q_s2 : kgd_ h (.tup xs) = some xs := rfl
theorem q_s3 : kgd_ h (.ptr k) = hL (h[k]?) := by unfold kgd_; rw [q_l0]; cases hL h[k]? <;> rfl
theorem kye_ : (ofTy "str" h (.str a) = true) = True := propext ⟨fun _ => trivial, fun _ => rfl⟩
theorem kyf_ : (ofTy "list" h (.lst xs) = true) = True := propext ⟨fun _ => trivial, fun _ => rfl⟩
theorem kyg_ : (ofTy "list" h (.ptr k) = true) = ((hL (h[k]?)).isSome = true) := by
  show ((("list" == "list") && (kW_ h (.ptr k)).isSome) = true) = _
  rw [q_l0]; rfl
theorem q_ow : ownL h (.ptr k) = (hL (h[k]?)).map fun xs => (k, xs) := by
  show (match h[k]? with | some (.lst xs) => some (k, xs) | _ => none) = _
  cases e : h[k]? with
  | none => rfl
  | some o => cases o <;> rfl
theorem kuO_ : dAdd h (.int i) (.int j) = some (.int (i + j)) := rfl
theorem kuP_ : iSub h (.int i) (.int j) = some (.int (i - j)) := rfl
section
variable {Q : D → Prop} {t : Tg Q}
theorem kuQ_ : WO (dMul h (.int i) (.int j)) Q t = Nd ((-(2 ^ 64) < i ∧ i < 2 ^ 64) ∨ (-(2 ^ 64) < j ∧ j < 2 ^ 64)) (Q (.int (i * j))) .mk := by
  have e : dMul h (.int i) (.int j) = if (-(2 ^ 64) < i ∧ i < 2 ^ 64) ∨ (-(2 ^ 64) < j ∧ j < 2 ^ 64) then some (.int (i * j)) else none := by
    show ((if (-(2 ^ 64) < i ∧ i < 2 ^ 64) ∨ (-(2 ^ 64) < j ∧ j < 2 ^ 64) then some (D.int (i * j)) else none).or none) = _
    split <;> rfl
  rw [e]
  split
  · rename_i c; exact propext ⟨fun z => ⟨c, z⟩, fun z => z.2⟩
  · rename_i c; exact propext ⟨fun z => z.elim, fun z => (c z.1).elim⟩
theorem kn3_ {α : Type} {c : Prop} {_ : Decidable c} {z : α} {Q : α → Prop} {t : Tg Q} : WO (if c then some z else none) Q t = Nd c (Q z) .mk := by
  by_cases e : c
  · rw [if_pos e]; exact propext ⟨fun z => ⟨e, z⟩, fun z => z.2⟩
  · rw [if_neg e]; exact propext ⟨fun z => z.elim, fun z => (e z.1).elim⟩
theorem kyh_ : WO (iMod h (.int i) (.int j)) Q t = Nd (j ≠ 0) (Q (.int (i.fmod j))) .mk := kn3_
theorem kyi_ : WO (iDiv h (.int i) (.int j)) Q t = Nd (j ≠ 0 ∧ j.natAbs < 1073741824) (Q (.int (i.fdiv j))) .mk := kn3_
theorem kyj_ : WO (iPow h (.int i) (.int j)) Q t = Nd (0 ≤ j ∧ j ≤ 1000000 ∧ i.natAbs < 2 ^ 64) (Q (.int (i ^ j.toNat))) .mk := kn3_
theorem kuR_ : WO (dAdd h (.str a) (.str b)) Q t = Nd (a.length + b.length ≤ lim) (Q (.str (a ++ b))) .mk := by
  have e : dAdd h (.str a) (.str b) = if a.length + b.length ≤ lim then some (.str (a ++ b)) else none := by
    show ((none : Option D).or ((if a.length + b.length ≤ lim then some (D.str (a ++ b)) else none).or none)) = _
    split <;> rfl
  rw [e]; exact kn3_
theorem kuS_ : WO (dAdd h (.lst xs) (.lst ys)) Q t = Nd (xs.length + ys.length ≤ lim) (Q (.lst (xs ++ ys))) .mk := by
  have e : dAdd h (.lst xs) (.lst ys) = if xs.length + ys.length ≤ lim then some (.lst (xs ++ ys)) else none := by
    show ((none : Option D).or ((none : Option D).or ((if xs.length + ys.length ≤ lim then some (D.lst (xs ++ ys)) else none).or none))) = _
    split <;> rfl
  rw [e]; exact kn3_
theorem ksF_ : WO (dAdd h (.lst xs) (.ptr k)) Q t = WO (hL (h[k]?)) (fun ys => Nd (xs.length + ys.length ≤ lim) (Q (.lst (xs ++ ys))) .mk) .mk := by
  have e : dAdd h (.lst xs) (.ptr k) = (hL (h[k]?)).bind fun ys => if xs.length + ys.length ≤ lim then some (.lst (xs ++ ys)) else none := by
    show ((none : Option D).or ((none : Option D).or ((match kW_ h (.lst xs), kW_ h (.ptr k) with
      | some xs, some ys => if xs.length + ys.length ≤ lim then some (D.lst (xs ++ ys)) else none
      | _, _ => none).or none))) = _
    rw [q_l0]
    cases hL h[k]? with
    | none => rfl
    | some ys => rw [q_l1]; dsimp only [Option.bind_some]; split <;> rfl
  rw [e]
  cases hL h[k]? with
  | none => exact propext Iff.rfl
  | some ys => rw [r_wo]; exact kn3_
theorem ksG_ : WO (dAdd h (.ptr k) (.lst ys)) Q t = WO (hL (h[k]?)) (fun xs => Nd (xs.length + ys.length ≤ lim) (Q (.lst (xs ++ ys))) .mk) .mk := by
  have e : dAdd h (.ptr k) (.lst ys) = (hL (h[k]?)).bind fun xs => if xs.length + ys.length ≤ lim then some (.lst (xs ++ ys)) else none := by
    show ((none : Option D).or ((none : Option D).or ((match kW_ h (.ptr k), kW_ h (.lst ys) with
      | some xs, some ys => if xs.length + ys.length ≤ lim then some (D.lst (xs ++ ys)) else none
      | _, _ => none).or none))) = _
    rw [q_l0]
    cases hL h[k]? with
    | none => rfl
    | some xs => rw [q_l1]; dsimp only [Option.bind_some]; split <;> rfl
  rw [e]
  cases hL h[k]? with
  | none => exact propext Iff.rfl
  | some ys => rw [r_wo]; exact kn3_
theorem kuT_ : WO (dMul h (.str a) (.int i)) Q t = Nd (-100000 ≤ i ∧ i ≤ 100000 ∧ i.toNat * a.length ≤ 1000000) (Q (.str (Txt.mul a i))) .mk := by
  have e : dMul h (.str a) (.int i) = if -100000 ≤ i ∧ i ≤ 100000 ∧ i.toNat * a.length ≤ 1000000 then some (.str (Txt.mul a i)) else none := by
    show ((none : Option D).or ((if -100000 ≤ i ∧ i ≤ 100000 ∧ i.toNat * a.length ≤ 1000000 then some (D.str (Txt.mul a i)) else none).or none)) = _
    split <;> rfl
  rw [e]; exact kn3_
end
theorem q_lt : iLt h (.int i) (.int j) = some (.bl (decide (i < j))) := rfl
theorem q_le : iLe h (.int i) (.int j) = some (.bl (decide (i ≤ j))) := rfl
theorem q_gt : iGt h (.int i) (.int j) = some (.bl (decide (j < i))) := rfl
theorem q_ge : iGe h (.int i) (.int j) = some (.bl (decide (j ≤ i))) := rfl
theorem kwQ_ : dIx h (.lst xs) (.int i) = atI xs i := by
  show (atI xs i).or ((none : Option D).or none) = _
  cases atI xs i <;> rfl
theorem kyk_ : dIx h (.tup xs) (.int i) = atI xs i := by
  show (none : Option D).or ((atI xs i).or none) = _
  cases atI xs i <;> rfl
theorem kyl_ : dIx h (.ptr k) (.int i) = (hL (h[k]?)).bind fun xs => atI xs i := by
  show (lIx h (.ptr k) (.int i)).or ((none : Option D).or none) = _
  unfold lIx
  rw [q_l0]
  cases hL h[k]? with
  | none => rfl
  | some xs => dsimp only [Option.bind_some]; cases atI xs i <;> rfl
theorem kym_ : dIx h (.str a) (.int i) = (atI (tl a) i).map fun c => .str ⟨#[c]⟩ := by
  show (none : Option D).or ((none : Option D).or ((atI (tl a) i).map _)) = _
  cases atI (tl a) i <;> rfl
theorem q_at {α : Type} {xs : List α} {n : Nat} (hn : n < xs.length) : atI xs (n : Int) = xs[n]? := by
  unfold atI ixN
  rw [if_pos (Int.natCast_nonneg n), if_pos (by omega)]
  rfl
theorem at0 {α : Type} {x : α} {xs : List α} : atI (x :: xs) 0 = some x := by rw [show (0 : Int) = ((0 : Nat) : Int) from rfl, q_at (by simp)]; rfl
theorem at1 {α : Type} {x y : α} {xs : List α} : atI (x :: y :: xs) 1 = some y := by rw [show (1 : Int) = ((1 : Nat) : Int) from rfl, q_at (by simp)]; rfl
theorem at2 {α : Type} {x y z : α} {xs : List α} : atI (x :: y :: z :: xs) 2 = some z := by rw [show (2 : Int) = ((2 : Nat) : Int) from rfl, q_at (by simp)]; rfl
theorem at3 {α : Type} {x y z w : α} {xs : List α} : atI (x :: y :: z :: w :: xs) 3 = some w := by rw [show (3 : Int) = ((3 : Nat) : Int) from rfl, q_at (by simp)]; rfl
theorem kuU_ : oLen h [.str a] = some (.int a.length) := rfl
theorem ksH_ : oLen h [.lst xs] = some (.int xs.length) := rfl
theorem ksI_ : oLen h [.tup xs] = some (.int xs.length) := rfl
theorem ksJ_ : oLen h [.ptr k] = (hL (h[k]?)).map fun xs => .int xs.length := by
  show (kgd_ h (.ptr k)).map _ = _
  rw [q_s3]
theorem kyn_ : oMax h [.int i, .int j] = some (.int (if j > i then j else i)) := rfl
theorem kyo_ : oMin h [.int i, .int j] = some (.int (if j < i then j else i)) := rfl
theorem kuV_ : kxa_ h [x] = kgd_ h x := rfl
theorem kyp_ : oTup h [x] = (kgd_ h x).map .tup := rfl
theorem kyq_ {Q : D → Prop} {t : Tg Q} : WO (oStr h [.int i]) Q t = Nd (i.natAbs.log2 < 1920) (Q (.str (toString i))) .mk := kn3_
theorem q_fs : fmtD (.str a) = some a := rfl
theorem q_fi {Q : Str → Prop} {t : Tg Q} : WO (fmtD (.int i)) Q t = Nd (i.natAbs.log2 < 1920) (Q (toString i)) .mk := kn3_
theorem kyr_ {lo hi : Option Int} : slA h (.str a) lo hi = some (.str (cutS a lo hi)) := rfl
theorem kys_ {lo hi : Option Int} : slA h (.tup xs) lo hi = some (.tup (cutD xs lo hi)) := rfl
theorem kyt_ {lo hi : Option Int} : slA h (.lst xs) lo hi = some (.lst (cutD xs lo hi)) := rfl
theorem kyu_ {lo hi : Option Int} : slA h (.ptr k) lo hi = (hL (h[k]?)).map fun xs => .lst (cutD xs lo hi) := by
  show (none : Option D).or ((kW_ h (.ptr k)).map _) = _
  rw [q_l0]; cases hL h[k]? <;> rfl
section
variable {Q : D → OH → Prop} {t : Tg Q}
theorem ktS_ {c : Prop} {_ : Decidable c} {z : D} {h' : OH} : WM (if c then some (z, h') else none) Q t = Nd c (Q z h') .mk := by
  by_cases e : c
  · rw [if_pos e]; exact propext ⟨fun z => ⟨e, z⟩, fun z => z.2⟩
  · rw [if_neg e]; exact propext ⟨fun z => z.elim, fun z => (e z.1).elim⟩
theorem kql_ : klN_ h (.str a) [.str b] = some (.bl (Txt.startswith a b), h) := rfl
theorem kuW_ : koc_ h (.str a) [.str b] = some (.bl (Txt.endswith a b), h) := rfl
theorem ksK_ : kua_ h (.str a) [.str b] = some (.str (Txt.stripChars a b), h) := rfl
theorem kqm_ : kr0_ h (.str a) [.str b] = some (.str (Txt.lstripChars a b), h) := rfl
theorem kqn_ : kr1_ h (.str a) [.str b] = some (.str (Txt.rstripChars a b), h) := rfl
theorem kuX_ : WM (kxb_ h (.str a) [.str b]) Q t = Nd ((b.length == 0) = false) (Q (.tup [.str (Txt.partition a b).1, .str (Txt.partition a b).2.1, .str (Txt.partition a b).2.2]) h) .mk := ktS_
theorem kuY_ : WM (kwq_ h (.str a) [x]) Q t = WO (kgd_ h x) (fun xs => WO (strsOf xs) (fun ys => Nd ((ys.map (·.length)).sum + ys.length * a.length ≤ lim) (Q (.str (Txt.join a ys)) h) .mk) .mk) .mk := by
  unfold kwq_
  dsimp only
  cases kgd_ h x with
  | none => exact propext Iff.rfl
  | some xs =>
    rw [r_wo]
    dsimp only
    cases strsOf xs with
    | none => exact propext Iff.rfl
    | some ys => rw [r_wo]; exact ktS_
theorem q_app : WM (kjJ_ h (.ptr k) [y]) Q t = WO (hL (h[k]?)) (fun xs => Nd (xs.length < lim) (Q .non (h.set k (.lst (xs ++ [y])))) .mk) .mk := by
  unfold kjJ_
  rw [q_ow]
  cases hL h[k]? with
  | none => exact propext Iff.rfl
  | some xs => rw [r_wo]; exact ktS_
theorem ksL_ : WM (krZ_ h (.ptr k) []) Q t = WO (hL (h[k]?)) (fun xs => Q .non (h.set k (.lst []))) .mk := by
  unfold krZ_
  rw [q_ow]
  cases hL h[k]? <;> exact propext Iff.rfl
theorem kyv_ : WM (kpd_ h (.ptr k) [x]) Q t = WO (hL (h[k]?)) (fun xs => WO (kW_ h x) (fun ys => Nd (xs.length + ys.length ≤ lim) (Q .non (h.set k (.lst (xs ++ ys)))) .mk) .mk) .mk := by
  unfold kpd_
  rw [q_ow]
  cases hL h[k]? with
  | none => exact propext Iff.rfl
  | some xs =>
    rw [r_wo]
    dsimp only [Option.map_some]
    cases kW_ h x with
    | none => exact propext Iff.rfl
    | some ys => rw [r_wo]; exact ktS_
theorem kuZ_ : WM (oPop h (.ptr k) []) Q t = WO (hL (h[k]?)) (fun xs => WO (xs[xs.length - 1]?) (fun y => Q y (h.set k (.lst xs.dropLast))) .mk) .mk := by
  unfold oPop
  rw [q_ow]
  cases hL h[k]? with
  | none => exact propext Iff.rfl
  | some xs =>
    rw [r_wo]
    dsimp only [Option.map_some]
    cases xs[xs.length - 1]? <;> exact propext Iff.rfl
theorem ku0_ : WM (oPop h (.ptr k) [.int i]) Q t = WO (hL (h[k]?)) (fun xs => Nd (-(2 ^ 63) ≤ i ∧ i < 2 ^ 63) (WO (seqIndex? i xs.length) (fun j => WO (xs[j]?) (fun y => Q y (h.set k (.lst (xs.eraseIdx j)))) .mk) .mk) .mk) .mk := by
  unfold oPop
  rw [q_ow]
  cases hL h[k]? with
  | none => exact propext Iff.rfl
  | some xs =>
    rw [r_wo]
    dsimp only [Option.map_some]
    by_cases c : -(2 ^ 63) ≤ i ∧ i < 2 ^ 63
    · rw [if_pos c]
      cases seqIndex? i xs.length with
      | none => exact propext ⟨fun z => z.elim, fun z => z.2.elim⟩
      | some j =>
        rw [Option.bind_some, r_wo]
        cases xs[j]? with
        | none => exact propext ⟨fun z => z.elim, fun z => z.2.elim⟩
        | some y => exact propext ⟨fun z => ⟨c, z⟩, fun z => z.2⟩
    · rw [if_neg c]; exact propext ⟨fun z => z.elim, fun z => (c z.1).elim⟩
end
theorem kyw_ : truD h .non = some false := rfl
theorem kyx_ : truD h (.bl r) = some r := rfl
theorem kyy_ : truD h (.int i) = some (i != 0) := rfl
theorem kyz_ : truD h (.lst xs) = some (!xs.isEmpty) := rfl
theorem kyA_ : truD h (.tup xs) = some (!xs.isEmpty) := rfl
theorem kyB_ : truD h (.str a) = some ((a.length : Int) != 0) := rfl
theorem km1_ (x y : Str) : PyData.eqv (.str x) (.str y) = decide (x = y) := by
  show (x == y) = _
  by_cases h : x = y
  · rw [decide_eq_true h]; exact beq_iff_eq.mpr h
  · rw [decide_eq_false h]; exact beq_eq_false_iff_ne.mpr h
theorem km2_ (x y : Int) : PyData.eqv (.int x) (.int y) = decide (x = y) := by
  show (x == y) = _
  by_cases h : x = y
  · rw [decide_eq_true h]; exact beq_iff_eq.mpr h
  · rw [decide_eq_false h]; exact beq_eq_false_iff_ne.mpr h
theorem kyC_ : pEq false h (.str a) (.str b) = some (.bl (decide (a = b))) := by
  show some (D.bl (PyData.eqv (.str a) (.str b))) = _
  rw [km1_]
theorem kyD_ : pEq false h (.int i) (.int j) = some (.bl (decide (i = j))) := by
  show some (D.bl (PyData.eqv (.int i) (.int j))) = _
  rw [km2_]
theorem kyE_ : pEq true h (.str a) (.str b) = some (.bl (decide (¬ a = b))) := by
  show some (D.bl (!PyData.eqv (.str a) (.str b))) = _
  rw [km1_, decide_not]
theorem kyF_ : pEq true h (.int i) (.int j) = some (.bl (decide (¬ i = j))) := by
  show some (D.bl (!PyData.eqv (.int i) (.int j))) = _
  rw [km2_, decide_not]
theorem kyG_ {s : Bool} : pIsB false h (.bl r) (.bl s) = some (.bl (r == s)) := by cases r <;> cases s <;> rfl
theorem ku1_ {s : Bool} : pIsB true h (.bl r) (.bl s) = some (.bl (!(r == s))) := by cases r <;> cases s <;> rfl
end
theorem q_gn {i : Nat} {d : D} {δ : Env} : gNm i d δ = some (δ.set i (.val d)) := rfl
theorem kyH_ {gs : List GD} {xs : List D} {δ : Env} : gTp gs (.tup xs) δ = if xs.length = gs.length then gAll gs xs δ else none := rfl
theorem kyI_ {gs : List GD} {xs : List D} {δ : Env} : gTp gs (.lst xs) δ = if xs.length = gs.length then gAll gs xs δ else none := rfl
theorem kyJ_ {δ : Env} : gAll [] [] δ = some δ := rfl
theorem kyK_ {g : GD} {gs : List GD} {d : D} {ds : List D} {δ : Env} : gAll (g :: gs) (d :: ds) δ = (g d δ).bind fun δ1 => gAll gs ds δ1 := by
  rfl
theorem ku2_ {n : Nat} {d : D} {ds : List D} : envOf (n + 1) (d :: ds) = .val d :: envOf n ds := by
  unfold envOf
  rw [List.map_cons, List.length_cons, Nat.add_sub_add_right]; rfl
theorem ku3_ : envOf 0 [] = [] := rfl
theorem ku4_ {n : Nat} : envOf (n + 1) [] = .un :: envOf n [] := by
  unfold envOf; rfl
theorem kyL_ : kbX_ (clean []) = [] := rfl
theorem kyM_ {d : D} {δ : Env} : kbX_ (clean (.val d :: δ)) = .val d :: kbX_ (clean δ) := rfl
theorem kyN_ {δ : Env} : kbX_ (clean (.un :: δ)) = .un :: kbX_ (clean δ) := rfl
theorem kyO_ {f c : Addr} {q : Str} {σ : List (Option V)} {ds : List (Option D)} {δ : Env} : kbX_ (clean (.fn f c q σ ds :: δ)) = .un :: kbX_ (clean δ) := rfl
theorem kyP_ {K : PySem.W.Frag} {a : Addr} {ns : List Int} {δ : Env} : kbX_ (clean (.scr K a ns :: δ)) = .un :: kbX_ (clean δ) := rfl
theorem kyQ_ {ns : List Str} {vs : List D} {δ : Env} : kbX_ (clean (.exn ns vs :: δ)) = .un :: kbX_ (clean δ) := rfl
theorem kyR_ : khR_ [] = true := rfl
theorem kyS_ {d : D} {δ : Env} : khR_ (.val d :: δ) = khR_ δ := rfl
theorem kyT_ {δ : Env} : khR_ (.un :: δ) = khR_ δ := rfl
theorem kyU_ {f c : Addr} {q : Str} {σ : List (Option V)} {ds : List (Option D)} {δ : Env} : khR_ (.fn f c q σ ds :: δ) = khR_ δ := rfl
theorem kyV_ {K : PySem.W.Frag} {a : Addr} {ns : List Int} {δ : Env} : khR_ (.scr K a ns :: δ) = khR_ δ := rfl
theorem kyW_ {δ : Env} : kgi_ δ [] = δ := rfl
theorem kyX_ {δ : Env} {v : Nat} {vs : List Nat} : kgi_ δ (v :: vs) = (kgi_ δ vs).set v .un := rfl
theorem kyY_ {l : List Addr} {a c : Addr} : under l (.ref a) c = if a = c then (if a ∈ l then some true else none) else (if a ∈ l ∧ c ∈ l then some false else none) := rfl
end Z
set_option Elab.async false
set_option linter.all false
set_option maxRecDepth 100000
set_option maxHeartbeats 4000000
namespace Z
open PySem PySem.Spec PyProof.Rows L2 TL Y
open Classical
section
variable {Q : Fl → OH → Prop} {E : ES} {t : Tg Q} {u : Tg E} {h : OH} {δ : Env} {g : GD} {b : MS} {ok : OH → Prop} {c : Env → M Bool}
def fQ (g : GD) (b : MS) (ok : OH → Prop) (ds : List D) (Q : Fl → OH → Prop) (E : ES) (f : Fl) (h : OH) : Prop := match f with
  | .nx δ => Nd (ok h) (WS (kgh_ g b ok ds δ h) Q E .mk .mk) .mk
  | .ct δ => Nd (ok h) (WS (kgh_ g b ok ds δ h) Q E .mk .mk) .mk
  | .bk δ => Q (.nx δ) h
  | .rt d => Q (.rt d) h
theorem kyZ_ {ds : List D} : fQ g b ok ds Q E (.nx δ) h = Nd (ok h) (WS (kgh_ g b ok ds δ h) Q E .mk .mk) .mk := by exact propext Iff.rfl
theorem ky0_ {ds : List D} : fQ g b ok ds Q E (.ct δ) h = Nd (ok h) (WS (kgh_ g b ok ds δ h) Q E .mk .mk) .mk := by exact propext Iff.rfl
theorem ky1_ {ds : List D} : fQ g b ok ds Q E (.bk δ) h = Q (.nx δ) h := by exact propext Iff.rfl
theorem ky2_ {ds : List D} {d : D} : fQ g b ok ds Q E (.rt d) h = Q (.rt d) h := by exact propext Iff.rfl
theorem ky3_ : WS (kgh_ g b ok [] δ h) Q E t u = Q (.nx δ) h := by exact propext Iff.rfl
theorem ku5_ {d : D} {ds : List D} : WS (kgh_ g b ok (d :: ds) δ h) Q E t u = WO (g d δ) (fun δ1 => WN δ1 (fun δ1 => WS (b δ1 h) (fQ g b ok ds Q E) E .mk .mk) .mk) .mk := by
  conv => lhs; unfold kgh_
  cases e : g d δ with
  | none => exact propext Iff.rfl
  | some δ1 =>
    rw [r_wo]
    show WS (match b δ1 h with
      | .ok (.nx δ2) h2 => if ok h2 then kgh_ g b ok ds δ2 h2 else .bad
      | .ok (.ct δ2) h2 => if ok h2 then kgh_ g b ok ds δ2 h2 else .bad
      | .ok (.bk δ2) h2 => .ok (.nx δ2) h2
      | r => r) Q E t u = WS (b δ1 h) (fQ g b ok ds Q E) E .mk .mk
    cases e2 : b δ1 h with
    | ok f h2 =>
      cases f with
      | nx δ2 =>
        by_cases q : ok h2
        · simp only [if_pos q]; exact propext ⟨fun z => ⟨q, z⟩, fun z => z.2⟩
        · simp only [if_neg q]; exact propext ⟨fun z => z.elim, fun z => (q z.1).elim⟩
      | ct δ2 =>
        by_cases q : ok h2
        · simp only [if_pos q]; exact propext ⟨fun z => ⟨q, z⟩, fun z => z.2⟩
        · simp only [if_neg q]; exact propext ⟨fun z => z.elim, fun z => (q z.1).elim⟩
      | bk δ2 => exact propext Iff.rfl
      | rt d => exact propext Iff.rfl
    | exc _ _ _ _ _ => exact propext Iff.rfl
    | bad => exact propext Iff.rfl
def iQ (ok : OH → Prop) (I : Env → OH → Prop) (Q : Fl → OH → Prop) (f : Fl) (h : OH) : Prop := match f with
  | .nx δ => ok h ∧ I δ h
  | .ct δ => ok h ∧ I δ h
  | .bk δ => Q (.nx δ) h
  | .rt d => Q (.rt d) h
theorem ky4_ {I : Env → OH → Prop} : iQ ok I Q (.nx δ) h = (ok h ∧ I δ h) := by exact propext Iff.rfl
theorem ky5_ {I : Env → OH → Prop} : iQ ok I Q (.ct δ) h = (ok h ∧ I δ h) := by exact propext Iff.rfl
theorem ky6_ {I : Env → OH → Prop} : iQ ok I Q (.bk δ) h = Q (.nx δ) h := by exact propext Iff.rfl
theorem ky7_ {I : Env → OH → Prop} {d : D} : iQ ok I Q (.rt d) h = Q (.rt d) h := by exact propext Iff.rfl
theorem ku6_ {xs : List D} (I : Nat → Env → OH → Prop) (i0 : I 0 δ h)
    (st : ∀ (i : Nat) (d : D) (δ : Env) (h : OH), xs[i]? = some d → I i δ h → WO (g d δ) (fun δ1 => WN δ1 (fun δ1 => WS (b δ1 h) (iQ ok (I (i + 1)) Q) E .mk .mk) .mk) .mk)
    (q : ∀ (δ : Env) (h : OH), I xs.length δ h → Q (.nx δ) h) : WS (kgh_ g b ok xs δ h) Q E t u := by
  suffices H : ∀ (k : Nat) (ds : List D) (δ : Env) (h : OH), ds = xs.drop k → k ≤ xs.length → I k δ h → WS (kgh_ g b ok ds δ h) Q E .mk .mk from H 0 xs δ h rfl (Nat.zero_le _) i0
  intro k ds
  induction ds generalizing k with
  | nil =>
    intro δ h e l i
    rw [ky3_]
    have : k = xs.length := by
      have := congrArg List.length e
      rw [List.length_drop] at this
      simp at this
      omega
    subst this
    exact q δ h i
  | cons d ds ih =>
    intro δ h e l i
    have hk : k < xs.length := by
      have := congrArg List.length e
      rw [List.length_drop] at this
      simp at this
      omega
    rw [List.drop_eq_getElem_cons hk] at e
    obtain ⟨e1, e2⟩ := List.cons.inj e
    have s := st k d δ h (by rw [e1]; exact List.getElem?_eq_getElem hk) i
    rw [ku5_]
    cases e3 : g d δ with
    | none => rw [e3] at s; exact s
    | some δ1 =>
      rw [e3] at s
      refine kup_ (t := .mk) (u := .mk) (t' := .mk) (u' := .mk) s (fun f h2 z => ?_) fun _ _ _ _ _ z => z
      cases f with
      | nx δ2 => exact ⟨z.1, ih (k + 1) δ2 h2 e2 hk z.2⟩
      | ct δ2 => exact ⟨z.1, ih (k + 1) δ2 h2 e2 hk z.2⟩
      | bk δ2 => exact z
      | rt d => exact z
theorem ku7_ {xs : List D} (I : Env → OH → Prop) (i0 : I δ h)
    (st : ∀ (d : D) (δ : Env) (h : OH), d ∈ xs → I δ h → WO (g d δ) (fun δ1 => WN δ1 (fun δ1 => WS (b δ1 h) (iQ ok I Q) E .mk .mk) .mk) .mk)
    (q : ∀ (δ : Env) (h : OH), I δ h → Q (.nx δ) h) : WS (kgh_ g b ok xs δ h) Q E t u :=
  ku6_ (fun _ => I) i0 (fun i d δ h e z => st d δ h (List.mem_of_getElem? e) z) q
end
section
variable {QL : List D → OH → Prop} {E : EQ} {t : Tg QL} {u : Tg E} {h : OH} {δ : Env} {g : GD} {ok : OH → Prop} {tt : Env → M Bool} {te : Env → M D}
theorem ky8_ {acc : List D} : WE (lcGo g tt te ok δ [] acc h) QL E t u = QL acc h := by exact propext Iff.rfl
theorem ku8_ {d : D} {ds acc : List D} : WE (lcGo g tt te ok δ (d :: ds) acc h) QL E t u = WO (g d δ) (fun δ1 => WN δ1 (fun δ1 => WE (tt δ1 h) (fun k h1 => Br k
      (WE (te δ1 h1) (fun y h2 => Nd (acc.length < lim) (Nd (ok h2) (WE (lcGo g tt te ok δ ds (acc ++ [y]) h2) QL E .mk .mk) .mk) .mk) noE .mk .mk) (Nd (ok h1) (WE (lcGo g tt te ok δ ds acc h1) QL E .mk .mk) .mk) .mk .mk) noE .mk .mk) .mk) .mk := by
  conv => lhs; unfold lcGo
  cases e : g d δ with
  | none => exact propext Iff.rfl
  | some δ1 =>
    rw [r_wo]
    show WE (M.bind (M.calm (tt δ1)) _ h) QL E t u = WE (tt δ1 h) _ noE .mk .mk
    rw [kM_, kjT_]
    cases e1 : tt δ1 h with
    | ok k h1 =>
      rw [r_ok, r_ok]
      cases k with
      | true =>
        rw [r_bt, if_pos rfl, kM_, kjT_]
        refine we_c fun y h2 => ?_
        by_cases c : acc.length < lim ∧ ok h2
        · rw [if_pos c]; exact propext ⟨fun z => ⟨c.1, c.2, z⟩, fun z => z.2.2⟩
        · rw [if_neg c]; exact propext ⟨fun z => z.elim, fun z => (c ⟨z.1, z.2.1⟩).elim⟩
      | false =>
        rw [r_bf, if_neg Bool.false_ne_true]
        by_cases c : ok h1
        · rw [if_pos c]; exact propext ⟨fun z => ⟨c, z⟩, fun z => z.2⟩
        · rw [if_neg c]; exact propext ⟨fun z => z.elim, fun z => (c z.1).elim⟩
    | exc _ _ _ _ => exact propext Iff.rfl
    | bad => exact propext Iff.rfl
theorem lc_i {xs acc : List D} (I : Nat → List D → OH → Prop) (i0 : I 0 acc h)
    (st : ∀ (i : Nat) (d : D) (acc : List D) (h : OH), xs[i]? = some d → I i acc h → WO (g d δ) (fun δ1 => WN δ1 (fun δ1 => WE (tt δ1 h) (fun k h1 => Br k
      (WE (te δ1 h1) (fun y h2 => acc.length < lim ∧ ok h2 ∧ I (i + 1) (acc ++ [y]) h2) noE .mk .mk) (ok h1 ∧ I (i + 1) acc h1) .mk .mk) noE .mk .mk) .mk) .mk)
    (q : ∀ (acc : List D) (h : OH), I xs.length acc h → QL acc h) : WE (lcGo g tt te ok δ xs acc h) QL E t u := by
  suffices H : ∀ (k : Nat) (ds acc : List D) (h : OH), ds = xs.drop k → k ≤ xs.length → I k acc h → WE (lcGo g tt te ok δ ds acc h) QL E .mk .mk from H 0 xs acc h rfl (Nat.zero_le _) i0
  intro k ds
  induction ds generalizing k with
  | nil =>
    intro acc h e l i
    rw [ky8_]
    have : k = xs.length := by
      have := congrArg List.length e
      rw [List.length_drop] at this
      simp at this
      omega
    subst this
    exact q acc h i
  | cons d ds ih =>
    intro acc h e l i
    have hk : k < xs.length := by
      have := congrArg List.length e
      rw [List.length_drop] at this
      simp at this
      omega
    rw [List.drop_eq_getElem_cons hk] at e
    obtain ⟨e1, e2⟩ := List.cons.inj e
    have s := st k d acc h (by rw [e1]; exact List.getElem?_eq_getElem hk) i
    rw [ku8_]
    cases e3 : g d δ with
    | none => rw [e3] at s; exact s
    | some δ1 =>
      rw [e3] at s
      refine kjR_ (Q' := _) (t := .mk) (u := .mk) (t' := .mk) (u' := .mk) s (fun k2 h1 z => ?_) fun _ _ _ _ z => z
      refine ⟨fun kt => kjR_ (t := .mk) (u := .mk) (t' := .mk) (u' := .mk) (z.1 kt) (fun y h2 w => ⟨w.1, w.2.1, ih (k + 1) _ h2 e2 hk w.2.2⟩) fun _ _ _ _ z => z, fun kf => ⟨(z.2 kf).1, ih (k + 1) _ h1 e2 hk (z.2 kf).2⟩⟩
theorem lc_p {xs : List D} (p : D → Bool) (f : D → D) (o : ok h) (l : xs.length ≤ lim)
    (st : ∀ (d : D), d ∈ xs → WO (g d δ) (fun δ1 => WN δ1 (fun δ1 => WE (tt δ1 h) (fun k h1 => k = p d ∧ h1 = h ∧ (k = true → WE (te δ1 h) (fun y h2 => y = f d ∧ h2 = h) noE .mk .mk)) noE .mk .mk) .mk) .mk)
    (q : QL ((xs.filter p).map f) h) : WE (lcGo g tt te ok δ xs [] h) QL E t u := by
  refine lc_i (fun i acc h' => h' = h ∧ acc = ((xs.take i).filter p).map f ∧ acc.length ≤ i) ⟨rfl, rfl, Nat.le_refl _⟩ ?_ ?_
  · rintro i d acc h' e ⟨rfl, rfl, la⟩
    have s := st d (List.mem_of_getElem? e)
    have hi : i < xs.length := (List.getElem?_eq_some_iff.mp e).1
    have e4 : xs.take (i + 1) = xs.take i ++ [d] := by rw [List.take_add_one, e]; rfl
    cases e3 : g d δ with
    | none => rw [e3] at s; exact s
    | some δ1 =>
      rw [e3] at s
      refine kjR_ (Q' := _) (t := .mk) (u := .mk) (t' := .mk) (u' := .mk) s (fun k h1 z => ?_) fun _ _ _ _ z => z
      obtain ⟨rfl, rfl, w⟩ := z
      refine ⟨fun kt => kjR_ (t := .mk) (u := .mk) (t' := .mk) (u' := .mk) (w kt) (fun y h2 v => ?_) fun _ _ _ _ z => z, fun kf => ⟨o, rfl, ?_, by omega⟩⟩
      · obtain ⟨rfl, rfl⟩ := v
        refine ⟨by omega, o, rfl, ?_, by simp; simp at la; omega⟩
        rw [e4, List.filter_append, List.map_append]
        simp [List.filter_cons, kt]
      · rw [e4, List.filter_append]
        simp [List.filter_cons, kf]
  · rintro acc h' ⟨rfl, rfl, _⟩
    rw [List.take_length]
    exact q
end
def Kp (b : Nat) (h h' : OH) : Prop := h'.length = h.length ∧ ∀ k : Nat, k ≠ b → h'[k]? = h[k]?
theorem Kp.refl {b : Nat} {h : OH} : Kp b h h := ⟨rfl, fun _ _ => rfl⟩
theorem Kp.trans {b : Nat} {h h1 h2 : OH} (a : Kp b h h1) (c : Kp b h1 h2) : Kp b h h2 := ⟨c.1.trans a.1, fun k n => (c.2 k n).trans (a.2 k n)⟩
theorem Kp.set {b : Nat} {h : OH} {o : OO} : Kp b h (h.set b o) := ⟨List.length_set, fun k n => List.getElem?_set_ne (Ne.symm n)⟩
theorem ktT_ {h : OH} {k : Nat} {o p : OO} (e : h[k]? = some o) : (h.set k p)[k]? = some p := List.getElem?_set_self (List.getElem?_eq_some_iff.mp e).1
theorem h_ne {h : OH} {k j : Nat} {p : OO} (n : j ≠ k) : (h.set j p)[k]? = h[k]? := List.getElem?_set_ne n
theorem ka3_ {h : OH} {k : Nat} {o p : OO} (e : h[k]? = some o) : (h ++ [p])[k]? = some o := by rw [List.getElem?_append_left (List.getElem?_eq_some_iff.mp e).1]; exact e
theorem kbs_ {h : OH} {p : OO} : (h ++ [p])[h.length]? = some p := by rw [List.getElem?_append_right (Nat.le_refl _), Nat.sub_self]; rfl
theorem h_lt {h : OH} {k : Nat} {o : OO} (e : h[k]? = some o) : k < h.length := (List.getElem?_eq_some_iff.mp e).1
end Z
set_option Elab.async false
set_option linter.all false
set_option maxRecDepth 100000
set_option maxHeartbeats 4000000
namespace Z
open PySem PySem.Spec PyProof.Rows L2 TL Y
open Classical
mutual
def pln : D → Bool
  | .non => true
  | .int _ => true
  | .str _ => true
  | .lst xs => plnA xs
  | .tup xs => plnA xs
  | _ => false
def plnA : List D → Bool
  | [] => true
  | x :: xs => pln x && plnA xs
end
mutual
def toP : D → PyData
  | .non => .none
  | .int i => .int i
  | .str x => .str x
  | .lst xs => .list (toPA xs)
  | .tup xs => .tuple (toPA xs)
  | _ => .none
def toPA : List D → List PyData
  | [] => []
  | x :: xs => toP x :: toPA xs
end
mutual
def dpt : D → Nat
  | .lst xs => dptA xs + 1
  | .tup xs => dptA xs + 1
  | _ => 0
def dptA : List D → Nat
  | [] => 0
  | x :: xs => max (dpt x) (dptA xs)
end
mutual
theorem ku9_ {o : Nat → Option PyData} : ∀ {d : D}, pln d = true → pyD o d = some (toP d)
  | .non, _ => by simp only [pyD, toP]
  | .int _, _ => by simp only [pyD, toP]
  | .str _, _ => by simp only [pyD, toP]
  | .lst xs, e => by simp only [pln] at e; simp only [pyD, toP, km3_ e, Option.map_some]
  | .tup xs, e => by simp only [pln] at e; simp only [pyD, toP, km3_ e, Option.map_some]
  | .bl _, e => by simp [pln] at e
  | .dct _ _, e => by simp [pln] at e
  | .dcT _ _, e => by simp [pln] at e
  | .ins _ _ _, e => by simp [pln] at e
  | .ptr _, e => by simp [pln] at e
theorem km3_ {o : Nat → Option PyData} : ∀ {xs : List D}, plnA xs = true → pyL o xs = some (toPA xs)
  | [], _ => by simp only [pyL, toPA]
  | x :: xs, e => by
    simp only [plnA, Bool.and_eq_true] at e
    simp only [pyL, toPA, ku9_ e.1, km3_ e.2, Option.bind_some, Option.map_some]
end
mutual
theorem kqo_ : ∀ (d : D), (toP d).hasDict = false
  | .non => by simp only [toP, PyData.hasDict]
  | .int _ => by simp only [toP, PyData.hasDict]
  | .str _ => by simp only [toP, PyData.hasDict]
  | .lst xs => by simp only [toP, PyData.hasDict, khW_]
  | .tup xs => by simp only [toP, PyData.hasDict, khW_]
  | .bl _ => by simp only [toP, PyData.hasDict]
  | .dct _ _ => by simp only [toP, PyData.hasDict]
  | .dcT _ _ => by simp only [toP, PyData.hasDict]
  | .ins _ _ _ => by simp only [toP, PyData.hasDict]
  | .ptr _ => by simp only [toP, PyData.hasDict]
theorem khW_ : ∀ (xs : List D), PyData.hasDictAll (toPA xs) = false
  | [] => by simp only [toPA, PyData.hasDictAll]
  | x :: xs => by simp only [toPA, PyData.hasDictAll, kqo_ x, khW_ xs, Bool.or_false]
end
mutual
theorem ksM_ : ∀ (d : D), (toP d).depth = dpt d
  | .non => by simp only [toP, PyData.depth, dpt]
  | .int _ => by simp only [toP, PyData.depth, dpt]
  | .str _ => by simp only [toP, PyData.depth, dpt]
  | .lst xs => by simp only [toP, PyData.depth, dpt, kkO_]
  | .tup xs => by simp only [toP, PyData.depth, dpt, kkO_]
  | .bl _ => by simp only [toP, PyData.depth, dpt]
  | .dct _ _ => by simp only [toP, PyData.depth, dpt]
  | .dcT _ _ => by simp only [toP, PyData.depth, dpt]
  | .ins _ _ _ => by simp only [toP, PyData.depth, dpt]
  | .ptr _ => by simp only [toP, PyData.depth, dpt]
theorem kkO_ : ∀ (xs : List D), PyData.depthAll (toPA xs) = dptA xs
  | [] => by simp only [toPA, PyData.depthAll, dptA]
  | x :: xs => by simp only [toPA, PyData.depthAll, dptA, ksM_ x, kkO_ xs]
end
mutual
theorem ksN_ : ∀ {x y : D}, pln x = true → pln y = true → PyData.eqv (toP x) (toP y) = decide (x = y)
  | .non, .non, _, _ => by simp [toP, PyData.eqv]
  | .non, .int _, _, _ => by simp [toP, PyData.eqv]
  | .non, .str _, _, _ => by simp [toP, PyData.eqv]
  | .non, .lst _, _, _ => by simp [toP, PyData.eqv]
  | .non, .tup _, _, _ => by simp [toP, PyData.eqv]
  | .int _, .non, _, _ => by simp [toP, PyData.eqv]
  | .int i, .int j, _, _ => by simp only [toP, km2_]; exact decide_eq_decide.mpr ⟨fun e => by rw [e], fun e => by cases e; rfl⟩
  | .int _, .str _, _, _ => by simp [toP, PyData.eqv]
  | .int _, .lst _, _, _ => by simp [toP, PyData.eqv]
  | .int _, .tup _, _, _ => by simp [toP, PyData.eqv]
  | .str _, .non, _, _ => by simp [toP, PyData.eqv]
  | .str _, .int _, _, _ => by simp [toP, PyData.eqv]
  | .str i, .str j, _, _ => by simp only [toP, km1_]; exact decide_eq_decide.mpr ⟨fun e => by rw [e], fun e => by cases e; rfl⟩
  | .str _, .lst _, _, _ => by simp [toP, PyData.eqv]
  | .str _, .tup _, _, _ => by simp [toP, PyData.eqv]
  | .lst _, .non, _, _ => by simp [toP, PyData.eqv]
  | .lst _, .int _, _, _ => by simp [toP, PyData.eqv]
  | .lst _, .str _, _, _ => by simp [toP, PyData.eqv]
  | .lst xs, .lst ys, a, b => by simp only [pln] at a b; simp only [toP, PyData.eqv, kkP_ a b]; exact decide_eq_decide.mpr ⟨fun e => by rw [e], fun e => by cases e; rfl⟩
  | .lst _, .tup _, _, _ => by simp [toP, PyData.eqv]
  | .tup _, .non, _, _ => by simp [toP, PyData.eqv]
  | .tup _, .int _, _, _ => by simp [toP, PyData.eqv]
  | .tup _, .str _, _, _ => by simp [toP, PyData.eqv]
  | .tup _, .lst _, _, _ => by simp [toP, PyData.eqv]
  | .tup xs, .tup ys, a, b => by simp only [pln] at a b; simp only [toP, PyData.eqv, kkP_ a b]; exact decide_eq_decide.mpr ⟨fun e => by rw [e], fun e => by cases e; rfl⟩
  | .bl _, _, a, _ => by simp [pln] at a
  | .dct _ _, _, a, _ => by simp [pln] at a
  | .dcT _ _, _, a, _ => by simp [pln] at a
  | .ins _ _ _, _, a, _ => by simp [pln] at a
  | .ptr _, _, a, _ => by simp [pln] at a
  | _, .bl _, _, a => by simp [pln] at a
  | _, .dct _ _, _, a => by simp [pln] at a
  | _, .dcT _ _, _, a => by simp [pln] at a
  | _, .ins _ _ _, _, a => by simp [pln] at a
  | _, .ptr _, _, a => by simp [pln] at a
theorem kkP_ : ∀ {xs ys : List D}, plnA xs = true → plnA ys = true → PyData.eqvAll (toPA xs) (toPA ys) = decide (xs = ys)
  | [], [], _, _ => by simp [toPA, PyData.eqvAll]
  | [], _ :: _, _, _ => by simp [toPA, PyData.eqvAll]
  | _ :: _, [], _, _ => by simp [toPA, PyData.eqvAll]
  | x :: xs, y :: ys, a, b => by
    simp only [plnA, Bool.and_eq_true] at a b
    simp only [toPA, PyData.eqvAll, ksN_ a.1 b.1, kkP_ a.2 b.2]
    by_cases e1 : x = y
    · by_cases e2 : xs = ys
      · simp [e1, e2]
      · simp [e1, e2]
    · simp [e1]
end
structure Rp (o : Nat → Option PyData) (d : D) (w k : Nat) : Prop where
  ex : ∃ p, pyD o d = some p ∧ p.showable = true ∧ p.leavesShort 64 = true ∧ p.bulk ≤ w ∧ p.depth ≤ k
structure RpA (o : Nat → Option PyData) (xs : List D) (w k : Nat) : Prop where
  ex : ∃ ps, pyL o xs = some ps ∧ PyData.showableAll ps = true ∧ PyData.leavesShortAll 64 ps = true ∧ PyData.bulkAll ps ≤ w ∧ PyData.depthAll ps ≤ k
section
variable {o : Nat → Option PyData} {d : D} {xs ys : List D} {w w' k k' : Nat}
theorem Rp.mono (r : Rp o d w k) (hw : w ≤ w') (hk : k ≤ k') : Rp o d w' k' := by
  obtain ⟨p, a, b, c, e, f⟩ := r.ex
  exact ⟨p, a, b, c, by omega, by omega⟩
theorem RpA.mono (r : RpA o xs w k) (hw : w ≤ w') (hk : k ≤ k') : RpA o xs w' k' := by
  obtain ⟨p, a, b, c, e, f⟩ := r.ex
  exact ⟨p, a, b, c, by omega, by omega⟩
theorem ksO_ {p : PyData} (e : pyD o d = some p) (f : Fine w k p) : Rp o d w k := ⟨p, e, f.sh, f.lf, f.bk, f.dp⟩
theorem ksP_ {x : Str} (hc : ∀ c ∈ tl x, c < 1114112) (l : x.length ≤ w) : Rp o (.str x) w 0 := ksO_ (by simp only [pyD]) (kpE_ hc l)
theorem klu_ : RpA o [] 0 0 := ⟨[], by simp only [pyL], rfl, rfl, Nat.le_refl _, Nat.le_refl _⟩
theorem kb2_ (a : Rp o d w k) (b : RpA o xs w' k') : RpA o (d :: xs) (w + 1 + w') (max k k') := by
  obtain ⟨p, a1, a2, a3, a4, a5⟩ := a.ex
  obtain ⟨ps, b1, b2, b3, b4, b5⟩ := b.ex
  refine ⟨p :: ps, by simp only [pyL, a1, b1, Option.bind_some, Option.map_some], ?_, ?_, ?_, ?_⟩
  · simp only [PyData.showableAll, a2, b2, Bool.and_self]
  · simp only [PyData.leavesShortAll, a3, b3, Bool.and_self]
  · simp only [PyData.bulkAll]; omega
  · simp only [PyData.depthAll]; omega
theorem kpv_ : ∀ {xs : List D}, (∀ d ∈ xs, Rp o d w k) → RpA o xs (xs.length * (w + 1)) k
  | [], _ => klu_.mono (Nat.zero_le _) (Nat.zero_le _)
  | x :: xs, h => (kb2_ (h x List.mem_cons_self) (kpv_ fun d hd => h d (List.mem_cons_of_mem _ hd))).mono (by rw [List.length_cons, Nat.succ_mul]; omega) (by omega)
theorem kqp_ (a : RpA o xs w k) : Rp o (.lst xs) w (k + 1) := by
  obtain ⟨ps, b1, b2, b3, b4, b5⟩ := a.ex
  refine ⟨.list ps, by simp only [pyD, b1, Option.map_some], ?_, ?_, ?_, ?_⟩
  · simpa only [PyData.showable] using b2
  · simpa only [PyData.leavesShort] using b3
  · simpa only [PyData.bulk] using b4
  · simp only [PyData.depth]; omega
end
def rpB (w k : Nat) (d : D) : Bool := match pyD (fun _ => none) d with
  | some p => p.showable && p.leavesShort 64 && decide (p.bulk ≤ w) && decide (p.depth ≤ k)
  | none => false
mutual
theorem kva_ {o : Nat → Option PyData} : ∀ {d : D} {p : PyData}, pyD (fun _ => none) d = some p → pyD o d = some p
  | .non, p, e => by simpa only [pyD] using e
  | .bl _, p, e => by simpa only [pyD] using e
  | .int _, p, e => by simpa only [pyD] using e
  | .str _, p, e => by simpa only [pyD] using e
  | .lst xs, p, e => by
    simp only [pyD] at e ⊢
    cases e2 : pyL (fun _ => none) xs with
    | none => rw [e2] at e; cases e
    | some ps => rw [e2] at e; rw [krk_ e2]; exact e
  | .tup xs, p, e => by
    simp only [pyD] at e ⊢
    cases e2 : pyL (fun _ => none) xs with
    | none => rw [e2] at e; cases e
    | some ps => rw [e2] at e; rw [krk_ e2]; exact e
  | .dct ks vs, p, e => by
    simp only [pyD] at e ⊢
    split at e
    · rename_i c
      rw [if_pos c]
      cases e2 : pyL (fun _ => none) vs with
      | none => rw [e2] at e; cases e
      | some ps => rw [e2] at e; rw [krk_ e2]; exact e
    · cases e
  | .ptr _, p, e => by simp [pyD] at e
  | .dcT ks vs, p, e => by
    simp only [pyD] at e ⊢
    split at e
    · rename_i c
      rw [if_pos c]
      cases e2 : pyL (fun _ => none) vs with
      | none => rw [e2] at e; cases e
      | some ps => rw [e2] at e; rw [krk_ e2]; exact e
    · cases e
  | .ins _ _ _, p, e => by simp [pyD] at e
theorem krk_ {o : Nat → Option PyData} : ∀ {xs : List D} {ps : List PyData}, pyL (fun _ => none) xs = some ps → pyL o xs = some ps
  | [], ps, e => by simpa only [pyL] using e
  | x :: xs, ps, e => by
    simp only [pyL] at e ⊢
    cases e1 : pyD (fun _ => none) x with
    | none => rw [e1] at e; cases e
    | some p =>
      rw [e1, Option.bind_some] at e
      cases e2 : pyL (fun _ => none) xs with
      | none => rw [e2] at e; cases e
      | some qs => rw [e2] at e; rw [kva_ e1, Option.bind_some, krk_ e2]; exact e
end
theorem ky9_ {o : Nat → Option PyData} {d : D} {w k : Nat} (h : rpB w k d = true) : Rp o d w k := by
  unfold rpB at h
  cases e : pyD (fun _ => none) d with
  | none => rw [e] at h; cases h
  | some p =>
    rw [e] at h
    simp only [Bool.and_eq_true, decide_eq_true_eq] at h
    exact ⟨p, kva_ e, h.1.1.1, h.1.1.2, h.1.2, h.2⟩
theorem km4_ {h : OH} {d : D} {w k : Nat} (r : Rp (pyO 8 h) d w k) (hw : w ≤ 200000) (hk : k ≤ 60) : ∃ s, kdE_ h [d] = some (.str s) := by
  obtain ⟨p, a, b, c, e, f⟩ := r.ex
  refine ⟨p.shown, ?_⟩
  show (match py h d with | some p => _ | none => none) = _
  rw [show py h d = some p from a]
  exact if_pos ⟨b, c, by omega, by omega⟩
end Z
set_option Elab.async false
set_option linter.all false
set_option maxRecDepth 100000
set_option maxHeartbeats 4000000
set_option Elab.async false
set_option linter.all false
set_option maxRecDepth 100000
set_option maxHeartbeats 4000000
namespace Z.Cv
abbrev Pl := Nat × List Nat
def inP (p q : Pl) : Prop := p.1 = q.1 ∧ q.2 <+: p.2
def krl_ (a : Nat) (p : Pl) : List Pl := (List.range a).map fun c => (p.1, p.2 ++ [c])
def ksQ_ (r : Nat) : List Pl := (List.range r).map fun i => (i, [])
inductive Cov (a r : Nat) : List Pl → Prop
  | base : Cov a r (ksQ_ r)
  | split {L1 L2 : List Pl} {p : Pl} : Cov a r (L1 ++ p :: L2) → Cov a r (L1 ++ (krl_ a p ++ L2))
def ltP (x y : Pl) : Prop := x.1 < y.1 ∨ (x.1 = y.1 ∧ ∃ s c d u v, x.2 = s ++ c :: u ∧ y.2 = s ++ d :: v ∧ c < d)
theorem kkQ_ (p : Pl) : inP p p := ⟨rfl, List.prefix_refl _⟩
theorem ksR_ {a : Nat} {p q : Pl} : q ∈ krl_ a p ↔ ∃ c, c < a ∧ q = (p.1, p.2 ++ [c]) := by
  unfold krl_
  rw [List.mem_map]
  constructor
  · rintro ⟨c, hc, rfl⟩; exact ⟨c, List.mem_range.mp hc, rfl⟩
  · rintro ⟨c, hc, rfl⟩; exact ⟨c, List.mem_range.mpr hc, rfl⟩
theorem ksS_ {a : Nat} {p q : Pl} (h : q ∈ krl_ a p) : inP q p := by
  obtain ⟨c, _, rfl⟩ := ksR_.mp h
  exact ⟨rfl, List.prefix_append _ _⟩
theorem ksT_ {x y : Pl} (h : ltP x y) : ¬ inP x y ∧ ¬ inP y x := by
  rcases h with h | ⟨h, s, c, d, u, v, e1, e2, l⟩
  · exact ⟨fun z => by have := z.1; omega, fun z => by have := z.1; omega⟩
  · have key : ∀ (s : List Nat) {c d : Nat} {u v : List Nat}, c ≠ d → ¬ (s ++ d :: v) <+: (s ++ c :: u) := by
      intro s c d u v ne z
      rw [List.prefix_append_right_inj, List.cons_prefix_cons] at z
      exact ne z.1.symm
    refine ⟨fun z => ?_, fun z => ?_⟩
    · have := z.2; rw [e1, e2] at this; exact key s (by omega) this
    · have := z.2; rw [e1, e2] at this; exact key s (by omega) this
theorem ksU_ {x : Pl} : ¬ ltP x x := fun h => (ksT_ h).1 (kkQ_ x)
theorem ksV_ {x y x' y' : Pl} (h : ltP x y) (a : inP x' x) (b : inP y' y) : ltP x' y' := by
  rcases h with h | ⟨h, s, c, d, u, v, e1, e2, l⟩
  · exact .inl (by have := a.1; have := b.1; omega)
  · obtain ⟨t, ht⟩ := a.2
    obtain ⟨t', ht'⟩ := b.2
    exact .inr ⟨a.1.trans (h.trans b.1.symm), s, c, d, u ++ t, v ++ t', by rw [← ht, e1]; simp, by rw [← ht', e2]; simp, l⟩
theorem ksW_ (a : Nat) (p : Pl) : (krl_ a p).Pairwise ltP := by
  unfold krl_
  rw [List.pairwise_map]
  exact List.pairwise_lt_range.imp fun {c d} l => .inr ⟨rfl, p.2, c, d, [], [], rfl, rfl, l⟩
section
variable {a r : Nat} {L M : List Pl}
theorem Cov.pw (h : Cov a r L) : L.Pairwise ltP := by
  induction h with
  | base =>
    unfold ksQ_
    rw [List.pairwise_map]
    exact List.pairwise_lt_range.imp fun {c d} l => .inl l
  | @split L1 L2 p _ ih =>
    obtain ⟨h1, h2, h3⟩ := List.pairwise_append.mp ih
    obtain ⟨h4, h5⟩ := List.pairwise_cons.mp h2
    refine List.pairwise_append.mpr ⟨h1, List.pairwise_append.mpr ⟨ksW_ a p, h5, fun x hx y hy => ksV_ (h4 y hy) (ksS_ hx) (kkQ_ y)⟩, fun x hx y hy => ?_⟩
    rcases List.mem_append.mp hy with q | q
    · exact ksV_ (h3 x hx p List.mem_cons_self) (kkQ_ x) (ksS_ q)
    · exact h3 x hx y (List.mem_cons_of_mem _ q)
theorem Cov.nodup (h : Cov a r L) : L.Nodup := h.pw.imp fun {x y} l e => by subst e; exact ksU_ l
end
end Z.Cv
set_option Elab.async false
set_option linter.all false
set_option maxRecDepth 100000
set_option maxHeartbeats 4000000
namespace Z
open PySem PySem.Spec PyProof.Rows L2 TL Y
open Classical
def itq (h : OH) (d : D) : Option Its := match kW_ h d with
  | some xs => some ⟨xs, stays d xs⟩
  | none => (kjD_ d).map fun xs => ⟨xs, kcC_⟩
def itK (d : D) : Option Its := match d with
  | .dcT ks vs => if ks.all (fun k => k.all keyB) = true then some ⟨ks.map fun k => D.tup (k.map keyD), kcC_⟩ else none
  | .dct ks vs => if ks.all keyB = true then some ⟨ks.map keyD, kcC_⟩ else none
  | _ => none
theorem kvb_ {ks : List (List Key)} {vs : List D} {Q : Its → Prop} {t : Tg Q} : WO (itK (.dcT ks vs)) Q t = Nd (ks.all (fun k => k.all keyB) = true) (Q ⟨kxe_ ks, kcC_⟩) .mk := by
  unfold itK
  by_cases c : ks.all (fun k => k.all keyB) = true
  · dsimp only; rw [if_pos c]; exact propext ⟨fun z => ⟨c, z⟩, fun z => z.2⟩
  · dsimp only; rw [if_neg c]; exact propext ⟨fun z => z.elim, fun z => (c z.1).elim⟩
theorem kvc_ {ks : List Key} {vs : List D} {Q : Its → Prop} {t : Tg Q} : WO (itK (.dct ks vs)) Q t = Nd (ks.all keyB = true) (Q ⟨ks.map keyD, kcC_⟩) .mk := by
  unfold itK
  by_cases c : ks.all keyB = true
  · dsimp only; rw [if_pos c]; exact propext ⟨fun z => ⟨c, z⟩, fun z => z.2⟩
  · dsimp only; rw [if_neg c]; exact propext ⟨fun z => z.elim, fun z => (c z.1).elim⟩
theorem kza_ {h : OH} {xs : List D} : itq h (.lst xs) = some ⟨xs, stays (.lst xs) xs⟩ := rfl
theorem kzb_ {h : OH} {xs : List D} : itq h (.tup xs) = some ⟨xs, kcC_⟩ := rfl
theorem kwR_ {h : OH} {k : Nat} : itq h (.ptr k) = (hL (h[k]?)).map fun xs => ⟨xs, stays (.ptr k) xs⟩ := by
  unfold itq
  rw [q_l0]
  cases hL h[k]? <;> rfl
section
variable {Q : D → OH → Prop} {QL : List D → OH → Prop} {QI : Its → OH → Prop} {E : EQ} {t : Tg Q} {tL : Tg QL} {tI : Tg QI} {u : Tg E} {h : OH} {δ : Env} {m : Env → M D} {ms : Env → M (List D)}
theorem kzc_ : WE (mItQ m δ h) QI E tI u = WE (m δ h) (fun d h1 => WO (itq h1 d) (fun its => QI its h1) .mk) E .mk .mk := by
  unfold mItQ itq; rw [kM_]; refine we_c fun d h1 => ?_
  cases e : kW_ h1 d with
  | some xs => simp only [e]; exact propext Iff.rfl
  | none =>
    simp only [e]
    cases e2 : kjD_ d with
    | none => simp only [e2]; exact propext Iff.rfl
    | some xs => simp only [e2]; exact propext Iff.rfl
theorem kzd_ : WE (mItK m δ h) QI E tI u = WE (m δ h) (fun d h1 => WO (itK d) (fun its => QI its h1) .mk) E .mk .mk := by
  unfold mItK itK; rw [kM_]; refine we_c fun d h1 => ?_
  cases d with
  | dcT ks vs =>
    dsimp only
    by_cases c : ks.all (fun k => k.all keyB) = true
    · rw [if_pos c, if_pos c]; exact propext Iff.rfl
    · rw [if_neg c, if_neg c]; exact propext Iff.rfl
  | dct ks vs =>
    dsimp only
    by_cases c : ks.all keyB = true
    · rw [if_pos c, if_pos c]; exact propext Iff.rfl
    · rw [if_neg c, if_neg c]; exact propext Iff.rfl
  | _ => exact propext Iff.rfl
theorem kvd_ : WE (kwv_ m ms δ h) QL E tL u = WE (m δ h) (fun d h1 => WO (kgd_ h1 d) (fun xs => WE (ms δ h1) (fun ys h2 => QL (xs ++ ys) h2) E .mk .mk) .mk) E .mk .mk := by
  unfold kwv_; rw [kM_]; refine we_c fun d h1 => ?_; rw [kM_, kdF_]; refine wo_c fun xs => ?_; rw [kM_]; exact we_c fun _ _ => rfl
theorem kze_ {n : Nat} {f : List D → M D} : WE (mFnV n f ms δ h) Q E t u = WE (ms δ h) (fun ds h1 => Nd (n ≤ ds.length ∧ ds.length ≤ lim) (WN (ds.take n ++ [.tup (ds.drop n)]) (fun es => WE (f es h1) Q E .mk .mk) .mk) .mk) E .mk .mk := by
  unfold mFnV; rw [kM_]; refine we_c fun ds h1 => ?_
  by_cases e : n ≤ ds.length ∧ ds.length ≤ lim
  · rw [if_pos e]; exact propext ⟨fun z => ⟨e, z⟩, fun z => z.2⟩
  · rw [if_neg e]; exact propext ⟨fun z => z.elim, fun z => (e z.1).elim⟩
theorem kzf_ {bi : Bool} {mi : Env → M Its} {g : GD} {tt : Env → M Bool} {tk tv : Env → M D} {vs : List Nat} : WE (mFrz (mDcG bi mi g tt tk tv vs) δ h) Q E t u = WE (mi δ h) (fun its h1 => Nd (its.ok (h1 ++ [e0 bi])) (WN (kgi_ δ vs) (fun δ1 =>
    WE (dcGo g tt tk tv its.ok δ1 h1.length its.xs (h1 ++ [e0 bi])) (fun _ h2 => WE (frz (.ptr h1.length) h2) Q E .mk .mk) E .mk .mk) .mk) .mk) E .mk .mk := by
  unfold mFrz mDcG; rw [kM_, kM_]; refine we_c fun its h1 => ?_
  by_cases e : its.ok (h1 ++ [e0 bi])
  · rw [if_pos e, kM_]
    refine propext ⟨fun z => ⟨e, ?_⟩, fun z => ?_⟩
    · exact z
    · exact z.2
  · rw [if_neg e]; exact propext ⟨fun z => z.elim, fun z => (e z.1).elim⟩
theorem kzg_ {bi : Bool} {mi : Env → M Its} {g : GD} {tt : Env → M Bool} {tk tv : Env → M D} {vs : List Nat} : WE (mDcG bi mi g tt tk tv vs δ h) Q E t u = WE (mi δ h) (fun its h1 => Nd (its.ok (h1 ++ [e0 bi])) (WN (kgi_ δ vs) (fun δ1 =>
    WE (dcGo g tt tk tv its.ok δ1 h1.length its.xs (h1 ++ [e0 bi])) (fun _ h2 => Q (.ptr h1.length) h2) E .mk .mk) .mk) .mk) E .mk .mk := by
  unfold mDcG; rw [kM_]; refine we_c fun its h1 => ?_
  by_cases e : its.ok (h1 ++ [e0 bi])
  · rw [if_pos e, kM_]
    refine propext ⟨fun z => ⟨e, ?_⟩, fun z => ?_⟩
    · exact z
    · exact z.2
  · rw [if_neg e]; exact propext ⟨fun z => z.elim, fun z => (e z.1).elim⟩
theorem kve_ : e0 true = .dct [] [] := rfl
theorem kvf_ : e0 false = .dcT [] [] := rfl
end
theorem kwS_ {Q : D → OH → Prop} {E : EQ} {t : Tg Q} {u : Tg E} {h : OH} {ks : List (List Key)} {vs : List D} : WE (frz (.ptr h.length) (h ++ [.dcT ks vs])) Q E t u = Q (.dcT ks vs) (h ++ [.gone]) := by
  unfold frz
  dsimp only
  rw [kbs_]
  dsimp only
  rw [List.set_append_right _ _ (Nat.le_refl _), Nat.sub_self]; exact propext Iff.rfl
theorem lc_g {α : Type} {QL : List D → OH → Prop} {E : EQ} {t : Tg QL} {u : Tg E} {h : OH} {δ : Env} {g : GD} {ok : OH → Prop} {tt : Env → M Bool} {te : Env → M D} (f z : α → D) {C : List α} (p : α → Bool) (o : ok h) (l : C.length ≤ 16000000)
    (st : ∀ x ∈ C, WO (g (f x) δ) (fun δ1 => WN δ1 (fun δ1 => WE (tt δ1 h) (fun k h1 => k = p x ∧ h1 = h ∧ (k = true → WE (te δ1 h) (fun y h2 => y = z x ∧ h2 = h) noE .mk .mk)) noE .mk .mk) .mk) .mk)
    (q : QL ((C.filter p).map z) h) : WE (lcGo g tt te ok δ (C.map f) [] h) QL E t u := by
  refine lc_i (fun i acc h' => h' = h ∧ acc = ((C.take i).filter p).map z ∧ acc.length ≤ i) ⟨rfl, rfl, Nat.le_refl _⟩ ?_ ?_
  · rintro i d acc h' e ⟨rfl, rfl, la⟩
    rw [List.getElem?_map] at e
    cases ec : C[i]? with
    | none => rw [ec] at e; cases e
    | some x =>
      rw [ec] at e
      cases e
      have s := st x (List.mem_of_getElem? ec)
      have hi : i < C.length := (List.getElem?_eq_some_iff.mp ec).1
      have e4 : C.take (i + 1) = C.take i ++ [x] := by rw [List.take_add_one, ec]; rfl
      cases e3 : g (f x) δ with
      | none => rw [e3] at s; exact s
      | some δ1 =>
        rw [e3] at s
        refine kjR_ (Q' := _) (t := .mk) (u := .mk) (t' := .mk) (u' := .mk) s (fun k h1 z => ?_) fun _ _ _ _ z => z
        obtain ⟨rfl, rfl, w⟩ := z
        refine ⟨fun kt => kjR_ (t := .mk) (u := .mk) (t' := .mk) (u' := .mk) (w kt) (fun y h2 v => ?_) fun _ _ _ _ z => z, fun kf => ⟨o, rfl, ?_, by omega⟩⟩
        · obtain ⟨rfl, rfl⟩ := v
          refine ⟨by show _ < 16000000; omega, o, rfl, ?_, by simp; simp at la; omega⟩
          rw [e4, List.filter_append, List.map_append]
          simp [List.filter_cons, kt]
        · rw [e4, List.filter_append]
          simp [List.filter_cons, kf]
  · rintro acc h' ⟨rfl, rfl, _⟩
    rw [List.length_map, List.take_length]
    exact q
end Z
set_option Elab.async false
set_option linter.all false
set_option maxRecDepth 100000
set_option maxHeartbeats 4000000
namespace Z.Cv
section
variable {a r : Nat} {L M R C : List Pl} {Cs : List (List Pl)}
def CovP (a r : Nat) (C : List Pl) : Prop := ∃ L, Cov a r L ∧ C.Perm L
theorem CovP.nodup (h : CovP a r C) : C.Nodup := by
  obtain ⟨L, c, e⟩ := h
  exact e.nodup_iff.mpr c.nodup
end
end Z.Cv
namespace Z
open PySem PySem.Spec PyProof.Rows L2 TL Y
open Classical
open Cv
def W (w : List Nat) : Str := ⟨(w.map (· + 48)).toArray⟩
def enc (p : Pl) : D := .tup [.int p.1, .str (W p.2)]
end Z
set_option Elab.async false
set_option linter.all false
set_option maxRecDepth 100000
set_option maxHeartbeats 4000000
namespace Z
open PySem PySem.Spec PyProof.Rows L2 TL Y
open Classical
noncomputable def kwT_ (C : Addr) (f : Str) (h : OH) (d : D) : Option D := match kb1_ h d with
  | some (C', ns, xs) => if C' = C then (ns.zip xs).lookup f else none
  | none => none
def isIm (C : Addr) (m : Str) (h : OH) (o : D) : Prop := ∃ ns xs, kb1_ h o = some (C, ns, xs) ∧ (ns.zip xs).lookup m = none
section
variable {Q : D → OH → Prop} {E : EQ} {t : Tg Q} {u : Tg E} {h : OH} {δ : Env} {m mo a b : Env → M D} {ms : Env → M (List D)} {C : Addr} {f : List D → M D} {n : Nat} {nm : Str}
theorem kzh_ : WE (mFld C nm m δ h) Q E t u = WE (m δ h) (fun d h1 => WO (kwT_ C nm h1 d) (fun z => Q z h1) .mk) E .mk .mk := by
  unfold mFld; rw [kM_]; refine we_c fun d h1 => ?_
  unfold kwT_
  cases e : kb1_ h1 d with
  | none => simp only [e]; exact propext Iff.rfl
  | some q =>
    obtain ⟨C', ns, xs⟩ := q
    simp only [e]
    by_cases c : C' = C
    · rw [if_pos c, if_pos c]
      cases e2 : (ns.zip xs).lookup nm with
      | none => simp only [e2]; exact propext Iff.rfl
      | some z => simp only [e2]; exact propext Iff.rfl
    · rw [if_neg c, if_neg c]; exact propext Iff.rfl
theorem kzi_ {op : D → D → M D} : WE (mOpM op a b δ h) Q E t u = WE (a δ h) (fun x h1 => WE (b δ h1) (fun y h2 => WE (op x y h2) Q noE .mk .mk) E .mk .mk) E .mk .mk := by
  unfold mOpM; rw [kM_]; refine we_c fun x h1 => ?_; rw [kM_]; refine we_c fun y h2 => ?_; rw [kjT_]
theorem ksX_ {op : List D → M D} : WE (ksi_ op ms δ h) Q E t u = WE (ms δ h) (fun ds h1 => WE (op ds h1) Q noE .mk .mk) E .mk .mk := by
  unfold ksi_; rw [kM_]; refine we_c fun x h1 => ?_; rw [kjT_]
theorem kvg_ : WE (kwy_ C m δ h) Q E t u = WE (m δ h) (fun d h1 => WO (isC C h1 d) (fun z => Q z h1) .mk) E .mk .mk := by
  unfold kwy_; rw [kM_]; refine we_c fun d h1 => ?_; rw [keP_]
theorem ksY_ {QU : Unit → OH → Prop} {tU : Tg QU} {o : D} : WE (isI C nm o h) QU E tU u = Nd (isIm C nm h o) (QU () h) .mk := by
  unfold isI
  cases e : kb1_ h o with
  | none => simp only [e]; exact propext ⟨fun z => z.elim, fun z => by obtain ⟨⟨ns, xs, e2, _⟩, _⟩ := z; rw [e] at e2; cases e2⟩
  | some q =>
    obtain ⟨C', ns, xs⟩ := q
    simp only [e]
    by_cases c : C' = C ∧ (ns.zip xs).lookup nm = none
    · rw [if_pos c]
      refine propext ⟨fun z => ⟨⟨ns, xs, by rw [e, c.1], c.2⟩, z⟩, fun z => z.2⟩
    · rw [if_neg c]
      refine propext ⟨fun z => z.elim, fun z => ?_⟩
      obtain ⟨⟨ns', xs', e2, e3⟩, _⟩ := z
      rw [e] at e2
      cases e2
      exact (c ⟨rfl, e3⟩).elim
theorem r_me : WE (mMe C nm n f mo ms δ h) Q E t u = WE (mo δ h) (fun o h1 => Nd (isIm C nm h1 o) (WE (ms δ h1) (fun ds h2 => Nd (ds.length = n) (WE (f (o :: ds) h2) Q E .mk .mk) .mk) E .mk .mk) .mk) E .mk .mk := by
  unfold mMe; rw [kM_]; refine we_c fun o h1 => ?_; rw [kM_, ksY_]
  have : WE (M.bind (ms δ) (fun ds => if ds.length = n then f (o :: ds) else M.bad) h1) Q E .mk .mk = WE (ms δ h1) (fun ds h2 => Nd (ds.length = n) (WE (f (o :: ds) h2) Q E .mk .mk) .mk) E .mk .mk := by
    rw [kM_]; refine we_c fun ds h2 => ?_
    by_cases e : ds.length = n
    · rw [if_pos e]; exact propext ⟨fun z => ⟨e, z⟩, fun z => z.2⟩
    · rw [if_neg e]; exact propext ⟨fun z => z.elim, fun z => (e z.1).elim⟩
  exact propext ⟨fun z => ⟨z.1, by rw [← this]; exact z.2⟩, fun z => ⟨z.1, by rw [this]; exact z.2⟩⟩
theorem kzj_ : WE (mMe0 C nm f mo δ h) Q E t u = WE (mo δ h) (fun o h1 => Nd (isIm C nm h1 o) (WE (f [o] h1) Q E .mk .mk) .mk) E .mk .mk := by
  unfold mMe0; rw [kM_]; refine we_c fun o h1 => ?_; rw [kM_, ksY_]
theorem r_pr : WE (mPr C f mo δ h) Q E t u = WE (mo δ h) (fun o h1 => Nd (isIn C h1 o) (WE (f [o] h1) Q noE .mk .mk) .mk) E .mk .mk := by
  unfold mPr; rw [kM_]; refine we_c fun o h1 => ?_
  cases e : kb1_ h1 o with
  | none => simp only [e]; exact propext ⟨fun z => z.elim, fun z => by obtain ⟨⟨ns, xs, e2⟩, _⟩ := z; rw [e] at e2; cases e2⟩
  | some q =>
    obtain ⟨C', ns, xs⟩ := q
    simp only [e]
    by_cases c : C' = C
    · rw [if_pos c, kjT_]
      exact propext ⟨fun z => ⟨⟨ns, xs, by rw [e, c]⟩, z⟩, fun z => z.2⟩
    · rw [if_neg c]
      refine propext ⟨fun z => z.elim, fun z => ?_⟩
      obtain ⟨⟨ns', xs', e2⟩, _⟩ := z
      rw [e] at e2
      cases e2
      exact (c rfl).elim
theorem km5_ {ns : List Str} {xs : List D} : kb1_ h (.ins C ns xs) = some (C, ns, xs) := rfl
end
section
variable {Q : Fl → OH → Prop} {E : ES} {t : Tg Q} {u : Tg E} {h : OH} {δ : Env} {m mo : Env → M D} {C : Addr} {f f2 : Str}
theorem kvh_ : WS (kww_ C f m mo δ h) Q E t u = WE (m δ h) (fun z h1 => WE (mo δ h1) (fun o h2 => WO (setI C f z o h2) (fun h3 => Q (.nx δ) h3) .mk) (eS E δ) .mk .mk) (eS E δ) .mk .mk := by
  unfold kww_; rw [kT_]; refine we_c fun z h1 => ?_; rw [kT_]; refine we_c fun o h2 => ?_
  unfold setI
  cases e : ownI C h2 o with
  | none => simp only [e]; exact propext Iff.rfl
  | some q =>
    obtain ⟨k, ns, xs⟩ := q
    simp only [e]
    by_cases c : ns.length < 1000
    · rw [if_pos c, if_pos c]; exact propext Iff.rfl
    · rw [if_neg c, if_neg c]; exact propext Iff.rfl
def pairOf (d : D) : Option (D × D) := match d with
  | .tup [x, y] => some (x, y)
  | _ => none
theorem kvi_ : WS (kwC_ C f f2 m mo δ h) Q E t u = WE (m δ h) (fun d h1 => WO (pairOf d) (fun p => WE (mo δ h1) (fun o h2 => WO (setI C f p.1 o h2) (fun h3 => WE (mo δ h3) (fun o2 h4 => WO (setI C f2 p.2 o2 h4) (fun h5 => Q (.nx δ) h5) .mk) (eS E δ) .mk .mk) .mk) (eS E δ) .mk .mk) .mk) (eS E δ) .mk .mk := by
  unfold kwC_; rw [kT_]; refine we_c fun d h1 => ?_
  have key : ∀ x1 x2 : D, WS (kbV_ mo (fun o δ h => match setI C f x1 o h with
    | some h1 => kbV_ mo (fun o2 δ h2 => match setI C f2 x2 o2 h2 with
      | some h3 => .ok (.nx δ) h3
      | none => .bad) δ h1
    | none => .bad) δ h1) Q E .mk .mk = WE (mo δ h1) (fun o h2 => WO (setI C f x1 o h2) (fun h3 => WE (mo δ h3) (fun o2 h4 => WO (setI C f2 x2 o2 h4) (fun h5 => Q (.nx δ) h5) .mk) (eS E δ) .mk .mk) .mk) (eS E δ) .mk .mk := by
    intro x1 x2
    rw [kT_]; refine we_c fun o h2 => ?_
    cases e : setI C f x1 o h2 with
    | none => simp only [e]; exact propext Iff.rfl
    | some h3 =>
      simp only [e]
      rw [r_wo, kT_]; refine we_c fun o2 h4 => ?_
      cases e2 : setI C f2 x2 o2 h4 with
      | none => simp only [e2]; exact propext Iff.rfl
      | some h5 => simp only [e2]; exact propext Iff.rfl
  match d with
  | .tup [x1, x2] => exact key x1 x2
  | .tup [] => exact propext Iff.rfl
  | .tup [_] => exact propext Iff.rfl
  | .tup (_ :: _ :: _ :: _) => exact propext Iff.rfl
  | .non => exact propext Iff.rfl
  | .bl _ => exact propext Iff.rfl
  | .int _ => exact propext Iff.rfl
  | .str _ => exact propext Iff.rfl
  | .lst _ => exact propext Iff.rfl
  | .dct _ _ => exact propext Iff.rfl
  | .dcT _ _ => exact propext Iff.rfl
  | .ins _ _ _ => exact propext Iff.rfl
  | .ptr _ => exact propext Iff.rfl
end
section
variable {Q : D → OH → Prop} {E : EQ} {t : Tg Q} {u : Tg E} {h : OH} {δ : Env} {m : Env → M D} {ms : Env → M (List D)} {C : Addr} {f : List D → M D} {n : Nat} {ns : List Str} {xs : List D} {e : D}
theorem ksZ_ : WE (kwx_ C n f ms δ h) Q E t u = WE (ms δ h) (fun ds h1 => Nd (ds.length = n) (WE (mkI C f ds h1) Q E .mk .mk) .mk) E .mk .mk := by
  unfold kwx_; rw [kM_]; refine we_c fun ds h1 => ?_
  by_cases e : ds.length = n
  · rw [if_pos e]; exact propext ⟨fun z => ⟨e, z⟩, fun z => z.2⟩
  · rw [if_neg e]; exact propext ⟨fun z => z.elim, fun z => (e z.1).elim⟩
theorem kqq_ : eqOk C h (.ins C ns xs) = True := propext ⟨fun _ => trivial, fun _ => ⟨ns, xs, rfl⟩⟩
theorem kqr_ : eqOk C h .non = True := rfl
theorem kqs_ {z : Str} : eqOk C h (.str z) = True := rfl
theorem kqt_ {z : Int} : eqOk C h (.int z) = True := rfl
theorem ks0_ {z : Bool} : eqOk C h (.bl z) = True := rfl
theorem kzk_ : WE (iEq C f (.ins C ns xs) e h) Q E t u = Nd (eqOk C h e) (WE (f [.ins C ns xs, e] h) Q E .mk .mk) .mk := by
  unfold iEq iEqL
  simp only [km5_, true_and]
  by_cases c : eqOk C h e
  · rw [if_pos c]; exact propext ⟨fun z => ⟨c, z⟩, fun z => z.2⟩
  · rw [if_neg c]; exact propext ⟨fun z => z.elim, fun z => (c z.1).elim⟩
theorem kvj_ : WE (iEq C f .non (.ins C ns xs) h) Q E t u = WE (f [.ins C ns xs, .non] h) Q E .mk .mk := by
  have : iEq C f .non (.ins C ns xs) h = f [.ins C ns xs, .non] h := by
    show (if ∃ ns' xs', kb1_ h (.ins C ns xs) = some (C, ns', xs') then f [.ins C ns xs, .non] h else .bad) = _
    rw [if_pos ⟨ns, xs, rfl⟩]
  rw [this]
theorem kvk_ {z : Str} : WE (iEq C f (.str z) (.ins C ns xs) h) Q E t u = WE (f [.ins C ns xs, .str z] h) Q E .mk .mk := by
  have : iEq C f (.str z) (.ins C ns xs) h = f [.ins C ns xs, .str z] h := by
    show (if ∃ ns' xs', kb1_ h (.ins C ns xs) = some (C, ns', xs') then f [.ins C ns xs, .str z] h else .bad) = _
    rw [if_pos ⟨ns, xs, rfl⟩]
  rw [this]
theorem kzl_ : WE (iNe C f (.ins C ns xs) e h) Q E t u = Nd (eqOk C h e) (WE (f [.ins C ns xs, e] h) (fun r h1 => WB r (fun k => Q (.bl (!k)) h1) .mk) E .mk .mk) .mk := by
  unfold iNe
  simp only [km5_, true_and]
  have key : WE (M.bind (f [.ins C ns xs, e]) notM h) Q E .mk .mk = WE (f [.ins C ns xs, e] h) (fun r h1 => WB r (fun k => Q (.bl (!k)) h1) .mk) E .mk .mk := by
    rw [kM_]; refine we_c fun r h1 => ?_
    cases r <;> exact propext Iff.rfl
  by_cases c : eqOk C h e
  · rw [if_pos c]; exact propext ⟨fun z => ⟨c, by rw [← key]; exact z⟩, fun z => by have := z.2; rw [← key] at this; exact this⟩
  · rw [if_neg c]; exact propext ⟨fun z => z.elim, fun z => (c z.1).elim⟩
theorem kzm_ : WE (atI' C f strM (.ins C ns xs) h) Q E t u = WE (f [.ins C ns xs] h) (fun r h1 => WT r (fun z => Q (.str z) h1) .mk) E .mk .mk := by
  unfold atI'
  simp only [km5_]
  rw [if_pos trivial, kM_]; refine we_c fun r h1 => ?_
  cases r <;> exact propext Iff.rfl
theorem ks1_ {d : D} : WE (kxf_ C f [d] h) Q E t u = WE (atI' C f strM d h) Q E .mk .mk := by exact propext Iff.rfl
theorem kvl_ : WE (kwz_ C f m δ h) Q E t u = WE (m δ h) (fun d h1 => WE (atI' C f strM d h1) Q noE .mk .mk) E .mk .mk := by
  unfold kwz_; rw [kM_]; refine we_c fun d h1 => ?_; rw [kjT_]
theorem kzn_ : isC C h (.ins C ns xs) = some (.bl true) := by
  unfold isC
  simp only [km5_]
  rw [if_pos trivial]
theorem kzo_ : isC C h .non = some (.bl false) := by unfold isC kb1_ tyS; simp [isTs]
theorem kzp_ {z : Str} : isC C h (.str z) = some (.bl false) := by unfold isC kb1_ tyS; simp [isTs]
theorem kvm_ : isIn C h (.ins C ns xs) = True := propext ⟨fun _ => trivial, fun _ => ⟨ns, xs, rfl⟩⟩
theorem kzq_ {h : OH} : kcC_ h = True := rfl
theorem kzr_ {h : OH} {xs ys : List D} : stays (.lst xs) ys h = True := rfl
theorem kvn_ {x y : D} : pairOf (.tup [x, y]) = some (x, y) := rfl
end
end Z
set_option Elab.async false
set_option linter.all false
set_option maxRecDepth 100000
set_option maxHeartbeats 4000000
namespace Z.Pw
def EP (w : Nat → Nat) (m p : Nat) : Prop := ∀ i, m ≤ i → w (i + p) = w i
theorem EP.mono {w : Nat → Nat} {m m' p : Nat} (h : EP w m p) (l : m ≤ m') : EP w m' p := fun i hi => h i (Nat.le_trans l hi)
theorem EP.mul {w : Nat → Nat} {m p : Nat} (h : EP w m p) : ∀ k : Nat, EP w m (k * p)
  | 0 => fun i _ => by rw [Nat.zero_mul, Nat.add_zero]
  | k + 1 => fun i hi => by rw [Nat.succ_mul, ← Nat.add_assoc, h (i + k * p) (by omega), EP.mul h k i hi]
theorem EP.sub {w : Nat → Nat} {m p q : Nat} (hp : EP w m p) (hq : EP w m q) (l : p ≤ q) : EP w m (q - p) := fun i hi => by
  rw [← hp (i + (q - p)) (by omega), show i + (q - p) + p = i + q by omega, hq i hi]
theorem EP.gcd {w : Nat → Nat} {m : Nat} : ∀ (n p q : Nat), p + q ≤ n → EP w m p → EP w m q → EP w m (Nat.gcd p q)
  | 0, p, q, l, hp, hq => by
    have e1 : p = 0 := by omega
    have e2 : q = 0 := by omega
    subst e1 e2
    exact hp
  | n + 1, p, q, l, hp, hq => by
    by_cases z1 : p = 0
    · subst z1; rw [Nat.gcd_zero_left]; exact hq
    by_cases z2 : q = 0
    · subst z2; rw [Nat.gcd_zero_right]; exact hp
    by_cases c : p ≤ q
    · have := EP.gcd n p (q - p) (by omega) hp (hp.sub hq c)
      rw [Nat.gcd_sub_self_right c] at this
      exact this
    · have := EP.gcd n (p - q) q (by omega) (hq.sub hp (by omega)) hq
      rw [Nat.gcd_sub_self_left (by omega)] at this
      exact this
theorem EP.back {w : Nat → Nat} {m m' p q : Nat} (hq : 0 < q) (h : EP w m p) (h' : EP w m' q) : EP w m' p := fun i hi => by
  have k : m ≤ i + m * q := by have := Nat.le_mul_of_pos_right m hq; omega
  have e1 := h'.mul m (i + p) (by omega)
  have e2 := h'.mul m i hi
  rw [← e1, ← e2, show i + p + m * q = i + m * q + p by omega]
  exact h _ k
theorem EP.dvd {w : Nat → Nat} {m m' p q : Nat} (hp : 0 < p) (hq : 0 < q) (h : EP w m p) (h' : EP w m' q) (least : ∀ n r, 0 < r → EP w n r → p ≤ r) : p ∣ q := by
  have g := EP.gcd (w := w) (m := max m m') (p + q) p q (Nat.le_refl _) (h.mono (Nat.le_max_left _ _)) (h'.mono (Nat.le_max_right _ _))
  have gp : 0 < Nat.gcd p q := Nat.gcd_pos_of_pos_left _ hp
  have l := least _ _ gp g
  have e : Nat.gcd p q = p := Nat.le_antisymm (Nat.gcd_le_left _ hp) l
  rw [← e]
  exact Nat.gcd_dvd_right _ _
theorem EP.first {w : Nat → Nat} {m p n q : Nat} (hp : 0 < p) (hq : 0 < q) (h : EP w m p) (least : ∀ n r, 0 < r → EP w n r → p ≤ r) (start : ∀ n, EP w n p → m ≤ n) (h' : EP w n q) : p ≤ q ∧ m ≤ n ∧ p ∣ q :=
  ⟨least _ _ hq h', start _ (h.back hq h'), h.dvd hp hq h' least⟩
def wd (h r : List Nat) (i : Nat) : Nat := if i < h.length then h.getD i 0 else r.getD ((i - h.length) % r.length) 0
theorem kwU_ {h r : List Nat} : EP (wd h r) h.length r.length := fun i hi => by
  unfold wd
  rw [if_neg (by omega), if_neg (by omega), show i + r.length - h.length = i - h.length + r.length by omega, Nat.add_mod_right]
end Z.Pw
set_option Elab.async false
set_option linter.all false
set_option maxRecDepth 100000
set_option maxHeartbeats 4000000
namespace Z.Pw
open Classical
def pre (w : Nat → Nat) (n : Nat) : List Nat := (List.range n).map w
def rep : Nat → List Nat → List Nat
  | 0, _ => []
  | k + 1, s => s ++ rep k s
structure NF (w : Nat → Nat) (h s : List Nat) : Prop where
  ne : 0 < s.length
  eq : wd h s = w
  lp : ∀ n q, 0 < q → EP w n q → s.length ≤ q
  ls : ∀ n, EP w n s.length → h.length ≤ n
theorem NF.ep {w : Nat → Nat} {h s : List Nat} (a : NF w h s) : EP w h.length s.length := by have := kwU_ (h := h) (r := s); rwa [a.eq] at this
def Cy (w : Nat → Nat) : Prop := ∃ m p, 0 < p ∧ EP w m p
theorem Cy.wd {h s : List Nat} (ne : 0 < s.length) : Cy (wd h s) := ⟨_, _, ne, kwU_⟩
end Z.Pw
set_option Elab.async false
set_option linter.all false
set_option maxRecDepth 100000
set_option maxHeartbeats 1000000
namespace Z
open PySem PySem.Spec PyProof.Rows L2 TL Y
open Cv Pw
instance {p q : Pl} : Decidable (inP p q) := inferInstanceAs (Decidable (_ ∧ _))
end Z
set_option Elab.async false
set_option linter.all false
set_option maxRecDepth 100000
set_option maxHeartbeats 4000000
namespace Z
open PySem PySem.Spec PyProof.Rows L2 TL Y
open Classical
section
variable {Q : D → OH → Prop} {QL : List D → OH → Prop} {E : EQ} {t : Tg Q} {tL : Tg QL} {u : Tg E} {h : OH} {δ : Env} {m mo a b mi : Env → M D} {ms mk : Env → M (List D)} {C : Addr} {f : List D → M D} {n j : Nat} {ns : List Str} {xs : List D} {e d : D}
theorem ks2_ {p : List Bool} {dl : List D} : WE (ksm_ C n j p dl f ms mk δ h) Q E t u = WE (ms δ h) (fun ds h1 => WE (mk δ h1) (fun zs h2 => Nd (ds.length = n ∧ zs.length = j) (WE (mkI C f (ds ++ weave p dl zs) h2) Q E .mk .mk) .mk) E .mk .mk) E .mk .mk := by
  unfold ksm_; rw [kM_]; refine we_c fun ds h1 => ?_; rw [kM_]; refine we_c fun zs h2 => ?_
  by_cases e : ds.length = n ∧ zs.length = j
  · rw [if_pos e]; exact propext ⟨fun z => ⟨e, z⟩, fun z => z.2⟩
  · rw [if_neg e]; exact propext ⟨fun z => z.elim, fun z => (e z.1).elim⟩
theorem kqu_ {α : Type} {p : List Bool} {l ws : List α} {w : α} : weave (true :: p) l (w :: ws) = w :: weave p l ws := by simp only [weave]
theorem kqv_ {α : Type} {p : List Bool} {l ws : List α} {w : α} : weave (false :: p) (w :: l) ws = w :: weave p l ws := by simp only [weave]
theorem kqw_ {α : Type} {l ws : List α} : weave [] l ws = [] := by simp only [weave]
def okJ (C : Addr) (h : OH) (e : D) : Prop := plnD h e ∨ insC C h e
theorem kvo_ : insC C h (.ins C ns xs) = True := propext ⟨fun _ => trivial, fun _ => ⟨ns, xs, rfl⟩⟩
theorem ks3_ : okJ C h (.ins C ns xs) = True := propext ⟨fun _ => trivial, fun _ => .inr ⟨ns, xs, rfl⟩⟩
theorem ks4_ : okJ C h .non = True := propext ⟨fun _ => trivial, fun _ => .inl ⟨_, rfl, by simp [isTs]⟩⟩
theorem ks5_ {z : Str} : okJ C h (.str z) = True := propext ⟨fun _ => trivial, fun _ => .inl ⟨_, rfl, by simp [isTs]⟩⟩
theorem ks6_ {z : Int} : okJ C h (.int z) = True := propext ⟨fun _ => trivial, fun _ => .inl ⟨_, rfl, by simp [isTs]⟩⟩
theorem kvp_ {z : Bool} : okJ C h (.bl z) = True := propext ⟨fun _ => trivial, fun _ => .inl ⟨_, rfl, by simp [isTs]⟩⟩
theorem ks7_ {z : List D} : okJ C h (.lst z) = True := propext ⟨fun _ => trivial, fun _ => .inl ⟨_, rfl, by simp [isTs]⟩⟩
theorem ks8_ {z : List D} : okJ C h (.tup z) = True := propext ⟨fun _ => trivial, fun _ => .inl ⟨_, rfl, by simp [isTs]⟩⟩
theorem ks9_ {ks : List Key} {z : List D} : okJ C h (.dct ks z) = True := propext ⟨fun _ => trivial, fun _ => .inl ⟨_, rfl, by simp [isTs]⟩⟩
theorem kta_ {k : Nat} : okJ C h (.ptr k) = ((∃ t, hT (h[k]?) = some t ∧ t ∈ isTs) ∨ insC C h (.ptr k)) := by
  unfold okJ plnD; rw [kuN_]
theorem kzs_ : WE (jEq C f (.ins C ns xs) e h) Q E t u = Nd (okJ C h e) (WE (f [.ins C ns xs, e] h) Q E .mk .mk) .mk := by
  unfold jEq
  rw [if_pos ⟨ns, xs, rfl⟩]
  by_cases c : plnD h e ∨ insC C h e
  · rw [if_pos c]; exact propext ⟨fun z => ⟨c, z⟩, fun z => z.2⟩
  · rw [if_neg c]; exact propext ⟨fun z => z.elim, fun z => (c z.1).elim⟩
theorem kb3_ (hd : ¬ insC C h d) (hp : plnD h d) : WE (jEq C f d (.ins C ns xs) h) Q E t u = WE (f [.ins C ns xs, d] h) Q E .mk .mk := by
  unfold jEq
  rw [if_neg hd, if_pos ⟨hp, ns, xs, rfl⟩]
theorem kvq_ : WE (jEq C f .non (.ins C ns xs) h) Q E t u = WE (f [.ins C ns xs, .non] h) Q E .mk .mk := kb3_ (fun ⟨_, _, z⟩ => nomatch z) ⟨_, rfl, by simp [isTs]⟩
theorem kvr_ {z : Str} : WE (jEq C f (.str z) (.ins C ns xs) h) Q E t u = WE (f [.ins C ns xs, .str z] h) Q E .mk .mk := kb3_ (fun ⟨_, _, z⟩ => nomatch z) ⟨_, rfl, by simp [isTs]⟩
theorem kvs_ {z : Int} : WE (jEq C f (.int z) (.ins C ns xs) h) Q E t u = WE (f [.ins C ns xs, .int z] h) Q E .mk .mk := kb3_ (fun ⟨_, _, z⟩ => nomatch z) ⟨_, rfl, by simp [isTs]⟩
theorem kvt_ {z : Bool} : WE (jEq C f (.bl z) (.ins C ns xs) h) Q E t u = WE (f [.ins C ns xs, .bl z] h) Q E .mk .mk := kb3_ (fun ⟨_, _, z⟩ => nomatch z) ⟨_, rfl, by simp [isTs]⟩
theorem kvu_ {z : List D} : WE (jEq C f (.lst z) (.ins C ns xs) h) Q E t u = WE (f [.ins C ns xs, .lst z] h) Q E .mk .mk := kb3_ (fun ⟨_, _, z⟩ => nomatch z) ⟨_, rfl, by simp [isTs]⟩
theorem kvv_ {z : List D} : WE (jEq C f (.tup z) (.ins C ns xs) h) Q E t u = WE (f [.ins C ns xs, .tup z] h) Q E .mk .mk := kb3_ (fun ⟨_, _, z⟩ => nomatch z) ⟨_, rfl, by simp [isTs]⟩
theorem kvw_ {ks : List Key} {z : List D} : WE (jEq C f (.dct ks z) (.ins C ns xs) h) Q E t u = WE (f [.ins C ns xs, .dct ks z] h) Q E .mk .mk := kb3_ (fun ⟨_, _, z⟩ => nomatch z) ⟨_, rfl, by simp [isTs]⟩
theorem kzt_ : WE (jNe C f (.ins C ns xs) e h) Q E t u = Nd (okJ C h e) (WE (f [.ins C ns xs, e] h) (fun r h1 => WB r (fun k => Q (.bl (!k)) h1) .mk) E .mk .mk) .mk := by
  unfold jNe
  have key : WE (M.bind (f [.ins C ns xs, e]) notM h) Q E .mk .mk = WE (f [.ins C ns xs, e] h) (fun r h1 => WB r (fun k => Q (.bl (!k)) h1) .mk) E .mk .mk := by
    rw [kM_]; refine we_c fun r h1 => ?_
    cases r <;> exact propext Iff.rfl
  by_cases c : okJ C h e
  · rw [if_pos ⟨⟨ns, xs, rfl⟩, c⟩]; exact propext ⟨fun z => ⟨c, by rw [← key]; exact z⟩, fun z => by have := z.2; rw [← key] at this; exact this⟩
  · rw [if_neg fun z => c z.2]; exact propext ⟨fun z => z.elim, fun z => (c z.1).elim⟩
theorem ktb_ : WE (kxh_ C f [.ins C ns xs] h) Q E t u = WE (f [.ins C ns xs] h) (fun r h1 => WI r (fun n => Nd (0 ≤ n ∧ n < 2 ^ 63) (Q (.int n) h1) .mk) .mk) E .mk .mk := by
  show WE (atI' C f lenM (.ins C ns xs) h) Q E t u = _
  unfold atI'
  simp only [km5_]
  rw [if_pos trivial, kM_]; refine we_c fun r h1 => ?_
  cases r with
  | int n =>
    unfold lenM
    dsimp only
    by_cases c : 0 ≤ n ∧ n < 2 ^ 63
    · rw [if_pos c]; exact propext ⟨fun z => ⟨c, z⟩, fun z => z.2⟩
    · rw [if_neg c]; exact propext ⟨fun z => z.elim, fun z => (c z.1).elim⟩
  | _ => exact propext Iff.rfl
theorem kzu_ {z : Bool} : isC C h (.bl z) = some (.bl false) := by unfold isC kb1_ tyS; simp [isTs]
theorem kzv_ {z : Int} : isC C h (.int z) = some (.bl false) := by unfold isC kb1_ tyS; simp [isTs]
theorem kzw_ {z : List D} : isC C h (.lst z) = some (.bl false) := by unfold isC kb1_ tyS; simp [isTs]
theorem kzx_ {z : List D} : isC C h (.tup z) = some (.bl false) := by unfold isC kb1_ tyS; simp [isTs]
theorem kzy_ {ks : List Key} {z : List D} : isC C h (.dct ks z) = some (.bl false) := by unfold isC kb1_ tyS; simp [isTs]
theorem kvx_ : pIsN false h .non .non = some (.bl true) := rfl
theorem kvy_ {z : List D} : pIsN false h (.tup z) .non = some (.bl false) := rfl
theorem kvz_ {z : Int} : pIsN false h (.int z) .non = some (.bl false) := rfl
theorem kvA_ : pIsN true h .non .non = some (.bl false) := rfl
theorem kvB_ {z : List D} : pIsN true h (.tup z) .non = some (.bl true) := rfl
theorem kvC_ {z : Int} : pIsN true h (.int z) .non = some (.bl true) := rfl
theorem kvD_ : WE (kwF_ m δ h) QL E tL u = WE (m δ h) (fun d h1 => WO (kW_ h1 d) (fun xs => QL xs.reverse h1) .mk) E .mk .mk := by
  unfold kwF_; rw [kM_]; refine we_c fun d h1 => ?_; rw [kdF_]
  cases kW_ h1 d <;> exact propext Iff.rfl
theorem kvE_ : WE (kwE_ a b δ h) QL E tL u = WE (a δ h) (fun d h1 => WE (b δ h1) (fun e h2 => WO (kW_ h2 d) (fun xs => WO (kW_ h2 e) (fun ys => QL (zipD xs ys) h2) .mk) .mk) E .mk .mk) E .mk .mk := by
  unfold kwE_; rw [kM_]; refine we_c fun d h1 => ?_; rw [kM_]; refine we_c fun e h2 => ?_; rw [kdF_]
  cases kW_ h2 d with
  | none => exact propext Iff.rfl
  | some xs => cases kW_ h2 e <;> exact propext Iff.rfl
theorem kpw_ : WE (kqc_ m δ h) Q E t u = WE (m δ h) (fun d h1 => WO (kW_ h1 d) (fun xs => WO (klQ_ xs) (fun ps => Q (.ptr h1.length) (h1 ++ [.dcT (kkx_ ([], []) ps).1 (kkx_ ([], []) ps).2])) .mk) .mk) E .mk .mk := by
  unfold kqc_; rw [kM_]; refine we_c fun d h1 => ?_
  cases kW_ h1 d with
  | none => exact propext Iff.rfl
  | some xs =>
    simp only [r_wo]
    cases klQ_ xs <;> exact propext Iff.rfl
def hD (o : Option OO) : Option (List (List Key) × List D) := match o with
  | some (.dcT ks vs) => some (ks, vs)
  | _ => none
theorem hD_s {ks : List (List Key)} {vs : List D} : hD (some (.dcT ks vs)) = some (ks, vs) := rfl
theorem kzz_ {k : Nat} : dT h (.ptr k) = hD (h[k]?) := by
  show (match h[k]? with
    | some (.dcT ks vs) => some (ks, vs)
    | _ => none) = _
  cases h[k]? with
  | none => rfl
  | some o => cases o <;> rfl
theorem kzA_ {ks : List (List Key)} {vs : List D} : dT h (.dcT ks vs) = some (ks, vs) := rfl
theorem kvF_ {k : Nat} : ownT h (.ptr k) = (hD (h[k]?)).map fun p => (k, p.1, p.2) := by
  show (match h[k]? with
    | some (.dcT ks vs) => some (k, ks, vs)
    | _ => none) = _
  cases h[k]? with
  | none => rfl
  | some o => cases o <;> rfl
def hI (o : Option OO) : Option (List Key × List D) := match o with
  | some (.dct ks vs) => some (ks, vs)
  | _ => none
theorem hD_i {ks : List Key} {vs : List D} : hI (some (.dct ks vs)) = some (ks, vs) := rfl
theorem kzB_ {k : Nat} : dI h (.ptr k) = hI (h[k]?) := by
  show (match h[k]? with
    | some (.dct ks vs) => some (ks, vs)
    | _ => none) = _
  cases h[k]? with
  | none => rfl
  | some o => cases o <;> rfl
theorem kzC_ {ks : List Key} {vs : List D} : dI h (.dct ks vs) = some (ks, vs) := rfl
noncomputable def setP (h : OH) (k : Nat) (o : Option OO) (i z : D) : Option OH := match o with
  | some (.dcT ks vs) => match keyT i with
    | some kk => if ks.length < lim then some (h.set k (.dcT (kn2_ ks kk) (putV ks vs kk z))) else none
    | none => none
  | some (.dct ks vs) => match keyI i with
    | some kk => if ks.length < lim then some (h.set k (.dct (kn2_ ks kk) (putV ks vs kk z))) else none
    | none => none
  | _ => none
theorem ktc_ {k : Nat} {i z : D} : setD h (.ptr k) i z = setP h k (h[k]?) i z := by
  unfold setD ownT ownJ setP
  dsimp only
  cases h[k]? with
  | none => rfl
  | some o => cases o <;> rfl
theorem ktd_ {k : Nat} {ks : List (List Key)} {vs : List D} {i z : D} {Q : OH → Prop} {t : Tg Q} : WO (setP h k (some (.dcT ks vs)) i z) Q t = WO (keyT i) (fun kk => Nd (ks.length < lim) (Q (h.set k (.dcT (kn2_ ks kk) (putV ks vs kk z)))) .mk) .mk := by
  unfold setP
  cases keyT i with
  | none => exact propext Iff.rfl
  | some kk =>
    simp only [r_wo]
    by_cases c : ks.length < lim
    · rw [if_pos c]; exact propext ⟨fun z => ⟨c, z⟩, fun z => z.2⟩
    · rw [if_neg c]; exact propext ⟨fun z => z.elim, fun z => (c z.1).elim⟩
theorem kte_ {k : Nat} {ks : List Key} {vs : List D} {i z : D} {Q : OH → Prop} {t : Tg Q} : WO (setP h k (some (.dct ks vs)) i z) Q t = WO (keyI i) (fun kk => Nd (ks.length < lim) (Q (h.set k (.dct (kn2_ ks kk) (putV ks vs kk z)))) .mk) .mk := by
  unfold setP
  cases keyI i with
  | none => exact propext Iff.rfl
  | some kk =>
    simp only [r_wo]
    by_cases c : ks.length < lim
    · rw [if_pos c]; exact propext ⟨fun z => ⟨c, z⟩, fun z => z.2⟩
    · rw [if_neg c]; exact propext ⟨fun z => z.elim, fun z => (c z.1).elim⟩
theorem kvG_ {i : Int} : keyI (.int i) = some (.inl i) := rfl
theorem kvH_ {Q : Fl → OH → Prop} {E : ES} {t : Tg Q} {u : Tg E} : WS (kwD_ m mo mi δ h) Q E t u = WE (m δ h) (fun d h1 => WE (mo δ h1) (fun o h2 => WE (mi δ h2) (fun i h3 => WO (setD h3 o i d) (fun h4 => Q (.nx δ) h4) .mk) (eS E δ) .mk .mk) (eS E δ) .mk .mk) (eS E δ) .mk .mk := by
  unfold kwD_; rw [kT_]; refine we_c fun d h1 => ?_; rw [kT_]; refine we_c fun o h2 => ?_; rw [kT_]; refine we_c fun i h3 => ?_
  cases setD h3 o i d <;> exact propext Iff.rfl
theorem ktf_ {op : OM} : WE (ksk_ op m ms δ h) Q E t u = WE (m δ h) (fun d h1 => Nd ((ownT h1 d).isSome = true) (WE (ms δ h1) (fun es h2 => WM (op h2 d es) Q .mk) E .mk .mk) .mk) E .mk .mk := by
  unfold ksk_; rw [kM_]; refine we_c fun d h1 => ?_
  by_cases c : (ownT h1 d).isSome = true
  · rw [if_pos c, kM_]
    have : ∀ es h2, WE ((match op h2 d es with
        | some (z, h') => .ok z h'
        | none => .bad) : Res D) Q E .mk .mk = WM (op h2 d es) Q .mk := fun es h2 => by
      cases op h2 d es with
      | none => exact propext Iff.rfl
      | some p => exact propext Iff.rfl
    exact propext ⟨fun z => ⟨c, by rw [← we_c this]; exact z⟩, fun z => by have := z.2; rw [← we_c ‹_›] at this; exact this⟩
  · rw [if_neg c]; exact propext ⟨fun z => z.elim, fun z => (c z.1).elim⟩
def hF (o : Option OO) : Option D := match o with
  | some (.dcT ks vs) => some (.dcT ks vs)
  | some (.dct ks vs) => some (.dct ks vs)
  | _ => none
theorem kzD_ {ks : List (List Key)} {vs : List D} : hF (some (.dcT ks vs)) = some (.dcT ks vs) := rfl
theorem kzE_ {ks : List Key} {vs : List D} : hF (some (.dct ks vs)) = some (.dct ks vs) := rfl
def frzP (h : OH) (o : Option Sl) : Option (Nat × D) := match o with
  | some (.val (.ptr k)) => (hF (h[k]?)).map fun p => (k, p)
  | _ => none
theorem ktg_ {k : Nat} : frzP h (some (.val (.ptr k))) = (hF (h[k]?)).map fun p => (k, p) := rfl
theorem kvI_ {Q : Fl → OH → Prop} {E : ES} {t : Tg Q} {u : Tg E} {i : Nat} {b : MS} : WS (sFrz i b δ h) Q E t u = WO (frzP h (δ[i]?)) (fun p => WN (δ.set i (.val p.2)) (fun δ1 => WS (b δ1 (h.set p.1 .gone)) Q E .mk .mk) .mk) .mk := by
  unfold sFrz
  cases δ[i]? with
  | none => exact propext Iff.rfl
  | some s =>
    cases s with
    | val d =>
      cases d with
      | ptr k =>
        simp only [ktg_]
        cases h[k]? with
        | none => exact propext Iff.rfl
        | some o => cases o <;> exact propext Iff.rfl
      | _ => exact propext Iff.rfl
    | _ => exact propext Iff.rfl
def kwV_ (h : OH) (o : Option Sl) : Option (Nat × List D) := match o with
  | some (.val (.ptr k)) => (hL (h[k]?)).map fun p => (k, p)
  | _ => none
theorem kth_ {k : Nat} : kwV_ h (some (.val (.ptr k))) = (hL (h[k]?)).map fun p => (k, p) := rfl
theorem kvJ_ {Q : Fl → OH → Prop} {E : ES} {t : Tg Q} {u : Tg E} {i : Nat} {b : MS} : WS (kwG_ i b δ h) Q E t u = WO (kwV_ h (δ[i]?)) (fun p => WN (δ.set i (.val (.lst p.2))) (fun δ1 => WS (b δ1 (h.set p.1 .gone)) Q E .mk .mk) .mk) .mk := by
  unfold kwG_
  cases δ[i]? with
  | none => exact propext Iff.rfl
  | some s =>
    cases s with
    | val d =>
      cases d with
      | ptr k =>
        simp only [kth_]
        cases h[k]? with
        | none => exact propext Iff.rfl
        | some o => cases o <;> exact propext Iff.rfl
      | _ => exact propext Iff.rfl
    | _ => exact propext Iff.rfl
theorem kqx_ {Q : Fl → OH → Prop} {E : ES} {t : Tg Q} {u : Tg E} {i : Nat} {op : O2} {b : MS} : WS (ksl_ i m op a b δ h) Q E t u = WS (kr6_ mYes (sSeq (sSet i m) (sIf (kku_ (mOp2 op (mVar i) a)) b sBk)) δ h) Q E t u := rfl
def WCl (o : Option Sl) (C : Addr) (A : Prop) (t : Tg A) : Prop := match o with
  | some (.cls C') => C' = C ∧ A
  | _ => False
theorem kwW_ {A : Prop} {t : Tg A} : WCl (some (.cls C)) C A t = A := by exact propext ⟨fun z => z.2, fun z => ⟨rfl, z⟩⟩
theorem kvK_ {i : Nat} : WE (mCls i C m δ h) Q E t u = WCl (δ[i]?) C (WE (m δ h) Q E .mk .mk) .mk := by
  unfold mCls
  cases δ[i]? with
  | none => exact propext Iff.rfl
  | some s =>
    cases s with
    | cls C' =>
      dsimp only
      by_cases c : C' = C
      · subst c; rw [if_pos rfl, kwW_]
      · rw [if_neg c]; exact propext ⟨fun z => z.elim, fun z => (c z.1).elim⟩
    | _ => exact propext Iff.rfl
theorem kvL_ {b : MS} {k : Nat} {ds : List D} : WE (kwH_ C k b ds h) Q E t u = WN (.cls C :: envOf (k - 1) ds) (fun δ => WS (b δ h) (krj_ Q) (dS E) .mk .mk) .mk := by unfold kwH_; rw [kom_]; exact propext Iff.rfl
theorem kvM_ {Q : Fl → OH → Prop} {E : ES} {t : Tg Q} {u : Tg E} {i j l : Nat} : WS (krh_ i j l ms δ h) Q E t u = WE (ms δ h) (fun ds h1 => WO (match ds with | [a, b, c] => some (a, b, c) | _ => none) (fun p => WN (((δ.set i (.val p.1)).set j (.val p.2.1)).set l (.val p.2.2)) (fun δ1 => Q (.nx δ1) h1) .mk) .mk) (eS E δ) .mk .mk := by
  unfold krh_; rw [kT_]; refine we_c fun ds h1 => ?_
  match ds with
  | [] => exact propext Iff.rfl
  | [_] => exact propext Iff.rfl
  | [_, _] => exact propext Iff.rfl
  | [_, _, _] => exact propext Iff.rfl
  | _ :: _ :: _ :: _ :: _ => exact propext Iff.rfl
theorem kqy_ : WE (kpk_ m δ h) Q E t u = WE (m δ h) (fun d h1 => WO ((kW_ h1 d).bind ktO_) (fun ns => Nd (ns.length ≤ 4000) (Q (.int (unl ns : Nat)) h1) .mk) .mk) E .mk .mk := by
  unfold kpk_; rw [kM_]; refine we_c fun d h1 => ?_
  cases (kW_ h1 d).bind ktO_ with
  | none => exact propext Iff.rfl
  | some ns =>
    dsimp only
    rw [r_wo]
    by_cases c : ns.length ≤ 4000
    · rw [if_pos c]; exact propext ⟨fun z => ⟨c, z⟩, fun z => z.2⟩
    · rw [if_neg c]; exact propext ⟨fun z => z.elim, fun z => (c z.1).elim⟩
theorem ktU_ {p : Prop} [Decidable p] {r : Res D} {Q : D → OH → Prop} {t : Tg Q} (T' : Prop) (hT : T' = WE r Q E t u) : WE (if p then r else .bad) Q E t u = Nd p T' .mk := by
  subst hT
  by_cases c : p
  · rw [if_pos c]; exact propext ⟨fun z => ⟨c, z⟩, fun z => z.2⟩
  · rw [if_neg c]; exact propext ⟨fun z => z.elim, fun z => (c z.1).elim⟩
theorem kvN_ : WE (kwI_ C f a b δ h) Q E t u = WE (a δ h) (fun x h1 => WE (b δ h1) (fun y h2 => Nd (isIn C h2 x) (Nd (okJ C h2 y) (WE (f [x, y] h2) Q E .mk .mk) .mk) .mk) E .mk .mk) E .mk .mk := by
  unfold kwI_; rw [kM_]; refine we_c fun x h1 => ?_; rw [kM_]; refine we_c fun y h2 => ?_
  rw [ktU_ _ rfl]
  exact propext ⟨fun z => ⟨z.1.1, z.1.2, z.2⟩, fun z => ⟨⟨z.1, z.2.1⟩, z.2.2⟩⟩
theorem kvO_ : WE (kwJ_ C f a δ h) Q E t u = WE (a δ h) (fun x h1 => Nd (isIn C h1 x) (WE (f [x] h1) Q E .mk .mk) .mk) E .mk .mk := by
  unfold kwJ_; rw [kM_]; refine we_c fun x h1 => ?_
  rw [ktU_ _ rfl]; exact propext Iff.rfl
theorem kti_ {i : Nat} : WE (kso_ i C n f ms δ h) Q E t u = WE (mVar i δ h) (fun x h => Nd (isIn C h x) (WE (ms δ h) (fun ds h1 => Nd (isIn C h1 x) (Nd (ds.length = n) (WE (f (x :: ds) h1) Q E .mk .mk) .mk) .mk) E .mk .mk) .mk) E .mk .mk := by
  unfold kso_; rw [kM_]; refine we_c fun x h1 => ?_
  rw [ktU_ _ rfl]
  have : WE (M.bind (ms δ) (fun ds h2 => if insC C h2 x ∧ ds.length = n then f (x :: ds) h2 else .bad) h1) Q E .mk .mk = WE (ms δ h1) (fun ds h2 => Nd (isIn C h2 x) (Nd (ds.length = n) (WE (f (x :: ds) h2) Q E .mk .mk) .mk) .mk) E .mk .mk := by
    rw [kM_]; refine we_c fun ds h2 => ?_
    rw [ktU_ _ rfl]
    exact propext ⟨fun z => ⟨z.1.1, z.1.2, z.2⟩, fun z => ⟨⟨z.1, z.2.1⟩, z.2.2⟩⟩
  exact propext ⟨fun z => ⟨z.1, by rw [← this]; exact z.2⟩, fun z => ⟨z.1, by rw [this]; exact z.2⟩⟩
def itI (d : D) : Option Its := match d with
  | .dcT ks vs => if ks.all (fun k => k.all keyB) = true then some ⟨kky_ ks vs, kcC_⟩ else none
  | .dct ks vs => if ks.all keyB = true then some ⟨kmQ_ ks vs, kcC_⟩ else none
  | _ => none
theorem kvP_ {ks : List (List Key)} {vs : List D} {Q : Its → Prop} {t : Tg Q} : WO (itI (.dcT ks vs)) Q t = Nd (ks.all (fun k => k.all keyB) = true) (Q ⟨kky_ ks vs, kcC_⟩) .mk := by
  unfold itI
  by_cases c : ks.all (fun k => k.all keyB) = true
  · dsimp only; rw [if_pos c]; exact propext ⟨fun z => ⟨c, z⟩, fun z => z.2⟩
  · dsimp only; rw [if_neg c]; exact propext ⟨fun z => z.elim, fun z => (c z.1).elim⟩
theorem kvQ_ {ks : List Key} {vs : List D} {Q : Its → Prop} {t : Tg Q} : WO (itI (.dct ks vs)) Q t = Nd (ks.all keyB = true) (Q ⟨kmQ_ ks vs, kcC_⟩) .mk := by
  unfold itI
  by_cases c : ks.all keyB = true
  · dsimp only; rw [if_pos c]; exact propext ⟨fun z => ⟨c, z⟩, fun z => z.2⟩
  · dsimp only; rw [if_neg c]; exact propext ⟨fun z => z.elim, fun z => (c z.1).elim⟩
theorem kzF_ {QI : Its → OH → Prop} {tI : Tg QI} : WE (mItI m δ h) QI E tI u = WE (m δ h) (fun d h1 => WO (itI d) (fun its => QI its h1) .mk) E .mk .mk := by
  unfold mItI itI; rw [kM_]; refine we_c fun d h1 => ?_
  cases d with
  | dcT ks vs =>
    dsimp only
    by_cases c : ks.all (fun k => k.all keyB) = true
    · rw [if_pos c, if_pos c]; exact propext Iff.rfl
    · rw [if_neg c, if_neg c]; exact propext Iff.rfl
  | dct ks vs =>
    dsimp only
    by_cases c : ks.all keyB = true
    · rw [if_pos c, if_pos c]; exact propext Iff.rfl
    · rw [if_neg c, if_neg c]; exact propext Iff.rfl
  | _ => exact propext Iff.rfl
theorem kzG_ : WE (mFrz (kqc_ m) δ h) Q E t u = WE (m δ h) (fun d h1 => WO (kW_ h1 d) (fun xs => WO (klQ_ xs) (fun ps => Q (.dcT (kkx_ ([], []) ps).1 (kkx_ ([], []) ps).2) (h1 ++ [.gone])) .mk) .mk) E .mk .mk := by
  unfold mFrz; rw [kM_, kpw_]; refine we_c fun d h1 => ?_
  cases kW_ h1 d with
  | none => exact propext Iff.rfl
  | some xs =>
    rw [r_wo, r_wo]
    cases klQ_ xs with
    | none => exact propext Iff.rfl
    | some ps => rw [r_wo, r_wo, kwS_]
theorem kzH_ {cl : Ows} : WE (sEq cl d e h) Q E t u = Nd (∃ xs ys, kW_ h d = some xs ∧ kW_ h e = some ys ∧ Two (kpl_ cl h 7) xs ys) (Q (.bl true) h) .mk := by
  unfold sEq
  by_cases c : ∃ xs ys, kW_ h d = some xs ∧ kW_ h e = some ys ∧ Two (kpl_ cl h 7) xs ys
  · rw [if_pos c]; exact propext ⟨fun z => ⟨c, z⟩, fun z => z.2⟩
  · rw [if_neg c]; exact propext ⟨fun z => z.elim, fun z => (c z.1).elim⟩
theorem kzI_ {cl : Ows} : WE (sNe cl d e h) Q E t u = Nd (∃ xs ys, kW_ h d = some xs ∧ kW_ h e = some ys ∧ Two (kpl_ cl h 7) xs ys) (Q (.bl false) h) .mk := by
  unfold sNe
  by_cases c : ∃ xs ys, kW_ h d = some xs ∧ kW_ h e = some ys ∧ Two (kpl_ cl h 7) xs ys
  · rw [if_pos c]; exact propext ⟨fun z => ⟨c, z⟩, fun z => z.2⟩
  · rw [if_neg c]; exact propext ⟨fun z => z.elim, fun z => (c z.1).elim⟩
noncomputable def rtx (cl : Ows) (h : OH) (d : D) : Str := if e : ∃ t, TxS cl h d t then Classical.choose e else Str.empty
theorem ktj_ {cl : Ows} : WE (ksq_ cl [d] h) Q E t u = Nd (∃ t, TxS cl h d t) (Q (.str (rtx cl h d)) h) .mk := by
  have e1 : ksq_ cl [d] h = if e : ∃ t, TxS cl h d t then .ok (.str (Classical.choose e)) h else .bad := rfl
  by_cases c : ∃ t, TxS cl h d t
  · have e2 : rtx cl h d = Classical.choose c := dif_pos c
    rw [e1, dif_pos c, e2]
    exact propext ⟨fun z => ⟨c, z⟩, fun z => z.2⟩
  · rw [e1, dif_neg c]; exact propext ⟨fun z => z.elim, fun z => (c z.1).elim⟩
theorem ktk_ : WE (kuk_ δ h) Q E t u = Q (.ptr h.length) (h ++ [.dct [] []]) := by exact propext Iff.rfl
theorem kvR_ {Q : Fl → OH → Prop} {E : ES} {t : Tg Q} {u : Tg E} : WS (kwK_ m mo mi δ h) Q E t u = WE (m δ h) (fun d h1 => WE (mo δ h1) (fun o h2 => WE (mi δ h2) (fun i h3 => WO (match o, i with | .ptr k, .str x => some (k, x) | _, _ => none) (fun p => Nd (h3[p.1]? = some (.dct [] [])) (Q (.nx δ) (h3.set p.1 (.dct [.inr p.2] [d]))) .mk) .mk) (eS E δ) .mk .mk) (eS E δ) .mk .mk) (eS E δ) .mk .mk := by
  unfold kwK_; rw [kT_]; refine we_c fun d h1 => ?_; rw [kT_]; refine we_c fun o h2 => ?_; rw [kT_]; refine we_c fun i h3 => ?_
  cases o with
  | ptr k =>
    cases i with
    | str x =>
      dsimp only
      rw [r_wo]
      by_cases c : h3[k]? = some (.dct [] [])
      · rw [if_pos c]; exact propext ⟨fun z => ⟨c, z⟩, fun z => z.2⟩
      · rw [if_neg c]; exact propext ⟨fun z => z.elim, fun z => (c z.1).elim⟩
    | _ => exact propext Iff.rfl
  | _ => exact propext Iff.rfl
def WIsX (o : Option Sl) (b : Bool) (Q : D → Prop) (t : Tg Q) : Prop := match o with
  | some (.exn _ _) => Q (.bl b)
  | _ => False
theorem kvS_ {b : Bool} {Q : D → Prop} {t : Tg Q} {ns : List Str} {ds : List D} : WIsX (some (.exn ns ds)) b Q t = Q (.bl b) := by exact propext Iff.rfl
theorem kzJ_ {i : Nat} {b : Bool} : WE (mIsX i b δ h) Q E t u = WIsX (δ[i]?) b (fun d => Q d h) .mk := by
  unfold mIsX
  cases e : δ[i]? with
  | none => simp only [e]; exact propext Iff.rfl
  | some s => cases s <;> (simp only [e]; exact propext Iff.rfl)
theorem ktl_ {O : Addr} : WE (ksr_ C O m δ h) Q E t u = WE (m δ h) (fun d h1 => WO (isC2 C O h1 d) (fun z => Q z h1) .mk) E .mk .mk := by
  unfold ksr_; rw [kM_]; refine we_c fun d h1 => ?_; rw [keP_]
theorem kvT_ {O : Addr} : isC2 C O h (.ins C ns xs) = some (.bl true) := by
  unfold isC2
  simp [kb1_]
theorem ktm_ : kwM_ h [.bl true] = some (.int 1) := rfl
theorem ktn_ : kwM_ h [.bl false] = some (.int 0) := rfl
theorem kvU_ {O : Addr} : isC2 C O h .non = some (.bl false) := by unfold isC2 kb1_ tyS; simp [isTs]
theorem kvV_ {O : Addr} {z : Str} : isC2 C O h (.str z) = some (.bl false) := by unfold isC2 kb1_ tyS; simp [isTs]
theorem kvW_ {O : Addr} {z : Bool} : isC2 C O h (.bl z) = some (.bl false) := by unfold isC2 kb1_ tyS; simp [isTs]
theorem kvX_ {O : Addr} {z : Int} : isC2 C O h (.int z) = some (.bl false) := by unfold isC2 kb1_ tyS; simp [isTs]
theorem kvY_ {O : Addr} {z : List D} : isC2 C O h (.lst z) = some (.bl false) := by unfold isC2 kb1_ tyS; simp [isTs]
theorem kvZ_ {O : Addr} {z : List D} : isC2 C O h (.tup z) = some (.bl false) := by unfold isC2 kb1_ tyS; simp [isTs]
theorem kv0_ {O : Addr} {ks : List Key} {z : List D} : isC2 C O h (.dct ks z) = some (.bl false) := by unfold isC2 kb1_ tyS; simp [isTs]
theorem kto_ {x : Str} {d : D} : WE (kul_ x d δ h) Q E t u = Q (.ptr h.length) (h ++ [.dct [.inr x] [d]]) := by exact propext Iff.rfl
theorem kv1_ {Q : Fl → OH → Prop} {E : ES} {t : Tg Q} {u : Tg E} : WS (kwL_ m mo mi δ h) Q E t u = WE (m δ h) (fun d h1 => WE (mo δ h1) (fun o h2 => WE (mi δ h2) (fun i h3 => WO (match o, i with | .ptr k, .str x => some (k, x) | _, _ => none) (fun p => WO (match h3[p.1]? with | some (.dct [.inr y] [d0]) => some (y, d0) | _ => none) (fun q => Nd (q.1 ≠ p.2) (Q (.nx δ) (h3.set p.1 (.dct [.inr q.1, .inr p.2] [q.2, d]))) .mk) .mk) .mk) (eS E δ) .mk .mk) (eS E δ) .mk .mk) (eS E δ) .mk .mk := by
  unfold kwL_; rw [kT_]; refine we_c fun d h1 => ?_; rw [kT_]; refine we_c fun o h2 => ?_; rw [kT_]; refine we_c fun i h3 => ?_
  cases o with
  | ptr k =>
    cases i with
    | str x =>
      dsimp only
      rw [r_wo]
      split
      · rename_i y d0 c
        simp only [c]
        rw [r_wo]
        by_cases ne : y = x
        · rw [if_pos ne]; exact propext ⟨fun z => z.elim, fun z => (z.1 ne).elim⟩
        · rw [if_neg ne]; exact propext ⟨fun z => ⟨ne, z⟩, fun z => z.2⟩
      · rename_i c
        first
        | exact propext Iff.rfl
        | (split
           · rename_i y d0 c2
             exact (c _ _ c2).elim
           · exact propext Iff.rfl)
    | _ => exact propext Iff.rfl
  | _ => exact propext Iff.rfl
theorem kv2_ {QI : Its → OH → Prop} {tI : Tg QI} : WE (kwN_ ms δ h) QI E tI u = WE (ms δ h) (fun ds h1 => WO (r3P ds) (fun i => QI i h1) .mk) E .mk .mk := by
  unfold kwN_; rw [kM_]; refine we_c fun ds h1 => ?_
  cases r3P ds <;> exact propext Iff.rfl
theorem kzK_ {i j : Int} {QI : Its → Prop} {tI : Tg QI} : WO (r3P [.int i, .int j, .int (-1)]) QI tI = Nd (-(2 ^ 62) ≤ i ∧ i < 2 ^ 62 ∧ -(2 ^ 62) ≤ j ∧ j < 2 ^ 62) (QI ⟨rngC i (i - j).toNat, kcC_⟩) .mk := by
  unfold r3P
  by_cases e : -(2 ^ 62) ≤ i ∧ i < 2 ^ 62 ∧ -(2 ^ 62) ≤ j ∧ j < 2 ^ 62
  · dsimp only
    rw [if_pos ⟨rfl, e⟩]; exact propext ⟨fun z => ⟨e, z⟩, fun z => z.2⟩
  · dsimp only
    rw [if_neg (fun z => e z.2)]; exact propext ⟨fun z => z.elim, fun z => (e z.1).elim⟩
noncomputable def sitP (h : OH) (d : D) : Option (List D) := match dT h d with
  | some p => if p.1.all (fun k => k.all keyB) = true ∧ p.1.length ≤ lim ∧ ksg_ h (kky_ p.1 p.2) then some ((kky_ p.1 p.2).mergeSort (PySem.W.dataLe false (encD h))) else none
  | none => none
theorem kzL_ : WE (kpm_ m δ h) QL E tL u = WE (m δ h) (fun d h1 => WO (sitP h1 d) (fun zs => QL zs h1) .mk) E .mk .mk := by
  unfold kpm_; rw [kM_]; refine we_c fun d h1 => ?_
  rw [kdF_]
  rfl
noncomputable def getP (h : OH) (d e : D) : Option D := ktN_ h d e fun _ z => z.getD .non
theorem kv3_ {mg : Env → M D} : WE (kwO_ m mg δ h) Q E t u = WE (m δ h) (fun d h1 => Nd ((dT h1 d).isSome = true ∨ (dI h1 d).isSome = true) (WE (mg δ h1) (fun e h2 => WO (getP h2 d e) (fun z => Q z h2) .mk) E .mk .mk) .mk) E .mk .mk := by
  unfold kwO_; rw [kM_]; refine we_c fun d h1 => ?_
  have : ∀ e h2, WE ((match ktN_ h2 d e fun _ z => z.getD .non with
      | some z => .ok z h2
      | none => .bad) : Res D) Q E .mk .mk = WO (getP h2 d e) (fun z => Q z h2) .mk := fun e h2 => by
    unfold getP
    cases ktN_ h2 d e fun _ z => z.getD .non <;> exact propext Iff.rfl
  by_cases c : (dT h1 d).isSome = true ∨ (dI h1 d).isSome = true
  · rw [if_pos c, kM_]
    exact propext ⟨fun z => ⟨c, by rw [← we_c this]; exact z⟩, fun z => by have := z.2; rw [← we_c ‹_›] at this; exact this⟩
  · rw [if_neg c]
    exact propext ⟨fun z => z.elim, fun z => (c z.1).elim⟩
theorem kzM_ {p : List Bool} {dl : List D} : WE (mFnK n j p dl f ms mk δ h) Q E t u = WE (ms δ h) (fun ds h1 => WE (mk δ h1) (fun zs h2 => Nd (ds.length = n ∧ zs.length = j) (WE (f (ds ++ weave p dl zs) h2) Q E .mk .mk) .mk) E .mk .mk) E .mk .mk := by
  unfold mFnK; rw [kM_]; refine we_c fun ds h1 => ?_; rw [kM_]; refine we_c fun zs h2 => ?_
  by_cases e : ds.length = n ∧ zs.length = j
  · rw [if_pos e]; exact propext ⟨fun z => ⟨e, z⟩, fun z => z.2⟩
  · rw [if_neg e]; exact propext ⟨fun z => z.elim, fun z => (e z.1).elim⟩
theorem kzN_ {mi m1 : Env → M Its} {g g1 : GD} {tt tt1 : Env → M Bool} {te : Env → M D} {vs vs1 : List Nat} : WE (mLc2 mi g tt m1 g1 tt1 te vs vs1 δ h) QL E tL u = WE (mi δ h) (fun its h1 => WN (kgi_ δ vs) (fun δ1 => WE (ktP_ g tt m1 g1 tt1 te its.ok vs1 δ1 its.xs [] h1) QL E .mk .mk) .mk) E .mk .mk := by
  unfold mLc2; rw [kM_]; rfl
def itV (d : D) : Option Its := match d with
  | .dcT _ vs => some ⟨vs, kcC_⟩
  | .dct _ vs => some ⟨vs, kcC_⟩
  | _ => none
theorem kv4_ {ks : List (List Key)} {vs : List D} : itV (.dcT ks vs) = some ⟨vs, kcC_⟩ := rfl
theorem kv5_ {ks : List Key} {vs : List D} : itV (.dct ks vs) = some ⟨vs, kcC_⟩ := rfl
theorem kzO_ {QI : Its → OH → Prop} {tI : Tg QI} : WE (mItV m δ h) QI E tI u = WE (m δ h) (fun d h1 => WO (itV d) (fun its => QI its h1) .mk) E .mk .mk := by
  unfold mItV itV; rw [kM_]; refine we_c fun d h1 => ?_
  cases d <;> exact propext Iff.rfl
theorem kpx_ : WE (kqe_ m δ h) Q E t u = WE (m δ h) (fun d h1 => WO (kW_ h1 d) (fun xs => WO (khx_ xs) (fun ps => Q (.ptr h1.length) (h1 ++ [.dct (keM_ ([], []) ps).1 (keM_ ([], []) ps).2])) .mk) .mk) E .mk .mk := by
  unfold kqe_; rw [kM_]; refine we_c fun d h1 => ?_
  cases kW_ h1 d with
  | none => exact propext Iff.rfl
  | some xs =>
    simp only [r_wo]
    cases khx_ xs <;> exact propext Iff.rfl
theorem kpy_ {ks : List Key} {vs : List D} : frz (.ptr h.length) (h ++ [.dct ks vs]) = .ok (.dct ks vs) (h ++ [.gone]) := by
  unfold frz
  simp
theorem kzP_ : WE (mFrz (kqe_ m) δ h) Q E t u = WE (m δ h) (fun d h1 => WO (kW_ h1 d) (fun xs => WO (khx_ xs) (fun ps => Q (.dct (keM_ ([], []) ps).1 (keM_ ([], []) ps).2) (h1 ++ [.gone])) .mk) .mk) E .mk .mk := by
  unfold mFrz; rw [kM_, kpx_]; refine we_c fun d h1 => ?_
  cases kW_ h1 d with
  | none => exact propext Iff.rfl
  | some xs =>
    rw [r_wo, r_wo]
    cases khx_ xs with
    | none => exact propext Iff.rfl
    | some ps => rw [r_wo, r_wo, kpy_, r_ok]
theorem ktp_ : WE (kum_ δ h) Q E t u = Q (.ptr h.length) (h ++ [.dcT [] []]) := by exact propext Iff.rfl
theorem kpz_ {i j : Int} {x y : D} : WE (kss_ i j x y δ h) Q E t u = Q (.ptr h.length) (h ++ [.dct [.inl i, .inl j] [x, y]]) := by exact propext Iff.rfl
theorem kzQ_ {i j : Int} {x y : D} : WE (mFrz (kss_ i j x y) δ h) Q E t u = Q (.dct [.inl i, .inl j] [x, y]) (h ++ [.gone]) := by
  unfold mFrz; rw [kM_, kpz_, kpy_, r_ok]
theorem kv6_ {v : D} {i : Int} : WE (dspV h.length (.int i) v (h ++ [.dct [] []])) Q E t u = Q (.ptr h.length) (h ++ [.dct [.inl i] [v]]) := by
  have e : dspV h.length (.int i) v (h ++ [.dct [] []]) = .ok (.ptr h.length) (h ++ [.dct [.inl i] [v]]) := by
    unfold dspV
    simp
  rw [e, r_ok]
theorem ktq_ {mk1 mv : Env → M D} : WE (kst_ mk1 mv δ h) Q E t u = WE (mk1 δ (h ++ [.dct [] []])) (fun k h1 => WE (mv δ h1) (fun v h2 => WE (dspV h.length k v h2) Q E .mk .mk) E .mk .mk) E .mk .mk := by
  unfold kst_; rw [kM_]; refine we_c fun k h1 => ?_; rw [kM_]
theorem kzR_ {x y : D} : two? (.tup [x, y]) = some (x, y) := rfl
theorem kv7_ {mp mj : Env → M D} {Q : Fl → OH → Prop} {E : ES} {t : Tg Q} {u : Tg E} : WS (kwP_ m mo mi mp mj δ h) Q E t u = WE (m δ h) (fun d h1 => WO (two? d) (fun p => WE (mo δ h1) (fun o h2 => WE (mi δ h2) (fun i h3 => WO (setD h3 o i p.1) (fun h4 => WE (mp δ h4) (fun o2 h5 => WE (mj δ h5) (fun i2 h6 => WO (setD h6 o2 i2 p.2) (fun h7 => Q (.nx δ) h7) .mk) (eS E δ) .mk .mk) (eS E δ) .mk .mk) .mk) (eS E δ) .mk .mk) (eS E δ) .mk .mk) .mk) (eS E δ) .mk .mk := by
  unfold kwP_; rw [kT_]; refine we_c fun d h1 => ?_
  cases two? d with
  | none => exact propext Iff.rfl
  | some p =>
    rw [r_wo, kT_]; refine we_c fun o h2 => ?_; rw [kT_]; refine we_c fun i h3 => ?_
    cases e : setD h3 o i p.1 with
    | none => rw [kjN_ e]; exact propext Iff.rfl
    | some h4 =>
      rw [kjM_ e, r_wo, kT_]; refine we_c fun o2 h5 => ?_; rw [kT_]; refine we_c fun i2 h6 => ?_
      cases e2 : setD h6 o2 i2 p.2 with
      | none => rw [kjN_ e2]; exact propext Iff.rfl
      | some h7 => rw [kjM_ e2]; exact propext Iff.rfl
theorem kv8_ {v k : D} : WE (dspT h.length k v (h ++ [.dcT [] []])) Q E t u = WO (keyT k) (fun kk => Q (.ptr h.length) (h ++ [.dcT [kk] [v]])) .mk := by
  unfold dspT
  rw [List.getElem?_append_right (Nat.le_refl _), Nat.sub_self]
  cases keyT k with
  | none => exact propext Iff.rfl
  | some kk =>
    dsimp only [List.getElem?_cons_zero]
    rw [r_wo, r_ok, List.set_append_right _ _ (Nat.le_refl _), Nat.sub_self]
    rfl
theorem ktr_ {mk1 mv : Env → M D} : WE (ksu_ mk1 mv δ h) Q E t u = WE (mk1 δ (h ++ [.dcT [] []])) (fun k h1 => WE (mv δ h1) (fun v h2 => WE (dspT h.length k v h2) Q E .mk .mk) E .mk .mk) E .mk .mk := by
  unfold ksu_; rw [kM_]; refine we_c fun k h1 => ?_; rw [kM_]
def kqz_ (h : OH) (xs : List D) (o : Option D) : Option (Nat × List D × D) := match o with
  | some (.ptr k) => (hF (h[k]?)).map fun p => (k, xs, p)
  | _ => none
def kts_ (h : OH) (o : Option Sl) (j : Nat) : Option (Nat × List D × D) := match o with
  | some (.val (.lst xs)) => kqz_ h xs (xs[j]?)
  | _ => none
theorem km6_ {xs : List D} {j : Nat} : kts_ h (some (.val (.lst xs))) j = kqz_ h xs (xs[j]?) := rfl
theorem km7_ {xs : List D} {k : Nat} : kqz_ h xs (some (.ptr k)) = (hF (h[k]?)).map fun p => (k, xs, p) := rfl
theorem ktt_ {Q : Fl → OH → Prop} {E : ES} {t : Tg Q} {u : Tg E} {i j : Nat} {b : MS} : WS (ksv_ i j b δ h) Q E t u = WO (kts_ h (δ[i]?) j) (fun p => WN (δ.set i (.val (.lst (p.2.1.set j p.2.2)))) (fun δ1 => WS (b δ1 (h.set p.1 .gone)) Q E .mk .mk) .mk) .mk := by
  unfold ksv_
  cases δ[i]? with
  | none => exact propext Iff.rfl
  | some s =>
    cases s with
    | val d =>
      cases d with
      | lst xs =>
        simp only [km6_]
        cases xs[j]? with
        | none => exact propext Iff.rfl
        | some dj =>
          cases dj with
          | ptr k =>
            simp only [km7_]
            cases h[k]? with
            | none => exact propext Iff.rfl
            | some o => cases o <;> exact propext Iff.rfl
          | _ => exact propext Iff.rfl
      | _ => exact propext Iff.rfl
    | _ => exact propext Iff.rfl
noncomputable def litP (h : OH) (d : D) : Option (List D) := match dI h d with
  | some p => if p.1.all keyB = true then some (kmQ_ p.1 p.2) else none
  | none => none
theorem kzS_ : WE (kpo_ m δ h) QL E tL u = WE (m δ h) (fun d h1 => WO (litP h1 d) (fun zs => QL zs h1) .mk) E .mk .mk := by
  unfold kpo_; rw [kM_]; refine we_c fun d h1 => ?_
  rw [kdF_]
  rfl
end
end Z
set_option Elab.async false
set_option linter.all false
set_option maxRecDepth 100000
set_option maxHeartbeats 4000000
namespace Z
open PySem PySem.Spec PyProof.Rows L2 TL Y
def zC := And.intro (And.intro (And.intro (And.intro (@decide_true) (@decide_false)) (And.intro (@Bool.not_true) (@Bool.not_false))) (And.intro (And.intro (@Bool.true_and) (@Bool.false_and)) (And.intro (@Bool.true_or) (@Bool.false_or)))) (And.intro (And.intro (And.intro (@Bool.or_true) (@Bool.or_false)) (And.intro (@Bool.and_true) (@Bool.and_false))) (And.intro (And.intro (@true_and) (@and_true)) (And.intro (@not_true_eq_false) (@not_false_eq_true))))
def zP := And.intro (And.intro (And.intro (And.intro (And.intro (And.intro (And.intro (@r_ok) (@kxj_)) (And.intro (@kuq_) (And.intro (@r_bn) (@kM_)))) (And.intro (And.intro (@keP_) (And.intro (@kdF_) (@kjS_))) (And.intro (@kxm_) (And.intro (@r_c) (@kxn_))))) (And.intro (And.intro (And.intro (@kur_) (And.intro (@kxo_) (@kus_))) (And.intro (@r_fn) (And.intro (@kxp_) (@kxq_)))) (And.intro (And.intro (@kxr_) (And.intro (@kxs_) (@kxt_))) (And.intro (@kut_) (And.intro (@kuu_) (@kuv_)))))) (And.intro (And.intro (And.intro (And.intro (@kxu_) (And.intro (@kxv_) (@kuw_))) (And.intro (@kxw_) (And.intro (@kux_) (@kxx_)))) (And.intro (And.intro (@kxy_) (And.intro (@ksx_) (@ksy_))) (And.intro (@r_sl) (And.intro (@kxz_) (@kuy_))))) (And.intro (And.intro (And.intro (@ksz_) (And.intro (@kxA_) (@kuz_))) (And.intro (@kuA_) (And.intro (@ksA_) (@kjT_)))) (And.intro (And.intro (@kxB_) (And.intro (@kxC_) (@ksB_))) (And.intro (@kuB_) (And.intro (@kxD_) (@kxE_))))))) (And.intro (And.intro (And.intro (And.intro (And.intro (@kxF_) (@kxG_)) (And.intro (@kxH_) (And.intro (@kxI_) (@kuC_)))) (And.intro (And.intro (@kuD_) (And.intro (@kxJ_) (@kuE_))) (And.intro (@kxK_) (And.intro (@r_lc) (@r_es))))) (And.intro (And.intro (And.intro (@kxL_) (And.intro (@kuF_) (@kT_))) (And.intro (@kxM_) (And.intro (@kxN_) (@kxO_)))) (And.intro (And.intro (@kxP_) (And.intro (@kxQ_) (@kxR_))) (And.intro (@kxS_) (And.intro (@kuG_) (@kxT_)))))) (And.intro (And.intro (And.intro (And.intro (@kuH_) (And.intro (@r_nx) (@r_bk))) (And.intro (@r_ct) (And.intro (@r_if) (@kxU_)))) (And.intro (And.intro (@kxV_) (And.intro (@kxW_) (@ksC_))) (And.intro (@kxX_) (And.intro (@kqj_) (@r_ds))))) (And.intro (And.intro (And.intro (@r_dR) (And.intro (@r_dN) (@kom_))) (And.intro (@kuI_) (And.intro (@kuJ_) (@ktQ_)))) (And.intro (And.intro (@kqk_) (And.intro (@ksD_) (@kxY_))) (And.intro (@kxZ_) (And.intro (@kx0_) (@kx1_)))))))) (And.intro (And.intro (And.intro (And.intro (And.intro (And.intro (@kx2_) (@kx3_)) (And.intro (@kuK_) (And.intro (@kuL_) (@kuM_)))) (And.intro (And.intro (@kx6_) (And.intro (@kyZ_) (@ky0_))) (And.intro (@ky1_) (And.intro (@ky2_) (@ky4_))))) (And.intro (And.intro (And.intro (@ky5_) (And.intro (@ky6_) (@ky7_))) (And.intro (@kzc_) (And.intro (@kzd_) (@kvd_)))) (And.intro (And.intro (@kze_) (And.intro (@kzf_) (@kzg_))) (And.intro (@kwS_) (And.intro (@kzh_) (@kzi_)))))) (And.intro (And.intro (And.intro (And.intro (@ksX_) (And.intro (@kvg_) (@r_me))) (And.intro (@kzj_) (And.intro (@r_pr) (@kvh_)))) (And.intro (And.intro (@kvi_) (And.intro (@ksZ_) (@kzk_))) (And.intro (@kvj_) (And.intro (@kvk_) (@kzl_))))) (And.intro (And.intro (And.intro (@kzm_) (And.intro (@ks1_) (@kvl_))) (And.intro (@ks2_) (And.intro (@kzs_) (@kvq_)))) (And.intro (And.intro (@kvr_) (And.intro (@kvs_) (@kvt_))) (And.intro (@kvu_) (And.intro (@kvv_) (@kvw_))))))) (And.intro (And.intro (And.intro (And.intro (And.intro (@kzt_) (@ktb_)) (And.intro (@kvD_) (And.intro (@kvE_) (@kpw_)))) (And.intro (And.intro (@kvH_) (And.intro (@ktf_) (@kvI_))) (And.intro (@kvJ_) (And.intro (@kqx_) (@kwW_))))) (And.intro (And.intro (And.intro (@kvK_) (And.intro (@kvL_) (@kvM_))) (And.intro (@kqy_) (And.intro (@kvN_) (@kvO_)))) (And.intro (And.intro (@kti_) (And.intro (@kzF_) (@kzG_))) (And.intro (@kzH_) (And.intro (@kzI_) (@ktj_)))))) (And.intro (And.intro (And.intro (And.intro (@ktk_) (And.intro (@kvR_) (@kzJ_))) (And.intro (@ktl_) (And.intro (@kto_) (@kv1_)))) (And.intro (And.intro (@kv2_) (And.intro (@kzL_) (@kv3_))) (And.intro (@kzM_) (And.intro (@kzN_) (@kzO_))))) (And.intro (And.intro (And.intro (@kpx_) (And.intro (@kzP_) (@ktp_))) (And.intro (@kpz_) (And.intro (@kzQ_) (@kv6_)))) (And.intro (And.intro (@ktq_) (And.intro (@kv7_) (@kv8_))) (And.intro (@ktr_) (And.intro (@ktt_) (@kzS_))))))))
def zQ := And.intro (And.intro (And.intro (And.intro (And.intro (And.intro (And.intro (@r_wo) (And.intro (@r_wm) (@r_wv))) (And.intro (And.intro (@r_wi) (@r_wb)) (And.intro (@r_wt) (@r_nd)))) (And.intro (And.intro (And.intro (@r_bt) (@r_bf)) (And.intro (@kxk_) (@kxl_))) (And.intro (And.intro (@r_wc) (@r_wx)) (And.intro (@kx4_) (@kx5_))))) (And.intro (And.intro (And.intro (@kvb_) (And.intro (@kvc_) (@kza_))) (And.intro (And.intro (@kzb_) (@kwR_)) (And.intro (@kve_) (@kvf_)))) (And.intro (And.intro (And.intro (@hL_s) (@hT_l)) (And.intro (@hT_d) (@hT_t))) (And.intro (And.intro (@kx7_) (@kx8_)) (And.intro (@kx9_) (@kya_)))))) (And.intro (And.intro (And.intro (And.intro (@kyb_) (And.intro (@kyc_) (@kyd_))) (And.intro (And.intro (@kuN_) (@kgk_)) (And.intro (@keQ_) (@kgl_)))) (And.intro (And.intro (And.intro (@keb_) (@keR_)) (And.intro (@keS_) (@klS_))) (And.intro (And.intro (@kkB_) (@klT_)) (And.intro (@kjU_) (@kkC_))))) (And.intro (And.intro (And.intro (@kkD_) (And.intro (@kmX_) (@klU_))) (And.intro (And.intro (@kmY_) (@kkE_)) (And.intro (@klV_) (@klW_)))) (And.intro (And.intro (And.intro (@kmZ_) (@klX_)) (And.intro (@km0_) (@kkF_))) (And.intro (And.intro (@klY_) (@klZ_)) (And.intro (@kl0_) (@kkG_))))))) (And.intro (And.intro (And.intro (And.intro (And.intro (@kl1_) (And.intro (@kjV_) (@kkH_))) (And.intro (And.intro (@kkI_) (@kkJ_)) (And.intro (@kjW_) (@kkK_)))) (And.intro (And.intro (And.intro (@khV_) (@kjX_)) (And.intro (@kjY_) (@kl2_))) (And.intro (And.intro (@kkL_) (@kl3_)) (And.intro (@kjZ_) (@kkM_))))) (And.intro (And.intro (And.intro (@kkN_) (And.intro (@q_l0) (@q_l1))) (And.intro (And.intro (@q_l2) (@q_t1)) (And.intro (@q_t2) (@q_t3)))) (And.intro (And.intro (And.intro (@q_s1) (@q_s2)) (And.intro (@q_s3) (@kye_))) (And.intro (And.intro (@kyf_) (@kyg_)) (And.intro (@q_ow) (@kuO_)))))) (And.intro (And.intro (And.intro (And.intro (@kuP_) (And.intro (@kuQ_) (@kyh_))) (And.intro (And.intro (@kyi_) (@kyj_)) (And.intro (@kuR_) (@kuS_)))) (And.intro (And.intro (And.intro (@ksF_) (@ksG_)) (And.intro (@kuT_) (@q_lt))) (And.intro (And.intro (@q_le) (@q_gt)) (And.intro (@q_ge) (@kwQ_))))) (And.intro (And.intro (And.intro (And.intro (@kyk_) (@kyl_)) (And.intro (@kym_) (@at0))) (And.intro (And.intro (@at1) (@at2)) (And.intro (@at3) (@kuU_)))) (And.intro (And.intro (And.intro (@ksH_) (@ksI_)) (And.intro (@ksJ_) (@kyn_))) (And.intro (And.intro (@kyo_) (@kuV_)) (And.intro (@kyp_) (@kyq_)))))))) (And.intro (And.intro (And.intro (And.intro (And.intro (And.intro (@q_fs) (And.intro (@q_fi) (@kyr_))) (And.intro (And.intro (@kys_) (@kyt_)) (And.intro (@kyu_) (@kql_)))) (And.intro (And.intro (And.intro (@kuW_) (@ksK_)) (And.intro (@kqm_) (@kqn_))) (And.intro (And.intro (@kuX_) (@kuY_)) (And.intro (@q_app) (@ksL_))))) (And.intro (And.intro (And.intro (@kyv_) (And.intro (@kuZ_) (@ku0_))) (And.intro (And.intro (@kyw_) (@kyx_)) (And.intro (@kyy_) (@kyz_)))) (And.intro (And.intro (And.intro (@kyA_) (@kyB_)) (And.intro (@kyC_) (@kyD_))) (And.intro (And.intro (@kyE_) (@kyF_)) (And.intro (@kyG_) (@ku1_)))))) (And.intro (And.intro (And.intro (And.intro (@q_gn) (And.intro (@kyH_) (@kyI_))) (And.intro (And.intro (@kyJ_) (@kyK_)) (And.intro (@ku2_) (@ku3_)))) (And.intro (And.intro (And.intro (@ku4_) (@kyL_)) (And.intro (@kyM_) (@kyN_))) (And.intro (And.intro (@kyO_) (@kyP_)) (And.intro (@kyQ_) (@kyR_))))) (And.intro (And.intro (And.intro (And.intro (@kyS_) (@kyT_)) (And.intro (@kyU_) (@kyV_))) (And.intro (And.intro (@kyW_) (@kyX_)) (And.intro (@kyY_) (@kqq_)))) (And.intro (And.intro (And.intro (@kqr_) (@kqs_)) (And.intro (@kqt_) (@ks0_))) (And.intro (And.intro (@kzn_) (@kzo_)) (And.intro (@kzp_) (@kvm_))))))) (And.intro (And.intro (And.intro (And.intro (And.intro (@kzq_) (And.intro (@kzr_) (@kvn_))) (And.intro (And.intro (@kqu_) (@kqv_)) (And.intro (@kqw_) (@kvo_)))) (And.intro (And.intro (And.intro (@ks3_) (@ks4_)) (And.intro (@ks5_) (@ks6_))) (And.intro (And.intro (@kvp_) (@ks7_)) (And.intro (@ks8_) (@ks9_))))) (And.intro (And.intro (And.intro (@kta_) (And.intro (@kzu_) (@kzv_))) (And.intro (And.intro (@kzw_) (@kzx_)) (And.intro (@kzy_) (@kvx_)))) (And.intro (And.intro (And.intro (@kvy_) (@kvz_)) (And.intro (@kvA_) (@kvB_))) (And.intro (And.intro (@kvC_) (@hD_s)) (And.intro (@kzz_) (@kzA_)))))) (And.intro (And.intro (And.intro (And.intro (@kvF_) (And.intro (@hD_i) (@kzB_))) (And.intro (And.intro (@kzC_) (@ktc_)) (And.intro (@ktd_) (@kte_)))) (And.intro (And.intro (And.intro (@kvG_) (@kzD_)) (And.intro (@kzE_) (@ktg_))) (And.intro (And.intro (@kth_) (@kvP_)) (And.intro (@kvQ_) (@kvS_))))) (And.intro (And.intro (And.intro (And.intro (@kvT_) (@ktm_)) (And.intro (@ktn_) (@kvU_))) (And.intro (And.intro (@kvV_) (@kvW_)) (And.intro (@kvX_) (@kvY_)))) (And.intro (And.intro (And.intro (@kvZ_) (@kv0_)) (And.intro (@kzK_) (@kv4_))) (And.intro (And.intro (@kv5_) (@kzR_)) (And.intro (@km6_) (@km7_))))))))
end Z
set_option Elab.async false
set_option linter.all false
set_option maxRecDepth 100000
set_option maxHeartbeats 4000000
set_option Elab.async false
set_option linter.all false
set_option maxRecDepth 100000
set_option maxHeartbeats 4000000
namespace Z
open PySem PySem.Spec PyProof.Rows L2 TL Y
open Cv
inductive ArgG (h : OH) : D → List D → Prop
  | lst {xs : List D} : ArgG h (.lst xs) xs
  | tup {xs : List D} : ArgG h (.tup xs) xs
  | ptr {k : Nat} {xs : List D} : h[k]? = some (.lst xs) → ArgG h (.ptr k) xs
section
variable {h : OH} {d : D} {xs : List D}
theorem ArgG.app {o : OO} (g : ArgG h d xs) : ArgG (h ++ [o]) d xs := by
  cases g with
  | lst => exact .lst
  | tup => exact .tup
  | ptr e => exact .ptr (ka3_ e)
theorem ArgG.seq (g : ArgG h d xs) : kgd_ h d = some xs := by
  cases g with
  | lst => rfl
  | tup => rfl
  | ptr e => rw [q_s3, e]; rfl
theorem ArgG.its (g : ArgG h d xs) : ∃ ok, itq h d = some ⟨xs, ok⟩ ∧ ok h ∧ ∀ o, ok (h ++ [o]) := by
  cases g with
  | lst => exact ⟨_, rfl, trivial, fun _ => trivial⟩
  | tup => exact ⟨_, rfl, trivial, fun _ => trivial⟩
  | ptr e => refine ⟨_, by rw [kwR_, e]; rfl, e, fun o => ka3_ e⟩
theorem ArgG.ty (g : ArgG h d xs) : ∃ s, tyS h d = some s ∧ (s = "list" ∨ s = "tuple") := by
  cases g with
  | lst => exact ⟨_, rfl, .inl rfl⟩
  | tup => exact ⟨_, rfl, .inr rfl⟩
  | ptr e => exact ⟨_, by rw [kuN_, e]; rfl, .inl rfl⟩
theorem ArgG.len (g : ArgG h d xs) : oLen h [d] = some (.int (xs.length : Int)) := by
  cases g with
  | lst => rw [ksH_]
  | tup => rw [ksI_]
  | ptr e => rw [ksJ_, e, hL_s, Option.map_some]
end
def Fr0 (h h' : OH) : Prop := h.length ≤ h'.length ∧ ∀ k : Nat, k < h.length → h'[k]? = h[k]?
theorem Fr0.refl {h : OH} : Fr0 h h := ⟨Nat.le_refl _, fun _ _ => rfl⟩
theorem Fr0.trans {h h1 h2 : OH} (a : Fr0 h h1) (c : Fr0 h1 h2) : Fr0 h h2 := ⟨Nat.le_trans a.1 c.1, fun k l => (c.2 k (Nat.lt_of_lt_of_le l a.1)).trans (a.2 k l)⟩
theorem Fr0.app {h h' : OH} {G : OH} (a : Fr0 h h') : Fr0 h (h' ++ G) := ⟨by have := a.1; rw [List.length_append]; omega, fun k l => by rw [List.getElem?_append_left (Nat.lt_of_lt_of_le l a.1)]; exact a.2 k l⟩
theorem Fr0.set {h h' : OH} {k : Nat} {o : OO} (a : Fr0 h h') (n : h.length ≤ k) : Fr0 h (h'.set k o) := ⟨by rw [List.length_set]; exact a.1, fun j l => by rw [List.getElem?_set_ne (by omega)]; exact a.2 j l⟩
theorem Fr0.get {h h' : OH} {k : Nat} {o : OO} (a : Fr0 h h') (e : h[k]? = some o) : h'[k]? = some o := (a.2 k (h_lt e)).trans e
end Z
set_option Elab.async false
set_option linter.all false
set_option maxRecDepth 100000
set_option maxHeartbeats 4000000
set_option Elab.async false
set_option linter.all false
set_option maxRecDepth 100000
set_option maxHeartbeats 4000000
namespace Z
open PySem PySem.Spec PyProof.Rows L2 TL Y
section
variable {E : EQ} {u : Tg E} {h : OH} {δ : Env} {m : Env → M D} {ms : Env → M (List D)} {Q : D → OH → Prop} {t : Tg Q} {R : Row}
theorem kj0_ {C : Addr} {ns : List Str} : WE (k1_ C ns ms δ h) Q E t u = WE (ms δ h) (fun ds h1 => Nd (ds.length = ns.length) (Q (.ptr h1.length) (h1 ++ [.exc C ns ds])) .mk) E .mk .mk := by
  unfold k1_; rw [kM_]; refine we_c fun d h1 => ?_
  by_cases c : d.length = ns.length
  · rw [if_pos c]; exact propext ⟨fun z => ⟨c, z⟩, fun z => z.2⟩
  · rw [if_neg c]; exact propext ⟨fun z => z.elim, fun z => (c z.1).elim⟩
theorem kqA_ {C : Addr} : WE (kmT_ C δ h) Q E t u = Q (.ptr h.length) (h ++ [.exc C [] []]) := propext Iff.rfl
theorem kqB_ {C : Addr} : WE (khy_ C ms δ h) Q E t u = WE (ms δ h) (fun ds h1 => Nd (ds.length ≤ 1000) (Q (.ptr h1.length) (h1 ++ [.exc C [] []])) .mk) E .mk .mk := by
  unfold khy_; rw [kM_]; refine we_c fun d h1 => ?_
  by_cases c : d.length ≤ 1000
  · rw [if_pos c]; exact propext ⟨fun z => ⟨c, z⟩, fun z => z.2⟩
  · rw [if_neg c]; exact propext ⟨fun z => z.elim, fun z => (c z.1).elim⟩
def isEP (R : Row) (c : Addr) (h : OH) (d : D) : Option D := match excOf h d with
  | some (C, _, _) => if C ∈ R.L then some (.bl (decide (C = c ∨ (C, c) ∈ R.tb))) else none
  | none => none
def isTP (R : Row) (T : String) (h : OH) (d : D) : Option D := match excOf h d with
  | some (C, _, _) => if C ∈ R.L then some (.bl (decide ((C, T) ∈ R.tt))) else none
  | none => none
def fldP (R : Row) (f : Str) (h : OH) (d : D) : Option D := match excOf h d with
  | some (C, ns, xs) => if C ∈ R.L then (ns.zip xs).reverse.lookup f else none
  | none => none
theorem kwX_ {c : Addr} : WE (mIsE R c m δ h) Q E t u = WE (m δ h) (fun d h1 => WO (isEP R c h1 d) (fun z => Q z h1) .mk) E .mk .mk := by
  unfold mIsE isEP; rw [kM_]; refine we_c fun d h1 => ?_
  cases excOf h1 d with
  | none => exact propext Iff.rfl
  | some q =>
    obtain ⟨C, ns, xs⟩ := q
    dsimp only
    by_cases c : C ∈ R.L
    · rw [if_pos c, if_pos c]; exact propext Iff.rfl
    · rw [if_neg c, if_neg c]; exact propext Iff.rfl
theorem kzT_ {T : String} : WE (mIsT R T m δ h) Q E t u = WE (m δ h) (fun d h1 => WO (isTP R T h1 d) (fun z => Q z h1) .mk) E .mk .mk := by
  unfold mIsT isTP; rw [kM_]; refine we_c fun d h1 => ?_
  cases excOf h1 d with
  | none => exact propext Iff.rfl
  | some q =>
    obtain ⟨C, ns, xs⟩ := q
    dsimp only
    by_cases c : C ∈ R.L
    · rw [if_pos c, if_pos c]; exact propext Iff.rfl
    · rw [if_neg c, if_neg c]; exact propext Iff.rfl
theorem kl4_ {f : Str} : WE (kf9_ R f m δ h) Q E t u = WE (m δ h) (fun d h1 => WO (fldP R f h1 d) (fun z => Q z h1) .mk) E .mk .mk := by
  unfold kf9_ fldP; rw [kM_]; refine we_c fun d h1 => ?_
  cases excOf h1 d with
  | none => exact propext Iff.rfl
  | some q =>
    obtain ⟨C, ns, xs⟩ := q
    dsimp only
    by_cases c : C ∈ R.L
    · rw [if_pos c, if_pos c]
      cases (ns.zip xs).reverse.lookup f <;> exact propext Iff.rfl
    · rw [if_neg c, if_neg c]; exact propext Iff.rfl
theorem kqC_ {x : Str} : (WE (mFrz (kol_ x m) δ h) Q E t u) = WE (m δ (h ++ [.dct [] []])) (fun v h1 => WE (M.bind (dspS h.length x v) frz h1) Q E .mk .mk) E .mk .mk := by
  unfold mFrz kol_
  have : (M.bind (fun h => M.bind (m δ) (fun v => dspS h.length x v) (h ++ [.dct [] []])) frz h : Res D) = M.bind (m δ) (fun v => M.bind (dspS h.length x v) frz) (h ++ [.dct [] []]) := by
    unfold M.bind
    dsimp only
    cases m δ (h ++ [.dct [] []]) <;> rfl
  rw [this, kM_]
theorem kqD_ {x : Str} {v : D} : WE (dspS h.length x v (h ++ [.dct [] []])) Q E t u = Q (.ptr h.length) (h ++ [.dct [.inr x] [v]]) := by
  have e : dspS h.length x v (h ++ [.dct [] []]) = .ok (.ptr h.length) (h ++ [.dct [.inr x] [v]]) := by
    unfold dspS
    simp
  rw [e, r_ok]
theorem kqE_ {ks : List Key} {vs : List D} : WE (frz (.ptr h.length) (h ++ [.dct ks vs])) Q E t u = Q (.dct ks vs) (h ++ [.gone]) := by
  have e : frz (.ptr h.length) (h ++ [.dct ks vs]) = .ok (.dct ks vs) (h ++ [.gone]) := by
    unfold frz
    simp
  rw [e, r_ok]
end
end Z
set_option Elab.async false
set_option linter.all false
set_option maxRecDepth 100000
set_option maxHeartbeats 4000000
namespace Z
open PySem PySem.Spec PyProof.Rows L2 TL Y
def topS (i : Nat) : Stmt := PySem.Challenge.pw_strandclasses_k07_exceptions_by_class.main.body.getD i (.Pass ⟨0, 0, 0, 0⟩)
def row (kb_ kk_ kl_ kh_ km_ kn_ ko_ kC_ ks_ kt_ kp_ kc_ ku_ kz_ kv_ ka_ kw_ kx_ ky_ kj_ kf_ kr_ kg_ kd_ kG_ kB_ kA_ ki_ kI_ kH_ kD_ ke_ kq_ kF_ kE_ : Addr) : Row where
  L := [kb_, kk_, kl_, kh_, km_, kn_, ko_, kC_, ks_, kt_, kp_, kc_, ku_, kz_, kv_, ka_, kw_, kx_, ky_, kj_, kf_, kr_, kg_, kd_, kG_, kB_, kA_, ki_, kI_, kH_, kD_, ke_, kq_, kF_, kE_]
  tb := [(kb_, kq_), (kk_, kq_), (kl_, kq_), (kh_, kq_), (km_, kq_), (kn_, kq_), (ko_, kq_), (kC_, kq_), (ks_, kq_), (kt_, kq_), (kp_, kq_), (kc_, kq_), (ku_, kq_), (kz_, kq_), (kv_, kq_), (ka_, kq_), (kw_, kq_), (kx_, kq_), (ky_, kq_), (kj_, kF_), (kf_, kF_), (kr_, kF_), (kg_, kF_), (kd_, kE_), (kG_, kE_), (kB_, kE_), (kA_, kE_), (ki_, kE_), (kI_, kE_), (kH_, kE_), (kD_, kE_), (ke_, kE_)]
  tt := [(kb_, "ValueError"), (kk_, "ValueError"), (kl_, "ValueError"), (kh_, "ValueError"), (km_, "ValueError"), (kn_, "ValueError"), (ko_, "ValueError"), (kC_, "ValueError"), (ks_, "ValueError"), (kt_, "ValueError"), (kp_, "ValueError"), (kc_, "ValueError"), (ku_, "ValueError"), (kz_, "ValueError"), (kv_, "ValueError"), (ka_, "ValueError"), (kw_, "ValueError"), (kx_, "ValueError"), (ky_, "ValueError"), (kj_, "KeyError"), (kj_, "LookupError"), (kf_, "KeyError"), (kf_, "LookupError"), (kr_, "KeyError"), (kr_, "LookupError"), (kg_, "KeyError"), (kg_, "LookupError"), (kd_, "LookupError"), (kG_, "LookupError"), (kB_, "LookupError"), (kA_, "LookupError"), (ki_, "LookupError"), (kI_, "LookupError"), (kH_, "LookupError"), (kD_, "LookupError"), (ke_, "LookupError"), (kq_, "ValueError"), (kF_, "KeyError"), (kF_, "LookupError"), (kE_, "LookupError")]
  fs := ["value", "one", "other", "position", "step", "reason", "cycle", "total"]
abbrev kcD_ : Stmt := topS 37
abbrev kqF_ : List Str := ["_law_script", "_law_k"]
abbrev kdZ_ : List Str := ["_law_script", "_law_k"]
theorem kon_ : FnScope kqF_ kdZ_ (defScope kcD_) := ⟨rfl, rfl, rfl, by decide +kernel, rfl, by decide +kernel, by decide +kernel⟩
noncomputable def kkR_ (K : PySem.W.Frag) (kb_ kk_ kl_ kh_ km_ kn_ ko_ kC_ ks_ kt_ kp_ kc_ ku_ kz_ kv_ ka_ kw_ kx_ ky_ kj_ kf_ kr_ kg_ kd_ kG_ kB_ kA_ ki_ kI_ kH_ kD_ ke_ kq_ kF_ kE_ : Addr) : MS := (sSeq (sIf (kku_ (mOp2 iLt (mVar 1) (kjK_ K 0))) (sRet (kof_ K 0 (mVar 1))) sNx)
    (sRet (mOp2 dAdd (mOp2 dMul (mC (.int 15486061)) (mVar 1)) (mC (.int 367)))))
noncomputable def kcE_ (K : PySem.W.Frag) (kb_ kk_ kl_ kh_ km_ kn_ ko_ kC_ ks_ kt_ kp_ kc_ ku_ kz_ kv_ ka_ kw_ kx_ ky_ kj_ kf_ kr_ kg_ kd_ kG_ kB_ kA_ ki_ kI_ kH_ kD_ ke_ kq_ kF_ kE_ : Addr) : Addr → List Int → List D → M D := kpi_ K 2 (kkR_ K kb_ kk_ kl_ kh_ km_ kn_ ko_ kC_ ks_ kt_ kp_ kc_ ku_ kz_ kv_ ka_ kw_ kx_ ky_ kj_ kf_ kr_ kg_ kd_ kG_ kB_ kA_ ki_ kI_ kH_ kD_ ke_ kq_ kF_ kE_)
abbrev keT_ : Stmt := topS 38
abbrev ktu_ : List Str := ["_law_cell_here"]
abbrev kj1_ : List Str := ["_law_cell_here"]
theorem kqG_ : FnScope ktu_ kj1_ (defScope keT_) := ⟨rfl, rfl, rfl, by decide +kernel, rfl, by decide +kernel, by decide +kernel⟩
noncomputable def km8_ (kb_ kk_ kl_ kh_ km_ kn_ ko_ kC_ ks_ kt_ kp_ kc_ ku_ kz_ kv_ ka_ kw_ kx_ ky_ kj_ kf_ kr_ kg_ kd_ kG_ kB_ kA_ ki_ kI_ kH_ kD_ ke_ kq_ kF_ kE_ : Addr) : MS := (sRet (mOwn (mFew (kN_ (khv_ oMax (kN_ (mC (.int 0)) (kN_ (mOp2 iSub (mVar 0) (mOp2 iPow (mC (.int 10)) (mC (.int 18)))) mNil))) (kN_ (mOp2 iMod (mVar 0) (mC (.int 2147483629))) (kN_ (mC (.int 0)) mNil))))))
noncomputable def kd6_ (kb_ kk_ kl_ kh_ km_ kn_ ko_ kC_ ks_ kt_ kp_ kc_ ku_ kz_ kv_ ka_ kw_ kx_ ky_ kj_ kf_ kr_ kg_ kd_ kG_ kB_ kA_ ki_ kI_ kH_ kD_ ke_ kq_ kF_ kE_ : Addr) : List D → M D := defM 1 (km8_ kb_ kk_ kl_ kh_ km_ kn_ ko_ kC_ ks_ kt_ kp_ kc_ ku_ kz_ kv_ ka_ kw_ kx_ ky_ kj_ kf_ kr_ kg_ kd_ kG_ kB_ kA_ ki_ kI_ kH_ kD_ ke_ kq_ kF_ kE_)
abbrev kdu_ : Stmt := topS 39
abbrev kqH_ : List Str := ["_law_box_here", "_law_many", "_law_digit", "_law_number"]
abbrev keU_ : List Str := ["_law_box_here", "_law_many"]
theorem keI_ : FnScope kqH_ keU_ (defScope kdu_) := ⟨rfl, rfl, rfl, by decide +kernel, rfl, by decide +kernel, by decide +kernel⟩
noncomputable def kkS_ (kb_ kk_ kl_ kh_ km_ kn_ ko_ kC_ ks_ kt_ kp_ kc_ ku_ kz_ kv_ ka_ kw_ kx_ ky_ kj_ kf_ kr_ kg_ kd_ kG_ kB_ kA_ ki_ kI_ kH_ kD_ ke_ kq_ kF_ kE_ : Addr) : MS := (sSeq (sIf (kku_ (mOp2 iGt (mOp2 dIx (mVar 0) (mC (.int 0))) (mC (.int 0)))) (sSeq (sSet 2 (mOp2 iMod (mOp2 dIx (mVar 0) (mC (.int 0))) (mVar 1)))
    (sSeq (sSub (mOp2 iDiv (mOp2 dIx (mVar 0) (mC (.int 0))) (mVar 1)) (mVar 0) (mC (.int 0)))
    (sRet (mVar 2)))) sNx)
    (sSeq (sSub (mOp2 dAdd (mOp2 dIx (mVar 0) (mC (.int 2))) (mC (.int 1))) (mVar 0) (mC (.int 2)))
    (sSeq (sSet 3 (mOp2 iMod (mOp2 iPow (mOp2 dAdd (mOp2 dAdd (mOp2 dIx (mVar 0) (mC (.int 1))) (mOp2 dMul (mC (.int 6373)) (mOp2 dIx (mVar 0) (mC (.int 2))))) (mC (.int 151))) (mC (.int 5))) (mC (.int 2147483647))))
    (sSeq (sSet 3 (mOp2 iMod (mOp2 iPow (mOp2 dAdd (mVar 3) (mOp2 dMul (mC (.int 104729)) (mOp2 dIx (mVar 0) (mC (.int 2))))) (mC (.int 3))) (mC (.int 2147483587))))
    (sRet (mOp2 iMod (mOp2 iDiv (mVar 3) (mC (.int 16))) (mVar 1)))))))
noncomputable def kb4_ (kb_ kk_ kl_ kh_ km_ kn_ ko_ kC_ ks_ kt_ kp_ kc_ ku_ kz_ kv_ ka_ kw_ kx_ ky_ kj_ kf_ kr_ kg_ kd_ kG_ kB_ kA_ ki_ kI_ kH_ kD_ ke_ kq_ kF_ kE_ : Addr) : List D → M D := defM 4 (kkS_ kb_ kk_ kl_ kh_ km_ kn_ ko_ kC_ ks_ kt_ kp_ kc_ ku_ kz_ kv_ ka_ kw_ kx_ ky_ kj_ kf_ kr_ kg_ kd_ kG_ kB_ kA_ ki_ kI_ kH_ kD_ ke_ kq_ kF_ kE_)
abbrev kb5_ : Stmt := topS 41
abbrev koo_ : List Str := ["_law_box_here", "_law_some"]
abbrev kdG_ : List Str := ["_law_box_here"]
theorem kj2_ : FnScope koo_ kdG_ (defScope kb5_) := ⟨rfl, rfl, rfl, by decide +kernel, rfl, by decide +kernel, by decide +kernel⟩
noncomputable def khX_ (kb_ kk_ kl_ kh_ km_ kn_ ko_ kC_ ks_ kt_ kp_ kc_ ku_ kz_ kv_ ka_ kw_ kx_ ky_ kj_ kf_ kr_ kg_ kd_ kG_ kB_ kA_ ki_ kI_ kH_ kD_ ke_ kq_ kF_ kE_ : Addr) : MS := (sSeq (sSet 1 (mVal (mFew (kN_ (mC .non) (kN_ (mC (.bl true)) (kN_ (mC (.int 0)) (kN_ (mNeg (mC (.int 7))) (kN_ (mOp2 iPow (mC (.int 10)) (mC (.int 29))) (kN_ (mC (.str "")) (kN_ (mC (.str "0.01")) (kN_ (mVal (mFew mNil)) (kN_ (mVal (mFew (kN_ (mC (.int 1)) (kN_ (mVal (mFew (kN_ (mC (.int 2)) mNil))) mNil)))) (kN_ (mTup mNil) (kN_ (mTup (kN_ (mC (.int 0)) (kN_ (mC (.str "1")) mNil))) (kN_ kue_ (kN_ (mFrz (kol_ "a" (mVal (mFew (kN_ (mC (.int 1)) mNil))))) (kN_ (mTup (kN_ (mC .non) (kN_ (mVal (mFew (kN_ (mC (.str "x")) mNil))) mNil))) mNil)))))))))))))))))
    (sRet (mOp2 dIx (mVar 1) (mFn 2 (kb4_ kb_ kk_ kl_ kh_ km_ kn_ ko_ kC_ ks_ kt_ kp_ kc_ ku_ kz_ kv_ ka_ kw_ kx_ ky_ kj_ kf_ kr_ kg_ kd_ kG_ kB_ kA_ ki_ kI_ kH_ kD_ ke_ kq_ kF_ kE_) (kN_ (mVar 0) (kN_ (mC (.int 14)) mNil))))))
noncomputable def kaI_ (kb_ kk_ kl_ kh_ km_ kn_ ko_ kC_ ks_ kt_ kp_ kc_ ku_ kz_ kv_ ka_ kw_ kx_ ky_ kj_ kf_ kr_ kg_ kd_ kG_ kB_ kA_ ki_ kI_ kH_ kD_ ke_ kq_ kF_ kE_ : Addr) : List D → M D := defM 2 (khX_ kb_ kk_ kl_ kh_ km_ kn_ ko_ kC_ ks_ kt_ kp_ kc_ ku_ kz_ kv_ ka_ kw_ kx_ ky_ kj_ kf_ kr_ kg_ kd_ kG_ kB_ kA_ ki_ kI_ kH_ kD_ ke_ kq_ kF_ kE_)
abbrev k6_ : Stmt := topS 42
abbrev khY_ : List Str := ["_law_thing_here", "_law_some"]
abbrev kaJ_ : List Str := ["_law_thing_here"]
theorem kae_ : FnScope khY_ kaJ_ (defScope k6_) := ⟨rfl, rfl, rfl, by decide +kernel, rfl, by decide +kernel, by decide +kernel⟩
noncomputable def kb6_ (kb_ kk_ kl_ kh_ km_ kn_ ko_ kC_ ks_ kt_ kp_ kc_ ku_ kz_ kv_ ka_ kw_ kx_ ky_ kj_ kf_ kr_ kg_ kd_ kG_ kB_ kA_ ki_ kI_ kH_ kD_ ke_ kq_ kF_ kE_ : Addr) : MS := (sSeq (sSet 1 (mVal (mFew (kN_ (k1_ kb_ ["value"] (kN_ (mVar 0) mNil)) (kN_ (k1_ kk_ ["value"] (kN_ (mVar 0) mNil)) (kN_ (k1_ kl_ ["value"] (kN_ (mVar 0) mNil)) (kN_ (k1_ kh_ ["value"] (kN_ (mVar 0) mNil)) (kN_ (k1_ km_ ["value"] (kN_ (mVar 0) mNil)) mNil))))))))
    (sSeq (sSet 1 (mOp2 dAdd (mVar 1) (mVal (mFew (kN_ (k1_ kn_ ["value"] (kN_ (mVar 0) mNil)) (kN_ (k1_ ko_ ["value"] (kN_ (mVar 0) mNil)) (kN_ (k1_ ks_ ["value"] (kN_ (mVar 0) mNil)) (kN_ (k1_ kt_ ["value"] (kN_ (mVar 0) mNil)) mNil))))))))
    (sSeq (sSet 1 (mOp2 dAdd (mVar 1) (mVal (mFew (kN_ (k1_ kc_ ["value"] (kN_ (mVar 0) mNil)) (kN_ (k1_ ku_ ["value"] (kN_ (mVar 0) mNil)) (kN_ (k1_ kz_ ["value"] (kN_ (mVar 0) mNil)) (kN_ (k1_ kv_ ["value"] (kN_ (mVar 0) mNil)) (kN_ (k1_ kw_ ["value"] (kN_ (mVar 0) mNil)) mNil)))))))))
    (sSeq (sSet 1 (mOp2 dAdd (mVar 1) (mVal (mFew (kN_ (k1_ kx_ ["value"] (kN_ (mVar 0) mNil)) (kN_ (k1_ ky_ ["value"] (kN_ (mVar 0) mNil)) (kN_ (k1_ kj_ ["value"] (kN_ (mVar 0) mNil)) (kN_ (k1_ kf_ ["value"] (kN_ (mVar 0) mNil)) mNil))))))))
    (sSeq (sSet 1 (mOp2 dAdd (mVar 1) (mVal (mFew (kN_ (k1_ kr_ ["value"] (kN_ (mVar 0) mNil)) (kN_ (k1_ kg_ ["value"] (kN_ (mVar 0) mNil)) (kN_ (k1_ kG_ ["value"] (kN_ (mVar 0) mNil)) (kN_ (k1_ kB_ ["value"] (kN_ (mVar 0) mNil)) mNil))))))))
    (sRet (mOp2 dAdd (mVar 1) (mVal (mFew (kN_ (k1_ ki_ ["value"] (kN_ (mVar 0) mNil)) (kN_ (k1_ kI_ ["value"] (kN_ (mVar 0) mNil)) mNil)))))))))))
noncomputable def kR_ (kb_ kk_ kl_ kh_ km_ kn_ ko_ kC_ ks_ kt_ kp_ kc_ ku_ kz_ kv_ ka_ kw_ kx_ ky_ kj_ kf_ kr_ kg_ kd_ kG_ kB_ kA_ ki_ kI_ kH_ kD_ ke_ kq_ kF_ kE_ : Addr) : List D → M D := defM 2 (kb6_ kb_ kk_ kl_ kh_ km_ kn_ ko_ kC_ ks_ kt_ kp_ kc_ ku_ kz_ kv_ ka_ kw_ kx_ ky_ kj_ kf_ kr_ kg_ kd_ kG_ kB_ kA_ ki_ kI_ kH_ kD_ ke_ kq_ kF_ kE_)
abbrev kb7_ : Stmt := topS 43
abbrev kop_ : List Str := ["_law_error", "_law_at", "_law_found"]
abbrev kdH_ : List Str := ["_law_error", "_law_at"]
theorem kj3_ : FnScope kop_ kdH_ (defScope kb7_) := ⟨rfl, rfl, rfl, by decide +kernel, rfl, by decide +kernel, by decide +kernel⟩
noncomputable def khZ_ (kb_ kk_ kl_ kh_ km_ kn_ ko_ kC_ ks_ kt_ kp_ kc_ ku_ kz_ kv_ ka_ kw_ kx_ ky_ kj_ kf_ kr_ kg_ kd_ kG_ kB_ kA_ ki_ kI_ kH_ kD_ ke_ kq_ kF_ kE_ : Addr) : MS := (sSeq (sSet 2 (mVal (mFew (kN_ (mIsE (row kb_ kk_ kl_ kh_ km_ kn_ ko_ kC_ ks_ kt_ kp_ kc_ ku_ kz_ kv_ ka_ kw_ kx_ ky_ kj_ kf_ kr_ kg_ kd_ kG_ kB_ kA_ ki_ kI_ kH_ kD_ ke_ kq_ kF_ kE_) kq_ (mVar 0)) (kN_ (mIsE (row kb_ kk_ kl_ kh_ km_ kn_ ko_ kC_ ks_ kt_ kp_ kc_ ku_ kz_ kv_ ka_ kw_ kx_ ky_ kj_ kf_ kr_ kg_ kd_ kG_ kB_ kA_ ki_ kI_ kH_ kD_ ke_ kq_ kF_ kE_) kF_ (mVar 0)) (kN_ (mIsE (row kb_ kk_ kl_ kh_ km_ kn_ ko_ kC_ ks_ kt_ kp_ kc_ ku_ kz_ kv_ ka_ kw_ kx_ ky_ kj_ kf_ kr_ kg_ kd_ kG_ kB_ kA_ ki_ kI_ kH_ kD_ ke_ kq_ kF_ kE_) kE_ (mVar 0)) mNil))))))
    (sSeq (sIf (mOrT (kku_ (mOp2 (pEq true) (mVar 2) (mVal (mFew (kN_ (mOp2 (pEq false) (mVar 1) (mC (.int 0))) (kN_ (mOp2 (pEq false) (mVar 1) (mC (.int 1))) (kN_ (mOp2 (pEq false) (mVar 1) (mC (.int 2))) mNil))))))) (kku_ (mOp2 (pEq true) (mIsT (row kb_ kk_ kl_ kh_ km_ kn_ ko_ kC_ ks_ kt_ kp_ kc_ ku_ kz_ kv_ ka_ kw_ kx_ ky_ kj_ kf_ kr_ kg_ kd_ kG_ kB_ kA_ ki_ kI_ kH_ kD_ ke_ kq_ kF_ kE_) "ValueError" (mVar 0)) (mOp2 (pEq false) (mVar 1) (mC (.int 0)))))) (sRet (mC (.bl false))) sNx)
    (sRet (krg_ (mOp2 (pEq false) (mIsT (row kb_ kk_ kl_ kh_ km_ kn_ ko_ kC_ ks_ kt_ kp_ kc_ ku_ kz_ kv_ ka_ kw_ kx_ ky_ kj_ kf_ kr_ kg_ kd_ kG_ kB_ kA_ ki_ kI_ kH_ kD_ ke_ kq_ kF_ kE_) "KeyError" (mVar 0)) (mOp2 (pEq false) (mVar 1) (mC (.int 1)))) (mOp2 (pEq false) (mIsT (row kb_ kk_ kl_ kh_ km_ kn_ ko_ kC_ ks_ kt_ kp_ kc_ ku_ kz_ kv_ ka_ kw_ kx_ ky_ kj_ kf_ kr_ kg_ kd_ kG_ kB_ kA_ ki_ kI_ kH_ kD_ ke_ kq_ kF_ kE_) "LookupError" (mVar 0)) (mOp2 iGt (mVar 1) (mC (.int 0))))))))
noncomputable def kY_ (kb_ kk_ kl_ kh_ km_ kn_ ko_ kC_ ks_ kt_ kp_ kc_ ku_ kz_ kv_ ka_ kw_ kx_ ky_ kj_ kf_ kr_ kg_ kd_ kG_ kB_ kA_ ki_ kI_ kH_ kD_ ke_ kq_ kF_ kE_ : Addr) : List D → M D := defM 3 (khZ_ kb_ kk_ kl_ kh_ km_ kn_ ko_ kC_ ks_ kt_ kp_ kc_ ku_ kz_ kv_ ka_ kw_ kx_ ky_ kj_ kf_ kr_ kg_ kd_ kG_ kB_ kA_ ki_ kI_ kH_ kD_ ke_ kq_ kF_ kE_)
abbrev kbp_ : Stmt := topS 44
abbrev klv_ : List Str := ["_law_error", "_law_found", "_law_one"]
abbrev kdI_ : List Str := ["_law_error"]
theorem kZ_ : FnScope klv_ kdI_ (defScope kbp_) := ⟨rfl, rfl, rfl, by decide +kernel, rfl, by decide +kernel, by decide +kernel⟩
noncomputable def kh0_ (kb_ kk_ kl_ kh_ km_ kn_ ko_ kC_ ks_ kt_ kp_ kc_ ku_ kz_ kv_ ka_ kw_ kx_ ky_ kj_ kf_ kr_ kg_ kd_ kG_ kB_ kA_ ki_ kI_ kH_ kD_ ke_ kq_ kF_ kE_ : Addr) : MS := (sSeq (sSet 1 (mVal (mFew (kN_ (mIsE (row kb_ kk_ kl_ kh_ km_ kn_ ko_ kC_ ks_ kt_ kp_ kc_ ku_ kz_ kv_ ka_ kw_ kx_ ky_ kj_ kf_ kr_ kg_ kd_ kG_ kB_ kA_ ki_ kI_ kH_ kD_ ke_ kq_ kF_ kE_) kb_ (mVar 0)) (kN_ (mIsE (row kb_ kk_ kl_ kh_ km_ kn_ ko_ kC_ ks_ kt_ kp_ kc_ ku_ kz_ kv_ ka_ kw_ kx_ ky_ kj_ kf_ kr_ kg_ kd_ kG_ kB_ kA_ ki_ kI_ kH_ kD_ ke_ kq_ kF_ kE_) kk_ (mVar 0)) (kN_ (mIsE (row kb_ kk_ kl_ kh_ km_ kn_ ko_ kC_ ks_ kt_ kp_ kc_ ku_ kz_ kv_ ka_ kw_ kx_ ky_ kj_ kf_ kr_ kg_ kd_ kG_ kB_ kA_ ki_ kI_ kH_ kD_ ke_ kq_ kF_ kE_) kl_ (mVar 0)) mNil))))))
    (sSeq (sSet 1 (mOp2 dAdd (mVar 1) (mVal (mFew (kN_ (mIsE (row kb_ kk_ kl_ kh_ km_ kn_ ko_ kC_ ks_ kt_ kp_ kc_ ku_ kz_ kv_ ka_ kw_ kx_ ky_ kj_ kf_ kr_ kg_ kd_ kG_ kB_ kA_ ki_ kI_ kH_ kD_ ke_ kq_ kF_ kE_) kh_ (mVar 0)) (kN_ (mIsE (row kb_ kk_ kl_ kh_ km_ kn_ ko_ kC_ ks_ kt_ kp_ kc_ ku_ kz_ kv_ ka_ kw_ kx_ ky_ kj_ kf_ kr_ kg_ kd_ kG_ kB_ kA_ ki_ kI_ kH_ kD_ ke_ kq_ kF_ kE_) km_ (mVar 0)) (kN_ (mIsE (row kb_ kk_ kl_ kh_ km_ kn_ ko_ kC_ ks_ kt_ kp_ kc_ ku_ kz_ kv_ ka_ kw_ kx_ ky_ kj_ kf_ kr_ kg_ kd_ kG_ kB_ kA_ ki_ kI_ kH_ kD_ ke_ kq_ kF_ kE_) kn_ (mVar 0)) mNil)))))))
    (sSeq (sSet 1 (mOp2 dAdd (mVar 1) (mVal (mFew (kN_ (mIsE (row kb_ kk_ kl_ kh_ km_ kn_ ko_ kC_ ks_ kt_ kp_ kc_ ku_ kz_ kv_ ka_ kw_ kx_ ky_ kj_ kf_ kr_ kg_ kd_ kG_ kB_ kA_ ki_ kI_ kH_ kD_ ke_ kq_ kF_ kE_) ko_ (mVar 0)) (kN_ (mIsE (row kb_ kk_ kl_ kh_ km_ kn_ ko_ kC_ ks_ kt_ kp_ kc_ ku_ kz_ kv_ ka_ kw_ kx_ ky_ kj_ kf_ kr_ kg_ kd_ kG_ kB_ kA_ ki_ kI_ kH_ kD_ ke_ kq_ kF_ kE_) kC_ (mVar 0)) (kN_ (mIsE (row kb_ kk_ kl_ kh_ km_ kn_ ko_ kC_ ks_ kt_ kp_ kc_ ku_ kz_ kv_ ka_ kw_ kx_ ky_ kj_ kf_ kr_ kg_ kd_ kG_ kB_ kA_ ki_ kI_ kH_ kD_ ke_ kq_ kF_ kE_) ks_ (mVar 0)) mNil)))))))
    (sSeq (sSet 1 (mOp2 dAdd (mVar 1) (mVal (mFew (kN_ (mIsE (row kb_ kk_ kl_ kh_ km_ kn_ ko_ kC_ ks_ kt_ kp_ kc_ ku_ kz_ kv_ ka_ kw_ kx_ ky_ kj_ kf_ kr_ kg_ kd_ kG_ kB_ kA_ ki_ kI_ kH_ kD_ ke_ kq_ kF_ kE_) kt_ (mVar 0)) (kN_ (mIsE (row kb_ kk_ kl_ kh_ km_ kn_ ko_ kC_ ks_ kt_ kp_ kc_ ku_ kz_ kv_ ka_ kw_ kx_ ky_ kj_ kf_ kr_ kg_ kd_ kG_ kB_ kA_ ki_ kI_ kH_ kD_ ke_ kq_ kF_ kE_) kp_ (mVar 0)) (kN_ (mIsE (row kb_ kk_ kl_ kh_ km_ kn_ ko_ kC_ ks_ kt_ kp_ kc_ ku_ kz_ kv_ ka_ kw_ kx_ ky_ kj_ kf_ kr_ kg_ kd_ kG_ kB_ kA_ ki_ kI_ kH_ kD_ ke_ kq_ kF_ kE_) kc_ (mVar 0)) mNil)))))))
    (sSeq (sSet 1 (mOp2 dAdd (mVar 1) (mVal (mFew (kN_ (mIsE (row kb_ kk_ kl_ kh_ km_ kn_ ko_ kC_ ks_ kt_ kp_ kc_ ku_ kz_ kv_ ka_ kw_ kx_ ky_ kj_ kf_ kr_ kg_ kd_ kG_ kB_ kA_ ki_ kI_ kH_ kD_ ke_ kq_ kF_ kE_) ku_ (mVar 0)) (kN_ (mIsE (row kb_ kk_ kl_ kh_ km_ kn_ ko_ kC_ ks_ kt_ kp_ kc_ ku_ kz_ kv_ ka_ kw_ kx_ ky_ kj_ kf_ kr_ kg_ kd_ kG_ kB_ kA_ ki_ kI_ kH_ kD_ ke_ kq_ kF_ kE_) kz_ (mVar 0)) (kN_ (mIsE (row kb_ kk_ kl_ kh_ km_ kn_ ko_ kC_ ks_ kt_ kp_ kc_ ku_ kz_ kv_ ka_ kw_ kx_ ky_ kj_ kf_ kr_ kg_ kd_ kG_ kB_ kA_ ki_ kI_ kH_ kD_ ke_ kq_ kF_ kE_) kv_ (mVar 0)) mNil)))))))
    (sSeq (sSet 1 (mOp2 dAdd (mVar 1) (mVal (mFew (kN_ (mIsE (row kb_ kk_ kl_ kh_ km_ kn_ ko_ kC_ ks_ kt_ kp_ kc_ ku_ kz_ kv_ ka_ kw_ kx_ ky_ kj_ kf_ kr_ kg_ kd_ kG_ kB_ kA_ ki_ kI_ kH_ kD_ ke_ kq_ kF_ kE_) ka_ (mVar 0)) (kN_ (mIsE (row kb_ kk_ kl_ kh_ km_ kn_ ko_ kC_ ks_ kt_ kp_ kc_ ku_ kz_ kv_ ka_ kw_ kx_ ky_ kj_ kf_ kr_ kg_ kd_ kG_ kB_ kA_ ki_ kI_ kH_ kD_ ke_ kq_ kF_ kE_) kw_ (mVar 0)) (kN_ (mIsE (row kb_ kk_ kl_ kh_ km_ kn_ ko_ kC_ ks_ kt_ kp_ kc_ ku_ kz_ kv_ ka_ kw_ kx_ ky_ kj_ kf_ kr_ kg_ kd_ kG_ kB_ kA_ ki_ kI_ kH_ kD_ ke_ kq_ kF_ kE_) kx_ (mVar 0)) mNil)))))))
    (sSeq (sSet 1 (mOp2 dAdd (mVar 1) (mVal (mFew (kN_ (mIsE (row kb_ kk_ kl_ kh_ km_ kn_ ko_ kC_ ks_ kt_ kp_ kc_ ku_ kz_ kv_ ka_ kw_ kx_ ky_ kj_ kf_ kr_ kg_ kd_ kG_ kB_ kA_ ki_ kI_ kH_ kD_ ke_ kq_ kF_ kE_) ky_ (mVar 0)) (kN_ (mIsE (row kb_ kk_ kl_ kh_ km_ kn_ ko_ kC_ ks_ kt_ kp_ kc_ ku_ kz_ kv_ ka_ kw_ kx_ ky_ kj_ kf_ kr_ kg_ kd_ kG_ kB_ kA_ ki_ kI_ kH_ kD_ ke_ kq_ kF_ kE_) kj_ (mVar 0)) (kN_ (mIsE (row kb_ kk_ kl_ kh_ km_ kn_ ko_ kC_ ks_ kt_ kp_ kc_ ku_ kz_ kv_ ka_ kw_ kx_ ky_ kj_ kf_ kr_ kg_ kd_ kG_ kB_ kA_ ki_ kI_ kH_ kD_ ke_ kq_ kF_ kE_) kf_ (mVar 0)) mNil)))))))
    (sSeq (sSet 1 (mOp2 dAdd (mVar 1) (mVal (mFew (kN_ (mIsE (row kb_ kk_ kl_ kh_ km_ kn_ ko_ kC_ ks_ kt_ kp_ kc_ ku_ kz_ kv_ ka_ kw_ kx_ ky_ kj_ kf_ kr_ kg_ kd_ kG_ kB_ kA_ ki_ kI_ kH_ kD_ ke_ kq_ kF_ kE_) kr_ (mVar 0)) (kN_ (mIsE (row kb_ kk_ kl_ kh_ km_ kn_ ko_ kC_ ks_ kt_ kp_ kc_ ku_ kz_ kv_ ka_ kw_ kx_ ky_ kj_ kf_ kr_ kg_ kd_ kG_ kB_ kA_ ki_ kI_ kH_ kD_ ke_ kq_ kF_ kE_) kg_ (mVar 0)) (kN_ (mIsE (row kb_ kk_ kl_ kh_ km_ kn_ ko_ kC_ ks_ kt_ kp_ kc_ ku_ kz_ kv_ ka_ kw_ kx_ ky_ kj_ kf_ kr_ kg_ kd_ kG_ kB_ kA_ ki_ kI_ kH_ kD_ ke_ kq_ kF_ kE_) kd_ (mVar 0)) mNil)))))))
    (sSeq (sSet 1 (mOp2 dAdd (mVar 1) (mVal (mFew (kN_ (mIsE (row kb_ kk_ kl_ kh_ km_ kn_ ko_ kC_ ks_ kt_ kp_ kc_ ku_ kz_ kv_ ka_ kw_ kx_ ky_ kj_ kf_ kr_ kg_ kd_ kG_ kB_ kA_ ki_ kI_ kH_ kD_ ke_ kq_ kF_ kE_) kG_ (mVar 0)) (kN_ (mIsE (row kb_ kk_ kl_ kh_ km_ kn_ ko_ kC_ ks_ kt_ kp_ kc_ ku_ kz_ kv_ ka_ kw_ kx_ ky_ kj_ kf_ kr_ kg_ kd_ kG_ kB_ kA_ ki_ kI_ kH_ kD_ ke_ kq_ kF_ kE_) kB_ (mVar 0)) (kN_ (mIsE (row kb_ kk_ kl_ kh_ km_ kn_ ko_ kC_ ks_ kt_ kp_ kc_ ku_ kz_ kv_ ka_ kw_ kx_ ky_ kj_ kf_ kr_ kg_ kd_ kG_ kB_ kA_ ki_ kI_ kH_ kD_ ke_ kq_ kF_ kE_) kA_ (mVar 0)) mNil)))))))
    (sSeq (sSet 1 (mOp2 dAdd (mVar 1) (mVal (mFew (kN_ (mIsE (row kb_ kk_ kl_ kh_ km_ kn_ ko_ kC_ ks_ kt_ kp_ kc_ ku_ kz_ kv_ ka_ kw_ kx_ ky_ kj_ kf_ kr_ kg_ kd_ kG_ kB_ kA_ ki_ kI_ kH_ kD_ ke_ kq_ kF_ kE_) ki_ (mVar 0)) (kN_ (mIsE (row kb_ kk_ kl_ kh_ km_ kn_ ko_ kC_ ks_ kt_ kp_ kc_ ku_ kz_ kv_ ka_ kw_ kx_ ky_ kj_ kf_ kr_ kg_ kd_ kG_ kB_ kA_ ki_ kI_ kH_ kD_ ke_ kq_ kF_ kE_) kI_ (mVar 0)) (kN_ (mIsE (row kb_ kk_ kl_ kh_ km_ kn_ ko_ kC_ ks_ kt_ kp_ kc_ ku_ kz_ kv_ ka_ kw_ kx_ ky_ kj_ kf_ kr_ kg_ kd_ kG_ kB_ kA_ ki_ kI_ kH_ kD_ ke_ kq_ kF_ kE_) kH_ (mVar 0)) mNil)))))))
    (sSeq (sSet 1 (mOp2 dAdd (mVar 1) (mVal (mFew (kN_ (mIsE (row kb_ kk_ kl_ kh_ km_ kn_ ko_ kC_ ks_ kt_ kp_ kc_ ku_ kz_ kv_ ka_ kw_ kx_ ky_ kj_ kf_ kr_ kg_ kd_ kG_ kB_ kA_ ki_ kI_ kH_ kD_ ke_ kq_ kF_ kE_) kD_ (mVar 0)) (kN_ (mIsE (row kb_ kk_ kl_ kh_ km_ kn_ ko_ kC_ ks_ kt_ kp_ kc_ ku_ kz_ kv_ ka_ kw_ kx_ ky_ kj_ kf_ kr_ kg_ kd_ kG_ kB_ kA_ ki_ kI_ kH_ kD_ ke_ kq_ kF_ kE_) ke_ (mVar 0)) mNil))))))
    (sRet (mOp2 (pEq false) (khv_ oLen (kN_ (mVal (mLc (mItL (mVar 1)) (gNm 2) (mTru (mVar 2)) (mVar 2) [2])) mNil)) (mC (.int 1)))))))))))))))
noncomputable def kaB_ (kb_ kk_ kl_ kh_ km_ kn_ ko_ kC_ ks_ kt_ kp_ kc_ ku_ kz_ kv_ ka_ kw_ kx_ ky_ kj_ kf_ kr_ kg_ kd_ kG_ kB_ kA_ ki_ kI_ kH_ kD_ ke_ kq_ kF_ kE_ : Addr) : List D → M D := defM 3 (kh0_ kb_ kk_ kl_ kh_ km_ kn_ ko_ kC_ ks_ kt_ kp_ kc_ ku_ kz_ kv_ ka_ kw_ kx_ ky_ kj_ kf_ kr_ kg_ kd_ kG_ kB_ kA_ ki_ kI_ kH_ kD_ ke_ kq_ kF_ kE_)
abbrev kbq_ : Stmt := topS 45
abbrev klw_ : List Str := ["_law_thing_here", "_law_other", "_law_errors", "_law_kinds", "_law_error", "_law_at", "_law_pairs", "_law_last", "_law_more", "_law_rest", "_law_one"]
abbrev kdJ_ : List Str := ["_law_thing_here", "_law_other"]
theorem k2_ : FnScope klw_ kdJ_ (defScope kbq_) := ⟨rfl, rfl, rfl, by decide +kernel, rfl, by decide +kernel, by decide +kernel⟩
noncomputable def kh1_ (kb_ kk_ kl_ kh_ km_ kn_ ko_ kC_ ks_ kt_ kp_ kc_ ku_ kz_ kv_ ka_ kw_ kx_ ky_ kj_ kf_ kr_ kg_ kd_ kG_ kB_ kA_ ki_ kI_ kH_ kD_ ke_ kq_ kF_ kE_ : Addr) : MS := (sSeq (sSet 2 (mFn 1 (kR_ kb_ kk_ kl_ kh_ km_ kn_ ko_ kC_ ks_ kt_ kp_ kc_ ku_ kz_ kv_ ka_ kw_ kx_ ky_ kj_ kf_ kr_ kg_ kd_ kG_ kB_ kA_ ki_ kI_ kH_ kD_ ke_ kq_ kF_ kE_) (kN_ (mVar 0) mNil)))
    (sSeq (sSet 3 (mOp2 dAdd (mOp2 dAdd (mVal (kpW_ lRep (mVal (mFew (kN_ (mC (.int 0)) mNil))) (mC (.int 16)))) (mVal (kpW_ lRep (mVal (mFew (kN_ (mC (.int 1)) mNil))) (mC (.int 4))))) (mVal (kpW_ lRep (mVal (mFew (kN_ (mC (.int 2)) mNil))) (mC (.int 4))))))
    (sSeq (sFor (mItZ (mVar 2) (mVar 3)) (gTp [(gNm 4), (gNm 5)]) (sIf (mOrT (kmn_ (mTru (mFn 2 (kY_ kb_ kk_ kl_ kh_ km_ kn_ ko_ kC_ ks_ kt_ kp_ kc_ ku_ kz_ kv_ ka_ kw_ kx_ ky_ kj_ kf_ kr_ kg_ kd_ kG_ kB_ kA_ ki_ kI_ kH_ kD_ ke_ kq_ kF_ kE_) (kN_ (mVar 4) (kN_ (mVar 5) mNil))))) (mOrT (kmn_ (mTru (mFn 1 (kaB_ kb_ kk_ kl_ kh_ km_ kn_ ko_ kC_ ks_ kt_ kp_ kc_ ku_ kz_ kv_ ka_ kw_ kx_ ky_ kj_ kf_ kr_ kg_ kd_ kG_ kB_ kA_ ki_ kI_ kH_ kD_ ke_ kq_ kF_ kE_) (kN_ (mVar 4) mNil)))) (kku_ (mOp2 (pEq true) (khv_ kdE_ (kN_ (kf9_ (row kb_ kk_ kl_ kh_ km_ kn_ ko_ kC_ ks_ kt_ kp_ kc_ ku_ kz_ kv_ ka_ kw_ kx_ ky_ kj_ kf_ kr_ kg_ kd_ kG_ kB_ kA_ ki_ kI_ kH_ kD_ ke_ kq_ kF_ kE_) "value" (mVar 4)) mNil)) (khv_ kdE_ (kN_ (mVar 0) mNil)))))) (sRet (mC (.bl false))) sNx))
    (sSeq (sSet 6 (mVal (mFew (kN_ (k1_ kC_ ["one", "other"] (kN_ (mVar 0) (kN_ (mVar 1) mNil))) (kN_ (k1_ kA_ ["one", "other"] (kN_ (mVar 0) (kN_ (mVar 1) mNil))) mNil)))))
    (sSeq (sFor (mItZ (mVar 6) (mVal (mFew (kN_ (mC (.int 0)) (kN_ (mC (.int 2)) mNil))))) (gTp [(gNm 4), (gNm 5)]) (sIf (mOrT (kmn_ (mTru (mFn 2 (kY_ kb_ kk_ kl_ kh_ km_ kn_ ko_ kC_ ks_ kt_ kp_ kc_ ku_ kz_ kv_ ka_ kw_ kx_ ky_ kj_ kf_ kr_ kg_ kd_ kG_ kB_ kA_ ki_ kI_ kH_ kD_ ke_ kq_ kF_ kE_) (kN_ (mVar 4) (kN_ (mVar 5) mNil))))) (mOrT (kmn_ (mTru (mFn 1 (kaB_ kb_ kk_ kl_ kh_ km_ kn_ ko_ kC_ ks_ kt_ kp_ kc_ ku_ kz_ kv_ ka_ kw_ kx_ ky_ kj_ kf_ kr_ kg_ kd_ kG_ kB_ kA_ ki_ kI_ kH_ kD_ ke_ kq_ kF_ kE_) (kN_ (mVar 4) mNil)))) (kku_ (mOp2 (pEq true) (khv_ kdE_ (kN_ (mVal (mFew (kN_ (kf9_ (row kb_ kk_ kl_ kh_ km_ kn_ ko_ kC_ ks_ kt_ kp_ kc_ ku_ kz_ kv_ ka_ kw_ kx_ ky_ kj_ kf_ kr_ kg_ kd_ kG_ kB_ kA_ ki_ kI_ kH_ kD_ ke_ kq_ kF_ kE_) "one" (mVar 4)) (kN_ (kf9_ (row kb_ kk_ kl_ kh_ km_ kn_ ko_ kC_ ks_ kt_ kp_ kc_ ku_ kz_ kv_ ka_ kw_ kx_ ky_ kj_ kf_ kr_ kg_ kd_ kG_ kB_ kA_ ki_ kI_ kH_ kD_ ke_ kq_ kF_ kE_) "other" (mVar 4)) mNil)))) mNil)) (khv_ kdE_ (kN_ (mVal (mFew (kN_ (mVar 0) (kN_ (mVar 1) mNil)))) mNil)))))) (sRet (mC (.bl false))) sNx))
    (sSeq (sFor (mItL (mVal (mFew (kN_ (k1_ kp_ ["position"] (kN_ (mVar 0) mNil)) (kN_ (k1_ ka_ ["position"] (kN_ (mVar 0) mNil)) mNil))))) (gNm 4) (sIf (mOrT (kmn_ (mTru (mFn 2 (kY_ kb_ kk_ kl_ kh_ km_ kn_ ko_ kC_ ks_ kt_ kp_ kc_ ku_ kz_ kv_ ka_ kw_ kx_ ky_ kj_ kf_ kr_ kg_ kd_ kG_ kB_ kA_ ki_ kI_ kH_ kD_ ke_ kq_ kF_ kE_) (kN_ (mVar 4) (kN_ (mC (.int 0)) mNil))))) (mOrT (kmn_ (mTru (mFn 1 (kaB_ kb_ kk_ kl_ kh_ km_ kn_ ko_ kC_ ks_ kt_ kp_ kc_ ku_ kz_ kv_ ka_ kw_ kx_ ky_ kj_ kf_ kr_ kg_ kd_ kG_ kB_ kA_ ki_ kI_ kH_ kD_ ke_ kq_ kF_ kE_) (kN_ (mVar 4) mNil)))) (kku_ (mOp2 (pEq true) (khv_ kdE_ (kN_ (kf9_ (row kb_ kk_ kl_ kh_ km_ kn_ ko_ kC_ ks_ kt_ kp_ kc_ ku_ kz_ kv_ ka_ kw_ kx_ ky_ kj_ kf_ kr_ kg_ kd_ kG_ kB_ kA_ ki_ kI_ kH_ kD_ ke_ kq_ kF_ kE_) "position" (mVar 4)) mNil)) (khv_ kdE_ (kN_ (mVar 0) mNil)))))) (sRet (mC (.bl false))) sNx))
    (sSeq (krh_ 4 7 8 (kN_ (k1_ kd_ ["step", "reason"] (kN_ (mVar 0) (kN_ (mVar 1) mNil))) (kN_ (k1_ kH_ ["cycle"] (kN_ (mVar 0) mNil)) (kN_ (k1_ kD_ ["total"] (kN_ (mVar 0) mNil)) mNil))))
    (sSeq (sIf (kku_ (mOp2 (pEq true) (khv_ kdE_ (kN_ (mVal (mFew (kN_ (kf9_ (row kb_ kk_ kl_ kh_ km_ kn_ ko_ kC_ ks_ kt_ kp_ kc_ ku_ kz_ kv_ ka_ kw_ kx_ ky_ kj_ kf_ kr_ kg_ kd_ kG_ kB_ kA_ ki_ kI_ kH_ kD_ ke_ kq_ kF_ kE_) "step" (mVar 4)) (kN_ (kf9_ (row kb_ kk_ kl_ kh_ km_ kn_ ko_ kC_ ks_ kt_ kp_ kc_ ku_ kz_ kv_ ka_ kw_ kx_ ky_ kj_ kf_ kr_ kg_ kd_ kG_ kB_ kA_ ki_ kI_ kH_ kD_ ke_ kq_ kF_ kE_) "reason" (mVar 4)) (kN_ (kf9_ (row kb_ kk_ kl_ kh_ km_ kn_ ko_ kC_ ks_ kt_ kp_ kc_ ku_ kz_ kv_ ka_ kw_ kx_ ky_ kj_ kf_ kr_ kg_ kd_ kG_ kB_ kA_ ki_ kI_ kH_ kD_ ke_ kq_ kF_ kE_) "cycle" (mVar 7)) (kN_ (kf9_ (row kb_ kk_ kl_ kh_ km_ kn_ ko_ kC_ ks_ kt_ kp_ kc_ ku_ kz_ kv_ ka_ kw_ kx_ ky_ kj_ kf_ kr_ kg_ kd_ kG_ kB_ kA_ ki_ kI_ kH_ kD_ ke_ kq_ kF_ kE_) "total" (mVar 8)) mNil)))))) mNil)) (khv_ kdE_ (kN_ (mVal (mFew (kN_ (mVar 0) (kN_ (mVar 1) (kN_ (mVar 0) (kN_ (mVar 0) mNil)))))) mNil)))) (sRet (mC (.bl false))) sNx)
    (sSeq (sSet 9 (mVal (mFew (kN_ (mVar 4) (kN_ (mVar 7) (kN_ (mVar 8) (kN_ (kmT_ ke_) mNil)))))))
    (sRet (mOp2 (pEq false) (mVal (mLc (mItL (mVar 9)) (gNm 10) (mOrT (kmn_ (mTru (mFn 2 (kY_ kb_ kk_ kl_ kh_ km_ kn_ ko_ kC_ ks_ kt_ kp_ kc_ ku_ kz_ kv_ ka_ kw_ kx_ ky_ kj_ kf_ kr_ kg_ kd_ kG_ kB_ kA_ ki_ kI_ kH_ kD_ ke_ kq_ kF_ kE_) (kN_ (mVar 10) (kN_ (mC (.int 2)) mNil))))) (kmn_ (mTru (mFn 1 (kaB_ kb_ kk_ kl_ kh_ km_ kn_ ko_ kC_ ks_ kt_ kp_ kc_ ku_ kz_ kv_ ka_ kw_ kx_ ky_ kj_ kf_ kr_ kg_ kd_ kG_ kB_ kA_ ki_ kI_ kH_ kD_ ke_ kq_ kF_ kE_) (kN_ (mVar 10) mNil))))) (mVar 10) [10])) (mVal (mFew mNil)))))))))))))
noncomputable def ka4_ (kb_ kk_ kl_ kh_ km_ kn_ ko_ kC_ ks_ kt_ kp_ kc_ ku_ kz_ kv_ ka_ kw_ kx_ ky_ kj_ kf_ kr_ kg_ kd_ kG_ kB_ kA_ ki_ kI_ kH_ kD_ ke_ kq_ kF_ kE_ : Addr) : List D → M D := defM 11 (kh1_ kb_ kk_ kl_ kh_ km_ kn_ ko_ kC_ ks_ kt_ kp_ kc_ ku_ kz_ kv_ ka_ kw_ kx_ ky_ kj_ kf_ kr_ kg_ kd_ kG_ kB_ kA_ ki_ kI_ kH_ kD_ ke_ kq_ kF_ kE_)
abbrev k0_ : Stmt := topS 46
abbrev kgm_ : List Str := ["_law_first", "_law_second", "_law_third"]
abbrev kaq_ : List Str := []
theorem kcF_ : FnScope kgm_ kaq_ (defScope k0_) := ⟨rfl, rfl, rfl, by decide +kernel, rfl, by decide +kernel, by decide +kernel⟩
noncomputable def kbt_ (kb_ kk_ kl_ kh_ km_ kn_ ko_ kC_ ks_ kt_ kp_ kc_ ku_ kz_ kv_ ka_ kw_ kx_ ky_ kj_ kf_ kr_ kg_ kd_ kG_ kB_ kA_ ki_ kI_ kH_ kD_ ke_ kq_ kF_ kE_ : Addr) : MS := (sSeq (krh_ 0 1 2 (kN_ (khy_ kq_ (kN_ (mC (.str "some words")) mNil)) (kN_ (khy_ kF_ (kN_ (mC (.str "some words")) mNil)) (kN_ (khy_ kE_ (kN_ (mC (.str "some words")) mNil)) mNil))))
    (sRet (krg_ (mFn 2 (kY_ kb_ kk_ kl_ kh_ km_ kn_ ko_ kC_ ks_ kt_ kp_ kc_ ku_ kz_ kv_ ka_ kw_ kx_ ky_ kj_ kf_ kr_ kg_ kd_ kG_ kB_ kA_ ki_ kI_ kH_ kD_ ke_ kq_ kF_ kE_) (kN_ (mVar 0) (kN_ (mC (.int 0)) mNil))) (krg_ (mFn 2 (kY_ kb_ kk_ kl_ kh_ km_ kn_ ko_ kC_ ks_ kt_ kp_ kc_ ku_ kz_ kv_ ka_ kw_ kx_ ky_ kj_ kf_ kr_ kg_ kd_ kG_ kB_ kA_ ki_ kI_ kH_ kD_ ke_ kq_ kF_ kE_) (kN_ (mVar 1) (kN_ (mC (.int 1)) mNil))) (mFn 2 (kY_ kb_ kk_ kl_ kh_ km_ kn_ ko_ kC_ ks_ kt_ kp_ kc_ ku_ kz_ kv_ ka_ kw_ kx_ ky_ kj_ kf_ kr_ kg_ kd_ kG_ kB_ kA_ ki_ kI_ kH_ kD_ ke_ kq_ kF_ kE_) (kN_ (mVar 2) (kN_ (mC (.int 2)) mNil)))))))
noncomputable def kS_ (kb_ kk_ kl_ kh_ km_ kn_ ko_ kC_ ks_ kt_ kp_ kc_ ku_ kz_ kv_ ka_ kw_ kx_ ky_ kj_ kf_ kr_ kg_ kd_ kG_ kB_ kA_ ki_ kI_ kH_ kD_ ke_ kq_ kF_ kE_ : Addr) : List D → M D := defM 3 (kbt_ kb_ kk_ kl_ kh_ km_ kn_ ko_ kC_ ks_ kt_ kp_ kc_ ku_ kz_ kv_ ka_ kw_ kx_ ky_ kj_ kf_ kr_ kg_ kd_ kG_ kB_ kA_ ki_ kI_ kH_ kD_ ke_ kq_ kF_ kE_)
abbrev koq_ : Stmt := topS 47
abbrev kwY_ : List Str := ["_law_script", "_law_k", "_law_box_here", "_law_turn", "_law_given", "_law_errors", "_law_more", "_law_stop", "_law_last", "_law_large", "_law_found", "_law_error"]
abbrev krm_ : List Str := ["_law_script"]
theorem keV_ : FnScope kwY_ krm_ (defScope koq_) := ⟨rfl, rfl, rfl, by decide +kernel, rfl, by decide +kernel, by decide +kernel⟩
noncomputable def kv9_ (K : PySem.W.Frag) (kb_ kk_ kl_ kh_ km_ kn_ ko_ kC_ ks_ kt_ kp_ kc_ ku_ kz_ kv_ ka_ kw_ kx_ ky_ kj_ kf_ kr_ kg_ kd_ kG_ kB_ kA_ ki_ kI_ kH_ kD_ ke_ kq_ kF_ kE_ : Addr) : MS := (sSeq (sFor (kr4_ (khv_ oMax (kN_ (mC (.int 2)) (kN_ (khv_ oMin (kN_ (mC (.int 10)) (kN_ (kjK_ K 0) mNil))) mNil)))) (gNm 1) (sSeq (sSet 2 (mFn 1 (kd6_ kb_ kk_ kl_ kh_ km_ kn_ ko_ kC_ ks_ kt_ kp_ kc_ ku_ kz_ kv_ ka_ kw_ kx_ ky_ kj_ kf_ kr_ kg_ kd_ kG_ kB_ kA_ ki_ kI_ kH_ kD_ ke_ kq_ kF_ kE_) (kN_ (mFnS K 0 1 (kcE_ K kb_ kk_ kl_ kh_ km_ kn_ ko_ kC_ ks_ kt_ kp_ kc_ ku_ kz_ kv_ ka_ kw_ kx_ ky_ kj_ kf_ kr_ kg_ kd_ kG_ kB_ kA_ ki_ kI_ kH_ kD_ ke_ kq_ kF_ kE_) (kN_ (mVar 1) mNil)) mNil)))
    (sSeq (sFor (kr4_ (mC (.int 6))) (gNm 3) (sIf (kmn_ (mTru (mFn 2 (ka4_ kb_ kk_ kl_ kh_ km_ kn_ ko_ kC_ ks_ kt_ kp_ kc_ ku_ kz_ kv_ ka_ kw_ kx_ ky_ kj_ kf_ kr_ kg_ kd_ kG_ kB_ kA_ ki_ kI_ kH_ kD_ ke_ kq_ kF_ kE_) (kN_ (mFn 1 (kaI_ kb_ kk_ kl_ kh_ km_ kn_ ko_ kC_ ks_ kt_ kp_ kc_ ku_ kz_ kv_ ka_ kw_ kx_ ky_ kj_ kf_ kr_ kg_ kd_ kG_ kB_ kA_ ki_ kI_ kH_ kD_ ke_ kq_ kF_ kE_) (kN_ (mVar 2) mNil)) (kN_ (mFn 1 (kaI_ kb_ kk_ kl_ kh_ km_ kn_ ko_ kC_ ks_ kt_ kp_ kc_ ku_ kz_ kv_ ka_ kw_ kx_ ky_ kj_ kf_ kr_ kg_ kd_ kG_ kB_ kA_ ki_ kI_ kH_ kD_ ke_ kq_ kF_ kE_) (kN_ (mVar 2) mNil)) mNil))))) (sRet (mC (.bl false))) sNx))
    (sSeq (sSet 4 (mOwn (mFew (kN_ (mFn 1 (kaI_ kb_ kk_ kl_ kh_ km_ kn_ ko_ kC_ ks_ kt_ kp_ kc_ ku_ kz_ kv_ ka_ kw_ kx_ ky_ kj_ kf_ kr_ kg_ kd_ kG_ kB_ kA_ ki_ kI_ kH_ kD_ ke_ kq_ kF_ kE_) (kN_ (mVar 2) mNil)) mNil))))
    (sSeq (sSet 5 (mFn 1 (kR_ kb_ kk_ kl_ kh_ km_ kn_ ko_ kC_ ks_ kt_ kp_ kc_ ku_ kz_ kv_ ka_ kw_ kx_ ky_ kj_ kf_ kr_ kg_ kd_ kG_ kB_ kA_ ki_ kI_ kH_ kD_ ke_ kq_ kF_ kE_) (kN_ (mVar 4) mNil)))
    (sSeq (sSet 6 (mVal (mFew (kN_ (k1_ kC_ ["one", "other"] (kN_ (mVar 4) (kN_ (mVar 4) mNil))) (kN_ (k1_ kA_ ["one", "other"] (kN_ (mVar 4) (kN_ (mVar 4) mNil))) (kN_ (k1_ kp_ ["position"] (kN_ (mVar 4) mNil)) (kN_ (k1_ ka_ ["position"] (kN_ (mVar 4) mNil)) mNil)))))))
    (sSeq (krh_ 7 8 9 (kN_ (k1_ kd_ ["step", "reason"] (kN_ (mVar 4) (kN_ (mVar 4) mNil))) (kN_ (k1_ kH_ ["cycle"] (kN_ (mVar 4) mNil)) (kN_ (k1_ kD_ ["total"] (kN_ (mVar 4) mNil)) mNil))))
    (sSeq (ktL_ (ktK_ "list" kjJ_ (mVar 4) (kN_ (mC (.str "late")) mNil)))
    (sSeq (sIf (kku_ (mOp2 (pEq true) (mVal (mLc (mItL (mVar 5)) (gNm 11) (kku_ (mOp2 (pEq true) (khv_ kdE_ (kN_ (kf9_ (row kb_ kk_ kl_ kh_ km_ kn_ ko_ kC_ ks_ kt_ kp_ kc_ ku_ kz_ kv_ ka_ kw_ kx_ ky_ kj_ kf_ kr_ kg_ kd_ kG_ kB_ kA_ ki_ kI_ kH_ kD_ ke_ kq_ kF_ kE_) "value" (mVar 11)) mNil)) (khv_ kdE_ (kN_ (mVar 4) mNil)))) (mVar 11) [11])) (mVal (mFew mNil)))) (sRet (mC (.bl false))) sNx)
    (sSeq (sSet 10 (mVal (mFew (kN_ (kf9_ (row kb_ kk_ kl_ kh_ km_ kn_ ko_ kC_ ks_ kt_ kp_ kc_ ku_ kz_ kv_ ka_ kw_ kx_ ky_ kj_ kf_ kr_ kg_ kd_ kG_ kB_ kA_ ki_ kI_ kH_ kD_ ke_ kq_ kF_ kE_) "one" (mOp2 dIx (mVar 6) (mC (.int 0)))) (kN_ (kf9_ (row kb_ kk_ kl_ kh_ km_ kn_ ko_ kC_ ks_ kt_ kp_ kc_ ku_ kz_ kv_ ka_ kw_ kx_ ky_ kj_ kf_ kr_ kg_ kd_ kG_ kB_ kA_ ki_ kI_ kH_ kD_ ke_ kq_ kF_ kE_) "other" (mOp2 dIx (mVar 6) (mC (.int 0)))) (kN_ (kf9_ (row kb_ kk_ kl_ kh_ km_ kn_ ko_ kC_ ks_ kt_ kp_ kc_ ku_ kz_ kv_ ka_ kw_ kx_ ky_ kj_ kf_ kr_ kg_ kd_ kG_ kB_ kA_ ki_ kI_ kH_ kD_ ke_ kq_ kF_ kE_) "one" (mOp2 dIx (mVar 6) (mC (.int 1)))) (kN_ (kf9_ (row kb_ kk_ kl_ kh_ km_ kn_ ko_ kC_ ks_ kt_ kp_ kc_ ku_ kz_ kv_ ka_ kw_ kx_ ky_ kj_ kf_ kr_ kg_ kd_ kG_ kB_ kA_ ki_ kI_ kH_ kD_ ke_ kq_ kF_ kE_) "other" (mOp2 dIx (mVar 6) (mC (.int 1)))) (kN_ (kf9_ (row kb_ kk_ kl_ kh_ km_ kn_ ko_ kC_ ks_ kt_ kp_ kc_ ku_ kz_ kv_ ka_ kw_ kx_ ky_ kj_ kf_ kr_ kg_ kd_ kG_ kB_ kA_ ki_ kI_ kH_ kD_ ke_ kq_ kF_ kE_) "position" (mOp2 dIx (mVar 6) (mC (.int 2)))) (kN_ (kf9_ (row kb_ kk_ kl_ kh_ km_ kn_ ko_ kC_ ks_ kt_ kp_ kc_ ku_ kz_ kv_ ka_ kw_ kx_ ky_ kj_ kf_ kr_ kg_ kd_ kG_ kB_ kA_ ki_ kI_ kH_ kD_ ke_ kq_ kF_ kE_) "position" (mOp2 dIx (mVar 6) (mC (.int 3)))) mNil)))))))))
    (sIf (kku_ (mOp2 (pEq true) (khv_ kdE_ (kN_ (mOp2 dAdd (mVar 10) (mVal (mFew (kN_ (kf9_ (row kb_ kk_ kl_ kh_ km_ kn_ ko_ kC_ ks_ kt_ kp_ kc_ ku_ kz_ kv_ ka_ kw_ kx_ ky_ kj_ kf_ kr_ kg_ kd_ kG_ kB_ kA_ ki_ kI_ kH_ kD_ ke_ kq_ kF_ kE_) "step" (mVar 7)) (kN_ (kf9_ (row kb_ kk_ kl_ kh_ km_ kn_ ko_ kC_ ks_ kt_ kp_ kc_ ku_ kz_ kv_ ka_ kw_ kx_ ky_ kj_ kf_ kr_ kg_ kd_ kG_ kB_ kA_ ki_ kI_ kH_ kD_ ke_ kq_ kF_ kE_) "reason" (mVar 7)) (kN_ (kf9_ (row kb_ kk_ kl_ kh_ km_ kn_ ko_ kC_ ks_ kt_ kp_ kc_ ku_ kz_ kv_ ka_ kw_ kx_ ky_ kj_ kf_ kr_ kg_ kd_ kG_ kB_ kA_ ki_ kI_ kH_ kD_ ke_ kq_ kF_ kE_) "cycle" (mVar 8)) (kN_ (kf9_ (row kb_ kk_ kl_ kh_ km_ kn_ ko_ kC_ ks_ kt_ kp_ kc_ ku_ kz_ kv_ ka_ kw_ kx_ ky_ kj_ kf_ kr_ kg_ kd_ kG_ kB_ kA_ ki_ kI_ kH_ kD_ ke_ kq_ kF_ kE_) "total" (mVar 9)) mNil))))))) mNil)) (khv_ kdE_ (kN_ (mVal (kpW_ lRep (mVal (mFew (kN_ (mVar 4) mNil))) (mC (.int 10)))) mNil)))) (sRet (mC (.bl false))) sNx)))))))))))
    (sRet (mFn 0 (kS_ kb_ kk_ kl_ kh_ km_ kn_ ko_ kC_ ks_ kt_ kp_ kc_ ku_ kz_ kv_ ka_ kw_ kx_ ky_ kj_ kf_ kr_ kg_ kd_ kG_ kB_ kA_ ki_ kI_ kH_ kD_ ke_ kq_ kF_ kE_) mNil)))
noncomputable def kor_ (K : PySem.W.Frag) (kb_ kk_ kl_ kh_ km_ kn_ ko_ kC_ ks_ kt_ kp_ kc_ ku_ kz_ kv_ ka_ kw_ kx_ ky_ kj_ kf_ kr_ kg_ kd_ kG_ kB_ kA_ ki_ kI_ kH_ kD_ ke_ kq_ kF_ kE_ : Addr) : Addr → List Int → List D → M D := kpi_ K 12 (kv9_ K kb_ kk_ kl_ kh_ km_ kn_ ko_ kC_ ks_ kt_ kp_ kc_ ku_ kz_ kv_ ka_ kw_ kx_ ky_ kj_ kf_ kr_ kg_ kd_ kG_ kB_ kA_ ki_ kI_ kH_ kD_ ke_ kq_ kF_ kE_)
abbrev k3_ : Stmt := inClass (topS 4) 0
theorem kec_ : kan_ k3_ ["value"] where
  body := ⟨_, _, _, _, _, _, _, _, _, rfl, (.cons (by decide +kernel) (fun _ _ _ _ _ => rfl) .nil), fun _ _ _ _ _ => ⟨_, rfl⟩, fun _ _ _ _ _ => rfl⟩
  args := ⟨_, rfl, rfl⟩
  sc := ⟨rfl, rfl, rfl, by decide +kernel, rfl, by decide +kernel, by decide +kernel, by decide +kernel, rfl, rfl⟩
  one := ⟨by simp, by decide⟩
  bind := fun _ _ _ _ _ _ _ _ us hl => match us, hl with | [_, _], _ => rfl
abbrev kah_ : Stmt := inClass (topS 5) 0
theorem kgn_ : kan_ kah_ ["value"] where
  body := ⟨_, _, _, _, _, _, _, _, _, rfl, (.cons (by decide +kernel) (fun _ _ _ _ _ => rfl) .nil), fun _ _ _ _ _ => ⟨_, rfl⟩, fun _ _ _ _ _ => rfl⟩
  args := ⟨_, rfl, rfl⟩
  sc := ⟨rfl, rfl, rfl, by decide +kernel, rfl, by decide +kernel, by decide +kernel, by decide +kernel, rfl, rfl⟩
  one := ⟨by simp, by decide⟩
  bind := fun _ _ _ _ _ _ _ _ us hl => match us, hl with | [_, _], _ => rfl
abbrev kai_ : Stmt := inClass (topS 6) 0
theorem kgo_ : kan_ kai_ ["value"] where
  body := ⟨_, _, _, _, _, _, _, _, _, rfl, (.cons (by decide +kernel) (fun _ _ _ _ _ => rfl) .nil), fun _ _ _ _ _ => ⟨_, rfl⟩, fun _ _ _ _ _ => rfl⟩
  args := ⟨_, rfl, rfl⟩
  sc := ⟨rfl, rfl, rfl, by decide +kernel, rfl, by decide +kernel, by decide +kernel, by decide +kernel, rfl, rfl⟩
  one := ⟨by simp, by decide⟩
  bind := fun _ _ _ _ _ _ _ _ us hl => match us, hl with | [_, _], _ => rfl
abbrev k8_ : Stmt := inClass (topS 7) 0
theorem keW_ : kan_ k8_ ["value"] where
  body := ⟨_, _, _, _, _, _, _, _, _, rfl, (.cons (by decide +kernel) (fun _ _ _ _ _ => rfl) .nil), fun _ _ _ _ _ => ⟨_, rfl⟩, fun _ _ _ _ _ => rfl⟩
  args := ⟨_, rfl, rfl⟩
  sc := ⟨rfl, rfl, rfl, by decide +kernel, rfl, by decide +kernel, by decide +kernel, by decide +kernel, rfl, rfl⟩
  one := ⟨by simp, by decide⟩
  bind := fun _ _ _ _ _ _ _ _ us hl => match us, hl with | [_, _], _ => rfl
abbrev kaj_ : Stmt := inClass (topS 8) 0
theorem kgp_ : kan_ kaj_ ["value"] where
  body := ⟨_, _, _, _, _, _, _, _, _, rfl, (.cons (by decide +kernel) (fun _ _ _ _ _ => rfl) .nil), fun _ _ _ _ _ => ⟨_, rfl⟩, fun _ _ _ _ _ => rfl⟩
  args := ⟨_, rfl, rfl⟩
  sc := ⟨rfl, rfl, rfl, by decide +kernel, rfl, by decide +kernel, by decide +kernel, by decide +kernel, rfl, rfl⟩
  one := ⟨by simp, by decide⟩
  bind := fun _ _ _ _ _ _ _ _ us hl => match us, hl with | [_, _], _ => rfl
abbrev kak_ : Stmt := inClass (topS 9) 0
theorem kgq_ : kan_ kak_ ["value"] where
  body := ⟨_, _, _, _, _, _, _, _, _, rfl, (.cons (by decide +kernel) (fun _ _ _ _ _ => rfl) .nil), fun _ _ _ _ _ => ⟨_, rfl⟩, fun _ _ _ _ _ => rfl⟩
  args := ⟨_, rfl, rfl⟩
  sc := ⟨rfl, rfl, rfl, by decide +kernel, rfl, by decide +kernel, by decide +kernel, by decide +kernel, rfl, rfl⟩
  one := ⟨by simp, by decide⟩
  bind := fun _ _ _ _ _ _ _ _ us hl => match us, hl with | [_, _], _ => rfl
abbrev kal_ : Stmt := inClass (topS 10) 0
theorem kgr_ : kan_ kal_ ["value"] where
  body := ⟨_, _, _, _, _, _, _, _, _, rfl, (.cons (by decide +kernel) (fun _ _ _ _ _ => rfl) .nil), fun _ _ _ _ _ => ⟨_, rfl⟩, fun _ _ _ _ _ => rfl⟩
  args := ⟨_, rfl, rfl⟩
  sc := ⟨rfl, rfl, rfl, by decide +kernel, rfl, by decide +kernel, by decide +kernel, by decide +kernel, rfl, rfl⟩
  one := ⟨by simp, by decide⟩
  bind := fun _ _ _ _ _ _ _ _ us hl => match us, hl with | [_, _], _ => rfl
abbrev ka6_ : Stmt := inClass (topS 11) 0
theorem khA_ : kan_ ka6_ ["one", "other"] where
  body := ⟨_, _, _, _, _, _, _, _, _, rfl, (.cons (by decide +kernel) (fun _ _ _ _ _ => rfl) (.cons (by decide +kernel) (fun _ _ _ _ _ => rfl) .nil)), fun _ _ _ _ _ => ⟨_, rfl⟩, fun _ _ _ _ _ => rfl⟩
  args := ⟨_, rfl, rfl⟩
  sc := ⟨rfl, rfl, rfl, by decide +kernel, rfl, by decide +kernel, by decide +kernel, by decide +kernel, rfl, rfl⟩
  one := ⟨by simp, by decide⟩
  bind := fun _ _ _ _ _ _ _ _ us hl => match us, hl with | [_, _, _], _ => rfl
abbrev kar_ : Stmt := inClass (topS 12) 0
theorem kh2_ : kan_ kar_ ["value"] where
  body := ⟨_, _, _, _, _, _, _, _, _, rfl, (.cons (by decide +kernel) (fun _ _ _ _ _ => rfl) .nil), fun _ _ _ _ _ => ⟨_, rfl⟩, fun _ _ _ _ _ => rfl⟩
  args := ⟨_, rfl, rfl⟩
  sc := ⟨rfl, rfl, rfl, by decide +kernel, rfl, by decide +kernel, by decide +kernel, by decide +kernel, rfl, rfl⟩
  one := ⟨by simp, by decide⟩
  bind := fun _ _ _ _ _ _ _ _ us hl => match us, hl with | [_, _], _ => rfl
abbrev kas_ : Stmt := inClass (topS 13) 0
theorem kh3_ : kan_ kas_ ["value"] where
  body := ⟨_, _, _, _, _, _, _, _, _, rfl, (.cons (by decide +kernel) (fun _ _ _ _ _ => rfl) .nil), fun _ _ _ _ _ => ⟨_, rfl⟩, fun _ _ _ _ _ => rfl⟩
  args := ⟨_, rfl, rfl⟩
  sc := ⟨rfl, rfl, rfl, by decide +kernel, rfl, by decide +kernel, by decide +kernel, by decide +kernel, rfl, rfl⟩
  one := ⟨by simp, by decide⟩
  bind := fun _ _ _ _ _ _ _ _ us hl => match us, hl with | [_, _], _ => rfl
abbrev kat_ : Stmt := inClass (topS 14) 0
theorem kdK_ : kan_ kat_ ["position"] where
  body := ⟨_, _, _, _, _, _, _, _, _, rfl, (.cons (by decide +kernel) (fun _ _ _ _ _ => rfl) .nil), fun _ _ _ _ _ => ⟨_, rfl⟩, fun _ _ _ _ _ => rfl⟩
  args := ⟨_, rfl, rfl⟩
  sc := ⟨rfl, rfl, rfl, by decide +kernel, rfl, by decide +kernel, by decide +kernel, by decide +kernel, rfl, rfl⟩
  one := ⟨by simp, by decide⟩
  bind := fun _ _ _ _ _ _ _ _ us hl => match us, hl with | [_, _], _ => rfl
abbrev k4_ : Stmt := inClass (topS 15) 0
theorem ked_ : kan_ k4_ ["value"] where
  body := ⟨_, _, _, _, _, _, _, _, _, rfl, (.cons (by decide +kernel) (fun _ _ _ _ _ => rfl) .nil), fun _ _ _ _ _ => ⟨_, rfl⟩, fun _ _ _ _ _ => rfl⟩
  args := ⟨_, rfl, rfl⟩
  sc := ⟨rfl, rfl, rfl, by decide +kernel, rfl, by decide +kernel, by decide +kernel, by decide +kernel, rfl, rfl⟩
  one := ⟨by simp, by decide⟩
  bind := fun _ _ _ _ _ _ _ _ us hl => match us, hl with | [_, _], _ => rfl
abbrev kau_ : Stmt := inClass (topS 16) 0
theorem kh4_ : kan_ kau_ ["value"] where
  body := ⟨_, _, _, _, _, _, _, _, _, rfl, (.cons (by decide +kernel) (fun _ _ _ _ _ => rfl) .nil), fun _ _ _ _ _ => ⟨_, rfl⟩, fun _ _ _ _ _ => rfl⟩
  args := ⟨_, rfl, rfl⟩
  sc := ⟨rfl, rfl, rfl, by decide +kernel, rfl, by decide +kernel, by decide +kernel, by decide +kernel, rfl, rfl⟩
  one := ⟨by simp, by decide⟩
  bind := fun _ _ _ _ _ _ _ _ us hl => match us, hl with | [_, _], _ => rfl
abbrev kaK_ : Stmt := inClass (topS 17) 0
theorem kj4_ : kan_ kaK_ ["value"] where
  body := ⟨_, _, _, _, _, _, _, _, _, rfl, (.cons (by decide +kernel) (fun _ _ _ _ _ => rfl) .nil), fun _ _ _ _ _ => ⟨_, rfl⟩, fun _ _ _ _ _ => rfl⟩
  args := ⟨_, rfl, rfl⟩
  sc := ⟨rfl, rfl, rfl, by decide +kernel, rfl, by decide +kernel, by decide +kernel, by decide +kernel, rfl, rfl⟩
  one := ⟨by simp, by decide⟩
  bind := fun _ _ _ _ _ _ _ _ us hl => match us, hl with | [_, _], _ => rfl
abbrev kav_ : Stmt := inClass (topS 18) 0
theorem kh5_ : kan_ kav_ ["value"] where
  body := ⟨_, _, _, _, _, _, _, _, _, rfl, (.cons (by decide +kernel) (fun _ _ _ _ _ => rfl) .nil), fun _ _ _ _ _ => ⟨_, rfl⟩, fun _ _ _ _ _ => rfl⟩
  args := ⟨_, rfl, rfl⟩
  sc := ⟨rfl, rfl, rfl, by decide +kernel, rfl, by decide +kernel, by decide +kernel, by decide +kernel, rfl, rfl⟩
  one := ⟨by simp, by decide⟩
  bind := fun _ _ _ _ _ _ _ _ us hl => match us, hl with | [_, _], _ => rfl
abbrev k5_ : Stmt := inClass (topS 19) 0
theorem kcx_ : kan_ k5_ ["position"] where
  body := ⟨_, _, _, _, _, _, _, _, _, rfl, (.cons (by decide +kernel) (fun _ _ _ _ _ => rfl) .nil), fun _ _ _ _ _ => ⟨_, rfl⟩, fun _ _ _ _ _ => rfl⟩
  args := ⟨_, rfl, rfl⟩
  sc := ⟨rfl, rfl, rfl, by decide +kernel, rfl, by decide +kernel, by decide +kernel, by decide +kernel, rfl, rfl⟩
  one := ⟨by simp, by decide⟩
  bind := fun _ _ _ _ _ _ _ _ us hl => match us, hl with | [_, _], _ => rfl
abbrev kaw_ : Stmt := inClass (topS 20) 0
theorem kh6_ : kan_ kaw_ ["value"] where
  body := ⟨_, _, _, _, _, _, _, _, _, rfl, (.cons (by decide +kernel) (fun _ _ _ _ _ => rfl) .nil), fun _ _ _ _ _ => ⟨_, rfl⟩, fun _ _ _ _ _ => rfl⟩
  args := ⟨_, rfl, rfl⟩
  sc := ⟨rfl, rfl, rfl, by decide +kernel, rfl, by decide +kernel, by decide +kernel, by decide +kernel, rfl, rfl⟩
  one := ⟨by simp, by decide⟩
  bind := fun _ _ _ _ _ _ _ _ us hl => match us, hl with | [_, _], _ => rfl
abbrev kax_ : Stmt := inClass (topS 21) 0
theorem kh7_ : kan_ kax_ ["value"] where
  body := ⟨_, _, _, _, _, _, _, _, _, rfl, (.cons (by decide +kernel) (fun _ _ _ _ _ => rfl) .nil), fun _ _ _ _ _ => ⟨_, rfl⟩, fun _ _ _ _ _ => rfl⟩
  args := ⟨_, rfl, rfl⟩
  sc := ⟨rfl, rfl, rfl, by decide +kernel, rfl, by decide +kernel, by decide +kernel, by decide +kernel, rfl, rfl⟩
  one := ⟨by simp, by decide⟩
  bind := fun _ _ _ _ _ _ _ _ us hl => match us, hl with | [_, _], _ => rfl
abbrev kay_ : Stmt := inClass (topS 22) 0
theorem kh8_ : kan_ kay_ ["value"] where
  body := ⟨_, _, _, _, _, _, _, _, _, rfl, (.cons (by decide +kernel) (fun _ _ _ _ _ => rfl) .nil), fun _ _ _ _ _ => ⟨_, rfl⟩, fun _ _ _ _ _ => rfl⟩
  args := ⟨_, rfl, rfl⟩
  sc := ⟨rfl, rfl, rfl, by decide +kernel, rfl, by decide +kernel, by decide +kernel, by decide +kernel, rfl, rfl⟩
  one := ⟨by simp, by decide⟩
  bind := fun _ _ _ _ _ _ _ _ us hl => match us, hl with | [_, _], _ => rfl
abbrev kam_ : Stmt := inClass (topS 23) 0
theorem kgs_ : kan_ kam_ ["value"] where
  body := ⟨_, _, _, _, _, _, _, _, _, rfl, (.cons (by decide +kernel) (fun _ _ _ _ _ => rfl) .nil), fun _ _ _ _ _ => ⟨_, rfl⟩, fun _ _ _ _ _ => rfl⟩
  args := ⟨_, rfl, rfl⟩
  sc := ⟨rfl, rfl, rfl, by decide +kernel, rfl, by decide +kernel, by decide +kernel, by decide +kernel, rfl, rfl⟩
  one := ⟨by simp, by decide⟩
  bind := fun _ _ _ _ _ _ _ _ us hl => match us, hl with | [_, _], _ => rfl
abbrev k9_ : Stmt := inClass (topS 24) 0
theorem keX_ : kan_ k9_ ["value"] where
  body := ⟨_, _, _, _, _, _, _, _, _, rfl, (.cons (by decide +kernel) (fun _ _ _ _ _ => rfl) .nil), fun _ _ _ _ _ => ⟨_, rfl⟩, fun _ _ _ _ _ => rfl⟩
  args := ⟨_, rfl, rfl⟩
  sc := ⟨rfl, rfl, rfl, by decide +kernel, rfl, by decide +kernel, by decide +kernel, by decide +kernel, rfl, rfl⟩
  one := ⟨by simp, by decide⟩
  bind := fun _ _ _ _ _ _ _ _ us hl => match us, hl with | [_, _], _ => rfl
abbrev kaz_ : Stmt := inClass (topS 25) 0
theorem kh9_ : kan_ kaz_ ["value"] where
  body := ⟨_, _, _, _, _, _, _, _, _, rfl, (.cons (by decide +kernel) (fun _ _ _ _ _ => rfl) .nil), fun _ _ _ _ _ => ⟨_, rfl⟩, fun _ _ _ _ _ => rfl⟩
  args := ⟨_, rfl, rfl⟩
  sc := ⟨rfl, rfl, rfl, by decide +kernel, rfl, by decide +kernel, by decide +kernel, by decide +kernel, rfl, rfl⟩
  one := ⟨by simp, by decide⟩
  bind := fun _ _ _ _ _ _ _ _ us hl => match us, hl with | [_, _], _ => rfl
abbrev kaa_ : Stmt := inClass (topS 26) 0
theorem keY_ : kan_ kaa_ ["value"] where
  body := ⟨_, _, _, _, _, _, _, _, _, rfl, (.cons (by decide +kernel) (fun _ _ _ _ _ => rfl) .nil), fun _ _ _ _ _ => ⟨_, rfl⟩, fun _ _ _ _ _ => rfl⟩
  args := ⟨_, rfl, rfl⟩
  sc := ⟨rfl, rfl, rfl, by decide +kernel, rfl, by decide +kernel, by decide +kernel, by decide +kernel, rfl, rfl⟩
  one := ⟨by simp, by decide⟩
  bind := fun _ _ _ _ _ _ _ _ us hl => match us, hl with | [_, _], _ => rfl
abbrev kab_ : Stmt := inClass (topS 27) 0
theorem kcG_ : kan_ kab_ ["step", "reason"] where
  body := ⟨_, _, _, _, _, _, _, _, _, rfl, (.cons (by decide +kernel) (fun _ _ _ _ _ => rfl) (.cons (by decide +kernel) (fun _ _ _ _ _ => rfl) .nil)), fun _ _ _ _ _ => ⟨_, rfl⟩, fun _ _ _ _ _ => rfl⟩
  args := ⟨_, rfl, rfl⟩
  sc := ⟨rfl, rfl, rfl, by decide +kernel, rfl, by decide +kernel, by decide +kernel, by decide +kernel, rfl, rfl⟩
  one := ⟨by simp, by decide⟩
  bind := fun _ _ _ _ _ _ _ _ us hl => match us, hl with | [_, _, _], _ => rfl
abbrev kbZ_ : Stmt := inClass (topS 28) 0
theorem km9_ : kan_ kbZ_ ["value"] where
  body := ⟨_, _, _, _, _, _, _, _, _, rfl, (.cons (by decide +kernel) (fun _ _ _ _ _ => rfl) .nil), fun _ _ _ _ _ => ⟨_, rfl⟩, fun _ _ _ _ _ => rfl⟩
  args := ⟨_, rfl, rfl⟩
  sc := ⟨rfl, rfl, rfl, by decide +kernel, rfl, by decide +kernel, by decide +kernel, by decide +kernel, rfl, rfl⟩
  one := ⟨by simp, by decide⟩
  bind := fun _ _ _ _ _ _ _ _ us hl => match us, hl with | [_, _], _ => rfl
abbrev kaR_ : Stmt := inClass (topS 29) 0
theorem kkT_ : kan_ kaR_ ["value"] where
  body := ⟨_, _, _, _, _, _, _, _, _, rfl, (.cons (by decide +kernel) (fun _ _ _ _ _ => rfl) .nil), fun _ _ _ _ _ => ⟨_, rfl⟩, fun _ _ _ _ _ => rfl⟩
  args := ⟨_, rfl, rfl⟩
  sc := ⟨rfl, rfl, rfl, by decide +kernel, rfl, by decide +kernel, by decide +kernel, by decide +kernel, rfl, rfl⟩
  one := ⟨by simp, by decide⟩
  bind := fun _ _ _ _ _ _ _ _ us hl => match us, hl with | [_, _], _ => rfl
abbrev kaS_ : Stmt := inClass (topS 30) 0
theorem keZ_ : kan_ kaS_ ["one", "other"] where
  body := ⟨_, _, _, _, _, _, _, _, _, rfl, (.cons (by decide +kernel) (fun _ _ _ _ _ => rfl) (.cons (by decide +kernel) (fun _ _ _ _ _ => rfl) .nil)), fun _ _ _ _ _ => ⟨_, rfl⟩, fun _ _ _ _ _ => rfl⟩
  args := ⟨_, rfl, rfl⟩
  sc := ⟨rfl, rfl, rfl, by decide +kernel, rfl, by decide +kernel, by decide +kernel, by decide +kernel, rfl, rfl⟩
  one := ⟨by simp, by decide⟩
  bind := fun _ _ _ _ _ _ _ _ us hl => match us, hl with | [_, _, _], _ => rfl
abbrev kac_ : Stmt := inClass (topS 31) 0
theorem ke0_ : kan_ kac_ ["value"] where
  body := ⟨_, _, _, _, _, _, _, _, _, rfl, (.cons (by decide +kernel) (fun _ _ _ _ _ => rfl) .nil), fun _ _ _ _ _ => ⟨_, rfl⟩, fun _ _ _ _ _ => rfl⟩
  args := ⟨_, rfl, rfl⟩
  sc := ⟨rfl, rfl, rfl, by decide +kernel, rfl, by decide +kernel, by decide +kernel, by decide +kernel, rfl, rfl⟩
  one := ⟨by simp, by decide⟩
  bind := fun _ _ _ _ _ _ _ _ us hl => match us, hl with | [_, _], _ => rfl
abbrev kdL_ : Stmt := inClass (topS 32) 0
theorem kqI_ : kan_ kdL_ ["value"] where
  body := ⟨_, _, _, _, _, _, _, _, _, rfl, (.cons (by decide +kernel) (fun _ _ _ _ _ => rfl) .nil), fun _ _ _ _ _ => ⟨_, rfl⟩, fun _ _ _ _ _ => rfl⟩
  args := ⟨_, rfl, rfl⟩
  sc := ⟨rfl, rfl, rfl, by decide +kernel, rfl, by decide +kernel, by decide +kernel, by decide +kernel, rfl, rfl⟩
  one := ⟨by simp, by decide⟩
  bind := fun _ _ _ _ _ _ _ _ us hl => match us, hl with | [_, _], _ => rfl
abbrev kcH_ : Stmt := inClass (topS 33) 0
theorem klx_ : kan_ kcH_ ["cycle"] where
  body := ⟨_, _, _, _, _, _, _, _, _, rfl, (.cons (by decide +kernel) (fun _ _ _ _ _ => rfl) .nil), fun _ _ _ _ _ => ⟨_, rfl⟩, fun _ _ _ _ _ => rfl⟩
  args := ⟨_, rfl, rfl⟩
  sc := ⟨rfl, rfl, rfl, by decide +kernel, rfl, by decide +kernel, by decide +kernel, by decide +kernel, rfl, rfl⟩
  one := ⟨by simp, by decide⟩
  bind := fun _ _ _ _ _ _ _ _ us hl => match us, hl with | [_, _], _ => rfl
abbrev ka7_ : Stmt := inClass (topS 34) 0
theorem khB_ : kan_ ka7_ ["total"] where
  body := ⟨_, _, _, _, _, _, _, _, _, rfl, (.cons (by decide +kernel) (fun _ _ _ _ _ => rfl) .nil), fun _ _ _ _ _ => ⟨_, rfl⟩, fun _ _ _ _ _ => rfl⟩
  args := ⟨_, rfl, rfl⟩
  sc := ⟨rfl, rfl, rfl, by decide +kernel, rfl, by decide +kernel, by decide +kernel, by decide +kernel, rfl, rfl⟩
  one := ⟨by simp, by decide⟩
  bind := fun _ _ _ _ _ _ _ _ us hl => match us, hl with | [_, _], _ => rfl
abbrev kad_ : Stmt := inClass (topS 35) 0
theorem ke1_ : kli_ kad_ where
  body := ⟨_, _, _, _, _, _, _, _, _, rfl, rfl, fun _ _ _ _ _ => ⟨_, rfl⟩, fun _ _ _ _ _ => rfl⟩
  args := ⟨_, rfl, rfl⟩
  sc := ⟨rfl, rfl, rfl, by decide +kernel, rfl, by decide +kernel, by decide +kernel, by decide +kernel, rfl, rfl⟩
  bind := fun _ _ _ _ _ _ _ _ us hl => match us, hl with | [_], _ => rfl
structure Tx (K : PySem.W.Frag) (mg : Str → Option Value) (kb_ kk_ kl_ kh_ km_ kn_ ko_ kC_ ks_ kt_ kp_ kc_ ku_ kz_ kv_ ka_ kw_ kx_ ky_ kj_ kf_ kr_ kg_ kd_ kG_ kB_ kA_ ki_ kI_ kH_ kD_ ke_ kq_ kF_ kE_ : Addr) : Prop where
  kpA_ : mg "len" = none
  kqJ_ : mg "max" = none
  kK_ : mg "isinstance" = none
  kaC_ : mg "LookupError" = none
  kb0_ : mg "KeyError" = none
  kaM_ : mg "ValueError" = none
  kcI_ : mg "repr" = none
  kqK_ : mg "zip" = none
  ke2_ : mg "range" = none
  krn_ : mg "min" = none
  kna_ : Def K mg "_law_cell" kcD_ kdZ_
  kpB_ : Def K mg "_law_box" keT_ kj1_
  knb_ : Def K mg "_law_take" kdu_ keU_
  kly_ : Def K mg "_law_thing" kb5_ kdG_
  kdM_ : Def K mg "_law_with_value" k6_ kaJ_
  klz_ : Def K mg "_law_under" kb7_ kdH_
  klA_ : Def K mg "_law_alone" kbp_ kdI_
  klB_ : Def K mg "_law_right" kbq_ kdJ_
  kdh_ : Def K mg "_law_bases_right" k0_ kaq_
  kwZ_ : Def K mg "law" koq_ krm_
  ka8_ : XDef bxV K mg "InvalidInteger" ["value"] k3_ kb_
  kb8_ : XDef bxV K mg "InvalidArity" ["value"] kah_ kk_
  kb9_ : XDef bxV K mg "InvalidPlace" ["value"] kai_ kl_
  kbu_ : XDef bxV K mg "InvalidPlaces" ["value"] k8_ kh_
  kca_ : XDef bxV K mg "InvalidCover" ["value"] kaj_ km_
  kcb_ : XDef bxV K mg "InvalidPairs" ["value"] kak_ kn_
  kcc_ : XDef bxV K mg "InvalidTable" ["value"] kal_ ko_
  kdN_ : XDef bxV K mg "Mismatch" ["one", "other"] ka6_ kC_
  kcJ_ : XDef bxV K mg "InvalidWord" ["value"] kar_ ks_
  kcK_ : XDef bxV K mg "InvalidPath" ["value"] kas_ kt_
  kbr_ : XDef bxV K mg "InvalidText" ["position"] kat_ kp_
  ka9_ : XDef bxV K mg "InvalidDiagram" ["value"] k4_ kc_
  kcL_ : XDef bxV K mg "InvalidStep" ["value"] kau_ ku_
  kdv_ : XDef bxV K mg "InvalidLog" ["value"] kaK_ kz_
  kcM_ : XDef bxV K mg "InvalidName" ["value"] kav_ kv_
  kaL_ : XDef bxV K mg "InvalidFormula" ["position"] k5_ ka_
  kcN_ : XDef bxV K mg "InvalidLine" ["value"] kaw_ kw_
  kcO_ : XDef bxV K mg "InvalidTree" ["value"] kax_ kx_
  kcP_ : XDef bxV K mg "InvalidBook" ["value"] kay_ ky_
  kcd_ : XDef bxK K mg "UnknownPlace" ["value"] kam_ kj_
  kbv_ : XDef bxK K mg "UnknownVertex" ["value"] k9_ kf_
  kcQ_ : XDef bxK K mg "UnknownName" ["value"] kaz_ kr_
  kbw_ : XDef bxK K mg "UnknownMember" ["value"] kaa_ kg_
  kaQ_ : XDef bxL K mg "NotApplicable" ["step", "reason"] kab_ kd_
  kia_ : XDef bxL K mg "NotSelf" ["value"] kbZ_ kG_
  kd0_ : XDef bxL K mg "NotNormal" ["value"] kaR_ kB_
  kdd_ : XDef bxL K mg "Unrelated" ["one", "other"] kaS_ kA_
  kbx_ : XDef bxL K mg "DuplicateName" ["value"] kac_ ki_
  knc_ : XDef bxL K mg "InUse" ["value"] kdL_ kI_
  kib_ : XDef bxL K mg "Cyclic" ["cycle"] kcH_ kH_
  kdO_ : XDef bxL K mg "TooLarge" ["total"] ka7_ kD_
  kby_ : XDef bxL K mg "NothingToUndo" [] kad_ ke_
  xg_StrandError : mg "StrandError" = some (.ref kq_)
  xt_StrandError : OexB bxV K kq_
  xn_StrandError : PySem.W.findIn K (.ref kq_) "__init__" = some (some (.builtin "ValueError.__init__"))
  xg_Missing : mg "Missing" = some (.ref kF_)
  xt_Missing : OexB bxK K kF_
  xn_Missing : PySem.W.findIn K (.ref kF_) "__init__" = some (some (.builtin "KeyError.__init__"))
  xg_Blocked : mg "Blocked" = some (.ref kE_)
  xt_Blocked : OexB bxL K kE_
  xn_Blocked : PySem.W.findIn K (.ref kE_) "__init__" = some (some (.builtin "LookupError.__init__"))
  et : kmU_ K (row kb_ kk_ kl_ kh_ km_ kn_ ko_ kC_ ks_ kt_ kp_ kc_ ku_ kz_ kv_ ka_ kw_ kx_ ky_ kj_ kf_ kr_ kg_ kd_ kG_ kB_ kA_ ki_ kI_ kH_ kD_ ke_ kq_ kF_ kE_)
section
variable {P : Program} {w : World} {K : PySem.W.Frag} {mg : Str → Option Value} {base : Heap}
variable {kb_ kk_ kl_ kh_ km_ kn_ ko_ kC_ ks_ kt_ kp_ kc_ ku_ kz_ kv_ ka_ kw_ kx_ ky_ kj_ kf_ kr_ kg_ kd_ kG_ kB_ kA_ ki_ kI_ kH_ kD_ ke_ kq_ kF_ kE_ : Addr}
theorem Tx.nodup (T : Tx K mg kb_ kk_ kl_ kh_ km_ kn_ ko_ kC_ ks_ kt_ kp_ kc_ ku_ kz_ kv_ ka_ kw_ kx_ ky_ kj_ kf_ kr_ kg_ kd_ kG_ kB_ kA_ ki_ kI_ kH_ kD_ ke_ kq_ kF_ kE_) : [kb_, kk_, kl_, kh_, km_, kn_, ko_, kC_, ks_, kt_, kp_, kc_, ku_, kz_, kv_, ka_, kw_, kx_, ky_, kj_, kf_, kr_, kg_, kd_, kG_, kB_, kA_, ki_, kI_, kH_, kD_, ke_, kq_, kF_, kE_].Nodup := T.et.nd
theorem kos_ (hP : PTx P) (hsys : ∃ o, base.get? sysModules = some o) (T : Tx K mg kb_ kk_ kl_ kh_ km_ kn_ ko_ kC_ ks_ kt_ kp_ kc_ ku_ kz_ kv_ ka_ kw_ kx_ ky_ kj_ kf_ kr_ kg_ kd_ kG_ kB_ kA_ ki_ kI_ kH_ kD_ ke_ kq_ kF_ kE_)  : kp6_ P w K mg base [] false "_law_cell" kcD_ kdZ_ 1 1 (kcE_ K kb_ kk_ kl_ kh_ km_ kn_ ko_ kC_ ks_ kt_ kp_ kc_ ku_ kz_ kv_ ka_ kw_ kx_ ky_ kj_ kf_ kr_ kg_ kd_ kG_ kB_ kA_ ki_ kI_ kH_ kD_ ke_ kq_ kF_ kE_) := by
  refine kp7_ (k := 0) (b := kkR_ K kb_ kk_ kl_ kh_ km_ kn_ ko_ kC_ ks_ kt_ kp_ kc_ ku_ kz_ kv_ ka_ kw_ kx_ ky_ kj_ kf_ kr_ kg_ kd_ kG_ kB_ kA_ ki_ kI_ kH_ kD_ ke_ kq_ kF_ kE_)  kon_ rfl rfl (fun f cdv A outer s H E hr => ?_)
  exact (kO_ (kn1_ (keL_ krJ_ (dv 1) (klr_ (by rfl) T.kpA_ (by decide +kernel)) (nomark _)) (k7_ (kbW_ (kp4_ (dv 1) (fun _ _ => rfl)))) kdg_)
      (k7_ (kbW_ (kcv_ kaf_ (kcv_ kmN_ kQ_ (dv 1)) kQ_))))
theorem kqL_ (hP : PTx P) (hsys : ∃ o, base.get? sysModules = some o) (T : Tx K mg kb_ kk_ kl_ kh_ km_ kn_ ko_ kC_ ks_ kt_ kp_ kc_ ku_ kz_ kv_ ka_ kw_ kx_ ky_ kj_ kf_ kr_ kg_ kd_ kG_ kB_ kA_ ki_ kI_ kH_ kD_ ke_ kq_ kF_ kE_)  : HasD P w K mg base [] false "_law_box" 1 1 (kd6_ kb_ kk_ kl_ kh_ km_ kn_ ko_ kC_ ks_ kt_ kp_ kc_ ku_ kz_ kv_ ka_ kw_ kx_ ky_ kj_ kf_ kr_ kg_ kd_ kG_ kB_ kA_ ki_ kI_ kH_ kD_ ke_ kq_ kF_ kE_) := by
  refine kdt_ (k := 0) (b := km8_ kb_ kk_ kl_ kh_ km_ kn_ ko_ kC_ ks_ kt_ kp_ kc_ ku_ kz_ kv_ ka_ kw_ kx_ ky_ kj_ kf_ kr_ kg_ kd_ kG_ kB_ kA_ ki_ kI_ kH_ kD_ ke_ kq_ kF_ kE_) T.kpB_ kqG_ rfl rfl (fun f cdv A outer s H E hr => ?_)
  exact (k7_ (kbW_ (krR_ (kX_ (kJ_ (kap_ (krV_ rfl) (by rfl) T.kqJ_ (by decide +kernel) (kJ_ kQ_ (kJ_ (kcv_ kpQ_ (dv 0) (kcv_ khJ_ kQ_ kQ_)) kL_))) (kJ_ (kcv_ keK_ (dv 0) kQ_) (kJ_ kQ_ kL_)))))))
theorem kot_ (hP : PTx P) (hsys : ∃ o, base.get? sysModules = some o) (T : Tx K mg kb_ kk_ kl_ kh_ km_ kn_ ko_ kC_ ks_ kt_ kp_ kc_ ku_ kz_ kv_ ka_ kw_ kx_ ky_ kj_ kf_ kr_ kg_ kd_ kG_ kB_ kA_ ki_ kI_ kH_ kD_ ke_ kq_ kF_ kE_)  : HasD P w K mg base [] false "_law_take" 2 1 (kb4_ kb_ kk_ kl_ kh_ km_ kn_ ko_ kC_ ks_ kt_ kp_ kc_ ku_ kz_ kv_ ka_ kw_ kx_ ky_ kj_ kf_ kr_ kg_ kd_ kG_ kB_ kA_ ki_ kI_ kH_ kD_ ke_ kq_ kF_ kE_) := by
  refine kdt_ (k := 0) (b := kkS_ kb_ kk_ kl_ kh_ km_ kn_ ko_ kC_ ks_ kt_ kp_ kc_ ku_ kz_ kv_ ka_ kw_ kx_ ky_ kj_ kf_ kr_ kg_ kd_ kG_ kB_ kA_ ki_ kI_ kH_ kD_ ke_ kq_ kF_ kE_) T.knb_ keI_ rfl rfl (fun f cdv A outer s H E hr => ?_)
  exact (kO_ (kn1_ (keL_ ko9_ (kll_ (dv 0) kQ_ (fun _ _ => rfl)) kQ_ (nomark _)) (kO_ (kaD_ (i := 2) keI_.nd rfl (.inl rfl) (kcv_ keK_ (kll_ (dv 0) kQ_ (fun _ _ => rfl)) (dv 1)))
      (kO_ (ksd_ (kcv_ kmz_ (kll_ (dv 0) kQ_ (fun _ _ => rfl)) (dv 1)) (dv 0) kQ_)
      (k7_ (kbW_ (dv 2))))) kdg_)
      (kO_ (ksd_ (kcv_ kaf_ (kll_ (dv 0) kQ_ (fun _ _ => rfl)) kQ_) (dv 0) kQ_)
      (kO_ (kaD_ (i := 3) keI_.nd rfl (.inl rfl) (kcv_ keK_ (kcv_ khJ_ (kcv_ kaf_ (kcv_ kaf_ (kll_ (dv 0) kQ_ (fun _ _ => rfl)) (kcv_ kmN_ kQ_ (kll_ (dv 0) kQ_ (fun _ _ => rfl)))) kQ_) kQ_) kQ_))
      (kO_ (kaD_ (i := 3) keI_.nd rfl (.inl rfl) (kcv_ keK_ (kcv_ khJ_ (kcv_ kaf_ (dv 3) (kcv_ kmN_ kQ_ (kll_ (dv 0) kQ_ (fun _ _ => rfl)))) kQ_) kQ_))
      (k7_ (kbW_ (kcv_ keK_ (kcv_ kmz_ (dv 3) kQ_) (dv 1))))))))
theorem knd_ (hP : PTx P) (hsys : ∃ o, base.get? sysModules = some o) (T : Tx K mg kb_ kk_ kl_ kh_ km_ kn_ ko_ kC_ ks_ kt_ kp_ kc_ ku_ kz_ kv_ ka_ kw_ kx_ ky_ kj_ kf_ kr_ kg_ kd_ kG_ kB_ kA_ ki_ kI_ kH_ kD_ ke_ kq_ kF_ kE_)  : HasD P w K mg base [] false "_law_thing" 1 2 (kaI_ kb_ kk_ kl_ kh_ km_ kn_ ko_ kC_ ks_ kt_ kp_ kc_ ku_ kz_ kv_ ka_ kw_ kx_ ky_ kj_ kf_ kr_ kg_ kd_ kG_ kB_ kA_ ki_ kI_ kH_ kD_ ke_ kq_ kF_ kE_) := by
  have G_l_take := kot_ (P := P) (w := w) (base := base) hP hsys T
  refine kdt_ (k := 1) (b := khX_ kb_ kk_ kl_ kh_ km_ kn_ ko_ kC_ ks_ kt_ kp_ kc_ ku_ kz_ kv_ ka_ kw_ kx_ ky_ kj_ kf_ kr_ kg_ kd_ kG_ kB_ kA_ ki_ kI_ kH_ kD_ ke_ kq_ kF_ kE_) T.kly_ kj2_ rfl rfl (fun f cdv A outer s H E hr => ?_)
  exact (kO_ (kaD_ (i := 1) kj2_.nd rfl (.inl rfl) (kV_ (kX_ (kJ_ krQ_ (kJ_ kn8_ (kJ_ kQ_ (kJ_ (kt7_ kQ_) (kJ_ (kcv_ khJ_ kQ_ kQ_) (kJ_ kjF_ (kJ_ kjF_ (kJ_ (kV_ (kX_ kL_)) (kJ_ (kV_ (kX_ (kJ_ kQ_ (kJ_ (kV_ (kX_ (kJ_ kQ_ kL_))) kL_)))) (kJ_ (kpV_ kL_) (kJ_ (kpV_ (kJ_ kQ_ (kJ_ kjF_ kL_))) (kJ_ kse_ (kJ_ (kuf_ (kqi_ pe_str (kV_ (kX_ (kJ_ kQ_ kL_))))) (kJ_ (kpV_ (kJ_ krQ_ (kJ_ (kV_ (kX_ (kJ_ kjF_ kL_))) kL_))) kL_)))))))))))))))))
      (k7_ (kbW_ (kll_ (dv 1) (kaG_ (gd := false) G_l_take (fun z => nomatch z) (takes_of rfl rfl rfl rfl) (hr.mono (by decide)) (by rfl) (kJ_ (dv 0) (kJ_ kQ_ kL_))) (fun _ _ => rfl)))))
theorem kdi_ (hP : PTx P) (hsys : ∃ o, base.get? sysModules = some o) (T : Tx K mg kb_ kk_ kl_ kh_ km_ kn_ ko_ kC_ ks_ kt_ kp_ kc_ ku_ kz_ kv_ ka_ kw_ kx_ ky_ kj_ kf_ kr_ kg_ kd_ kG_ kB_ kA_ ki_ kI_ kH_ kD_ ke_ kq_ kF_ kE_)  : HasD P w K mg base [] false "_law_with_value" 1 3 (kR_ kb_ kk_ kl_ kh_ km_ kn_ ko_ kC_ ks_ kt_ kp_ kc_ ku_ kz_ kv_ ka_ kw_ kx_ ky_ kj_ kf_ kr_ kg_ kd_ kG_ kB_ kA_ ki_ kI_ kH_ kD_ ke_ kq_ kF_ kE_) := by
  refine kdt_ (k := 2) (b := kb6_ kb_ kk_ kl_ kh_ km_ kn_ ko_ kC_ ks_ kt_ kp_ kc_ ku_ kz_ kv_ ka_ kw_ kx_ ky_ kj_ kf_ kr_ kg_ kd_ kG_ kB_ kA_ ki_ kI_ kH_ kD_ ke_ kq_ kF_ kE_) T.kdM_ kae_ rfl rfl (fun f cdv A outer s H E hr => ?_)
  exact (kO_ (kaD_ (i := 1) kae_.nd rfl (.inl rfl) (kV_ (kX_ (kJ_ (kP_ T.ka8_ kec_ hP (hr.mono (by decide)) (by rfl) (kJ_ (dv 0) kL_)) (kJ_ (kP_ T.kb8_ kgn_ hP (hr.mono (by decide)) (by rfl) (kJ_ (dv 0) kL_)) (kJ_ (kP_ T.kb9_ kgo_ hP (hr.mono (by decide)) (by rfl) (kJ_ (dv 0) kL_)) (kJ_ (kP_ T.kbu_ keW_ hP (hr.mono (by decide)) (by rfl) (kJ_ (dv 0) kL_)) (kJ_ (kP_ T.kca_ kgp_ hP (hr.mono (by decide)) (by rfl) (kJ_ (dv 0) kL_)) kL_))))))))
      (kO_ (kaD_ (i := 1) kae_.nd rfl (.inl rfl) (kcv_ kaf_ (dv 1) (kV_ (kX_ (kJ_ (kP_ T.kcb_ kgq_ hP (hr.mono (by decide)) (by rfl) (kJ_ (dv 0) kL_)) (kJ_ (kP_ T.kcc_ kgr_ hP (hr.mono (by decide)) (by rfl) (kJ_ (dv 0) kL_)) (kJ_ (kP_ T.kcJ_ kh2_ hP (hr.mono (by decide)) (by rfl) (kJ_ (dv 0) kL_)) (kJ_ (kP_ T.kcK_ kh3_ hP (hr.mono (by decide)) (by rfl) (kJ_ (dv 0) kL_)) kL_))))))))
      (kO_ (kaD_ (i := 1) kae_.nd rfl (.inl rfl) (kcv_ kaf_ (dv 1) (kV_ (kX_ (kJ_ (kP_ T.ka9_ ked_ hP (hr.mono (by decide)) (by rfl) (kJ_ (dv 0) kL_)) (kJ_ (kP_ T.kcL_ kh4_ hP (hr.mono (by decide)) (by rfl) (kJ_ (dv 0) kL_)) (kJ_ (kP_ T.kdv_ kj4_ hP (hr.mono (by decide)) (by rfl) (kJ_ (dv 0) kL_)) (kJ_ (kP_ T.kcM_ kh5_ hP (hr.mono (by decide)) (by rfl) (kJ_ (dv 0) kL_)) (kJ_ (kP_ T.kcN_ kh6_ hP (hr.mono (by decide)) (by rfl) (kJ_ (dv 0) kL_)) kL_)))))))))
      (kO_ (kaD_ (i := 1) kae_.nd rfl (.inl rfl) (kcv_ kaf_ (dv 1) (kV_ (kX_ (kJ_ (kP_ T.kcO_ kh7_ hP (hr.mono (by decide)) (by rfl) (kJ_ (dv 0) kL_)) (kJ_ (kP_ T.kcP_ kh8_ hP (hr.mono (by decide)) (by rfl) (kJ_ (dv 0) kL_)) (kJ_ (kP_ T.kcd_ kgs_ hP (hr.mono (by decide)) (by rfl) (kJ_ (dv 0) kL_)) (kJ_ (kP_ T.kbv_ keX_ hP (hr.mono (by decide)) (by rfl) (kJ_ (dv 0) kL_)) kL_))))))))
      (kO_ (kaD_ (i := 1) kae_.nd rfl (.inl rfl) (kcv_ kaf_ (dv 1) (kV_ (kX_ (kJ_ (kP_ T.kcQ_ kh9_ hP (hr.mono (by decide)) (by rfl) (kJ_ (dv 0) kL_)) (kJ_ (kP_ T.kbw_ keY_ hP (hr.mono (by decide)) (by rfl) (kJ_ (dv 0) kL_)) (kJ_ (kP_ T.kia_ km9_ hP (hr.mono (by decide)) (by rfl) (kJ_ (dv 0) kL_)) (kJ_ (kP_ T.kd0_ kkT_ hP (hr.mono (by decide)) (by rfl) (kJ_ (dv 0) kL_)) kL_))))))))
      (k7_ (kbW_ (kcv_ kaf_ (dv 1) (kV_ (kX_ (kJ_ (kP_ T.kbx_ ke0_ hP (hr.mono (by decide)) (by rfl) (kJ_ (dv 0) kL_)) (kJ_ (kP_ T.knc_ kqI_ hP (hr.mono (by decide)) (by rfl) (kJ_ (dv 0) kL_)) kL_))))))))))))
theorem kj5_ (hP : PTx P) (hsys : ∃ o, base.get? sysModules = some o) (T : Tx K mg kb_ kk_ kl_ kh_ km_ kn_ ko_ kC_ ks_ kt_ kp_ kc_ ku_ kz_ kv_ ka_ kw_ kx_ ky_ kj_ kf_ kr_ kg_ kd_ kG_ kB_ kA_ ki_ kI_ kH_ kD_ ke_ kq_ kF_ kE_)  : HasD P w K mg base [] false "_law_under" 2 1 (kY_ kb_ kk_ kl_ kh_ km_ kn_ ko_ kC_ ks_ kt_ kp_ kc_ ku_ kz_ kv_ ka_ kw_ kx_ ky_ kj_ kf_ kr_ kg_ kd_ kG_ kB_ kA_ ki_ kI_ kH_ kD_ ke_ kq_ kF_ kE_) := by
  refine kdt_ (k := 0) (b := khZ_ kb_ kk_ kl_ kh_ km_ kn_ ko_ kC_ ks_ kt_ kp_ kc_ ku_ kz_ kv_ ka_ kw_ kx_ ky_ kj_ kf_ kr_ kg_ kd_ kG_ kB_ kA_ ki_ kI_ kH_ kD_ ke_ kq_ kF_ kE_) T.klz_ kj3_ rfl rfl (fun f cdv A outer s H E hr => ?_)
  exact (kO_ (kaD_ (i := 2) kj3_.nd rfl (.inl rfl) (kV_ (kX_ (kJ_ (kag_ T.et (by simp [row]) (dv 0) (by rfl) T.kK_ (by rfl) T.xg_StrandError) (kJ_ (kag_ T.et (by simp [row]) (dv 0) (by rfl) T.kK_ (by rfl) T.xg_Missing) (kJ_ (kag_ T.et (by simp [row]) (dv 0) (by rfl) T.kK_ (by rfl) T.xg_Blocked) kL_))))))
      (kO_ (kn1_ (DW.dt (kpb_ (keL_ (khM_ hr.units) (dv 2) (kV_ (kX_ (kJ_ (kge_ (khL_ hr.units) (dv 1) kQ_ (nomark _)) (kJ_ (kge_ (khL_ hr.units) (dv 1) kQ_ (nomark _)) (kJ_ (kge_ (khL_ hr.units) (dv 1) kQ_ (nomark _)) kL_))))) (nomark _)) (kmF_ (keL_ (khM_ hr.units) (kqh_ T.et (by simp) (dv 0) (by rfl) T.kK_ (by rfl) T.kaM_ (by decide +kernel)) (kge_ (khL_ hr.units) (dv 1) kQ_ (nomark _)) (nomark _))))) (k7_ (kbW_ kn8_)) kdg_)
      (k7_ (kbW_ (kpY_ (kge_ (khL_ hr.units) (kqh_ T.et (by simp) (dv 0) (by rfl) T.kK_ (by rfl) T.kb0_ (by decide +kernel)) (kge_ (khL_ hr.units) (dv 1) kQ_ (nomark _)) (nomark _)) (krS_ (kge_ (khL_ hr.units) (kqh_ T.et (by simp) (dv 0) (by rfl) T.kK_ (by rfl) T.kaC_ (by decide +kernel)) (kge_ ko9_ (dv 1) kQ_ (nomark _)) (nomark _))))))))
theorem kne_ (hP : PTx P) (hsys : ∃ o, base.get? sysModules = some o) (T : Tx K mg kb_ kk_ kl_ kh_ km_ kn_ ko_ kC_ ks_ kt_ kp_ kc_ ku_ kz_ kv_ ka_ kw_ kx_ ky_ kj_ kf_ kr_ kg_ kd_ kG_ kB_ kA_ ki_ kI_ kH_ kD_ ke_ kq_ kF_ kE_)  : HasD P w K mg base [] false "_law_alone" 1 1 (kaB_ kb_ kk_ kl_ kh_ km_ kn_ ko_ kC_ ks_ kt_ kp_ kc_ ku_ kz_ kv_ ka_ kw_ kx_ ky_ kj_ kf_ kr_ kg_ kd_ kG_ kB_ kA_ ki_ kI_ kH_ kD_ ke_ kq_ kF_ kE_) := by
  refine kdt_ (k := 0) (b := kh0_ kb_ kk_ kl_ kh_ km_ kn_ ko_ kC_ ks_ kt_ kp_ kc_ ku_ kz_ kv_ ka_ kw_ kx_ ky_ kj_ kf_ kr_ kg_ kd_ kG_ kB_ kA_ ki_ kI_ kH_ kD_ ke_ kq_ kF_ kE_) T.klA_ kZ_ rfl rfl (fun f cdv A outer s H E hr => ?_)
  exact (kO_ (kaD_ (i := 1) kZ_.nd rfl (.inl rfl) (kV_ (kX_ (kJ_ (kag_ T.et (by simp [row]) (dv 0) (by rfl) T.kK_ (by rfl) T.ka8_.gC) (kJ_ (kag_ T.et (by simp [row]) (dv 0) (by rfl) T.kK_ (by rfl) T.kb8_.gC) (kJ_ (kag_ T.et (by simp [row]) (dv 0) (by rfl) T.kK_ (by rfl) T.kb9_.gC) kL_))))))
      (kO_ (kaD_ (i := 1) kZ_.nd rfl (.inl rfl) (kcv_ kaf_ (dv 1) (kV_ (kX_ (kJ_ (kag_ T.et (by simp [row]) (dv 0) (by rfl) T.kK_ (by rfl) T.kbu_.gC) (kJ_ (kag_ T.et (by simp [row]) (dv 0) (by rfl) T.kK_ (by rfl) T.kca_.gC) (kJ_ (kag_ T.et (by simp [row]) (dv 0) (by rfl) T.kK_ (by rfl) T.kcb_.gC) kL_)))))))
      (kO_ (kaD_ (i := 1) kZ_.nd rfl (.inl rfl) (kcv_ kaf_ (dv 1) (kV_ (kX_ (kJ_ (kag_ T.et (by simp [row]) (dv 0) (by rfl) T.kK_ (by rfl) T.kcc_.gC) (kJ_ (kag_ T.et (by simp [row]) (dv 0) (by rfl) T.kK_ (by rfl) T.kdN_.gC) (kJ_ (kag_ T.et (by simp [row]) (dv 0) (by rfl) T.kK_ (by rfl) T.kcJ_.gC) kL_)))))))
      (kO_ (kaD_ (i := 1) kZ_.nd rfl (.inl rfl) (kcv_ kaf_ (dv 1) (kV_ (kX_ (kJ_ (kag_ T.et (by simp [row]) (dv 0) (by rfl) T.kK_ (by rfl) T.kcK_.gC) (kJ_ (kag_ T.et (by simp [row]) (dv 0) (by rfl) T.kK_ (by rfl) T.kbr_.gC) (kJ_ (kag_ T.et (by simp [row]) (dv 0) (by rfl) T.kK_ (by rfl) T.ka9_.gC) kL_)))))))
      (kO_ (kaD_ (i := 1) kZ_.nd rfl (.inl rfl) (kcv_ kaf_ (dv 1) (kV_ (kX_ (kJ_ (kag_ T.et (by simp [row]) (dv 0) (by rfl) T.kK_ (by rfl) T.kcL_.gC) (kJ_ (kag_ T.et (by simp [row]) (dv 0) (by rfl) T.kK_ (by rfl) T.kdv_.gC) (kJ_ (kag_ T.et (by simp [row]) (dv 0) (by rfl) T.kK_ (by rfl) T.kcM_.gC) kL_)))))))
      (kO_ (kaD_ (i := 1) kZ_.nd rfl (.inl rfl) (kcv_ kaf_ (dv 1) (kV_ (kX_ (kJ_ (kag_ T.et (by simp [row]) (dv 0) (by rfl) T.kK_ (by rfl) T.kaL_.gC) (kJ_ (kag_ T.et (by simp [row]) (dv 0) (by rfl) T.kK_ (by rfl) T.kcN_.gC) (kJ_ (kag_ T.et (by simp [row]) (dv 0) (by rfl) T.kK_ (by rfl) T.kcO_.gC) kL_)))))))
      (kO_ (kaD_ (i := 1) kZ_.nd rfl (.inl rfl) (kcv_ kaf_ (dv 1) (kV_ (kX_ (kJ_ (kag_ T.et (by simp [row]) (dv 0) (by rfl) T.kK_ (by rfl) T.kcP_.gC) (kJ_ (kag_ T.et (by simp [row]) (dv 0) (by rfl) T.kK_ (by rfl) T.kcd_.gC) (kJ_ (kag_ T.et (by simp [row]) (dv 0) (by rfl) T.kK_ (by rfl) T.kbv_.gC) kL_)))))))
      (kO_ (kaD_ (i := 1) kZ_.nd rfl (.inl rfl) (kcv_ kaf_ (dv 1) (kV_ (kX_ (kJ_ (kag_ T.et (by simp [row]) (dv 0) (by rfl) T.kK_ (by rfl) T.kcQ_.gC) (kJ_ (kag_ T.et (by simp [row]) (dv 0) (by rfl) T.kK_ (by rfl) T.kbw_.gC) (kJ_ (kag_ T.et (by simp [row]) (dv 0) (by rfl) T.kK_ (by rfl) T.kaQ_.gC) kL_)))))))
      (kO_ (kaD_ (i := 1) kZ_.nd rfl (.inl rfl) (kcv_ kaf_ (dv 1) (kV_ (kX_ (kJ_ (kag_ T.et (by simp [row]) (dv 0) (by rfl) T.kK_ (by rfl) T.kia_.gC) (kJ_ (kag_ T.et (by simp [row]) (dv 0) (by rfl) T.kK_ (by rfl) T.kd0_.gC) (kJ_ (kag_ T.et (by simp [row]) (dv 0) (by rfl) T.kK_ (by rfl) T.kdd_.gC) kL_)))))))
      (kO_ (kaD_ (i := 1) kZ_.nd rfl (.inl rfl) (kcv_ kaf_ (dv 1) (kV_ (kX_ (kJ_ (kag_ T.et (by simp [row]) (dv 0) (by rfl) T.kK_ (by rfl) T.kbx_.gC) (kJ_ (kag_ T.et (by simp [row]) (dv 0) (by rfl) T.kK_ (by rfl) T.knc_.gC) (kJ_ (kag_ T.et (by simp [row]) (dv 0) (by rfl) T.kK_ (by rfl) T.kib_.gC) kL_)))))))
      (kO_ (kaD_ (i := 1) kZ_.nd rfl (.inl rfl) (kcv_ kaf_ (dv 1) (kV_ (kX_ (kJ_ (kag_ T.et (by simp [row]) (dv 0) (by rfl) T.kK_ (by rfl) T.kdO_.gC) (kJ_ (kag_ T.et (by simp [row]) (dv 0) (by rfl) T.kK_ (by rfl) T.kby_.gC) kL_))))))
      (k7_ (kbW_ (kge_ (khL_ hr.units) (kap_ kt8_ (by rfl) T.kpA_ (by decide +kernel) (kJ_ (kV_ (kuc_ (ow := [("_law_one", 2)]) (by rfl) kZ_.nd (kod_ (dv 1)) (blkOk_by (own := [("_law_one", 2)]) (N := klv_) (sc := defScope kbp_) (by decide +kernel)) (fun _ _ _ _ _ => (kdf_ (i := 2) kZ_.nd rfl (by first | exact .inl rfl | exact .inr rfl))) (fun _ _ _ _ _ => (kmI_ (kgg_ (dv 2)))) (fun _ _ _ _ _ => (dv 2)))) kL_)) kQ_ (nomark _)))))))))))))))
theorem knf_ (hP : PTx P) (hsys : ∃ o, base.get? sysModules = some o) (T : Tx K mg kb_ kk_ kl_ kh_ km_ kn_ ko_ kC_ ks_ kt_ kp_ kc_ ku_ kz_ kv_ ka_ kw_ kx_ ky_ kj_ kf_ kr_ kg_ kd_ kG_ kB_ kA_ ki_ kI_ kH_ kD_ ke_ kq_ kF_ kE_)  : HasD P w K mg base [] true "_law_right" 2 4 (ka4_ kb_ kk_ kl_ kh_ km_ kn_ ko_ kC_ ks_ kt_ kp_ kc_ ku_ kz_ kv_ ka_ kw_ kx_ ky_ kj_ kf_ kr_ kg_ kd_ kG_ kB_ kA_ ki_ kI_ kH_ kD_ ke_ kq_ kF_ kE_) := by
  have G_l_with_value := kdi_ (P := P) (w := w) (base := base) hP hsys T
  have G_l_under := kj5_ (P := P) (w := w) (base := base) hP hsys T
  have G_l_alone := kne_ (P := P) (w := w) (base := base) hP hsys T
  refine kp0_ (k := 3) (b := kh1_ kb_ kk_ kl_ kh_ km_ kn_ ko_ kC_ ks_ kt_ kp_ kc_ ku_ kz_ kv_ ka_ kw_ kx_ ky_ kj_ kf_ kr_ kg_ kd_ kG_ kB_ kA_ ki_ kI_ kH_ kD_ ke_ kq_ kF_ kE_) T.klB_ k2_ rfl rfl (fun f cdv A outer s H E hG hr => ?_)
  exact (kO_ (kaD_ (i := 2) k2_.nd rfl (.inl rfl) (kaG_ (gd := false) G_l_with_value (fun z => nomatch z) (takes_of rfl rfl rfl rfl) (hr.mono (by decide)) (by rfl) (kJ_ (dv 0) kL_)))
      (kO_ (kaD_ (i := 3) k2_.nd rfl (.inl rfl) (kcv_ kaf_ (kcv_ kaf_ (kV_ (ktJ_ kjG_ (kV_ (kX_ (kJ_ kQ_ kL_))) kQ_)) (kV_ (ktJ_ kjG_ (kV_ (kX_ (kJ_ kQ_ kL_))) kQ_))) (kV_ (ktJ_ kjG_ (kV_ (kX_ (kJ_ kQ_ kL_))) kQ_))))
      (kO_ (kmH_ (passes_of rfl) rfl (kr5_ (by rfl) T.kqK_ (dv 2) (dv 3)) (kr2_ (by rfl) (khO_ (kdf_ (i := 4) k2_.nd rfl (.inl rfl)) (khO_ (kdf_ (i := 5) k2_.nd rfl (.inl rfl)) kpe_))) (k7_ (kn1_ (DW.dt (kpb_ (khN_ (kgg_ (kaG_ (gd := false) G_l_under (fun z => nomatch z) (takes_of rfl rfl rfl rfl) (hr.mono (by decide)) (by rfl) (kJ_ (dv 4) (kJ_ (dv 5) kL_))))) (kpb_ (khN_ (kgg_ (kaG_ (gd := false) G_l_alone (fun z => nomatch z) (takes_of rfl rfl rfl rfl) (hr.mono (by decide)) (by rfl) (kJ_ (dv 4) kL_)))) (kmF_ (keL_ (khM_ hr.units) (kap_ (kcw_ hG hr.units hsys) (by rfl) T.kcI_ (by decide +kernel) (kJ_ (kaH_ T.et (by simp [row]) (dv 4)) kL_)) (kap_ (kcw_ hG hr.units hsys) (by rfl) T.kcI_ (by decide +kernel) (kJ_ (dv 0) kL_)) (nomark _)))))) (k7_ (kbW_ kn8_)) kdg_)))
      (kO_ (kaD_ (i := 6) k2_.nd rfl (.inl rfl) (kV_ (kX_ (kJ_ (kP_ T.kdN_ khA_ hP (hr.mono (by decide)) (by rfl) (kJ_ (dv 0) (kJ_ (dv 1) kL_))) (kJ_ (kP_ T.kdd_ keZ_ hP (hr.mono (by decide)) (by rfl) (kJ_ (dv 0) (kJ_ (dv 1) kL_))) kL_)))))
      (kO_ (kmH_ (passes_of rfl) rfl (kr5_ (by rfl) T.kqK_ (dv 6) (kV_ (kX_ (kJ_ kQ_ (kJ_ kQ_ kL_))))) (kr2_ (by rfl) (khO_ (kdf_ (i := 4) k2_.nd rfl (.inl rfl)) (khO_ (kdf_ (i := 5) k2_.nd rfl (.inl rfl)) kpe_))) (k7_ (kn1_ (DW.dt (kpb_ (khN_ (kgg_ (kaG_ (gd := false) G_l_under (fun z => nomatch z) (takes_of rfl rfl rfl rfl) (hr.mono (by decide)) (by rfl) (kJ_ (dv 4) (kJ_ (dv 5) kL_))))) (kpb_ (khN_ (kgg_ (kaG_ (gd := false) G_l_alone (fun z => nomatch z) (takes_of rfl rfl rfl rfl) (hr.mono (by decide)) (by rfl) (kJ_ (dv 4) kL_)))) (kmF_ (keL_ (khM_ hr.units) (kap_ (kcw_ hG hr.units hsys) (by rfl) T.kcI_ (by decide +kernel) (kJ_ (kV_ (kX_ (kJ_ (kaH_ T.et (by simp [row]) (dv 4)) (kJ_ (kaH_ T.et (by simp [row]) (dv 4)) kL_)))) kL_)) (kap_ (kcw_ hG hr.units hsys) (by rfl) T.kcI_ (by decide +kernel) (kJ_ (kV_ (kX_ (kJ_ (dv 0) (kJ_ (dv 1) kL_)))) kL_)) (nomark _)))))) (k7_ (kbW_ kn8_)) kdg_)))
      (kO_ (kmH_ (passes_of rfl) rfl (kod_ (kV_ (kX_ (kJ_ (kP_ T.kbr_ kdK_ hP (hr.mono (by decide)) (by rfl) (kJ_ (dv 0) kL_)) (kJ_ (kP_ T.kaL_ kcx_ hP (hr.mono (by decide)) (by rfl) (kJ_ (dv 0) kL_)) kL_))))) (kdf_ (i := 4) k2_.nd rfl (.inl rfl)) (k7_ (kn1_ (DW.dt (kpb_ (khN_ (kgg_ (kaG_ (gd := false) G_l_under (fun z => nomatch z) (takes_of rfl rfl rfl rfl) (hr.mono (by decide)) (by rfl) (kJ_ (dv 4) (kJ_ kQ_ kL_))))) (kpb_ (khN_ (kgg_ (kaG_ (gd := false) G_l_alone (fun z => nomatch z) (takes_of rfl rfl rfl rfl) (hr.mono (by decide)) (by rfl) (kJ_ (dv 4) kL_)))) (kmF_ (keL_ (khM_ hr.units) (kap_ (kcw_ hG hr.units hsys) (by rfl) T.kcI_ (by decide +kernel) (kJ_ (kaH_ T.et (by simp [row]) (dv 4)) kL_)) (kap_ (kcw_ hG hr.units hsys) (by rfl) T.kcI_ (by decide +kernel) (kJ_ (dv 0) kL_)) (nomark _)))))) (k7_ (kbW_ kn8_)) kdg_)))
      (kO_ (kmP_ (i := 4) (j := 7) (l := 8) (by rfl) k2_.nd rfl rfl rfl (by decide) (by decide) (by decide) rfl rfl rfl (kJ_ (kP_ T.kaQ_ kcG_ hP (hr.mono (by decide)) (by rfl) (kJ_ (dv 0) (kJ_ (dv 1) kL_))) (kJ_ (kP_ T.kib_ klx_ hP (hr.mono (by decide)) (by rfl) (kJ_ (dv 0) kL_)) (kJ_ (kP_ T.kdO_ khB_ hP (hr.mono (by decide)) (by rfl) (kJ_ (dv 0) kL_)) kL_))) (by rfl))
      (kO_ (kn1_ (keL_ (khM_ hr.units) (kap_ (kcw_ hG hr.units hsys) (by rfl) T.kcI_ (by decide +kernel) (kJ_ (kV_ (kX_ (kJ_ (kaH_ T.et (by simp [row]) (dv 4)) (kJ_ (kaH_ T.et (by simp [row]) (dv 4)) (kJ_ (kaH_ T.et (by simp [row]) (dv 7)) (kJ_ (kaH_ T.et (by simp [row]) (dv 8)) kL_)))))) kL_)) (kap_ (kcw_ hG hr.units hsys) (by rfl) T.kcI_ (by decide +kernel) (kJ_ (kV_ (kX_ (kJ_ (dv 0) (kJ_ (dv 1) (kJ_ (dv 0) (kJ_ (dv 0) kL_)))))) kL_)) (nomark _)) (k7_ (kbW_ kn8_)) kdg_)
      (kO_ (kaD_ (i := 9) k2_.nd rfl (.inl rfl) (kV_ (kX_ (kJ_ (dv 4) (kJ_ (dv 7) (kJ_ (dv 8) (kJ_ (koj_ T.kby_ ke1_ hP (hr.mono (by decide)) (by rfl)) kL_)))))))
      (k7_ (kbW_ (kge_ (khL_ hr.units) (kV_ (kuc_ (ow := [("_law_one", 10)]) (by rfl) k2_.nd (kod_ (dv 9)) (blkOk_by (own := [("_law_one", 10)]) (N := klw_) (sc := defScope kbq_) (by decide +kernel)) (fun _ _ _ _ _ => (kdf_ (i := 10) k2_.nd rfl (by first | exact .inl rfl | exact .inr rfl))) (fun _ _ _ _ _ => (kmI_ (DW.dt (kpb_ (khN_ (kgg_ (kaG_ (gd := false) G_l_under (fun z => nomatch z) kr7_ (hr.mono (by decide)) (by rfl) (kJ_ (dv 10) (kJ_ kQ_ kL_))))) (kmF_ (khN_ (kgg_ (kaG_ (gd := false) G_l_alone (fun z => nomatch z) kr7_ (hr.mono (by decide)) (by rfl) (kJ_ (dv 10) kL_))))))))) (fun _ _ _ _ _ => (dv 10)))) (kV_ (kX_ kL_)) (nomark _)))))))))))))
theorem ke3_ (hP : PTx P) (hsys : ∃ o, base.get? sysModules = some o) (T : Tx K mg kb_ kk_ kl_ kh_ km_ kn_ ko_ kC_ ks_ kt_ kp_ kc_ ku_ kz_ kv_ ka_ kw_ kx_ ky_ kj_ kf_ kr_ kg_ kd_ kG_ kB_ kA_ ki_ kI_ kH_ kD_ ke_ kq_ kF_ kE_)  : HasD P w K mg base [] false "_law_bases_right" 0 2 (kS_ kb_ kk_ kl_ kh_ km_ kn_ ko_ kC_ ks_ kt_ kp_ kc_ ku_ kz_ kv_ ka_ kw_ kx_ ky_ kj_ kf_ kr_ kg_ kd_ kG_ kB_ kA_ ki_ kI_ kH_ kD_ ke_ kq_ kF_ kE_) := by
  have G_l_under := kj5_ (P := P) (w := w) (base := base) hP hsys T
  refine kdt_ (k := 1) (b := kbt_ kb_ kk_ kl_ kh_ km_ kn_ ko_ kC_ ks_ kt_ kp_ kc_ ku_ kz_ kv_ ka_ kw_ kx_ ky_ kj_ kf_ kr_ kg_ kd_ kG_ kB_ kA_ ki_ kI_ kH_ kD_ ke_ kq_ kF_ kE_) T.kdh_ kcF_ rfl rfl (fun f cdv A outer s H E hr => ?_)
  exact (kO_ (kmP_ (i := 0) (j := 1) (l := 2) (by rfl) kcF_.nd rfl rfl rfl (by decide) (by decide) (by decide) rfl rfl rfl (kJ_ (khU_ kbU_ krD_ T.xt_StrandError (by decide +kernel) T.xn_StrandError (by rfl) T.xg_StrandError (kJ_ kjF_ kL_)) (kJ_ (khU_ klK_ krF_ T.xt_Missing (by decide +kernel) T.xn_Missing (by rfl) T.xg_Missing (kJ_ kjF_ kL_)) (kJ_ (khU_ kga_ krE_ T.xt_Blocked (by decide +kernel) T.xn_Blocked (by rfl) T.xg_Blocked (kJ_ kjF_ kL_)) kL_))) (by rfl))
      (k7_ (kbW_ (kpY_ (kaG_ (gd := false) G_l_under (fun z => nomatch z) (takes_of rfl rfl rfl rfl) (hr.mono (by decide)) (by rfl) (kJ_ (dv 0) (kJ_ kQ_ kL_))) (kpY_ (kaG_ (gd := false) G_l_under (fun z => nomatch z) (takes_of rfl rfl rfl rfl) (hr.mono (by decide)) (by rfl) (kJ_ (dv 1) (kJ_ kQ_ kL_))) (krS_ (kaG_ (gd := false) G_l_under (fun z => nomatch z) (takes_of rfl rfl rfl rfl) (hr.mono (by decide)) (by rfl) (kJ_ (dv 2) (kJ_ kQ_ kL_)))))))))
theorem ok_law (hP : PTx P) (hsys : ∃ o, base.get? sysModules = some o) (T : Tx K mg kb_ kk_ kl_ kh_ km_ kn_ ko_ kC_ ks_ kt_ kp_ kc_ ku_ kz_ kv_ ka_ kw_ kx_ ky_ kj_ kf_ kr_ kg_ kd_ kG_ kB_ kA_ ki_ kI_ kH_ kD_ ke_ kq_ kF_ kE_)  : kp6_ P w K mg base [] true "law" koq_ krm_ 0 5 (kor_ K kb_ kk_ kl_ kh_ km_ kn_ ko_ kC_ ks_ kt_ kp_ kc_ ku_ kz_ kv_ ka_ kw_ kx_ ky_ kj_ kf_ kr_ kg_ kd_ kG_ kB_ kA_ ki_ kI_ kH_ kD_ ke_ kq_ kF_ kE_) := by
  have G_l_cell := (kos_ (P := P) (w := w) (base := base) hP hsys T ).has T.kna_ rfl
  have G_l_box := kqL_ (P := P) (w := w) (base := base) hP hsys T
  have G_l_thing := knd_ (P := P) (w := w) (base := base) hP hsys T
  have G_l_with_value := kdi_ (P := P) (w := w) (base := base) hP hsys T
  have G_l_right := knf_ (P := P) (w := w) (base := base) hP hsys T
  have G_l_bases_right := ke3_ (P := P) (w := w) (base := base) hP hsys T
  refine kog_ (k := 4) (b := kv9_ K kb_ kk_ kl_ kh_ km_ kn_ ko_ kC_ ks_ kt_ kp_ kc_ ku_ kz_ kv_ ka_ kw_ kx_ ky_ kj_ kf_ kr_ kg_ kd_ kG_ kB_ kA_ ki_ kI_ kH_ kD_ ke_ kq_ kF_ kE_)  keV_ rfl rfl (fun f cdv A outer s H E hG hr => ?_)
  exact (kO_ (kmH_ (passes_of rfl) rfl (klm_ (by rfl) T.ke2_ (kap_ (krV_ rfl) (by rfl) T.kqJ_ (by decide +kernel) (kJ_ kQ_ (kJ_ (kap_ (kt9_ rfl) (by rfl) T.krn_ (by decide +kernel) (kJ_ kQ_ (kJ_ (klr_ (by rfl) T.kpA_ (by decide +kernel)) kL_))) kL_)))) (kdf_ (i := 1) keV_.nd rfl (.inl rfl)) (kO_ (kaD_ (i := 2) keV_.nd rfl (.inl rfl) (kaG_ (gd := false) G_l_box (fun z => nomatch z) (takes_of rfl rfl rfl rfl) (hr.mono (by decide)) (by rfl) (kJ_ (kp8_ G_l_cell (fun z => nomatch z) (takes_of rfl rfl rfl rfl) (hr.mono (by decide)) (by rfl) (kJ_ (dv 1) kL_)) kL_)))
      (kO_ (kmH_ (passes_of rfl) rfl (klm_ (by rfl) T.ke2_ kQ_) (kdf_ (i := 3) keV_.nd rfl (.inl rfl)) (k7_ (kn1_ (khN_ (kgg_ (kaG_ (gd := true) G_l_right (fun _ => hG) (takes_of rfl rfl rfl rfl) (hr.mono (by decide)) (by rfl) (kJ_ (kaG_ (gd := false) G_l_thing (fun z => nomatch z) (takes_of rfl rfl rfl rfl) (hr.mono (by decide)) (by rfl) (kJ_ (dv 2) kL_)) (kJ_ (kaG_ (gd := false) G_l_thing (fun z => nomatch z) (takes_of rfl rfl rfl rfl) (hr.mono (by decide)) (by rfl) (kJ_ (dv 2) kL_)) kL_))))) (k7_ (kbW_ kn8_)) kdg_)))
      (kO_ (kaD_ (i := 4) keV_.nd rfl (.inr rfl) (krR_ (kX_ (kJ_ (kaG_ (gd := false) G_l_thing (fun z => nomatch z) (takes_of rfl rfl rfl rfl) (hr.mono (by decide)) (by rfl) (kJ_ (dv 2) kL_)) kL_))))
      (kO_ (kaD_ (i := 5) keV_.nd rfl (.inl rfl) (kaG_ (gd := false) G_l_with_value (fun z => nomatch z) (takes_of rfl rfl rfl rfl) (hr.mono (by decide)) (by rfl) (kJ_ (dv 4) kL_)))
      (kO_ (kaD_ (i := 6) keV_.nd rfl (.inl rfl) (kV_ (kX_ (kJ_ (kP_ T.kdN_ khA_ hP (hr.mono (by decide)) (by rfl) (kJ_ (dv 4) (kJ_ (dv 4) kL_))) (kJ_ (kP_ T.kdd_ keZ_ hP (hr.mono (by decide)) (by rfl) (kJ_ (dv 4) (kJ_ (dv 4) kL_))) (kJ_ (kP_ T.kbr_ kdK_ hP (hr.mono (by decide)) (by rfl) (kJ_ (dv 4) kL_)) (kJ_ (kP_ T.kaL_ kcx_ hP (hr.mono (by decide)) (by rfl) (kJ_ (dv 4) kL_)) kL_)))))))
      (kO_ (kmP_ (i := 7) (j := 8) (l := 9) (by rfl) keV_.nd rfl rfl rfl (by decide) (by decide) (by decide) rfl rfl rfl (kJ_ (kP_ T.kaQ_ kcG_ hP (hr.mono (by decide)) (by rfl) (kJ_ (dv 4) (kJ_ (dv 4) kL_))) (kJ_ (kP_ T.kib_ klx_ hP (hr.mono (by decide)) (by rfl) (kJ_ (dv 4) kL_)) (kJ_ (kP_ T.kdO_ khB_ hP (hr.mono (by decide)) (by rfl) (kJ_ (dv 4) kL_)) kL_))) (by rfl))
      (kO_ (kr3_ (krX_ PySem.F.plainAttrs_list PySem.F.slot_list_append PySem.F.type_list_append kob_ (dv 4) (kJ_ kjF_ kL_)))
      (kO_ (kn1_ (keL_ (khM_ hr.units) (kV_ (kuc_ (ow := [("_law_error", 11)]) (by rfl) keV_.nd (kod_ (dv 5)) (blkOk_by (own := [("_law_error", 11)]) (N := kwY_) (sc := defScope koq_) (by decide +kernel)) (fun _ _ _ _ _ => (kdf_ (i := 11) keV_.nd rfl (by first | exact .inl rfl | exact .inr rfl))) (fun _ _ _ _ _ => (kmI_ (keL_ (khM_ hr.units) (kap_ (kcw_ hG hr.units hsys) (by rfl) T.kcI_ (by decide +kernel) (kJ_ (kaH_ T.et (by simp [row]) (dv 11)) kL_)) (kap_ (kcw_ hG hr.units hsys) (by rfl) T.kcI_ (by decide +kernel) (kJ_ (dv 4) kL_)) (nomark _)))) (fun _ _ _ _ _ => (dv 11)))) (kV_ (kX_ kL_)) (nomark _)) (k7_ (kbW_ kn8_)) kdg_)
      (kO_ (kaD_ (i := 10) keV_.nd rfl (.inl rfl) (kV_ (kX_ (kJ_ (kaH_ T.et (by simp [row]) (kll_ (dv 6) kQ_ (fun _ _ => rfl))) (kJ_ (kaH_ T.et (by simp [row]) (kll_ (dv 6) kQ_ (fun _ _ => rfl))) (kJ_ (kaH_ T.et (by simp [row]) (kll_ (dv 6) kQ_ (fun _ _ => rfl))) (kJ_ (kaH_ T.et (by simp [row]) (kll_ (dv 6) kQ_ (fun _ _ => rfl))) (kJ_ (kaH_ T.et (by simp [row]) (kll_ (dv 6) kQ_ (fun _ _ => rfl))) (kJ_ (kaH_ T.et (by simp [row]) (kll_ (dv 6) kQ_ (fun _ _ => rfl))) kL_)))))))))
      (k7_ (kn1_ (keL_ (khM_ hr.units) (kap_ (kcw_ hG hr.units hsys) (by rfl) T.kcI_ (by decide +kernel) (kJ_ (kcv_ kaf_ (dv 10) (kV_ (kX_ (kJ_ (kaH_ T.et (by simp [row]) (dv 7)) (kJ_ (kaH_ T.et (by simp [row]) (dv 7)) (kJ_ (kaH_ T.et (by simp [row]) (dv 8)) (kJ_ (kaH_ T.et (by simp [row]) (dv 9)) kL_))))))) kL_)) (kap_ (kcw_ hG hr.units hsys) (by rfl) T.kcI_ (by decide +kernel) (kJ_ (kV_ (ktJ_ kjG_ (kV_ (kX_ (kJ_ (dv 4) kL_))) kQ_)) kL_)) (nomark _)) (k7_ (kbW_ kn8_)) kdg_))))))))))))
      (k7_ (kbW_ (kp1_ G_l_bases_right (fun z => nomatch z) (takes_of rfl rfl rfl rfl) (hr.mono (by decide)) (by rfl)))))
end
end Z
set_option Elab.async false
set_option linter.all false
set_option maxRecDepth 100000
set_option maxHeartbeats 1000000
local macro_rules | `(tactic| simp only [zK] $[$l:location]?) => `(tactic| simp only [↓Z.zP, Z.zQ, Z.zC, List.getElem?_cons_succ, List.getElem?_cons_zero, List.set_cons_succ, List.set_cons_zero, List.length_cons, List.length_nil, Option.map_some, Option.bind_some, Option.isSome_some, List.isEmpty_nil, List.isEmpty_cons, ne_eq, ite_true, ite_false, Int.cast_ofNat_Int, Int.natCast_add, List.take_succ_cons, List.take_zero, List.drop_succ_cons, List.drop_zero, List.cons_append, List.nil_append, reduceIte, reduceCtorEq, Nat.reduceAdd, Nat.reduceMul, Nat.reduceSub, Nat.reduceLT, Nat.reduceLeDiff, Nat.reduceEqDiff, Nat.reduceBEq, Int.reduceAdd, Int.reduceSub, Int.reduceMul, Int.reduceLT, Int.reduceLE, Int.reduceEq, Int.reduceNeg, Int.reducePow, Int.reduceToNat, Z.lim] $[$l:location]?)
local macro_rules | `(tactic| simp only [zK, $as,*] $[$l:location]?) => `(tactic| simp only [$as,*, ↓Z.zP, Z.zQ, Z.zC, List.getElem?_cons_succ, List.getElem?_cons_zero, List.set_cons_succ, List.set_cons_zero, List.length_cons, List.length_nil, Option.map_some, Option.bind_some, Option.isSome_some, List.isEmpty_nil, List.isEmpty_cons, ne_eq, ite_true, ite_false, Int.cast_ofNat_Int, Int.natCast_add, List.take_succ_cons, List.take_zero, List.drop_succ_cons, List.drop_zero, List.cons_append, List.nil_append, reduceIte, reduceCtorEq, Nat.reduceAdd, Nat.reduceMul, Nat.reduceSub, Nat.reduceLT, Nat.reduceLeDiff, Nat.reduceEqDiff, Nat.reduceBEq, Int.reduceAdd, Int.reduceSub, Int.reduceMul, Int.reduceLT, Int.reduceLE, Int.reduceEq, Int.reduceNeg, Int.reducePow, Int.reduceToNat, Z.lim] $[$l:location]?)
namespace Z
open PySem PySem.Spec PyProof.Rows L2 TL Y
section
variable {kb_ kk_ kl_ kh_ km_ kn_ ko_ kC_ ks_ kt_ kp_ kc_ ku_ kz_ kv_ ka_ kw_ kx_ ky_ kj_ kf_ kr_ kg_ kd_ kG_ kB_ kA_ ki_ kI_ kH_ kD_ ke_ kq_ kF_ kE_ : Addr}
variable {h : OH}
def BoxD (h : OH) (b n : Nat) : Prop := ∃ x y z : Int, h[b]? = some (.lst [.int x, .int y, .int z]) ∧ 0 ≤ x ∧ 0 ≤ y ∧ y < 2147483648 ∧ 0 ≤ z ∧ z ≤ n
theorem BoxD.mono {h : OH} {b n n' : Nat} (B : BoxD h b n) (l : n ≤ n') : BoxD h b n' := by
  obtain ⟨x, y, z, e, x0, y0, y1, z0, z1⟩ := B
  exact ⟨x, y, z, e, x0, y0, y1, z0, by omega⟩
theorem BoxD.lt {h : OH} {b n : Nat} (B : BoxD h b n) : b < h.length := by
  obtain ⟨x, y, z, e, r⟩ := B
  exact (List.getElem?_eq_some_iff.mp e).1
theorem BoxD.app {h : OH} {b n : Nat} {o : OO} (B : BoxD h b n) : BoxD (h ++ [o]) b n := by
  obtain ⟨x, y, z, e, r⟩ := B
  exact ⟨x, y, z, ka3_ e, r⟩
theorem BoxD.set {h : OH} {b n k : Nat} {o : OO} (B : BoxD h b n) (ne : k ≠ b) : BoxD (h.set k o) b n := by
  obtain ⟨x, y, z, e, r⟩ := B
  exact ⟨x, y, z, (h_ne ne).trans e, r⟩
def Fr (b : Nat) (h h' : OH) : Prop := h.length ≤ h'.length ∧ ∀ k : Nat, k < h.length → k ≠ b → h'[k]? = h[k]?
theorem Fr.refl {b : Nat} {h : OH} : Fr b h h := ⟨Nat.le_refl _, fun _ _ _ => rfl⟩
theorem Fr.trans {b : Nat} {h h1 h2 : OH} (a : Fr b h h1) (c : Fr b h1 h2) : Fr b h h2 := ⟨Nat.le_trans a.1 c.1, fun k l n => (c.2 k (Nat.lt_of_lt_of_le l a.1) n).trans (a.2 k l n)⟩
theorem Fr.of {b : Nat} {h h' : OH} (a : Kp b h h') : Fr b h h' := ⟨by rw [a.1]; exact Nat.le_refl _, fun k _ n => a.2 k n⟩
theorem Fr.app {b : Nat} {h : OH} {G : OH} : Fr b h (h ++ G) := ⟨by rw [List.length_append]; omega, fun k l _ => List.getElem?_append_left l⟩
theorem Fr.get {b k : Nat} {h h' : OH} {o : OO} (a : Fr b h h') (e : h[k]? = some o) (n : k ≠ b) : h'[k]? = some o := (a.2 k (h_lt e) n).trans e
theorem Fr.new {b k : Nat} {h h1 h2 : OH} (a : Fr b h h1) (s : k = h.length) (c : h2.length = h1.length) (d : ∀ j : Nat, j ≠ k → j ≠ b → h2[j]? = h1[j]?) : Fr b h h2 := ⟨by rw [c]; exact a.1, fun j l n => (d j (by omega) n).trans (a.2 j l n)⟩
theorem kkU_ {a m : Int} (m0 : 0 < m) : 0 ≤ a.fmod m ∧ a.fmod m < m := by
  rw [Int.fmod_eq_emod_of_nonneg _ (by omega)]
  exact ⟨Int.emod_nonneg _ (by omega), Int.emod_lt_of_pos _ m0⟩
section
variable {h : OH} {E : EQ} {u : Tg E} {Q : D → OH → Prop} {t : Tg Q}
theorem ktv_ {K : PySem.W.Frag} {a : Addr} {ns : List Int} {k : Int} (k0 : 0 ≤ k) (k1 : k < 1000) (q : ∀ c : Int, Q (.int c) h) : WE (kcE_ K kb_ kk_ kl_ kh_ km_ kn_ ko_ kC_ ks_ kt_ kp_ kc_ ku_ kz_ kv_ ka_ kw_ kx_ ky_ kj_ kf_ kr_ kg_ kd_ kG_ kB_ kA_ ki_ kI_ kH_ kD_ ke_ kq_ kF_ kE_ a ns [.int k] h) Q E t u := by
  unfold kcE_ kkR_
  simp only [zK]
  refine br_d (fun c => ?_) fun c => ?_
  · obtain ⟨c, e, _⟩ := krt_ k0 c
    simp only [zK, e]
    exact q _
  · simp only [zK]
    refine nd_i (by omega) ?_
    simp only [zK]
    exact q _
theorem kwa_ (c : Int) (q : ∀ o : OO, BoxD (h ++ [o]) h.length 0 → Q (.ptr h.length) (h ++ [o])) : WE (kd6_ kb_ kk_ kl_ kh_ km_ kn_ ko_ kC_ ks_ kt_ kp_ kc_ ku_ kz_ kv_ ka_ kw_ kx_ ky_ kj_ kf_ kr_ kg_ kd_ kG_ kB_ kA_ ki_ kI_ kH_ kD_ ke_ kq_ kF_ kE_ [.int c] h) Q E t u := by
  unfold kd6_ km8_
  simp only [zK]
  refine nd_i (by decide) ?_
  simp only [zK]
  refine q _ ⟨_, _, _, kbs_, ?_, (kkU_ (a := c) (m := 2147483629) (by decide)).1, ?_, Int.le_refl 0, Int.le_refl 0⟩
  · split <;> omega
  · have := (kkU_ (a := c) (m := 2147483629) (by decide)).2
    omega
theorem ktw_ {b n m : Nat} (B : BoxD h b n) (hn : n ≤ 100000) (m0 : 0 < m) (m1 : m ≤ 1000) (q : ∀ (k : Nat) (h' : OH), k < m → Kp b h h' → BoxD h' b (n + 1) → Q (.int k) h') : WE (kb4_ kb_ kk_ kl_ kh_ km_ kn_ ko_ kC_ ks_ kt_ kp_ kc_ ku_ kz_ kv_ ka_ kw_ kx_ ky_ kj_ kf_ kr_ kg_ kd_ kG_ kB_ kA_ ki_ kI_ kH_ kD_ ke_ kq_ kF_ kE_ [.ptr b, .int m] h) Q E t u := by
  obtain ⟨x, y, z, e, x0, y0, y1, z0, z1⟩ := B
  have fin : ∀ (i : Int) (h' : OH), Kp b h h' → BoxD h' b (n + 1) → Q (.int (i.fmod m)) h' := fun i h' kp B' => by
    have f := kkU_ (a := i) (m := m) (by omega)
    obtain ⟨k, hk⟩ := Int.eq_ofNat_of_zero_le f.1
    rw [hk]
    exact q k h' (by omega) kp B'
  have ew : ∀ p : OO, (h.set b p)[b]? = some p := fun p => ktT_ e
  unfold kb4_ kkS_
  simp only [zK, e, hL_s]
  refine br_d (fun c => ?_) fun c => ?_
  · simp only [zK, e, hL_s]
    refine nd_i (by omega) ?_
    simp only [zK, e, hL_s]
    refine nd_i (by omega) ?_
    simp only [zK, e, hL_s, Int.toNat_zero]
    refine fin _ _ Kp.set ⟨_, _, _, ktT_ e, ?_, y0, y1, z0, by omega⟩
    rw [Int.fdiv_eq_ediv_of_nonneg _ (by omega)]
    exact Int.ediv_nonneg x0 (by omega)
  · have i2 : ixN 3 2 = some 2 := rfl
    simp only [zK, e, hL_s, ew, i2]
    refine nd_i (by omega) ?_
    simp only [zK, e, hL_s, ew]
    refine nd_i (by omega) ?_
    simp only [zK, e, hL_s, ew]
    refine nd_i (by omega) ?_
    simp only [zK, e, hL_s, ew]
    refine nd_i (kru_ _ _ (by omega) (by omega)) ?_
    simp only [zK, e, hL_s, ew]
    refine nd_i (by omega) ?_
    simp only [zK, e, hL_s, ew]
    refine nd_i (by omega) ?_
    exact fin _ _ Kp.set ⟨_, _, _, ktT_ e, x0, y0, y1, by omega, by omega⟩
end
def gX (kb_ kk_ kl_ kh_ km_ kn_ ko_ kC_ ks_ kt_ kp_ kc_ ku_ kz_ kv_ ka_ kw_ kx_ ky_ kj_ kf_ kr_ kg_ kd_ kG_ kB_ kA_ ki_ kI_ kH_ kD_ ke_ kq_ kF_ kE_ : Addr) (i : Nat) : Addr := ((row kb_ kk_ kl_ kh_ km_ kn_ ko_ kC_ ks_ kt_ kp_ kc_ ku_ kz_ kv_ ka_ kw_ kx_ ky_ kj_ kf_ kr_ kg_ kd_ kG_ kB_ kA_ ki_ kI_ kH_ kD_ ke_ kq_ kF_ kE_).L).getD i 0
def biX (i : Nat) : Nat := if i < 19 ∨ i = 32 then 0 else if i < 23 ∨ i = 33 then 1 else 2
def idX : List (Nat × Nat) := ((List.range 19).map fun i => (i, 32)) ++ ([19, 20, 21, 22].map fun i => (i, 33)) ++ ((List.range 9).map fun i => (i + 23, 34))
theorem kzU_ : (row kb_ kk_ kl_ kh_ km_ kn_ ko_ kC_ ks_ kt_ kp_ kc_ ku_ kz_ kv_ ka_ kw_ kx_ ky_ kj_ kf_ kr_ kg_ kd_ kG_ kB_ kA_ ki_ kI_ kH_ kD_ ke_ kq_ kF_ kE_).L = (List.range 35).map (gX kb_ kk_ kl_ kh_ km_ kn_ ko_ kC_ ks_ kt_ kp_ kc_ ku_ kz_ kv_ ka_ kw_ kx_ ky_ kj_ kf_ kr_ kg_ kd_ kG_ kB_ kA_ ki_ kI_ kH_ kD_ ke_ kq_ kF_ kE_) := rfl
theorem kwb_ : (row kb_ kk_ kl_ kh_ km_ kn_ ko_ kC_ ks_ kt_ kp_ kc_ ku_ kz_ kv_ ka_ kw_ kx_ ky_ kj_ kf_ kr_ kg_ kd_ kG_ kB_ kA_ ki_ kI_ kH_ kD_ ke_ kq_ kF_ kE_).tb = idX.map fun p => (gX kb_ kk_ kl_ kh_ km_ kn_ ko_ kC_ ks_ kt_ kp_ kc_ ku_ kz_ kv_ ka_ kw_ kx_ ky_ kj_ kf_ kr_ kg_ kd_ kG_ kB_ kA_ ki_ kI_ kH_ kD_ ke_ kq_ kF_ kE_ p.1, gX kb_ kk_ kl_ kh_ km_ kn_ ko_ kC_ ks_ kt_ kp_ kc_ ku_ kz_ kv_ ka_ kw_ kx_ ky_ kj_ kf_ kr_ kg_ kd_ kG_ kB_ kA_ ki_ kI_ kH_ kD_ ke_ kq_ kF_ kE_ p.2) := rfl
def ttX : List (Nat × String) := ((List.range 19).map fun i => (i, "ValueError")) ++ ([19, 20, 21, 22].flatMap fun i => [(i, "KeyError"), (i, "LookupError")]) ++ ((List.range 9).map fun i => (i + 23, "LookupError")) ++ [(32, "ValueError"), (33, "KeyError"), (33, "LookupError"), (34, "LookupError")]
theorem kwc_ : (row kb_ kk_ kl_ kh_ km_ kn_ ko_ kC_ ks_ kt_ kp_ kc_ ku_ kz_ kv_ ka_ kw_ kx_ ky_ kj_ kf_ kr_ kg_ kd_ kG_ kB_ kA_ ki_ kI_ kH_ kD_ ke_ kq_ kF_ kE_).tt = ttX.map fun p => (gX kb_ kk_ kl_ kh_ km_ kn_ ko_ kC_ ks_ kt_ kp_ kc_ ku_ kz_ kv_ ka_ kw_ kx_ ky_ kj_ kf_ kr_ kg_ kd_ kG_ kB_ kA_ ki_ kI_ kH_ kD_ ke_ kq_ kF_ kE_ p.1, p.2) := rfl
section
variable (nd : ((row kb_ kk_ kl_ kh_ km_ kn_ ko_ kC_ ks_ kt_ kp_ kc_ ku_ kz_ kv_ ka_ kw_ kx_ ky_ kj_ kf_ kr_ kg_ kd_ kG_ kB_ kA_ ki_ kI_ kH_ kD_ ke_ kq_ kF_ kE_).L).Nodup)
include nd
theorem kou_ {i j : Nat} (hi : i < 35) (hj : j < 35) : gX kb_ kk_ kl_ kh_ km_ kn_ ko_ kC_ ks_ kt_ kp_ kc_ ku_ kz_ kv_ ka_ kw_ kx_ ky_ kj_ kf_ kr_ kg_ kd_ kG_ kB_ kA_ ki_ kI_ kH_ kD_ ke_ kq_ kF_ kE_ i = gX kb_ kk_ kl_ kh_ km_ kn_ ko_ kC_ ks_ kt_ kp_ kc_ ku_ kz_ kv_ ka_ kw_ kx_ ky_ kj_ kf_ kr_ kg_ kd_ kG_ kB_ kA_ ki_ kI_ kH_ kD_ ke_ kq_ kF_ kE_ j ↔ i = j := by
  refine ⟨fun e => ?_, fun e => by rw [e]⟩
  have l : ((row kb_ kk_ kl_ kh_ km_ kn_ ko_ kC_ ks_ kt_ kp_ kc_ ku_ kz_ kv_ ka_ kw_ kx_ ky_ kj_ kf_ kr_ kg_ kd_ kG_ kB_ kA_ ki_ kI_ kH_ kD_ ke_ kq_ kF_ kE_).L).length = 35 := rfl
  unfold gX at e
  generalize (row kb_ kk_ kl_ kh_ km_ kn_ ko_ kC_ ks_ kt_ kp_ kc_ ku_ kz_ kv_ ka_ kw_ kx_ ky_ kj_ kf_ kr_ kg_ kd_ kG_ kB_ kA_ ki_ kI_ kH_ kD_ ke_ kq_ kF_ kE_).L = L at nd l e
  rw [List.getD_eq_getElem?_getD, List.getD_eq_getElem?_getD, List.getElem?_eq_getElem (by omega), List.getElem?_eq_getElem (by omega)] at e
  exact (List.getElem_inj nd).mp e
theorem kqM_ {i : Nat} (hi : i < 35) : gX kb_ kk_ kl_ kh_ km_ kn_ ko_ kC_ ks_ kt_ kp_ kc_ ku_ kz_ kv_ ka_ kw_ kx_ ky_ kj_ kf_ kr_ kg_ kd_ kG_ kB_ kA_ ki_ kI_ kH_ kD_ ke_ kq_ kF_ kE_ i ∈ (row kb_ kk_ kl_ kh_ km_ kn_ ko_ kC_ ks_ kt_ kp_ kc_ ku_ kz_ kv_ ka_ kw_ kx_ ky_ kj_ kf_ kr_ kg_ kd_ kG_ kB_ kA_ ki_ kI_ kH_ kD_ ke_ kq_ kF_ kE_).L := by
  rw [kzU_]; exact List.mem_map_of_mem (List.mem_range.mpr hi)
theorem kov_ {k i j : Nat} {ns : List Str} {xs : List D} (e : h[k]? = some (.exc (gX kb_ kk_ kl_ kh_ km_ kn_ ko_ kC_ ks_ kt_ kp_ kc_ ku_ kz_ kv_ ka_ kw_ kx_ ky_ kj_ kf_ kr_ kg_ kd_ kG_ kB_ kA_ ki_ kI_ kH_ kD_ ke_ kq_ kF_ kE_ i) ns xs)) (hi : i < 35) (hj : j < 35) : isEP (row kb_ kk_ kl_ kh_ km_ kn_ ko_ kC_ ks_ kt_ kp_ kc_ ku_ kz_ kv_ ka_ kw_ kx_ ky_ kj_ kf_ kr_ kg_ kd_ kG_ kB_ kA_ ki_ kI_ kH_ kD_ ke_ kq_ kF_ kE_) (gX kb_ kk_ kl_ kh_ km_ kn_ ko_ kC_ ks_ kt_ kp_ kc_ ku_ kz_ kv_ ka_ kw_ kx_ ky_ kj_ kf_ kr_ kg_ kd_ kG_ kB_ kA_ ki_ kI_ kH_ kD_ ke_ kq_ kF_ kE_ j) h (.ptr k) = some (.bl (decide (i = j ∨ (i, j) ∈ idX))) := by
  have e1 : excOf h (.ptr k) = some (gX kb_ kk_ kl_ kh_ km_ kn_ ko_ kC_ ks_ kt_ kp_ kc_ ku_ kz_ kv_ ka_ kw_ kx_ ky_ kj_ kf_ kr_ kg_ kd_ kG_ kB_ kA_ ki_ kI_ kH_ kD_ ke_ kq_ kF_ kE_ i, ns, xs) := by unfold excOf; dsimp only; rw [e]
  unfold isEP
  rw [e1]
  dsimp only
  rw [if_pos (kqM_ nd hi)]
  congr 2
  refine decide_eq_decide.mpr ?_
  rw [kou_ nd hi hj, kwb_]
  refine or_congr Iff.rfl ⟨fun z => ?_, fun z => List.mem_map.mpr ⟨(i, j), z, rfl⟩⟩
  obtain ⟨⟨a, b⟩, hp, q⟩ := List.mem_map.mp z
  have hab : ∀ p ∈ idX, p.1 < 35 ∧ p.2 < 35 := by decide
  obtain ⟨ha, hb⟩ := hab _ hp
  have q1 : gX kb_ kk_ kl_ kh_ km_ kn_ ko_ kC_ ks_ kt_ kp_ kc_ ku_ kz_ kv_ ka_ kw_ kx_ ky_ kj_ kf_ kr_ kg_ kd_ kG_ kB_ kA_ ki_ kI_ kH_ kD_ ke_ kq_ kF_ kE_ a = gX kb_ kk_ kl_ kh_ km_ kn_ ko_ kC_ ks_ kt_ kp_ kc_ ku_ kz_ kv_ ka_ kw_ kx_ ky_ kj_ kf_ kr_ kg_ kd_ kG_ kB_ kA_ ki_ kI_ kH_ kD_ ke_ kq_ kF_ kE_ i := congrArg Prod.fst q
  have q2 : gX kb_ kk_ kl_ kh_ km_ kn_ ko_ kC_ ks_ kt_ kp_ kc_ ku_ kz_ kv_ ka_ kw_ kx_ ky_ kj_ kf_ kr_ kg_ kd_ kG_ kB_ kA_ ki_ kI_ kH_ kD_ ke_ kq_ kF_ kE_ b = gX kb_ kk_ kl_ kh_ km_ kn_ ko_ kC_ ks_ kt_ kp_ kc_ ku_ kz_ kv_ ka_ kw_ kx_ ky_ kj_ kf_ kr_ kg_ kd_ kG_ kB_ kA_ ki_ kI_ kH_ kD_ ke_ kq_ kF_ kE_ j := congrArg Prod.snd q
  have a1 : a = i := (kou_ nd ha hi).mp q1
  have a2 : b = j := (kou_ nd hb hj).mp q2
  rw [← a1, ← a2]
  exact hp
theorem kqN_ {k i : Nat} {T : String} {ns : List Str} {xs : List D} (e : h[k]? = some (.exc (gX kb_ kk_ kl_ kh_ km_ kn_ ko_ kC_ ks_ kt_ kp_ kc_ ku_ kz_ kv_ ka_ kw_ kx_ ky_ kj_ kf_ kr_ kg_ kd_ kG_ kB_ kA_ ki_ kI_ kH_ kD_ ke_ kq_ kF_ kE_ i) ns xs)) (hi : i < 35) : isTP (row kb_ kk_ kl_ kh_ km_ kn_ ko_ kC_ ks_ kt_ kp_ kc_ ku_ kz_ kv_ ka_ kw_ kx_ ky_ kj_ kf_ kr_ kg_ kd_ kG_ kB_ kA_ ki_ kI_ kH_ kD_ ke_ kq_ kF_ kE_) T h (.ptr k) = some (.bl (decide ((i, T) ∈ ttX))) := by
  have e1 : excOf h (.ptr k) = some (gX kb_ kk_ kl_ kh_ km_ kn_ ko_ kC_ ks_ kt_ kp_ kc_ ku_ kz_ kv_ ka_ kw_ kx_ ky_ kj_ kf_ kr_ kg_ kd_ kG_ kB_ kA_ ki_ kI_ kH_ kD_ ke_ kq_ kF_ kE_ i, ns, xs) := by unfold excOf; dsimp only; rw [e]
  unfold isTP
  rw [e1]
  dsimp only
  rw [if_pos (kqM_ nd hi)]
  congr 2
  refine decide_eq_decide.mpr ?_
  rw [kwc_]
  refine ⟨fun z => ?_, fun z => List.mem_map.mpr ⟨(i, T), z, rfl⟩⟩
  obtain ⟨⟨a, b⟩, hp, q⟩ := List.mem_map.mp z
  have hab : ∀ p ∈ ttX, p.1 < 35 := by decide
  have q1 : gX kb_ kk_ kl_ kh_ km_ kn_ ko_ kC_ ks_ kt_ kp_ kc_ ku_ kz_ kv_ ka_ kw_ kx_ ky_ kj_ kf_ kr_ kg_ kd_ kG_ kB_ kA_ ki_ kI_ kH_ kD_ ke_ kq_ kF_ kE_ a = gX kb_ kk_ kl_ kh_ km_ kn_ ko_ kC_ ks_ kt_ kp_ kc_ ku_ kz_ kv_ ka_ kw_ kx_ ky_ kj_ kf_ kr_ kg_ kd_ kG_ kB_ kA_ ki_ kI_ kH_ kD_ ke_ kq_ kF_ kE_ i := congrArg Prod.fst q
  have q2 : b = T := congrArg Prod.snd q
  have a1 : a = i := (kou_ nd (hab _ hp) hi).mp q1
  rw [← a1, ← q2]
  exact hp
theorem ktx_ {k i : Nat} {f : Str} {ns : List Str} {xs : List D} (e : h[k]? = some (.exc (gX kb_ kk_ kl_ kh_ km_ kn_ ko_ kC_ ks_ kt_ kp_ kc_ ku_ kz_ kv_ ka_ kw_ kx_ ky_ kj_ kf_ kr_ kg_ kd_ kG_ kB_ kA_ ki_ kI_ kH_ kD_ ke_ kq_ kF_ kE_ i) ns xs)) (hi : i < 35) : fldP (row kb_ kk_ kl_ kh_ km_ kn_ ko_ kC_ ks_ kt_ kp_ kc_ ku_ kz_ kv_ ka_ kw_ kx_ ky_ kj_ kf_ kr_ kg_ kd_ kG_ kB_ kA_ ki_ kI_ kH_ kD_ ke_ kq_ kF_ kE_) f h (.ptr k) = (ns.zip xs).reverse.lookup f := by
  have e1 : excOf h (.ptr k) = some (gX kb_ kk_ kl_ kh_ km_ kn_ ko_ kC_ ks_ kt_ kp_ kc_ ku_ kz_ kv_ ka_ kw_ kx_ ky_ kj_ kf_ kr_ kg_ kd_ kG_ kB_ kA_ ki_ kI_ kH_ kD_ ke_ kq_ kF_ kE_ i, ns, xs) := by unfold excOf; dsimp only; rw [e]
  unfold fldP
  rw [e1]
  dsimp only
  rw [if_pos (kqM_ nd hi)]
omit nd in
theorem kwd_ {h : OH} {a b c : Bool} : pEq true h (.lst [.bl a, .bl b, .bl c]) (.lst [.bl a, .bl b, .bl c]) = some (.bl false) := by
  cases a <;> cases b <;> cases c <;> rfl
omit nd in
theorem kzV_ {h : OH} {n a : Bool} : pEq n h (.bl a) (.bl a) = some (.bl (!n)) := by
  cases n <;> cases a <;> rfl
theorem kqO_ {k i : Nat} {ns : List Str} {xs : List D} (e : h[k]? = some (.exc (gX kb_ kk_ kl_ kh_ km_ kn_ ko_ kC_ ks_ kt_ kp_ kc_ ku_ kz_ kv_ ka_ kw_ kx_ ky_ kj_ kf_ kr_ kg_ kd_ kG_ kB_ kA_ ki_ kI_ kH_ kD_ ke_ kq_ kF_ kE_ i) ns xs)) (hi : i < 35) {E : EQ} {Q : D → OH → Prop} {t : Tg Q} {u : Tg E} (q : Q (.bl true) h) : WE (kY_ kb_ kk_ kl_ kh_ km_ kn_ ko_ kC_ ks_ kt_ kp_ kc_ ku_ kz_ kv_ ka_ kw_ kx_ ky_ kj_ kf_ kr_ kg_ kd_ kG_ kB_ kA_ ki_ kI_ kH_ kD_ ke_ kq_ kF_ kE_ [.ptr k, .int (biX i : Nat)] h) Q E t u := by
  have b0 := kov_ (h := h) (j := 32) nd e hi (by decide)
  have b1 := kov_ (h := h) (j := 33) nd e hi (by decide)
  have b2 := kov_ (h := h) (j := 34) nd e hi (by decide)
  have t0 := kqN_ (h := h) (T := "ValueError") nd e hi
  have t1 := kqN_ (h := h) (T := "KeyError") nd e hi
  have t2 := kqN_ (h := h) (T := "LookupError") nd e hi
  have d0 : ∀ i < 35, decide (i = 32 ∨ (i, 32) ∈ idX) = decide ((biX i : Int) = 0) ∧ decide (i = 33 ∨ (i, 33) ∈ idX) = decide ((biX i : Int) = 1) ∧ decide (i = 34 ∨ (i, 34) ∈ idX) = decide ((biX i : Int) = 2) ∧
    decide ((i, "ValueError") ∈ ttX) = decide ((biX i : Int) = 0) ∧ decide ((i, "KeyError") ∈ ttX) = decide ((biX i : Int) = 1) ∧ decide ((i, "LookupError") ∈ ttX) = decide ((biX i : Int) > 0) := by decide +kernel
  obtain ⟨h0, h1, h2, h3, h4, h5⟩ := d0 i hi
  rw [h0] at b0
  rw [h1] at b1
  rw [h2] at b2
  rw [h3] at t0
  rw [h4] at t1
  rw [h5] at t2
  unfold kY_ khZ_
  rw [show gX kb_ kk_ kl_ kh_ km_ kn_ ko_ kC_ ks_ kt_ kp_ kc_ ku_ kz_ kv_ ka_ kw_ kx_ ky_ kj_ kf_ kr_ kg_ kd_ kG_ kB_ kA_ ki_ kI_ kH_ kD_ ke_ kq_ kF_ kE_ 32 = kq_ from rfl] at b0
  rw [show gX kb_ kk_ kl_ kh_ km_ kn_ ko_ kC_ ks_ kt_ kp_ kc_ ku_ kz_ kv_ ka_ kw_ kx_ ky_ kj_ kf_ kr_ kg_ kd_ kG_ kB_ kA_ ki_ kI_ kH_ kD_ ke_ kq_ kF_ kE_ 33 = kF_ from rfl] at b1
  rw [show gX kb_ kk_ kl_ kh_ km_ kn_ ko_ kC_ ks_ kt_ kp_ kc_ ku_ kz_ kv_ ka_ kw_ kx_ ky_ kj_ kf_ kr_ kg_ kd_ kG_ kB_ kA_ ki_ kI_ kH_ kD_ ke_ kq_ kF_ kE_ 34 = kE_ from rfl] at b2
  simp only [zK, kwX_, kzT_, b0, b1, b2, t0, t1, t2, kwd_, kzV_]
  exact q
theorem kaA_ {k i j : Nat} {ns : List Str} {xs : List D} (e : h[k]? = some (.exc (gX kb_ kk_ kl_ kh_ km_ kn_ ko_ kC_ ks_ kt_ kp_ kc_ ku_ kz_ kv_ ka_ kw_ kx_ ky_ kj_ kf_ kr_ kg_ kd_ kG_ kB_ kA_ ki_ kI_ kH_ kD_ ke_ kq_ kF_ kE_ i) ns xs)) (hi : i < 32) (hj : j < 32) : isEP (row kb_ kk_ kl_ kh_ km_ kn_ ko_ kC_ ks_ kt_ kp_ kc_ ku_ kz_ kv_ ka_ kw_ kx_ ky_ kj_ kf_ kr_ kg_ kd_ kG_ kB_ kA_ ki_ kI_ kH_ kD_ ke_ kq_ kF_ kE_) (gX kb_ kk_ kl_ kh_ km_ kn_ ko_ kC_ ks_ kt_ kp_ kc_ ku_ kz_ kv_ ka_ kw_ kx_ ky_ kj_ kf_ kr_ kg_ kd_ kG_ kB_ kA_ ki_ kI_ kH_ kD_ ke_ kq_ kF_ kE_ j) h (.ptr k) = some (.bl (decide (i = j))) := by
  rw [kov_ nd e (by omega) (by omega)]
  have d0 : ∀ i < 32, ∀ j < 32, decide (i = j ∨ (i, j) ∈ idX) = decide (i = j) := by decide +kernel
  rw [d0 i hi j hj]
theorem kqP_ {k i : Nat} {ns : List Str} {xs : List D} (e : h[k]? = some (.exc (gX kb_ kk_ kl_ kh_ km_ kn_ ko_ kC_ ks_ kt_ kp_ kc_ ku_ kz_ kv_ ka_ kw_ kx_ ky_ kj_ kf_ kr_ kg_ kd_ kG_ kB_ kA_ ki_ kI_ kH_ kD_ ke_ kq_ kF_ kE_ i) ns xs)) (hi : i < 32) {E : EQ} {Q : D → OH → Prop} {t : Tg Q} {u : Tg E} (q : Q (.bl true) h) : WE (kaB_ kb_ kk_ kl_ kh_ km_ kn_ ko_ kC_ ks_ kt_ kp_ kc_ ku_ kz_ kv_ ka_ kw_ kx_ ky_ kj_ kf_ kr_ kg_ kd_ kG_ kB_ kA_ ki_ kI_ kH_ kD_ ke_ kq_ kF_ kE_ [.ptr k] h) Q E t u := by
  have b0 := kaA_ (h := h) (j := 0) nd e hi (by decide)
  rw [show gX kb_ kk_ kl_ kh_ km_ kn_ ko_ kC_ ks_ kt_ kp_ kc_ ku_ kz_ kv_ ka_ kw_ kx_ ky_ kj_ kf_ kr_ kg_ kd_ kG_ kB_ kA_ ki_ kI_ kH_ kD_ ke_ kq_ kF_ kE_ 0 = kb_ from rfl] at b0
  have b1 := kaA_ (h := h) (j := 1) nd e hi (by decide)
  rw [show gX kb_ kk_ kl_ kh_ km_ kn_ ko_ kC_ ks_ kt_ kp_ kc_ ku_ kz_ kv_ ka_ kw_ kx_ ky_ kj_ kf_ kr_ kg_ kd_ kG_ kB_ kA_ ki_ kI_ kH_ kD_ ke_ kq_ kF_ kE_ 1 = kk_ from rfl] at b1
  have b2 := kaA_ (h := h) (j := 2) nd e hi (by decide)
  rw [show gX kb_ kk_ kl_ kh_ km_ kn_ ko_ kC_ ks_ kt_ kp_ kc_ ku_ kz_ kv_ ka_ kw_ kx_ ky_ kj_ kf_ kr_ kg_ kd_ kG_ kB_ kA_ ki_ kI_ kH_ kD_ ke_ kq_ kF_ kE_ 2 = kl_ from rfl] at b2
  have b3 := kaA_ (h := h) (j := 3) nd e hi (by decide)
  rw [show gX kb_ kk_ kl_ kh_ km_ kn_ ko_ kC_ ks_ kt_ kp_ kc_ ku_ kz_ kv_ ka_ kw_ kx_ ky_ kj_ kf_ kr_ kg_ kd_ kG_ kB_ kA_ ki_ kI_ kH_ kD_ ke_ kq_ kF_ kE_ 3 = kh_ from rfl] at b3
  have b4 := kaA_ (h := h) (j := 4) nd e hi (by decide)
  rw [show gX kb_ kk_ kl_ kh_ km_ kn_ ko_ kC_ ks_ kt_ kp_ kc_ ku_ kz_ kv_ ka_ kw_ kx_ ky_ kj_ kf_ kr_ kg_ kd_ kG_ kB_ kA_ ki_ kI_ kH_ kD_ ke_ kq_ kF_ kE_ 4 = km_ from rfl] at b4
  have b5 := kaA_ (h := h) (j := 5) nd e hi (by decide)
  rw [show gX kb_ kk_ kl_ kh_ km_ kn_ ko_ kC_ ks_ kt_ kp_ kc_ ku_ kz_ kv_ ka_ kw_ kx_ ky_ kj_ kf_ kr_ kg_ kd_ kG_ kB_ kA_ ki_ kI_ kH_ kD_ ke_ kq_ kF_ kE_ 5 = kn_ from rfl] at b5
  have b6 := kaA_ (h := h) (j := 6) nd e hi (by decide)
  rw [show gX kb_ kk_ kl_ kh_ km_ kn_ ko_ kC_ ks_ kt_ kp_ kc_ ku_ kz_ kv_ ka_ kw_ kx_ ky_ kj_ kf_ kr_ kg_ kd_ kG_ kB_ kA_ ki_ kI_ kH_ kD_ ke_ kq_ kF_ kE_ 6 = ko_ from rfl] at b6
  have b7 := kaA_ (h := h) (j := 7) nd e hi (by decide)
  rw [show gX kb_ kk_ kl_ kh_ km_ kn_ ko_ kC_ ks_ kt_ kp_ kc_ ku_ kz_ kv_ ka_ kw_ kx_ ky_ kj_ kf_ kr_ kg_ kd_ kG_ kB_ kA_ ki_ kI_ kH_ kD_ ke_ kq_ kF_ kE_ 7 = kC_ from rfl] at b7
  have b8 := kaA_ (h := h) (j := 8) nd e hi (by decide)
  rw [show gX kb_ kk_ kl_ kh_ km_ kn_ ko_ kC_ ks_ kt_ kp_ kc_ ku_ kz_ kv_ ka_ kw_ kx_ ky_ kj_ kf_ kr_ kg_ kd_ kG_ kB_ kA_ ki_ kI_ kH_ kD_ ke_ kq_ kF_ kE_ 8 = ks_ from rfl] at b8
  have b9 := kaA_ (h := h) (j := 9) nd e hi (by decide)
  rw [show gX kb_ kk_ kl_ kh_ km_ kn_ ko_ kC_ ks_ kt_ kp_ kc_ ku_ kz_ kv_ ka_ kw_ kx_ ky_ kj_ kf_ kr_ kg_ kd_ kG_ kB_ kA_ ki_ kI_ kH_ kD_ ke_ kq_ kF_ kE_ 9 = kt_ from rfl] at b9
  have b10 := kaA_ (h := h) (j := 10) nd e hi (by decide)
  rw [show gX kb_ kk_ kl_ kh_ km_ kn_ ko_ kC_ ks_ kt_ kp_ kc_ ku_ kz_ kv_ ka_ kw_ kx_ ky_ kj_ kf_ kr_ kg_ kd_ kG_ kB_ kA_ ki_ kI_ kH_ kD_ ke_ kq_ kF_ kE_ 10 = kp_ from rfl] at b10
  have b11 := kaA_ (h := h) (j := 11) nd e hi (by decide)
  rw [show gX kb_ kk_ kl_ kh_ km_ kn_ ko_ kC_ ks_ kt_ kp_ kc_ ku_ kz_ kv_ ka_ kw_ kx_ ky_ kj_ kf_ kr_ kg_ kd_ kG_ kB_ kA_ ki_ kI_ kH_ kD_ ke_ kq_ kF_ kE_ 11 = kc_ from rfl] at b11
  have b12 := kaA_ (h := h) (j := 12) nd e hi (by decide)
  rw [show gX kb_ kk_ kl_ kh_ km_ kn_ ko_ kC_ ks_ kt_ kp_ kc_ ku_ kz_ kv_ ka_ kw_ kx_ ky_ kj_ kf_ kr_ kg_ kd_ kG_ kB_ kA_ ki_ kI_ kH_ kD_ ke_ kq_ kF_ kE_ 12 = ku_ from rfl] at b12
  have b13 := kaA_ (h := h) (j := 13) nd e hi (by decide)
  rw [show gX kb_ kk_ kl_ kh_ km_ kn_ ko_ kC_ ks_ kt_ kp_ kc_ ku_ kz_ kv_ ka_ kw_ kx_ ky_ kj_ kf_ kr_ kg_ kd_ kG_ kB_ kA_ ki_ kI_ kH_ kD_ ke_ kq_ kF_ kE_ 13 = kz_ from rfl] at b13
  have b14 := kaA_ (h := h) (j := 14) nd e hi (by decide)
  rw [show gX kb_ kk_ kl_ kh_ km_ kn_ ko_ kC_ ks_ kt_ kp_ kc_ ku_ kz_ kv_ ka_ kw_ kx_ ky_ kj_ kf_ kr_ kg_ kd_ kG_ kB_ kA_ ki_ kI_ kH_ kD_ ke_ kq_ kF_ kE_ 14 = kv_ from rfl] at b14
  have b15 := kaA_ (h := h) (j := 15) nd e hi (by decide)
  rw [show gX kb_ kk_ kl_ kh_ km_ kn_ ko_ kC_ ks_ kt_ kp_ kc_ ku_ kz_ kv_ ka_ kw_ kx_ ky_ kj_ kf_ kr_ kg_ kd_ kG_ kB_ kA_ ki_ kI_ kH_ kD_ ke_ kq_ kF_ kE_ 15 = ka_ from rfl] at b15
  have b16 := kaA_ (h := h) (j := 16) nd e hi (by decide)
  rw [show gX kb_ kk_ kl_ kh_ km_ kn_ ko_ kC_ ks_ kt_ kp_ kc_ ku_ kz_ kv_ ka_ kw_ kx_ ky_ kj_ kf_ kr_ kg_ kd_ kG_ kB_ kA_ ki_ kI_ kH_ kD_ ke_ kq_ kF_ kE_ 16 = kw_ from rfl] at b16
  have b17 := kaA_ (h := h) (j := 17) nd e hi (by decide)
  rw [show gX kb_ kk_ kl_ kh_ km_ kn_ ko_ kC_ ks_ kt_ kp_ kc_ ku_ kz_ kv_ ka_ kw_ kx_ ky_ kj_ kf_ kr_ kg_ kd_ kG_ kB_ kA_ ki_ kI_ kH_ kD_ ke_ kq_ kF_ kE_ 17 = kx_ from rfl] at b17
  have b18 := kaA_ (h := h) (j := 18) nd e hi (by decide)
  rw [show gX kb_ kk_ kl_ kh_ km_ kn_ ko_ kC_ ks_ kt_ kp_ kc_ ku_ kz_ kv_ ka_ kw_ kx_ ky_ kj_ kf_ kr_ kg_ kd_ kG_ kB_ kA_ ki_ kI_ kH_ kD_ ke_ kq_ kF_ kE_ 18 = ky_ from rfl] at b18
  have b19 := kaA_ (h := h) (j := 19) nd e hi (by decide)
  rw [show gX kb_ kk_ kl_ kh_ km_ kn_ ko_ kC_ ks_ kt_ kp_ kc_ ku_ kz_ kv_ ka_ kw_ kx_ ky_ kj_ kf_ kr_ kg_ kd_ kG_ kB_ kA_ ki_ kI_ kH_ kD_ ke_ kq_ kF_ kE_ 19 = kj_ from rfl] at b19
  have b20 := kaA_ (h := h) (j := 20) nd e hi (by decide)
  rw [show gX kb_ kk_ kl_ kh_ km_ kn_ ko_ kC_ ks_ kt_ kp_ kc_ ku_ kz_ kv_ ka_ kw_ kx_ ky_ kj_ kf_ kr_ kg_ kd_ kG_ kB_ kA_ ki_ kI_ kH_ kD_ ke_ kq_ kF_ kE_ 20 = kf_ from rfl] at b20
  have b21 := kaA_ (h := h) (j := 21) nd e hi (by decide)
  rw [show gX kb_ kk_ kl_ kh_ km_ kn_ ko_ kC_ ks_ kt_ kp_ kc_ ku_ kz_ kv_ ka_ kw_ kx_ ky_ kj_ kf_ kr_ kg_ kd_ kG_ kB_ kA_ ki_ kI_ kH_ kD_ ke_ kq_ kF_ kE_ 21 = kr_ from rfl] at b21
  have b22 := kaA_ (h := h) (j := 22) nd e hi (by decide)
  rw [show gX kb_ kk_ kl_ kh_ km_ kn_ ko_ kC_ ks_ kt_ kp_ kc_ ku_ kz_ kv_ ka_ kw_ kx_ ky_ kj_ kf_ kr_ kg_ kd_ kG_ kB_ kA_ ki_ kI_ kH_ kD_ ke_ kq_ kF_ kE_ 22 = kg_ from rfl] at b22
  have b23 := kaA_ (h := h) (j := 23) nd e hi (by decide)
  rw [show gX kb_ kk_ kl_ kh_ km_ kn_ ko_ kC_ ks_ kt_ kp_ kc_ ku_ kz_ kv_ ka_ kw_ kx_ ky_ kj_ kf_ kr_ kg_ kd_ kG_ kB_ kA_ ki_ kI_ kH_ kD_ ke_ kq_ kF_ kE_ 23 = kd_ from rfl] at b23
  have b24 := kaA_ (h := h) (j := 24) nd e hi (by decide)
  rw [show gX kb_ kk_ kl_ kh_ km_ kn_ ko_ kC_ ks_ kt_ kp_ kc_ ku_ kz_ kv_ ka_ kw_ kx_ ky_ kj_ kf_ kr_ kg_ kd_ kG_ kB_ kA_ ki_ kI_ kH_ kD_ ke_ kq_ kF_ kE_ 24 = kG_ from rfl] at b24
  have b25 := kaA_ (h := h) (j := 25) nd e hi (by decide)
  rw [show gX kb_ kk_ kl_ kh_ km_ kn_ ko_ kC_ ks_ kt_ kp_ kc_ ku_ kz_ kv_ ka_ kw_ kx_ ky_ kj_ kf_ kr_ kg_ kd_ kG_ kB_ kA_ ki_ kI_ kH_ kD_ ke_ kq_ kF_ kE_ 25 = kB_ from rfl] at b25
  have b26 := kaA_ (h := h) (j := 26) nd e hi (by decide)
  rw [show gX kb_ kk_ kl_ kh_ km_ kn_ ko_ kC_ ks_ kt_ kp_ kc_ ku_ kz_ kv_ ka_ kw_ kx_ ky_ kj_ kf_ kr_ kg_ kd_ kG_ kB_ kA_ ki_ kI_ kH_ kD_ ke_ kq_ kF_ kE_ 26 = kA_ from rfl] at b26
  have b27 := kaA_ (h := h) (j := 27) nd e hi (by decide)
  rw [show gX kb_ kk_ kl_ kh_ km_ kn_ ko_ kC_ ks_ kt_ kp_ kc_ ku_ kz_ kv_ ka_ kw_ kx_ ky_ kj_ kf_ kr_ kg_ kd_ kG_ kB_ kA_ ki_ kI_ kH_ kD_ ke_ kq_ kF_ kE_ 27 = ki_ from rfl] at b27
  have b28 := kaA_ (h := h) (j := 28) nd e hi (by decide)
  rw [show gX kb_ kk_ kl_ kh_ km_ kn_ ko_ kC_ ks_ kt_ kp_ kc_ ku_ kz_ kv_ ka_ kw_ kx_ ky_ kj_ kf_ kr_ kg_ kd_ kG_ kB_ kA_ ki_ kI_ kH_ kD_ ke_ kq_ kF_ kE_ 28 = kI_ from rfl] at b28
  have b29 := kaA_ (h := h) (j := 29) nd e hi (by decide)
  rw [show gX kb_ kk_ kl_ kh_ km_ kn_ ko_ kC_ ks_ kt_ kp_ kc_ ku_ kz_ kv_ ka_ kw_ kx_ ky_ kj_ kf_ kr_ kg_ kd_ kG_ kB_ kA_ ki_ kI_ kH_ kD_ ke_ kq_ kF_ kE_ 29 = kH_ from rfl] at b29
  have b30 := kaA_ (h := h) (j := 30) nd e hi (by decide)
  rw [show gX kb_ kk_ kl_ kh_ km_ kn_ ko_ kC_ ks_ kt_ kp_ kc_ ku_ kz_ kv_ ka_ kw_ kx_ ky_ kj_ kf_ kr_ kg_ kd_ kG_ kB_ kA_ ki_ kI_ kH_ kD_ ke_ kq_ kF_ kE_ 30 = kD_ from rfl] at b30
  have b31 := kaA_ (h := h) (j := 31) nd e hi (by decide)
  rw [show gX kb_ kk_ kl_ kh_ km_ kn_ ko_ kC_ ks_ kt_ kp_ kc_ ku_ kz_ kv_ ka_ kw_ kx_ ky_ kj_ kf_ kr_ kg_ kd_ kG_ kB_ kA_ ki_ kI_ kH_ kD_ ke_ kq_ kF_ kE_ 31 = ke_ from rfl] at b31
  unfold kaB_ kh0_
  simp only [zK, kwX_, b0, b1, b2, b3, b4, b5, b6, b7, b8, b9, b10, b11, b12, b13, b14, b15, b16, b17, b18, b19, b20, b21, b22, b23, b24, b25, b26, b27, b28, b29, b30, b31]
  have e0 : ([.bl (decide (i = 0)), .bl (decide (i = 1)), .bl (decide (i = 2)), .bl (decide (i = 3)), .bl (decide (i = 4)), .bl (decide (i = 5)), .bl (decide (i = 6)), .bl (decide (i = 7)), .bl (decide (i = 8)), .bl (decide (i = 9)), .bl (decide (i = 10)), .bl (decide (i = 11)), .bl (decide (i = 12)), .bl (decide (i = 13)), .bl (decide (i = 14)), .bl (decide (i = 15)), .bl (decide (i = 16)), .bl (decide (i = 17)), .bl (decide (i = 18)), .bl (decide (i = 19)), .bl (decide (i = 20)), .bl (decide (i = 21)), .bl (decide (i = 22)), .bl (decide (i = 23)), .bl (decide (i = 24)), .bl (decide (i = 25)), .bl (decide (i = 26)), .bl (decide (i = 27)), .bl (decide (i = 28)), .bl (decide (i = 29)), .bl (decide (i = 30)), .bl (decide (i = 31))] : List D) = (List.range 32).map (fun j => D.bl (decide (i = j))) := rfl
  rw [e0]
  refine lc_g (t := .mk) (u := .mk) (α := Nat) (fun j => .bl (decide (i = j))) (fun j => .bl (decide (i = j))) (fun j => decide (i = j)) trivial (by decide) (fun j hj => ?_) ?_
  · simp only [zK]
    exact fun _ => trivial
  have e1 : (List.range 32).filter (fun j => decide (i = j)) = [i] := by
    have : ∀ i < 32, (List.range 32).filter (fun j => decide (i = j)) = [i] := by decide +kernel
    exact this i hi
  rw [e1]
  simp only [zK]
  exact q
end
end
end Z
set_option Elab.async false
set_option linter.all false
set_option maxRecDepth 100000
set_option maxHeartbeats 1000000
namespace Z
open PySem PySem.Spec PyProof.Rows L2 TL Y
section
variable {kb_ kk_ kl_ kh_ km_ kn_ ko_ kC_ ks_ kt_ kp_ kc_ ku_ kz_ kv_ ka_ kw_ kx_ ky_ kj_ kf_ kr_ kg_ kd_ kG_ kB_ kA_ ki_ kI_ kH_ kD_ ke_ kq_ kF_ kE_ : Addr}
variable {h : OH}
def vX : List Nat := [0, 1, 2, 3, 4, 5, 6, 8, 9, 11, 12, 13, 14, 16, 17, 18, 19, 20, 21, 22, 24, 25, 27, 28]
theorem kng_ {d : D} {E : EQ} {Q : D → OH → Prop} {t : Tg Q} {u : Tg E} (q : Q (.lst ((List.range 24).map fun j => .ptr (h.length + j))) (h ++ vX.map fun i => .exc (gX kb_ kk_ kl_ kh_ km_ kn_ ko_ kC_ ks_ kt_ kp_ kc_ ku_ kz_ kv_ ka_ kw_ kx_ ky_ kj_ kf_ kr_ kg_ kd_ kG_ kB_ kA_ ki_ kI_ kH_ kD_ ke_ kq_ kF_ kE_ i) ["value"] [d])) : WE (kR_ kb_ kk_ kl_ kh_ km_ kn_ ko_ kC_ ks_ kt_ kp_ kc_ ku_ kz_ kv_ ka_ kw_ kx_ ky_ kj_ kf_ kr_ kg_ kd_ kG_ kB_ kA_ ki_ kI_ kH_ kD_ ke_ kq_ kF_ kE_ [d] h) Q E t u := by
  unfold kR_ kb6_
  simp only [zK, kj0_]
  simp only [List.length_append, List.length_cons, List.length_nil, Nat.zero_add, Nat.add_assoc, Nat.reduceAdd, List.append_assoc, List.cons_append, List.nil_append]
  exact q
def thX : List D := [.non, .bl true, .int 0, .int (-7), .int 100000000000000000000000000000, .str "", .str "0.01", .lst [], .lst [.int 1, .lst [.int 2]], .tup [], .tup [.int 0, .str "1"], .dct [] [], .dct [.inr "a"] [.lst [.int 1]], .tup [.non, .lst [.str "x"]]]
theorem kj6_ {d : D} (hd : d ∈ thX) (o : Nat → Option PyData) : Rp o d 100 5 := by
  have : ∀ d ∈ thX, rpB 100 5 d = true := by decide +kernel
  exact ky9_ (this d hd)
theorem kqQ_ {b n : Nat} (B : BoxD h b n) (hn : n ≤ 90000) {E : EQ} {Q : D → OH → Prop} {t : Tg Q} {u : Tg E} (q : ∀ d ∈ thX, ∀ h', Fr b h h' → BoxD h' b (n + 1) → Q d h') : WE (kaI_ kb_ kk_ kl_ kh_ km_ kn_ ko_ kC_ ks_ kt_ kp_ kc_ ku_ kz_ kv_ ka_ kw_ kx_ ky_ kj_ kf_ kr_ kg_ kd_ kG_ kB_ kA_ ki_ kI_ kH_ kD_ ke_ kq_ kF_ kE_ [.ptr b] h) Q E t u := by
  have tk := fun (h : OH) (n m : Nat) (E : EQ) (Q : D → OH → Prop) (t : Tg Q) (u : Tg E) (B : BoxD h b n) => ktw_ (h := h) (E := E) (Q := Q) (t := t) (u := u) (kb_ := kb_) (kk_ := kk_) (kl_ := kl_) (kh_ := kh_) (km_ := km_) (kn_ := kn_) (ko_ := ko_) (kC_ := kC_) (ks_ := ks_) (kt_ := kt_) (kp_ := kp_) (kc_ := kc_) (ku_ := ku_) (kz_ := kz_) (kv_ := kv_) (ka_ := ka_) (kw_ := kw_) (kx_ := kx_) (ky_ := ky_) (kj_ := kj_) (kf_ := kf_) (kr_ := kr_) (kg_ := kg_) (kd_ := kd_) (kG_ := kG_) (kB_ := kB_) (kA_ := kA_) (ki_ := ki_) (kI_ := kI_) (kH_ := kH_) (kD_ := kD_) (ke_ := ke_) (kq_ := kq_) (kF_ := kF_) (kE_ := kE_) (m := m) B
  unfold kaI_ khX_
  generalize kb4_ kb_ kk_ kl_ kh_ km_ kn_ ko_ kC_ ks_ kt_ kp_ kc_ ku_ kz_ kv_ ka_ kw_ kx_ ky_ kj_ kf_ kr_ kg_ kd_ kG_ kB_ kA_ ki_ kI_ kH_ kD_ ke_ kq_ kF_ kE_ = F1 at tk ⊢
  simp only [zK]
  refine nd_i (by decide) ?_
  simp only [zK, kqC_, kqD_, kqE_]
  refine tk _ _ 14 _ _ _ _ B.app (by omega) (by decide) (by decide) fun k h' hk K' B' => ?_
  obtain ⟨d, hd⟩ : ∃ d, thX[k]? = some d := ⟨_, List.getElem?_eq_getElem hk⟩
  have ed : ∀ h, dIx h (.lst thX) (.int (k : Nat)) = some d := fun h => by rw [kwQ_, q_at hk, hd]
  unfold thX at ed
  simp only [zK, ed]
  exact q d (List.mem_of_getElem? hd) _ (Fr.app.trans (.of K')) B'
end
end Z
set_option Elab.async false
set_option linter.all false
set_option maxRecDepth 100000
set_option maxHeartbeats 1000000
namespace Z
open PySem PySem.Spec PyProof.Rows L2 TL Y
section
variable {kb_ kk_ kl_ kh_ km_ kn_ ko_ kC_ ks_ kt_ kp_ kc_ ku_ kz_ kv_ ka_ kw_ kx_ ky_ kj_ kf_ kr_ kg_ kd_ kG_ kB_ kA_ ki_ kI_ kH_ kD_ ke_ kq_ kF_ kE_ : Addr}
variable {h : OH}
theorem kty_ {d : D} (hd : d ∈ thX) : ∃ p, pyD (fun _ => none) d = some p := by
  have : ∀ d ∈ thX, (pyD (fun _ => none) d).isSome = true := by decide +kernel
  exact Option.isSome_iff_exists.mp (this d hd)
theorem ktz_ {h h' : OH} {d : D} (hd : d ∈ thX) : kdE_ h [d] = kdE_ h' [d] := by
  obtain ⟨p, e⟩ := kty_ hd
  have e1 : ∀ h, py h d = some p := fun h => kva_ e
  unfold kdE_
  dsimp only
  rw [e1, e1]
theorem knh_ {h h' : OH} {xs : List D} (hx : ∀ d ∈ xs, d ∈ thX) : kdE_ h [.lst xs] = kdE_ h' [.lst xs] := by
  have e : ∃ ps, pyL (fun _ => none) xs = some ps := by
    induction xs with
    | nil => exact ⟨[], by simp only [pyL]⟩
    | cons x xs ih =>
      obtain ⟨p, e1⟩ := kty_ (hx x List.mem_cons_self)
      obtain ⟨ps, e2⟩ := ih fun d hd => hx d (List.mem_cons_of_mem _ hd)
      exact ⟨p :: ps, by simp only [pyL, e1, e2, Option.bind_some, Option.map_some]⟩
  obtain ⟨ps, e⟩ := e
  have e1 : ∀ h, py h (.lst xs) = some (.list ps) := fun h => by
    show pyD (pyO 8 h) (.lst xs) = _
    simp only [pyD, krk_ e, Option.map_some]
  unfold kdE_
  dsimp only
  rw [e1, e1]
theorem kqR_ {h h' : OH} {d e : D} (hd : d ∈ thX) (he : e ∈ thX) : kdE_ h [.lst [d, e]] = kdE_ h' [.lst [d, e]] := knh_ fun x hx => by
  simp only [List.mem_cons, List.not_mem_nil, or_false] at hx
  rcases hx with rfl | rfl <;> assumption
theorem kqS_ {h h' : OH} {d e : D} (hd : d ∈ thX) (he : e ∈ thX) : kdE_ h [.lst [d, e, d, d]] = kdE_ h' [.lst [d, e, d, d]] := knh_ fun x hx => by
  simp only [List.mem_cons, List.not_mem_nil, or_false] at hx
  rcases hx with rfl | rfl | rfl | rfl <;> assumption
section
variable (nd : ((row kb_ kk_ kl_ kh_ km_ kn_ ko_ kC_ ks_ kt_ kp_ kc_ ku_ kz_ kv_ ka_ kw_ kx_ ky_ kj_ kf_ kr_ kg_ kd_ kG_ kB_ kA_ ki_ kI_ kH_ kD_ ke_ kq_ kF_ kE_).L).Nodup)
include nd
theorem kpC_ {k i : Nat} {z : Int} {ns : List Str} {xs : List D} (e : h[k]? = some (.exc (gX kb_ kk_ kl_ kh_ km_ kn_ ko_ kC_ ks_ kt_ kp_ kc_ ku_ kz_ kv_ ka_ kw_ kx_ ky_ kj_ kf_ kr_ kg_ kd_ kG_ kB_ kA_ ki_ kI_ kH_ kD_ ke_ kq_ kF_ kE_ i) ns xs)) (hi : i < 35) (ez : z = (biX i : Nat)) {E : EQ} {Q : D → OH → Prop} {t : Tg Q} {u : Tg E} (q : Q (.bl true) h) : WE (kY_ kb_ kk_ kl_ kh_ km_ kn_ ko_ kC_ ks_ kt_ kp_ kc_ ku_ kz_ kv_ ka_ kw_ kx_ ky_ kj_ kf_ kr_ kg_ kd_ kG_ kB_ kA_ ki_ kI_ kH_ kD_ ke_ kq_ kF_ kE_ [.ptr k, .int z] h) Q E t u := by
  rw [ez]
  exact kqO_ (kb_ := kb_) (kk_ := kk_) (kl_ := kl_) (kh_ := kh_) (km_ := km_) (kn_ := kn_) (ko_ := ko_) (kC_ := kC_) (ks_ := ks_) (kt_ := kt_) (kp_ := kp_) (kc_ := kc_) (ku_ := ku_) (kz_ := kz_) (kv_ := kv_) (ka_ := ka_) (kw_ := kw_) (kx_ := kx_) (ky_ := ky_) (kj_ := kj_) (kf_ := kf_) (kr_ := kr_) (kg_ := kg_) (kd_ := kd_) (kG_ := kG_) (kB_ := kB_) (kA_ := kA_) (ki_ := ki_) (kI_ := kI_) (kH_ := kH_) (kD_ := kD_) (ke_ := ke_) (kq_ := kq_) (kF_ := kF_) (kE_ := kE_) nd e hi q
theorem kqT_ {d e : D} (hd : d ∈ thX) (he : e ∈ thX) {E : EQ} {Q : D → OH → Prop} {t : Tg Q} {u : Tg E} (q : ∀ h', Fr0 h h' → Q (.bl true) h') : WE (ka4_ kb_ kk_ kl_ kh_ km_ kn_ ko_ kC_ ks_ kt_ kp_ kc_ ku_ kz_ kv_ ka_ kw_ kx_ ky_ kj_ kf_ kr_ kg_ kd_ kG_ kB_ kA_ ki_ kI_ kH_ kD_ ke_ kq_ kF_ kE_ [d, e] h) Q E t u := by
  have vl := fun {h : OH} {E : EQ} {Q : D → OH → Prop} {t : Tg Q} {u : Tg E} => kng_ (h := h) (d := d) (E := E) (Q := Q) (t := t) (u := u) (kb_ := kb_) (kk_ := kk_) (kl_ := kl_) (kh_ := kh_) (km_ := km_) (kn_ := kn_) (ko_ := ko_) (kC_ := kC_) (ks_ := ks_) (kt_ := kt_) (kp_ := kp_) (kc_ := kc_) (ku_ := ku_) (kz_ := kz_) (kv_ := kv_) (ka_ := ka_) (kw_ := kw_) (kx_ := kx_) (ky_ := ky_) (kj_ := kj_) (kf_ := kf_) (kr_ := kr_) (kg_ := kg_) (kd_ := kd_) (kG_ := kG_) (kB_ := kB_) (kA_ := kA_) (ki_ := ki_) (kI_ := kI_) (kH_ := kH_) (kD_ := kD_) (ke_ := ke_) (kq_ := kq_) (kF_ := kF_) (kE_ := kE_)
  have un := fun {h : OH} {k : Nat} (i : Nat) {ns : List Str} {xs : List D} (e : h[k]? = some (.exc (gX kb_ kk_ kl_ kh_ km_ kn_ ko_ kC_ ks_ kt_ kp_ kc_ ku_ kz_ kv_ ka_ kw_ kx_ ky_ kj_ kf_ kr_ kg_ kd_ kG_ kB_ kA_ ki_ kI_ kH_ kD_ ke_ kq_ kF_ kE_ i) ns xs)) (hi : i < 35) {z : Int} (ez : z = (biX i : Nat)) {E : EQ} {Q : D → OH → Prop} {t : Tg Q} {u : Tg E} => kpC_ (h := h) (k := k) (i := i) (E := E) (Q := Q) (t := t) (u := u) (kb_ := kb_) (kk_ := kk_) (kl_ := kl_) (kh_ := kh_) (km_ := km_) (kn_ := kn_) (ko_ := ko_) (kC_ := kC_) (ks_ := ks_) (kt_ := kt_) (kp_ := kp_) (kc_ := kc_) (ku_ := ku_) (kz_ := kz_) (kv_ := kv_) (ka_ := ka_) (kw_ := kw_) (kx_ := kx_) (ky_ := ky_) (kj_ := kj_) (kf_ := kf_) (kr_ := kr_) (kg_ := kg_) (kd_ := kd_) (kG_ := kG_) (kB_ := kB_) (kA_ := kA_) (ki_ := ki_) (kI_ := kI_) (kH_ := kH_) (kD_ := kD_) (ke_ := ke_) (kq_ := kq_) (kF_ := kF_) (kE_ := kE_) nd e hi ez
  have al := fun {h : OH} {k : Nat} (i : Nat) {ns : List Str} {xs : List D} (e : h[k]? = some (.exc (gX kb_ kk_ kl_ kh_ km_ kn_ ko_ kC_ ks_ kt_ kp_ kc_ ku_ kz_ kv_ ka_ kw_ kx_ ky_ kj_ kf_ kr_ kg_ kd_ kG_ kB_ kA_ ki_ kI_ kH_ kD_ ke_ kq_ kF_ kE_ i) ns xs)) (hi : i < 32) {E : EQ} {Q : D → OH → Prop} {t : Tg Q} {u : Tg E} => kqP_ (h := h) (k := k) (i := i) (E := E) (Q := Q) (t := t) (u := u) (kb_ := kb_) (kk_ := kk_) (kl_ := kl_) (kh_ := kh_) (km_ := km_) (kn_ := kn_) (ko_ := ko_) (kC_ := kC_) (ks_ := ks_) (kt_ := kt_) (kp_ := kp_) (kc_ := kc_) (ku_ := ku_) (kz_ := kz_) (kv_ := kv_) (ka_ := ka_) (kw_ := kw_) (kx_ := kx_) (ky_ := ky_) (kj_ := kj_) (kf_ := kf_) (kr_ := kr_) (kg_ := kg_) (kd_ := kd_) (kG_ := kG_) (kB_ := kB_) (kA_ := kA_) (ki_ := ki_) (kI_ := kI_) (kH_ := kH_) (kD_ := kD_) (ke_ := ke_) (kq_ := kq_) (kF_ := kF_) (kE_ := kE_) nd e hi
  have fl := fun {h : OH} {k : Nat} (i : Nat) {f : Str} {ns : List Str} {xs : List D} (e : h[k]? = some (.exc (gX kb_ kk_ kl_ kh_ km_ kn_ ko_ kC_ ks_ kt_ kp_ kc_ ku_ kz_ kv_ ka_ kw_ kx_ ky_ kj_ kf_ kr_ kg_ kd_ kG_ kB_ kA_ ki_ kI_ kH_ kD_ ke_ kq_ kF_ kE_ i) ns xs)) (hi : i < 35) => ktx_ (h := h) (k := k) (i := i) (f := f) (kb_ := kb_) (kk_ := kk_) (kl_ := kl_) (kh_ := kh_) (km_ := km_) (kn_ := kn_) (ko_ := ko_) (kC_ := kC_) (ks_ := ks_) (kt_ := kt_) (kp_ := kp_) (kc_ := kc_) (ku_ := ku_) (kz_ := kz_) (kv_ := kv_) (ka_ := ka_) (kw_ := kw_) (kx_ := kx_) (ky_ := ky_) (kj_ := kj_) (kf_ := kf_) (kr_ := kr_) (kg_ := kg_) (kd_ := kd_) (kG_ := kG_) (kB_ := kB_) (kA_ := kA_) (ki_ := ki_) (kI_ := kI_) (kH_ := kH_) (kD_ := kD_) (ke_ := ke_) (kq_ := kq_) (kF_ := kF_) (kE_ := kE_) nd e hi
  unfold ka4_ kh1_
  generalize kR_ kb_ kk_ kl_ kh_ km_ kn_ ko_ kC_ ks_ kt_ kp_ kc_ ku_ kz_ kv_ ka_ kw_ kx_ ky_ kj_ kf_ kr_ kg_ kd_ kG_ kB_ kA_ ki_ kI_ kH_ kD_ ke_ kq_ kF_ kE_ = F1 at vl ⊢
  generalize kY_ kb_ kk_ kl_ kh_ km_ kn_ ko_ kC_ ks_ kt_ kp_ kc_ ku_ kz_ kv_ ka_ kw_ kx_ ky_ kj_ kf_ kr_ kg_ kd_ kG_ kB_ kA_ ki_ kI_ kH_ kD_ ke_ kq_ kF_ kE_ = F2 at un ⊢
  generalize kaB_ kb_ kk_ kl_ kh_ km_ kn_ ko_ kC_ ks_ kt_ kp_ kc_ ku_ kz_ kv_ ka_ kw_ kx_ ky_ kj_ kf_ kr_ kg_ kd_ kG_ kB_ kA_ ki_ kI_ kH_ kD_ ke_ kq_ kF_ kE_ = F3 at al ⊢
  generalize hrow : row kb_ kk_ kl_ kh_ km_ kn_ ko_ kC_ ks_ kt_ kp_ kc_ ku_ kz_ kv_ ka_ kw_ kx_ ky_ kj_ kf_ kr_ kg_ kd_ kG_ kB_ kA_ ki_ kI_ kH_ kD_ ke_ kq_ kF_ kE_ = R at fl ⊢
  simp only [zK]
  refine vl ?_
  have F1' : Fr0 h (h ++ vX.map fun i => .exc (gX kb_ kk_ kl_ kh_ km_ kn_ ko_ kC_ ks_ kt_ kp_ kc_ ku_ kz_ kv_ ka_ kw_ kx_ ky_ kj_ kf_ kr_ kg_ kd_ kG_ kB_ kA_ ki_ kI_ kH_ kD_ ke_ kq_ kF_ kE_ i) ["value"] [d]) := Fr0.refl.app
  have g1 : ∀ j i, vX[j]? = some i → (h ++ vX.map fun i => OO.exc (gX kb_ kk_ kl_ kh_ km_ kn_ ko_ kC_ ks_ kt_ kp_ kc_ ku_ kz_ kv_ ka_ kw_ kx_ ky_ kj_ kf_ kr_ kg_ kd_ kG_ kB_ kA_ ki_ kI_ kH_ kD_ ke_ kq_ kF_ kE_ i) ["value"] [d])[h.length + j]? = some (.exc (gX kb_ kk_ kl_ kh_ km_ kn_ ko_ kC_ ks_ kt_ kp_ kc_ ku_ kz_ kv_ ka_ kw_ kx_ ky_ kj_ kf_ kr_ kg_ kd_ kG_ kB_ kA_ ki_ kI_ kH_ kD_ ke_ kq_ kF_ kE_ i) ["value"] [d]) := fun j i e => by
    rw [List.getElem?_append_right (Nat.le_add_right _ _), Nat.add_sub_cancel_left, List.getElem?_map, e]; rfl
  generalize h ++ (vX.map fun i => OO.exc (gX kb_ kk_ kl_ kh_ km_ kn_ ko_ kC_ ks_ kt_ kp_ kc_ ku_ kz_ kv_ ka_ kw_ kx_ ky_ kj_ kf_ kr_ kg_ kd_ kG_ kB_ kA_ ki_ kI_ kH_ kD_ ke_ kq_ kF_ kE_ i) ["value"] [d]) = h1 at F1' g1 ⊢
  have l0 : ∀ h, lRep h (.lst [.int 0]) (.int 16) = some (List.replicate 16 (.int 0)) := fun h => by rfl
  have l1 : ∀ h, lRep h (.lst [.int 1]) (.int 4) = some (List.replicate 4 (.int 1)) := fun h => by rfl
  have l2 : ∀ h, lRep h (.lst [.int 2]) (.int 4) = some (List.replicate 4 (.int 2)) := fun h => by rfl
  simp only [zK, l0, l1, l2]
  refine nd_i (by decide) ?_
  simp only [zK, l0, l1, l2]
  refine nd_i (by decide) ?_
  simp only [zK]
  have ez : zipD ((List.range 24).map fun j => D.ptr (h.length + j)) (List.replicate 16 (D.int 0) ++ List.replicate 4 (D.int 1) ++ List.replicate 4 (D.int 2)) = (List.range 24).map fun j => D.tup [.ptr (h.length + j), .int (biX (vX.getD j 0) : Nat)] := rfl
  obtain ⟨w, hw⟩ : ∃ w, ∀ h, kdE_ h [d] = some (.str w) := by
    obtain ⟨w, e⟩ := km4_ (h := h) (kj6_ hd (pyO 8 h)) (by decide) (by decide)
    exact ⟨w, fun h' => by rw [← e]; exact ktz_ hd⟩
  rw [ez]
  clear ez
  generalize hks : D.lst (List.replicate 16 (D.int 0) ++ List.replicate 4 (D.int 1) ++ List.replicate 4 (D.int 2)) = ks
  generalize hes : D.lst ((List.range 24).map fun j => D.ptr (h.length + j)) = es
  clear hks hes
  refine ku6_ (fun j δ h' => ∃ (s4 s5 : Sl), δ = [.val d, .val e, .val es, .val ks, s4, s5, .un, .un, .un, .un, .un] ∧ h' = h1) ⟨_, _, rfl, rfl⟩ ?_ ?_
  · rintro j x' δ h' hd' ⟨s4, s5, rfl, rfl⟩
    rw [List.getElem?_map] at hd'
    obtain ⟨j', ej, rfl⟩ := Option.map_eq_some_iff.mp hd'
    have hj : j < 24 := by have := (List.getElem?_eq_some_iff.mp ej).1; rwa [List.length_range] at this
    have ej' : j' = j := by rw [List.getElem?_range hj] at ej; exact (Option.some.inj ej).symm
    subst ej'
    obtain ⟨i, ei⟩ : ∃ i, vX[j']? = some i := ⟨_, List.getElem?_eq_getElem hj⟩
    have hi : i < 32 := by
      have : ∀ i ∈ vX, i < 32 := by decide
      exact this i (List.mem_of_getElem? ei)
    have eg := g1 j' i ei
    have ed : vX.getD j' 0 = i := by rw [List.getD_eq_getElem?_getD, ei]; rfl
    have ef : fldP R "value" h' (.ptr (h.length + j')) = some d := by rw [fl (f := "value") i eg (by omega)]; rfl
    rw [ed]
    simp only [zK]
    refine un i eg (by omega) rfl ?_
    simp only [zK]
    refine al i eg hi ?_
    simp only [zK, kl4_, ef, hw]
    exact ⟨_, _, rfl⟩
  · rintro δ h' ⟨s4, s5, rfl, rfl⟩
    have z2 : ∀ a b c e : D, zipD [a, b] [c, e] = [.tup [a, c], .tup [b, e]] := fun _ _ _ _ => rfl
    obtain ⟨w2, hw2⟩ : ∃ w, ∀ h, kdE_ h [.lst [d, e]] = some (.str w) := by
      obtain ⟨w, e1⟩ := km4_ (h := h) (kqp_ (kb2_ (kj6_ hd (pyO 8 h)) (kb2_ (kj6_ he (pyO 8 h)) klu_))) (by decide) (by decide)
      exact ⟨w, fun h' => by rw [← e1]; exact kqR_ hd he⟩
    obtain ⟨w4, hw4⟩ : ∃ w, ∀ h, kdE_ h [.lst [d, e, d, d]] = some (.str w) := by
      obtain ⟨w, e1⟩ := km4_ (h := h) (kqp_ (kb2_ (kj6_ hd (pyO 8 h)) (kb2_ (kj6_ he (pyO 8 h)) (kb2_ (kj6_ hd (pyO 8 h)) (kb2_ (kj6_ hd (pyO 8 h)) klu_))))) (by decide) (by decide)
      exact ⟨w, fun h' => by rw [← e1]; exact kqS_ hd he⟩
    simp only [zK, kj0_, z2]
    have F2' : Fr0 h ((h' ++ [.exc kC_ ["one", "other"] [d, e]]) ++ [.exc kA_ ["one", "other"] [d, e]]) := F1'.app.app
    have k1 : ((h' ++ [.exc kC_ ["one", "other"] [d, e]]) ++ [.exc kA_ ["one", "other"] [d, e]])[h'.length]? = some (.exc (gX kb_ kk_ kl_ kh_ km_ kn_ ko_ kC_ ks_ kt_ kp_ kc_ ku_ kz_ kv_ ka_ kw_ kx_ ky_ kj_ kf_ kr_ kg_ kd_ kG_ kB_ kA_ ki_ kI_ kH_ kD_ ke_ kq_ kF_ kE_ 7) ["one", "other"] [d, e]) := ka3_ kbs_
    have k2 : ((h' ++ [.exc kC_ ["one", "other"] [d, e]]) ++ [.exc kA_ ["one", "other"] [d, e]])[(h' ++ [OO.exc kC_ ["one", "other"] [d, e]]).length]? = some (.exc (gX kb_ kk_ kl_ kh_ km_ kn_ ko_ kC_ ks_ kt_ kp_ kc_ ku_ kz_ kv_ ka_ kw_ kx_ ky_ kj_ kf_ kr_ kg_ kd_ kG_ kB_ kA_ ki_ kI_ kH_ kD_ ke_ kq_ kF_ kE_ 26) ["one", "other"] [d, e]) := kbs_
    generalize (h' ++ [OO.exc kC_ ["one", "other"] [d, e]]).length = p2 at k2 ⊢
    generalize (h' ++ [.exc kC_ ["one", "other"] [d, e]]) ++ [.exc kA_ ["one", "other"] [d, e]] = h2 at F2' k1 k2 ⊢
    generalize h'.length = p1 at k1 ⊢
    have pp : ∀ x ∈ [D.tup [.ptr p1, .int 0], .tup [.ptr p2, .int 2]], ∃ p i, i < 32 ∧ x = .tup [.ptr p, .int (biX i : Nat)] ∧ h2[p]? = some (.exc (gX kb_ kk_ kl_ kh_ km_ kn_ ko_ kC_ ks_ kt_ kp_ kc_ ku_ kz_ kv_ ka_ kw_ kx_ ky_ kj_ kf_ kr_ kg_ kd_ kG_ kB_ kA_ ki_ kI_ kH_ kD_ ke_ kq_ kF_ kE_ i) ["one", "other"] [d, e]) := fun x hx => by
      simp only [List.mem_cons, List.not_mem_nil, or_false] at hx
      rcases hx with rfl | rfl
      · exact ⟨p1, 7, by decide, rfl, k1⟩
      · exact ⟨p2, 26, by decide, rfl, k2⟩
    clear k1 k2
    refine ku7_ (fun δ h' => ∃ (s4 s5 : Sl), δ = [.val d, .val e, .val es, .val ks, s4, s5, .val (.lst [.ptr p1, .ptr p2]), .un, .un, .un, .un] ∧ h' = h2) ⟨_, _, rfl, rfl⟩ ?_ ?_
    · rintro x' δ h' hx ⟨s4, s5, rfl, rfl⟩
      obtain ⟨p, i, hi, rfl, eg⟩ := pp x' hx
      have ef : fldP R "one" h' (.ptr p) = some d := by rw [fl (f := "one") i eg (by omega)]; rfl
      have ef2 : fldP R "other" h' (.ptr p) = some e := by rw [fl (f := "other") i eg (by omega)]; rfl
      simp only [zK]
      refine un i eg (by omega) rfl ?_
      simp only [zK]
      refine al i eg hi ?_
      simp only [zK, kl4_, ef, ef2, hw2]
      exact ⟨_, _, rfl⟩
    · rintro δ h' ⟨s4, s5, rfl, rfl⟩
      simp only [zK, kj0_]
      have F3' : Fr0 h ((h' ++ [.exc kp_ ["position"] [d]]) ++ [.exc ka_ ["position"] [d]]) := F2'.app.app
      have k1 : ((h' ++ [.exc kp_ ["position"] [d]]) ++ [.exc ka_ ["position"] [d]])[h'.length]? = some (.exc (gX kb_ kk_ kl_ kh_ km_ kn_ ko_ kC_ ks_ kt_ kp_ kc_ ku_ kz_ kv_ ka_ kw_ kx_ ky_ kj_ kf_ kr_ kg_ kd_ kG_ kB_ kA_ ki_ kI_ kH_ kD_ ke_ kq_ kF_ kE_ 10) ["position"] [d]) := ka3_ kbs_
      have k2 : ((h' ++ [.exc kp_ ["position"] [d]]) ++ [.exc ka_ ["position"] [d]])[(h' ++ [OO.exc kp_ ["position"] [d]]).length]? = some (.exc (gX kb_ kk_ kl_ kh_ km_ kn_ ko_ kC_ ks_ kt_ kp_ kc_ ku_ kz_ kv_ ka_ kw_ kx_ ky_ kj_ kf_ kr_ kg_ kd_ kG_ kB_ kA_ ki_ kI_ kH_ kD_ ke_ kq_ kF_ kE_ 15) ["position"] [d]) := kbs_
      generalize (h' ++ [OO.exc kp_ ["position"] [d]]).length = p4 at k2 ⊢
      generalize (h' ++ [.exc kp_ ["position"] [d]]) ++ [.exc ka_ ["position"] [d]] = h3 at F3' k1 k2 ⊢
      generalize h'.length = p3 at k1 ⊢
      have pp : ∀ x ∈ [D.ptr p3, .ptr p4], ∃ p i, i < 32 ∧ biX i = 0 ∧ x = .ptr p ∧ h3[p]? = some (.exc (gX kb_ kk_ kl_ kh_ km_ kn_ ko_ kC_ ks_ kt_ kp_ kc_ ku_ kz_ kv_ ka_ kw_ kx_ ky_ kj_ kf_ kr_ kg_ kd_ kG_ kB_ kA_ ki_ kI_ kH_ kD_ ke_ kq_ kF_ kE_ i) ["position"] [d]) := fun x hx => by
        simp only [List.mem_cons, List.not_mem_nil, or_false] at hx
        rcases hx with rfl | rfl
        · exact ⟨p3, 10, by decide, rfl, rfl, k1⟩
        · exact ⟨p4, 15, by decide, rfl, rfl, k2⟩
      clear k1 k2
      refine ku7_ (fun δ h' => ∃ (s4 s5 : Sl), δ = [.val d, .val e, .val es, .val ks, s4, s5, .val (.lst [.ptr p1, .ptr p2]), .un, .un, .un, .un] ∧ h' = h3) ⟨_, _, rfl, rfl⟩ ?_ ?_
      · rintro x' δ h' hx ⟨s4, s5, rfl, rfl⟩
        obtain ⟨p, i, hi, hb, rfl, eg⟩ := pp x' hx
        have ef : fldP R "position" h' (.ptr p) = some d := by rw [fl (f := "position") i eg (by omega)]; rfl
        simp only [zK]
        refine un i eg (by omega) (by rw [hb]; rfl) ?_
        simp only [zK]
        refine al i eg hi ?_
        simp only [zK, kl4_, ef, hw]
        exact ⟨_, _, rfl⟩
      · rintro δ h' ⟨s4, s5, rfl, rfl⟩
        simp only [zK, kj0_]
        have F4' : Fr0 h (((h' ++ [.exc kd_ ["step", "reason"] [d, e]]) ++ [.exc kH_ ["cycle"] [d]]) ++ [.exc kD_ ["total"] [d]]) := F3'.app.app.app
        have k1 : (((h' ++ [.exc kd_ ["step", "reason"] [d, e]]) ++ [.exc kH_ ["cycle"] [d]]) ++ [.exc kD_ ["total"] [d]])[h'.length]? = some (.exc (gX kb_ kk_ kl_ kh_ km_ kn_ ko_ kC_ ks_ kt_ kp_ kc_ ku_ kz_ kv_ ka_ kw_ kx_ ky_ kj_ kf_ kr_ kg_ kd_ kG_ kB_ kA_ ki_ kI_ kH_ kD_ ke_ kq_ kF_ kE_ 23) ["step", "reason"] [d, e]) := ka3_ (ka3_ kbs_)
        have k2 : (((h' ++ [.exc kd_ ["step", "reason"] [d, e]]) ++ [.exc kH_ ["cycle"] [d]]) ++ [.exc kD_ ["total"] [d]])[(h' ++ [OO.exc kd_ ["step", "reason"] [d, e]]).length]? = some (.exc (gX kb_ kk_ kl_ kh_ km_ kn_ ko_ kC_ ks_ kt_ kp_ kc_ ku_ kz_ kv_ ka_ kw_ kx_ ky_ kj_ kf_ kr_ kg_ kd_ kG_ kB_ kA_ ki_ kI_ kH_ kD_ ke_ kq_ kF_ kE_ 29) ["cycle"] [d]) := ka3_ kbs_
        have k3 : (((h' ++ [.exc kd_ ["step", "reason"] [d, e]]) ++ [.exc kH_ ["cycle"] [d]]) ++ [.exc kD_ ["total"] [d]])[((h' ++ [OO.exc kd_ ["step", "reason"] [d, e]]) ++ [OO.exc kH_ ["cycle"] [d]]).length]? = some (.exc (gX kb_ kk_ kl_ kh_ km_ kn_ ko_ kC_ ks_ kt_ kp_ kc_ ku_ kz_ kv_ ka_ kw_ kx_ ky_ kj_ kf_ kr_ kg_ kd_ kG_ kB_ kA_ ki_ kI_ kH_ kD_ ke_ kq_ kF_ kE_ 30) ["total"] [d]) := kbs_
        generalize ((h' ++ [OO.exc kd_ ["step", "reason"] [d, e]]) ++ [OO.exc kH_ ["cycle"] [d]]).length = p7 at k3 ⊢
        generalize ((h' ++ [.exc kd_ ["step", "reason"] [d, e]]) ++ [.exc kH_ ["cycle"] [d]]) ++ [.exc kD_ ["total"] [d]] = h4 at F4' k1 k2 k3 ⊢
        generalize (h' ++ [OO.exc kd_ ["step", "reason"] [d, e]]).length = p6 at k2 ⊢
        generalize h'.length = p5 at k1 ⊢
        have ef1 : fldP R "step" h4 (.ptr p5) = some d := by rw [fl (f := "step") 23 k1 (by omega)]; rfl
        have ef2 : fldP R "reason" h4 (.ptr p5) = some e := by rw [fl (f := "reason") 23 k1 (by omega)]; rfl
        have ef3 : fldP R "cycle" h4 (.ptr p6) = some d := by rw [fl (f := "cycle") 29 k2 (by omega)]; rfl
        have ef4 : fldP R "total" h4 (.ptr p7) = some d := by rw [fl (f := "total") 30 k3 (by omega)]; rfl
        simp only [zK, kl4_, kqA_, ef1, ef2, ef3, ef4, hw4]
        have F5' : Fr0 h (h4 ++ [.exc ke_ [] []]) := F4'.app
        have pp : ∀ x ∈ [D.ptr p5, .ptr p6, .ptr p7, .ptr h4.length], ∃ p i ns xs, i < 32 ∧ biX i = 2 ∧ x = .ptr p ∧ (h4 ++ [.exc ke_ [] []])[p]? = some (.exc (gX kb_ kk_ kl_ kh_ km_ kn_ ko_ kC_ ks_ kt_ kp_ kc_ ku_ kz_ kv_ ka_ kw_ kx_ ky_ kj_ kf_ kr_ kg_ kd_ kG_ kB_ kA_ ki_ kI_ kH_ kD_ ke_ kq_ kF_ kE_ i) ns xs) := fun x hx => by
          simp only [List.mem_cons, List.not_mem_nil, or_false] at hx
          rcases hx with rfl | rfl | rfl | rfl
          · exact ⟨p5, 23, _, _, by decide, rfl, rfl, ka3_ k1⟩
          · exact ⟨p6, 29, _, _, by decide, rfl, rfl, ka3_ k2⟩
          · exact ⟨p7, 30, _, _, by decide, rfl, rfl, ka3_ k3⟩
          · exact ⟨_, 31, _, _, by decide, rfl, rfl, kbs_⟩
        generalize h4 ++ [OO.exc ke_ [] []] = h5 at F5' pp ⊢
        generalize h4.length = p8 at pp ⊢
        refine lc_p (fun _ => false) id (by trivial) (show (4 : Nat) ≤ 16000000 by omega) (fun x hx => ?_) ?_
        · obtain ⟨p, i, ns, xs, hi, hb, rfl, eg⟩ := pp x hx
          simp only [zK]
          refine un i eg (by omega) (by rw [hb]; rfl) ?_
          simp only [zK]
          refine al i eg hi ?_
          simp only [zK]
          exact fun z => z.elim
        · rw [show (([D.ptr p5, .ptr p6, .ptr p7, .ptr p8].filter (fun _ => false)).map id) = [] from rfl]
          have e0 : pEq false h5 (.lst []) (.lst []) = some (.bl true) := rfl
          simp only [zK, e0]
          exact q _ F5'
end
end
end Z
set_option Elab.async false
set_option linter.all false
set_option maxRecDepth 100000
set_option maxHeartbeats 4000000
namespace Z
open PySem PySem.Spec PyProof.Rows L2 TL Y
section
variable {kb_ kk_ kl_ kh_ km_ kn_ ko_ kC_ ks_ kt_ kp_ kc_ ku_ kz_ kv_ ka_ kw_ kx_ ky_ kj_ kf_ kr_ kg_ kd_ kG_ kB_ kA_ ki_ kI_ kH_ kD_ ke_ kq_ kF_ kE_ : Addr}
variable {h : OH}
theorem ktA_ {h : OH} {n k : Nat} {xs : List D} {w m : Nat} (e : h[k]? = some (.lst xs)) (a : RpA (pyO n h) xs w m) : Rp (pyO (n + 1) h) (.ptr k) w (m + 1) := by
  obtain ⟨ps, b1, b2, b3, b4, b5⟩ := a.ex
  refine ⟨.list ps, ?_, ?_, ?_, ?_, ?_⟩
  · simp only [pyD]
    unfold pyO
    rw [e]
    simp only [b1, Option.map_some]
  · simpa only [PyData.showable] using b2
  · simpa only [PyData.leavesShort] using b3
  · simpa only [PyData.bulk] using b4
  · simp only [PyData.depth]; omega
theorem kpD_ {h : OH} {p k : Nat} {xs ys : List D} {C : Addr} {ns : List Str} (e : h[p]? = some (.lst xs)) (e2 : h[k]? = some (.exc C ns ys)) : p ≠ k := fun z => by
  rw [z, e2] at e
  cases e
theorem BoxD.fr0 {b n : Nat} {h h' : OH} (B : BoxD h b n) (F : Fr0 h h') : BoxD h' b n := by
  obtain ⟨x, y, z, e, r⟩ := B
  exact ⟨x, y, z, F.get e, r⟩
section
variable (nd : ((row kb_ kk_ kl_ kh_ km_ kn_ ko_ kC_ ks_ kt_ kp_ kc_ ku_ kz_ kv_ ka_ kw_ kx_ ky_ kj_ kf_ kr_ kg_ kd_ kG_ kB_ kA_ ki_ kI_ kH_ kD_ ke_ kq_ kF_ kE_).L).Nodup)
include nd
theorem kqU_ {E : EQ} {Q : D → OH → Prop} {t : Tg Q} {u : Tg E} (q : ∀ h', Q (.bl true) h') : WE (kS_ kb_ kk_ kl_ kh_ km_ kn_ ko_ kC_ ks_ kt_ kp_ kc_ ku_ kz_ kv_ ka_ kw_ kx_ ky_ kj_ kf_ kr_ kg_ kd_ kG_ kB_ kA_ ki_ kI_ kH_ kD_ ke_ kq_ kF_ kE_ [] h) Q E t u := by
  have un := fun {h : OH} {k : Nat} (i : Nat) {ns : List Str} {xs : List D} (e : h[k]? = some (.exc (gX kb_ kk_ kl_ kh_ km_ kn_ ko_ kC_ ks_ kt_ kp_ kc_ ku_ kz_ kv_ ka_ kw_ kx_ ky_ kj_ kf_ kr_ kg_ kd_ kG_ kB_ kA_ ki_ kI_ kH_ kD_ ke_ kq_ kF_ kE_ i) ns xs)) (hi : i < 35) {z : Int} (ez : z = (biX i : Nat)) {E : EQ} {Q : D → OH → Prop} {t : Tg Q} {u : Tg E} => kpC_ (h := h) (k := k) (i := i) (E := E) (Q := Q) (t := t) (u := u) (kb_ := kb_) (kk_ := kk_) (kl_ := kl_) (kh_ := kh_) (km_ := km_) (kn_ := kn_) (ko_ := ko_) (kC_ := kC_) (ks_ := ks_) (kt_ := kt_) (kp_ := kp_) (kc_ := kc_) (ku_ := ku_) (kz_ := kz_) (kv_ := kv_) (ka_ := ka_) (kw_ := kw_) (kx_ := kx_) (ky_ := ky_) (kj_ := kj_) (kf_ := kf_) (kr_ := kr_) (kg_ := kg_) (kd_ := kd_) (kG_ := kG_) (kB_ := kB_) (kA_ := kA_) (ki_ := ki_) (kI_ := kI_) (kH_ := kH_) (kD_ := kD_) (ke_ := ke_) (kq_ := kq_) (kF_ := kF_) (kE_ := kE_) nd e hi ez
  unfold kS_ kbt_
  generalize kY_ kb_ kk_ kl_ kh_ km_ kn_ ko_ kC_ ks_ kt_ kp_ kc_ ku_ kz_ kv_ ka_ kw_ kx_ ky_ kj_ kf_ kr_ kg_ kd_ kG_ kB_ kA_ ki_ kI_ kH_ kD_ ke_ kq_ kF_ kE_ = F2 at un ⊢
  simp only [zK, kqB_]
  have k1 : (((h ++ [.exc kq_ [] []]) ++ [.exc kF_ [] []]) ++ [.exc kE_ [] []])[h.length]? = some (.exc (gX kb_ kk_ kl_ kh_ km_ kn_ ko_ kC_ ks_ kt_ kp_ kc_ ku_ kz_ kv_ ka_ kw_ kx_ ky_ kj_ kf_ kr_ kg_ kd_ kG_ kB_ kA_ ki_ kI_ kH_ kD_ ke_ kq_ kF_ kE_ 32) [] []) := ka3_ (ka3_ kbs_)
  have k2 : (((h ++ [.exc kq_ [] []]) ++ [.exc kF_ [] []]) ++ [.exc kE_ [] []])[(h ++ [OO.exc kq_ [] []]).length]? = some (.exc (gX kb_ kk_ kl_ kh_ km_ kn_ ko_ kC_ ks_ kt_ kp_ kc_ ku_ kz_ kv_ ka_ kw_ kx_ ky_ kj_ kf_ kr_ kg_ kd_ kG_ kB_ kA_ ki_ kI_ kH_ kD_ ke_ kq_ kF_ kE_ 33) [] []) := ka3_ kbs_
  have k3 : (((h ++ [.exc kq_ [] []]) ++ [.exc kF_ [] []]) ++ [.exc kE_ [] []])[((h ++ [OO.exc kq_ [] []]) ++ [OO.exc kF_ [] []]).length]? = some (.exc (gX kb_ kk_ kl_ kh_ km_ kn_ ko_ kC_ ks_ kt_ kp_ kc_ ku_ kz_ kv_ ka_ kw_ kx_ ky_ kj_ kf_ kr_ kg_ kd_ kG_ kB_ kA_ ki_ kI_ kH_ kD_ ke_ kq_ kF_ kE_ 34) [] []) := kbs_
  generalize ((h ++ [OO.exc kq_ [] []]) ++ [OO.exc kF_ [] []]).length = p3 at k3 ⊢
  generalize ((h ++ [.exc kq_ [] []]) ++ [.exc kF_ [] []]) ++ [.exc kE_ [] []] = h4 at k1 k2 k3 ⊢
  generalize (h ++ [OO.exc kq_ [] []]).length = p2 at k2 ⊢
  generalize h.length = p1 at k1 ⊢
  refine un 32 k1 (by omega) rfl ?_
  simp only [zK]
  refine un 33 k2 (by omega) rfl ?_
  simp only [zK]
  refine un 34 k3 (by omega) rfl ?_
  simp only [zK]
  exact q _
theorem kwe_ {K : PySem.W.Frag} {ad : Addr} {ns : List Int} (hl : ns.length ≤ 63) : WE (kor_ K kb_ kk_ kl_ kh_ km_ kn_ ko_ kC_ ks_ kt_ kp_ kc_ ku_ kz_ kv_ ka_ kw_ kx_ ky_ kj_ kf_ kr_ kg_ kd_ kG_ kB_ kA_ ki_ kI_ kH_ kD_ ke_ kq_ kF_ kE_ ad ns [] h) (fun d _ => d = .bl true) noE .mk .mk := by
  have lim8 : lim = 16000000 := rfl
  have th := fun (h : OH) (b n : Nat) (E : EQ) (Q : D → OH → Prop) (t : Tg Q) (u : Tg E) (B : BoxD h b n) (hn : n ≤ 90000) => kqQ_ (h := h) (b := b) (n := n) (E := E) (Q := Q) (t := t) (u := u) (kb_ := kb_) (kk_ := kk_) (kl_ := kl_) (kh_ := kh_) (km_ := km_) (kn_ := kn_) (ko_ := ko_) (kC_ := kC_) (ks_ := ks_) (kt_ := kt_) (kp_ := kp_) (kc_ := kc_) (ku_ := ku_) (kz_ := kz_) (kv_ := kv_) (ka_ := ka_) (kw_ := kw_) (kx_ := kx_) (ky_ := ky_) (kj_ := kj_) (kf_ := kf_) (kr_ := kr_) (kg_ := kg_) (kd_ := kd_) (kG_ := kG_) (kB_ := kB_) (kA_ := kA_) (ki_ := ki_) (kI_ := kI_) (kH_ := kH_) (kD_ := kD_) (ke_ := ke_) (kq_ := kq_) (kF_ := kF_) (kE_ := kE_) B hn
  have ri := fun h => @kqT_ kb_ kk_ kl_ kh_ km_ kn_ ko_ kC_ ks_ kt_ kp_ kc_ ku_ kz_ kv_ ka_ kw_ kx_ ky_ kj_ kf_ kr_ kg_ kd_ kG_ kB_ kA_ ki_ kI_ kH_ kD_ ke_ kq_ kF_ kE_ h nd
  have vl := fun (h : OH) (d : D) (E : EQ) (Q : D → OH → Prop) (t : Tg Q) (u : Tg E) => kng_ (h := h) (d := d) (E := E) (Q := Q) (t := t) (u := u) (kb_ := kb_) (kk_ := kk_) (kl_ := kl_) (kh_ := kh_) (km_ := km_) (kn_ := kn_) (ko_ := ko_) (kC_ := kC_) (ks_ := ks_) (kt_ := kt_) (kp_ := kp_) (kc_ := kc_) (ku_ := ku_) (kz_ := kz_) (kv_ := kv_) (ka_ := ka_) (kw_ := kw_) (kx_ := kx_) (ky_ := ky_) (kj_ := kj_) (kf_ := kf_) (kr_ := kr_) (kg_ := kg_) (kd_ := kd_) (kG_ := kG_) (kB_ := kB_) (kA_ := kA_) (ki_ := ki_) (kI_ := kI_) (kH_ := kH_) (kD_ := kD_) (ke_ := ke_) (kq_ := kq_) (kF_ := kF_) (kE_ := kE_)
  have ba := fun h => @kqU_ kb_ kk_ kl_ kh_ km_ kn_ ko_ kC_ ks_ kt_ kp_ kc_ ku_ kz_ kv_ ka_ kw_ kx_ ky_ kj_ kf_ kr_ kg_ kd_ kG_ kB_ kA_ ki_ kI_ kH_ kD_ ke_ kq_ kF_ kE_ h nd
  have fl := fun {h : OH} {k : Nat} (i : Nat) {f : Str} {ns : List Str} {xs : List D} (e : h[k]? = some (.exc (gX kb_ kk_ kl_ kh_ km_ kn_ ko_ kC_ ks_ kt_ kp_ kc_ ku_ kz_ kv_ ka_ kw_ kx_ ky_ kj_ kf_ kr_ kg_ kd_ kG_ kB_ kA_ ki_ kI_ kH_ kD_ ke_ kq_ kF_ kE_ i) ns xs)) (hi : i < 35) => ktx_ (h := h) (k := k) (i := i) (f := f) (kb_ := kb_) (kk_ := kk_) (kl_ := kl_) (kh_ := kh_) (km_ := km_) (kn_ := kn_) (ko_ := ko_) (kC_ := kC_) (ks_ := ks_) (kt_ := kt_) (kp_ := kp_) (kc_ := kc_) (ku_ := ku_) (kz_ := kz_) (kv_ := kv_) (ka_ := ka_) (kw_ := kw_) (kx_ := kx_) (ky_ := ky_) (kj_ := kj_) (kf_ := kf_) (kr_ := kr_) (kg_ := kg_) (kd_ := kd_) (kG_ := kG_) (kB_ := kB_) (kA_ := kA_) (ki_ := ki_) (kI_ := kI_) (kH_ := kH_) (kD_ := kD_) (ke_ := ke_) (kq_ := kq_) (kF_ := kF_) (kE_ := kE_) nd e hi
  unfold kor_ kv9_
  generalize kaI_ kb_ kk_ kl_ kh_ km_ kn_ ko_ kC_ ks_ kt_ kp_ kc_ ku_ kz_ kv_ ka_ kw_ kx_ ky_ kj_ kf_ kr_ kg_ kd_ kG_ kB_ kA_ ki_ kI_ kH_ kD_ ke_ kq_ kF_ kE_ = F1 at th ⊢
  generalize ka4_ kb_ kk_ kl_ kh_ km_ kn_ ko_ kC_ ks_ kt_ kp_ kc_ ku_ kz_ kv_ ka_ kw_ kx_ ky_ kj_ kf_ kr_ kg_ kd_ kG_ kB_ kA_ ki_ kI_ kH_ kD_ ke_ kq_ kF_ kE_ = F2 at ri ⊢
  generalize kR_ kb_ kk_ kl_ kh_ km_ kn_ ko_ kC_ ks_ kt_ kp_ kc_ ku_ kz_ kv_ ka_ kw_ kx_ ky_ kj_ kf_ kr_ kg_ kd_ kG_ kB_ kA_ ki_ kI_ kH_ kD_ ke_ kq_ kF_ kE_ = F3 at vl ⊢
  generalize kS_ kb_ kk_ kl_ kh_ km_ kn_ ko_ kC_ ks_ kt_ kp_ kc_ ku_ kz_ kv_ ka_ kw_ kx_ ky_ kj_ kf_ kr_ kg_ kd_ kG_ kB_ kA_ ki_ kI_ kH_ kD_ ke_ kq_ kF_ kE_ = F4 at ba ⊢
  generalize hrow : row kb_ kk_ kl_ kh_ km_ kn_ ko_ kC_ ks_ kt_ kp_ kc_ ku_ kz_ kv_ ka_ kw_ kx_ ky_ kj_ kf_ kr_ kg_ kd_ kG_ kB_ kA_ ki_ kI_ kH_ kD_ ke_ kq_ kF_ kE_ = R at fl ⊢
  simp only [zK]
  refine nd_i (by split <;> (try split) <;> omega) ?_
  refine ku7_ (fun δ _ => ∃ s1 s2 s3 s4 s5 s6 s7 s8 s9 s10 s11 : Sl, δ = [.scr K ad ns, s1, s2, s3, s4, s5, s6, s7, s8, s9, s10, s11]) ⟨_, _, _, _, _, _, _, _, _, _, _, rfl⟩ ?_ ?_
  rotate_left
  · rintro δ h ⟨s1, s2, s3, s4, s5, s6, s7, s8, s9, s10, s11, rfl⟩
    simp only [zK]
    refine ba _ fun h' => ?_
    simp only [zK]
  intro d δ h hd'
  obtain ⟨i, hi, rfl⟩ := List.mem_map.mp hd'
  have hi2 : i < 1000 := by
    have := List.mem_range.mp hi
    repeat' split at this
    all_goals omega
  rintro ⟨s1, s2, s3, s4, s5, s6, s7, s8, s9, s10, s11, rfl⟩
  simp only [zK]
  refine ktv_ (by omega) (by omega) fun c => ?_
  simp only [zK]
  refine kwa_ c fun o B => ?_
  have b0 := B.lt
  generalize h.length = b at B b0 ⊢
  generalize h ++ [o] = h0 at B b0 ⊢
  simp only [zK]
  refine ku6_ (fun j δ h' => ∃ (s3 : Sl), δ = [.scr K ad ns, .val (.int (0 + (i : Int))), .val (.ptr b), s3, s4, s5, s6, s7, s8, s9, s10, s11] ∧ BoxD h' b (2 * j)) ⟨_, rfl, B⟩ ?_ ?_
  · rintro j x' δ h' hd' ⟨s3, rfl, B'⟩
    have hj : j < 6 := by
      have := (List.getElem?_eq_some_iff.mp hd').1
      rwa [show (rngD 0 6).length = 6 from rfl] at this
    simp only [zK]
    refine th _ _ _ _ _ _ _ B' (by omega) fun d1 hd1 h1 K1 B1 => ?_
    simp only [zK]
    refine th _ _ _ _ _ _ _ B1 (by omega) fun d2 hd2 h2 K2 B2 => ?_
    simp only [zK]
    refine ri _ hd1 hd2 fun h3 F3 => ?_
    simp only [zK]
    exact ⟨_, rfl, (B2.fr0 F3).mono (by omega)⟩
  · rintro δ h' ⟨s3, rfl, B'⟩
    simp only [zK]
    refine th _ _ _ _ _ _ _ B' (by decide) fun d1 hd1 h1 K1 B1 => ?_
    simp only [zK]
    refine vl _ _ _ _ _ _ ?_
    have g0 : (h1 ++ [OO.lst [d1]])[h1.length]? = some (.lst [d1]) := kbs_
    have g1 : ∀ j i, vX[j]? = some i → ((h1 ++ [OO.lst [d1]]) ++ vX.map fun i => OO.exc (gX kb_ kk_ kl_ kh_ km_ kn_ ko_ kC_ ks_ kt_ kp_ kc_ ku_ kz_ kv_ ka_ kw_ kx_ ky_ kj_ kf_ kr_ kg_ kd_ kG_ kB_ kA_ ki_ kI_ kH_ kD_ ke_ kq_ kF_ kE_ i) ["value"] [.ptr h1.length])[(h1 ++ [OO.lst [d1]]).length + j]? = some (.exc (gX kb_ kk_ kl_ kh_ km_ kn_ ko_ kC_ ks_ kt_ kp_ kc_ ku_ kz_ kv_ ka_ kw_ kx_ ky_ kj_ kf_ kr_ kg_ kd_ kG_ kB_ kA_ ki_ kI_ kH_ kD_ ke_ kq_ kF_ kE_ i) ["value"] [.ptr h1.length]) := fun j i e => by
      rw [List.getElem?_append_right (Nat.le_add_right _ _), Nat.add_sub_cancel_left, List.getElem?_map, e]; rfl
    have g2 : ((h1 ++ [OO.lst [d1]]) ++ vX.map fun i => OO.exc (gX kb_ kk_ kl_ kh_ km_ kn_ ko_ kC_ ks_ kt_ kp_ kc_ ku_ kz_ kv_ ka_ kw_ kx_ ky_ kj_ kf_ kr_ kg_ kd_ kG_ kB_ kA_ ki_ kI_ kH_ kD_ ke_ kq_ kF_ kE_ i) ["value"] [.ptr h1.length])[h1.length]? = some (.lst [d1]) := by rw [List.getElem?_append_left (h_lt g0)]; exact g0
    generalize (h1 ++ [OO.lst [d1]]) ++ (vX.map fun i => OO.exc (gX kb_ kk_ kl_ kh_ km_ kn_ ko_ kC_ ks_ kt_ kp_ kc_ ku_ kz_ kv_ ka_ kw_ kx_ ky_ kj_ kf_ kr_ kg_ kd_ kG_ kB_ kA_ ki_ kI_ kH_ kD_ ke_ kq_ kF_ kE_ i) ["value"] [.ptr h1.length]) = h2 at g1 g2 ⊢
    generalize (h1 ++ [OO.lst [d1]]).length = m at g1 ⊢
    clear g0
    generalize h1.length = p at g1 g2 ⊢
    have ze : ∀ x ∈ (List.range 24).map fun j => D.ptr (m + j), ∃ k i, i < 35 ∧ x = .ptr k ∧ h2[k]? = some (.exc (gX kb_ kk_ kl_ kh_ km_ kn_ ko_ kC_ ks_ kt_ kp_ kc_ ku_ kz_ kv_ ka_ kw_ kx_ ky_ kj_ kf_ kr_ kg_ kd_ kG_ kB_ kA_ ki_ kI_ kH_ kD_ ke_ kq_ kF_ kE_ i) ["value"] [.ptr p]) := fun x hx => by
      obtain ⟨j, hj, rfl⟩ := List.mem_map.mp hx
      have hj := List.mem_range.mp hj
      obtain ⟨i, ei⟩ : ∃ i, vX[j]? = some i := ⟨_, List.getElem?_eq_getElem hj⟩
      have hi : i < 35 := by
        have : ∀ i ∈ vX, i < 35 := by decide
        exact this i (List.mem_of_getElem? ei)
      exact ⟨_, i, hi, rfl, g1 j i ei⟩
    have zl : ((List.range 24).map fun j => D.ptr (m + j)).length ≤ 16000000 := by rw [List.length_map, List.length_range]; omega
    generalize ((List.range 24).map fun j => D.ptr (m + j)) = es at ze zl ⊢
    clear g1
    simp only [zK, kj0_]
    have kp : (((((((h2 ++ [OO.exc kC_ ["one", "other"] [.ptr p, .ptr p]]) ++ [OO.exc kA_ ["one", "other"] [.ptr p, .ptr p]]) ++ [OO.exc kp_ ["position"] [.ptr p]]) ++ [OO.exc ka_ ["position"] [.ptr p]]) ++ [OO.exc kd_ ["step", "reason"] [.ptr p, .ptr p]]) ++ [OO.exc kH_ ["cycle"] [.ptr p]]) ++ [OO.exc kD_ ["total"] [.ptr p]])[p]? = some (.lst [d1]) := ka3_ (ka3_ (ka3_ (ka3_ (ka3_ (ka3_ (ka3_ (g2)))))))
    have kz : ∀ x ∈ es, ∃ k i, i < 35 ∧ x = .ptr k ∧ (((((((h2 ++ [OO.exc kC_ ["one", "other"] [.ptr p, .ptr p]]) ++ [OO.exc kA_ ["one", "other"] [.ptr p, .ptr p]]) ++ [OO.exc kp_ ["position"] [.ptr p]]) ++ [OO.exc ka_ ["position"] [.ptr p]]) ++ [OO.exc kd_ ["step", "reason"] [.ptr p, .ptr p]]) ++ [OO.exc kH_ ["cycle"] [.ptr p]]) ++ [OO.exc kD_ ["total"] [.ptr p]])[k]? = some (.exc (gX kb_ kk_ kl_ kh_ km_ kn_ ko_ kC_ ks_ kt_ kp_ kc_ ku_ kz_ kv_ ka_ kw_ kx_ ky_ kj_ kf_ kr_ kg_ kd_ kG_ kB_ kA_ ki_ kI_ kH_ kD_ ke_ kq_ kF_ kE_ i) ["value"] [.ptr p]) := fun x hx => by
      obtain ⟨k, i, hi, ex, e⟩ := ze x hx
      exact ⟨k, i, hi, ex, ka3_ (ka3_ (ka3_ (ka3_ (ka3_ (ka3_ (ka3_ (e)))))))⟩
    have e1 : (((((((h2 ++ [OO.exc kC_ ["one", "other"] [.ptr p, .ptr p]]) ++ [OO.exc kA_ ["one", "other"] [.ptr p, .ptr p]]) ++ [OO.exc kp_ ["position"] [.ptr p]]) ++ [OO.exc ka_ ["position"] [.ptr p]]) ++ [OO.exc kd_ ["step", "reason"] [.ptr p, .ptr p]]) ++ [OO.exc kH_ ["cycle"] [.ptr p]]) ++ [OO.exc kD_ ["total"] [.ptr p]])[h2.length]? = some (.exc (gX kb_ kk_ kl_ kh_ km_ kn_ ko_ kC_ ks_ kt_ kp_ kc_ ku_ kz_ kv_ ka_ kw_ kx_ ky_ kj_ kf_ kr_ kg_ kd_ kG_ kB_ kA_ ki_ kI_ kH_ kD_ ke_ kq_ kF_ kE_ 7) ["one", "other"] [.ptr p, .ptr p]) := ka3_ (ka3_ (ka3_ (ka3_ (ka3_ (ka3_ (kbs_))))))
    have e2 : (((((((h2 ++ [OO.exc kC_ ["one", "other"] [.ptr p, .ptr p]]) ++ [OO.exc kA_ ["one", "other"] [.ptr p, .ptr p]]) ++ [OO.exc kp_ ["position"] [.ptr p]]) ++ [OO.exc ka_ ["position"] [.ptr p]]) ++ [OO.exc kd_ ["step", "reason"] [.ptr p, .ptr p]]) ++ [OO.exc kH_ ["cycle"] [.ptr p]]) ++ [OO.exc kD_ ["total"] [.ptr p]])[(h2 ++ [OO.exc kC_ ["one", "other"] [.ptr p, .ptr p]]).length]? = some (.exc (gX kb_ kk_ kl_ kh_ km_ kn_ ko_ kC_ ks_ kt_ kp_ kc_ ku_ kz_ kv_ ka_ kw_ kx_ ky_ kj_ kf_ kr_ kg_ kd_ kG_ kB_ kA_ ki_ kI_ kH_ kD_ ke_ kq_ kF_ kE_ 26) ["one", "other"] [.ptr p, .ptr p]) := ka3_ (ka3_ (ka3_ (ka3_ (ka3_ (kbs_)))))
    have e3 : (((((((h2 ++ [OO.exc kC_ ["one", "other"] [.ptr p, .ptr p]]) ++ [OO.exc kA_ ["one", "other"] [.ptr p, .ptr p]]) ++ [OO.exc kp_ ["position"] [.ptr p]]) ++ [OO.exc ka_ ["position"] [.ptr p]]) ++ [OO.exc kd_ ["step", "reason"] [.ptr p, .ptr p]]) ++ [OO.exc kH_ ["cycle"] [.ptr p]]) ++ [OO.exc kD_ ["total"] [.ptr p]])[((h2 ++ [OO.exc kC_ ["one", "other"] [.ptr p, .ptr p]]) ++ [OO.exc kA_ ["one", "other"] [.ptr p, .ptr p]]).length]? = some (.exc (gX kb_ kk_ kl_ kh_ km_ kn_ ko_ kC_ ks_ kt_ kp_ kc_ ku_ kz_ kv_ ka_ kw_ kx_ ky_ kj_ kf_ kr_ kg_ kd_ kG_ kB_ kA_ ki_ kI_ kH_ kD_ ke_ kq_ kF_ kE_ 10) ["position"] [.ptr p]) := ka3_ (ka3_ (ka3_ (ka3_ (kbs_))))
    have e4 : (((((((h2 ++ [OO.exc kC_ ["one", "other"] [.ptr p, .ptr p]]) ++ [OO.exc kA_ ["one", "other"] [.ptr p, .ptr p]]) ++ [OO.exc kp_ ["position"] [.ptr p]]) ++ [OO.exc ka_ ["position"] [.ptr p]]) ++ [OO.exc kd_ ["step", "reason"] [.ptr p, .ptr p]]) ++ [OO.exc kH_ ["cycle"] [.ptr p]]) ++ [OO.exc kD_ ["total"] [.ptr p]])[(((h2 ++ [OO.exc kC_ ["one", "other"] [.ptr p, .ptr p]]) ++ [OO.exc kA_ ["one", "other"] [.ptr p, .ptr p]]) ++ [OO.exc kp_ ["position"] [.ptr p]]).length]? = some (.exc (gX kb_ kk_ kl_ kh_ km_ kn_ ko_ kC_ ks_ kt_ kp_ kc_ ku_ kz_ kv_ ka_ kw_ kx_ ky_ kj_ kf_ kr_ kg_ kd_ kG_ kB_ kA_ ki_ kI_ kH_ kD_ ke_ kq_ kF_ kE_ 15) ["position"] [.ptr p]) := ka3_ (ka3_ (ka3_ (kbs_)))
    have e5 : (((((((h2 ++ [OO.exc kC_ ["one", "other"] [.ptr p, .ptr p]]) ++ [OO.exc kA_ ["one", "other"] [.ptr p, .ptr p]]) ++ [OO.exc kp_ ["position"] [.ptr p]]) ++ [OO.exc ka_ ["position"] [.ptr p]]) ++ [OO.exc kd_ ["step", "reason"] [.ptr p, .ptr p]]) ++ [OO.exc kH_ ["cycle"] [.ptr p]]) ++ [OO.exc kD_ ["total"] [.ptr p]])[((((h2 ++ [OO.exc kC_ ["one", "other"] [.ptr p, .ptr p]]) ++ [OO.exc kA_ ["one", "other"] [.ptr p, .ptr p]]) ++ [OO.exc kp_ ["position"] [.ptr p]]) ++ [OO.exc ka_ ["position"] [.ptr p]]).length]? = some (.exc (gX kb_ kk_ kl_ kh_ km_ kn_ ko_ kC_ ks_ kt_ kp_ kc_ ku_ kz_ kv_ ka_ kw_ kx_ ky_ kj_ kf_ kr_ kg_ kd_ kG_ kB_ kA_ ki_ kI_ kH_ kD_ ke_ kq_ kF_ kE_ 23) ["step", "reason"] [.ptr p, .ptr p]) := ka3_ (ka3_ (kbs_))
    have e6 : (((((((h2 ++ [OO.exc kC_ ["one", "other"] [.ptr p, .ptr p]]) ++ [OO.exc kA_ ["one", "other"] [.ptr p, .ptr p]]) ++ [OO.exc kp_ ["position"] [.ptr p]]) ++ [OO.exc ka_ ["position"] [.ptr p]]) ++ [OO.exc kd_ ["step", "reason"] [.ptr p, .ptr p]]) ++ [OO.exc kH_ ["cycle"] [.ptr p]]) ++ [OO.exc kD_ ["total"] [.ptr p]])[(((((h2 ++ [OO.exc kC_ ["one", "other"] [.ptr p, .ptr p]]) ++ [OO.exc kA_ ["one", "other"] [.ptr p, .ptr p]]) ++ [OO.exc kp_ ["position"] [.ptr p]]) ++ [OO.exc ka_ ["position"] [.ptr p]]) ++ [OO.exc kd_ ["step", "reason"] [.ptr p, .ptr p]]).length]? = some (.exc (gX kb_ kk_ kl_ kh_ km_ kn_ ko_ kC_ ks_ kt_ kp_ kc_ ku_ kz_ kv_ ka_ kw_ kx_ ky_ kj_ kf_ kr_ kg_ kd_ kG_ kB_ kA_ ki_ kI_ kH_ kD_ ke_ kq_ kF_ kE_ 29) ["cycle"] [.ptr p]) := ka3_ (kbs_)
    have e7 : (((((((h2 ++ [OO.exc kC_ ["one", "other"] [.ptr p, .ptr p]]) ++ [OO.exc kA_ ["one", "other"] [.ptr p, .ptr p]]) ++ [OO.exc kp_ ["position"] [.ptr p]]) ++ [OO.exc ka_ ["position"] [.ptr p]]) ++ [OO.exc kd_ ["step", "reason"] [.ptr p, .ptr p]]) ++ [OO.exc kH_ ["cycle"] [.ptr p]]) ++ [OO.exc kD_ ["total"] [.ptr p]])[((((((h2 ++ [OO.exc kC_ ["one", "other"] [.ptr p, .ptr p]]) ++ [OO.exc kA_ ["one", "other"] [.ptr p, .ptr p]]) ++ [OO.exc kp_ ["position"] [.ptr p]]) ++ [OO.exc ka_ ["position"] [.ptr p]]) ++ [OO.exc kd_ ["step", "reason"] [.ptr p, .ptr p]]) ++ [OO.exc kH_ ["cycle"] [.ptr p]]).length]? = some (.exc (gX kb_ kk_ kl_ kh_ km_ kn_ ko_ kC_ ks_ kt_ kp_ kc_ ku_ kz_ kv_ ka_ kw_ kx_ ky_ kj_ kf_ kr_ kg_ kd_ kG_ kB_ kA_ ki_ kI_ kH_ kD_ ke_ kq_ kF_ kE_ 30) ["total"] [.ptr p]) := kbs_
    clear ze g2
    generalize (((((((h2 ++ [OO.exc kC_ ["one", "other"] [.ptr p, .ptr p]]) ++ [OO.exc kA_ ["one", "other"] [.ptr p, .ptr p]]) ++ [OO.exc kp_ ["position"] [.ptr p]]) ++ [OO.exc ka_ ["position"] [.ptr p]]) ++ [OO.exc kd_ ["step", "reason"] [.ptr p, .ptr p]]) ++ [OO.exc kH_ ["cycle"] [.ptr p]]) ++ [OO.exc kD_ ["total"] [.ptr p]]) = h3 at kp kz e1 e2 e3 e4 e5 e6 e7 ⊢
    generalize ((((((h2 ++ [OO.exc kC_ ["one", "other"] [.ptr p, .ptr p]]) ++ [OO.exc kA_ ["one", "other"] [.ptr p, .ptr p]]) ++ [OO.exc kp_ ["position"] [.ptr p]]) ++ [OO.exc ka_ ["position"] [.ptr p]]) ++ [OO.exc kd_ ["step", "reason"] [.ptr p, .ptr p]]) ++ [OO.exc kH_ ["cycle"] [.ptr p]]).length = q7 at e7 ⊢
    generalize (((((h2 ++ [OO.exc kC_ ["one", "other"] [.ptr p, .ptr p]]) ++ [OO.exc kA_ ["one", "other"] [.ptr p, .ptr p]]) ++ [OO.exc kp_ ["position"] [.ptr p]]) ++ [OO.exc ka_ ["position"] [.ptr p]]) ++ [OO.exc kd_ ["step", "reason"] [.ptr p, .ptr p]]).length = q6 at e6 ⊢
    generalize ((((h2 ++ [OO.exc kC_ ["one", "other"] [.ptr p, .ptr p]]) ++ [OO.exc kA_ ["one", "other"] [.ptr p, .ptr p]]) ++ [OO.exc kp_ ["position"] [.ptr p]]) ++ [OO.exc ka_ ["position"] [.ptr p]]).length = q5 at e5 ⊢
    generalize (((h2 ++ [OO.exc kC_ ["one", "other"] [.ptr p, .ptr p]]) ++ [OO.exc kA_ ["one", "other"] [.ptr p, .ptr p]]) ++ [OO.exc kp_ ["position"] [.ptr p]]).length = q4 at e4 ⊢
    generalize ((h2 ++ [OO.exc kC_ ["one", "other"] [.ptr p, .ptr p]]) ++ [OO.exc kA_ ["one", "other"] [.ptr p, .ptr p]]).length = q3 at e3 ⊢
    generalize (h2 ++ [OO.exc kC_ ["one", "other"] [.ptr p, .ptr p]]).length = q2 at e2 ⊢
    generalize h2.length = q1 at e1 ⊢
    simp only [zK, kp]
    have kp2 : (h3.set p (.lst [d1, .str "late"]))[p]? = some (.lst [d1, .str "late"]) := ktT_ kp
    have kz2 : ∀ x ∈ es, ∃ k i, i < 35 ∧ x = .ptr k ∧ (h3.set p (.lst [d1, .str "late"]))[k]? = some (.exc (gX kb_ kk_ kl_ kh_ km_ kn_ ko_ kC_ ks_ kt_ kp_ kc_ ku_ kz_ kv_ ka_ kw_ kx_ ky_ kj_ kf_ kr_ kg_ kd_ kG_ kB_ kA_ ki_ kI_ kH_ kD_ ke_ kq_ kF_ kE_ i) ["value"] [.ptr p]) := fun x hx => by
      obtain ⟨k, i, hi, ex, e⟩ := kz x hx
      exact ⟨k, i, hi, ex, (h_ne (kpD_ kp e)).trans e⟩
    replace e1 := (h_ne (p := .lst [d1, .str "late"]) (kpD_ kp e1)).trans e1
    replace e2 := (h_ne (p := .lst [d1, .str "late"]) (kpD_ kp e2)).trans e2
    replace e3 := (h_ne (p := .lst [d1, .str "late"]) (kpD_ kp e3)).trans e3
    replace e4 := (h_ne (p := .lst [d1, .str "late"]) (kpD_ kp e4)).trans e4
    replace e5 := (h_ne (p := .lst [d1, .str "late"]) (kpD_ kp e5)).trans e5
    replace e6 := (h_ne (p := .lst [d1, .str "late"]) (kpD_ kp e6)).trans e6
    replace e7 := (h_ne (p := .lst [d1, .str "late"]) (kpD_ kp e7)).trans e7
    clear kz kp
    generalize h3.set p (OO.lst [d1, .str "late"]) = h4 at kp2 kz2 e1 e2 e3 e4 e5 e6 e7 ⊢
    have rpl : RpA (pyO 7 h4) [d1, .str "late"] 200 5 := (kb2_ (kj6_ hd1 (pyO 7 h4)) (kb2_ (ksP_ (x := "late") (w := 20) (by decide +kernel) (by decide +kernel)) klu_)).mono (by omega) (by omega)
    have rp1 : Rp (pyO 8 h4) (.ptr p) 200 6 := ktA_ (n := 7) kp2 rpl
    obtain ⟨w1, hw1⟩ : ∃ w, kdE_ h4 [.ptr p] = some (.str w) := km4_ rp1 (by decide) (by decide)
    obtain ⟨w2, hw2⟩ : ∃ w, kdE_ h4 [.lst (List.replicate 10 (.ptr p))] = some (.str w) := km4_ (w := 10 * 201) (k := 7) (kqp_ ((kpv_ (w := 200) (k := 6) fun d hd => by rw [List.eq_of_mem_replicate hd]; exact rp1).mono (by rw [List.length_replicate]; omega) (Nat.le_refl _))) (by decide) (by decide)
    refine lc_p (fun _ => false) id (by trivial) zl (fun x hx => ?_) ?_
    · obtain ⟨k, i, hi, rfl, eg⟩ := kz2 x hx
      have ef : fldP R "value" h4 (.ptr k) = some (.ptr p) := by rw [fl (f := "value") i eg hi]; rfl
      simp only [zK, kl4_, ef, hw1]
      exact fun z => z.elim
    · rw [show ((es.filter (fun _ => false)).map id) = [] by simp]
      have e0 : pEq true h4 (.lst []) (.lst []) = some (.bl false) := rfl
      have f0 : fldP R "one" h4 (.ptr q1) = some (.ptr p) := by rw [fl (f := "one") 7 e1 (by decide)]; rfl
      have f1 : fldP R "other" h4 (.ptr q1) = some (.ptr p) := by rw [fl (f := "other") 7 e1 (by decide)]; rfl
      have f2 : fldP R "one" h4 (.ptr q2) = some (.ptr p) := by rw [fl (f := "one") 26 e2 (by decide)]; rfl
      have f3 : fldP R "other" h4 (.ptr q2) = some (.ptr p) := by rw [fl (f := "other") 26 e2 (by decide)]; rfl
      have f4 : fldP R "position" h4 (.ptr q3) = some (.ptr p) := by rw [fl (f := "position") 10 e3 (by decide)]; rfl
      have f5 : fldP R "position" h4 (.ptr q4) = some (.ptr p) := by rw [fl (f := "position") 15 e4 (by decide)]; rfl
      have f6 : fldP R "step" h4 (.ptr q5) = some (.ptr p) := by rw [fl (f := "step") 23 e5 (by decide)]; rfl
      have f7 : fldP R "reason" h4 (.ptr q5) = some (.ptr p) := by rw [fl (f := "reason") 23 e5 (by decide)]; rfl
      have f8 : fldP R "cycle" h4 (.ptr q6) = some (.ptr p) := by rw [fl (f := "cycle") 29 e6 (by decide)]; rfl
      have f9 : fldP R "total" h4 (.ptr q7) = some (.ptr p) := by rw [fl (f := "total") 30 e7 (by decide)]; rfl
      have lr : lRep h4 (.lst [.ptr p]) (.int 10) = some (List.replicate 10 (.ptr p)) := rfl
      have la : dAdd h4 (.lst [.ptr p, .ptr p, .ptr p, .ptr p, .ptr p, .ptr p]) (.lst [.ptr p, .ptr p, .ptr p, .ptr p]) = some (.lst (List.replicate 10 (.ptr p))) := rfl
      simp only [zK, kl4_, e0, f0, f1, f2, f3, f4, f5, f6, f7, f8, f9, lr, la, hw2]
      exact ⟨_, _, _, _, _, _, _, _, _, _, _, rfl⟩
end
end
end Z
set_option Elab.async false
set_option linter.all false
set_option maxRecDepth 100000
set_option maxHeartbeats 4000000
namespace Z
open PySem PySem.Spec PyProof.Rows L2 TL Y
theorem kzW_ {K : PySem.W.Frag} {h : Heap} {mg : Str → Option Value} (X : K.In h) (G : h.Ns mainGlobals mg)
    {kcE_ kd6_ kb4_ kaI_ kR_ kY_ kaB_ ka4_ kS_ kor_ kb_ kee_ kaU_ kaN_ kcy_ kk_ kgt_ kbz_ kba_ kdj_ kl_ kgu_ kbA_ kbb_ kdk_ kh_ ke4_ kbc_ kaV_ kcR_ km_ kgv_ kbB_ kbd_ kdl_ kn_ kgw_ kbC_ kbe_ kdm_ ko_ kgx_ kbD_ kbf_ kdn_ kC_ kl5_ kd1_ kdw_ khC_ ks_ kic_ kce_ kbE_ kdP_ kt_ kid_ kcf_ kbF_ kdQ_ kp_ kie_ kcg_ kbG_ kdR_ kc_ kef_ kaW_ kaO_ kcz_ ku_ kif_ kch_ kbH_ kdS_ kz_ kj7_ kcS_ kci_ kd7_ kv_ kig_ kcj_ kbI_ kdT_ ka_ keg_ kaX_ kaP_ kcA_ kw_ kih_ kck_ kbJ_ kdU_ kx_ kii_ kcl_ kbK_ kdV_ ky_ kij_ kcm_ kbL_ kdW_ kj_ kgy_ kbM_ kbg_ kdo_ kf_ ke5_ kbh_ kaY_ kcT_ kr_ kik_ kcn_ kbN_ kdX_ kg_ ke6_ kbi_ kaZ_ kcU_ kd_ ke7_ kbj_ ka0_ kcV_ kG_ kni_ ke8_ kd2_ kj8_ kB_ kkV_ kdx_ kcW_ ke9_ kA_ kkW_ kdy_ kcX_ kfa_ ki_ kfb_ kbk_ ka1_ kcY_ kI_ kqV_ kkX_ kil_ knj_ kH_ kow_ kim_ kfc_ klC_ kD_ kl6_ kd3_ kdz_ khD_ ke_ kfd_ kbl_ ka2_ kcZ_ kq_ kin_ kF_ knk_ kE_ knl_ : Addr}
    {kox_ koy_ koz_ koA_ koB_ klD_ kqW_ kqX_ kqY_ kqZ_ kq0_ knm_ koC_ koD_ koE_ koF_ koG_ klE_ knn_ kno_ knp_ knq_ knr_ kj9_ kgz_ kgA_ kgB_ kgC_ kgD_ kdp_ kns_ knt_ knu_ knv_ knw_ kka_ knx_ kny_ knz_ knA_ knB_ kkb_ knC_ knD_ knE_ knF_ knG_ kkc_ kfe_ kff_ kfg_ kfh_ kfi_ kc0_ kwf_ kwg_ kwh_ kwi_ kwj_ ktB_ keh_ kei_ kej_ kek_ kel_ cl_InvalidInteger ccl_InvalidInteger kgE_ kgF_ kgG_ kgH_ kgI_ cl_InvalidArity ccl_InvalidArity kgJ_ kgK_ kgL_ kgM_ kgN_ cl_InvalidPlace ccl_InvalidPlace kfj_ kfk_ kfl_ kfm_ kfn_ cl_InvalidPlaces ccl_InvalidPlaces kgO_ kgP_ kgQ_ kgR_ kgS_ cl_InvalidCover ccl_InvalidCover kgT_ kgU_ kgV_ kgW_ kgX_ cl_InvalidPairs ccl_InvalidPairs kgY_ kgZ_ kg0_ kg1_ kg2_ cl_InvalidTable ccl_InvalidTable kl7_ kl8_ kl9_ kma_ kmb_ cl_Mismatch ccl_Mismatch kio_ kip_ kiq_ kir_ kis_ cl_InvalidWord ccl_InvalidWord kit_ kiu_ kiv_ kiw_ kix_ cl_InvalidPath ccl_InvalidPath kiy_ kiz_ kiA_ kiB_ kiC_ cl_InvalidText ccl_InvalidText kem_ ken_ keo_ kep_ keq_ cl_InvalidDiagram ccl_InvalidDiagram kiD_ kiE_ kiF_ kiG_ kiH_ cl_InvalidStep ccl_InvalidStep kkd_ kke_ kkf_ kkg_ kkh_ cl_InvalidLog ccl_InvalidLog kiI_ kiJ_ kiK_ kiL_ kiM_ cl_InvalidName ccl_InvalidName ker_ kes_ ket_ keu_ kev_ cl_InvalidFormula ccl_InvalidFormula kiN_ kiO_ kiP_ kiQ_ kiR_ cl_InvalidLine ccl_InvalidLine kiS_ kiT_ kiU_ kiV_ kiW_ cl_InvalidTree ccl_InvalidTree kiX_ kiY_ kiZ_ ki0_ ki1_ cl_InvalidBook ccl_InvalidBook kg3_ kg4_ kg5_ kg6_ kg7_ cl_UnknownPlace ccl_UnknownPlace kfo_ kfp_ kfq_ kfr_ kfs_ cl_UnknownVertex ccl_UnknownVertex ki2_ ki3_ ki4_ ki5_ ki6_ cl_UnknownName ccl_UnknownName kft_ kfu_ kfv_ kfw_ kfx_ cl_UnknownMember ccl_UnknownMember kfy_ kfz_ kfA_ kfB_ kfC_ cl_NotApplicable ccl_NotApplicable knH_ knI_ knJ_ knK_ knL_ cl_NotSelf ccl_NotSelf kkY_ kkZ_ kk0_ kk1_ kk2_ cl_NotNormal ccl_NotNormal kk3_ kk4_ kk5_ kk6_ kk7_ cl_Unrelated ccl_Unrelated kfD_ kfE_ kfF_ kfG_ kfH_ cl_DuplicateName ccl_DuplicateName kq1_ kq2_ kq3_ kq4_ kq5_ cl_InUse ccl_InUse koH_ koI_ koJ_ koK_ koL_ cl_Cyclic ccl_Cyclic kmc_ kmd_ kme_ kmf_ kmg_ cl_TooLarge ccl_TooLarge kfI_ kfJ_ kfK_ kfL_ kfM_ cl_NothingToUndo ccl_NothingToUndo : Value}
    {koM_ koN_ kq6_ kq7_ koO_ koP_ knM_ knN_ kg8_ kg9_ knO_ knP_ knQ_ knR_ knS_ knT_ kfN_ kfO_ kwk_ kwl_ dd_InvalidInteger kew_ kex_ cld_InvalidInteger cdd_InvalidInteger dd_InvalidArity kha_ khb_ cld_InvalidArity cdd_InvalidArity dd_InvalidPlace khc_ khd_ cld_InvalidPlace cdd_InvalidPlace dd_InvalidPlaces kfP_ kfQ_ cld_InvalidPlaces cdd_InvalidPlaces dd_InvalidCover khe_ khf_ cld_InvalidCover cdd_InvalidCover dd_InvalidPairs khg_ khh_ cld_InvalidPairs cdd_InvalidPairs dd_InvalidTable khi_ khj_ cld_InvalidTable cdd_InvalidTable dd_Mismatch kmh_ kmi_ cld_Mismatch cdd_Mismatch dd_InvalidWord ki7_ ki8_ cld_InvalidWord cdd_InvalidWord dd_InvalidPath ki9_ kja_ cld_InvalidPath cdd_InvalidPath dd_InvalidText kjb_ kjc_ cld_InvalidText cdd_InvalidText dd_InvalidDiagram key_ kez_ cld_InvalidDiagram cdd_InvalidDiagram dd_InvalidStep kjd_ kje_ cld_InvalidStep cdd_InvalidStep dd_InvalidLog kki_ kkj_ cld_InvalidLog cdd_InvalidLog dd_InvalidName kjf_ kjg_ cld_InvalidName cdd_InvalidName dd_InvalidFormula keA_ keB_ cld_InvalidFormula cdd_InvalidFormula dd_InvalidLine kjh_ kji_ cld_InvalidLine cdd_InvalidLine dd_InvalidTree kjj_ kjk_ cld_InvalidTree cdd_InvalidTree dd_InvalidBook kjl_ kjm_ cld_InvalidBook cdd_InvalidBook dd_UnknownPlace khk_ khl_ cld_UnknownPlace cdd_UnknownPlace dd_UnknownVertex kfR_ kfS_ cld_UnknownVertex cdd_UnknownVertex dd_UnknownName kjn_ kjo_ cld_UnknownName cdd_UnknownName dd_UnknownMember kfT_ kfU_ cld_UnknownMember cdd_UnknownMember dd_NotApplicable kfV_ kfW_ cld_NotApplicable cdd_NotApplicable dd_NotSelf knU_ knV_ cld_NotSelf cdd_NotSelf dd_NotNormal kk8_ kk9_ cld_NotNormal cdd_NotNormal dd_Unrelated kla_ klb_ cld_Unrelated cdd_Unrelated dd_DuplicateName kfX_ kfY_ cld_DuplicateName cdd_DuplicateName dd_InUse kq8_ kq9_ cld_InUse cdd_InUse dd_Cyclic koQ_ koR_ cld_Cyclic cdd_Cyclic dd_TooLarge kmj_ kmk_ cld_TooLarge cdd_TooLarge dd_NothingToUndo kfZ_ kf0_ cld_NothingToUndo cdd_NothingToUndo dd_StrandError dd_Missing dd_Blocked : Option Addr}
    {sl_l_cell sl_l_box sl_l_take sl_l_thing sl_l_with_value sl_l_under sl_l_alone sl_l_right sl_l_bases_right sl_law sl_InvalidInteger csl_InvalidInteger ccs_InvalidInteger sl_InvalidArity csl_InvalidArity ccs_InvalidArity sl_InvalidPlace csl_InvalidPlace ccs_InvalidPlace sl_InvalidPlaces csl_InvalidPlaces ccs_InvalidPlaces sl_InvalidCover csl_InvalidCover ccs_InvalidCover sl_InvalidPairs csl_InvalidPairs ccs_InvalidPairs sl_InvalidTable csl_InvalidTable ccs_InvalidTable sl_Mismatch csl_Mismatch ccs_Mismatch sl_InvalidWord csl_InvalidWord ccs_InvalidWord sl_InvalidPath csl_InvalidPath ccs_InvalidPath sl_InvalidText csl_InvalidText ccs_InvalidText sl_InvalidDiagram csl_InvalidDiagram ccs_InvalidDiagram sl_InvalidStep csl_InvalidStep ccs_InvalidStep sl_InvalidLog csl_InvalidLog ccs_InvalidLog sl_InvalidName csl_InvalidName ccs_InvalidName sl_InvalidFormula csl_InvalidFormula ccs_InvalidFormula sl_InvalidLine csl_InvalidLine ccs_InvalidLine sl_InvalidTree csl_InvalidTree ccs_InvalidTree sl_InvalidBook csl_InvalidBook ccs_InvalidBook sl_UnknownPlace csl_UnknownPlace ccs_UnknownPlace sl_UnknownVertex csl_UnknownVertex ccs_UnknownVertex sl_UnknownName csl_UnknownName ccs_UnknownName sl_UnknownMember csl_UnknownMember ccs_UnknownMember sl_NotApplicable csl_NotApplicable ccs_NotApplicable sl_NotSelf csl_NotSelf ccs_NotSelf sl_NotNormal csl_NotNormal ccs_NotNormal sl_Unrelated csl_Unrelated ccs_Unrelated sl_DuplicateName csl_DuplicateName ccs_DuplicateName sl_InUse csl_InUse ccs_InUse sl_Cyclic csl_Cyclic ccs_Cyclic sl_TooLarge csl_TooLarge ccs_TooLarge sl_NothingToUndo csl_NothingToUndo ccs_NothingToUndo : Array (Option Value)}
    {nm_InvalidInteger qn_InvalidInteger nm_InvalidArity qn_InvalidArity nm_InvalidPlace qn_InvalidPlace nm_InvalidPlaces qn_InvalidPlaces nm_InvalidCover qn_InvalidCover nm_InvalidPairs qn_InvalidPairs nm_InvalidTable qn_InvalidTable nm_Mismatch qn_Mismatch nm_InvalidWord qn_InvalidWord nm_InvalidPath qn_InvalidPath nm_InvalidText qn_InvalidText nm_InvalidDiagram qn_InvalidDiagram nm_InvalidStep qn_InvalidStep nm_InvalidLog qn_InvalidLog nm_InvalidName qn_InvalidName nm_InvalidFormula qn_InvalidFormula nm_InvalidLine qn_InvalidLine nm_InvalidTree qn_InvalidTree nm_InvalidBook qn_InvalidBook nm_UnknownPlace qn_UnknownPlace nm_UnknownVertex qn_UnknownVertex nm_UnknownName qn_UnknownName nm_UnknownMember qn_UnknownMember nm_NotApplicable qn_NotApplicable nm_NotSelf qn_NotSelf nm_NotNormal qn_NotNormal nm_Unrelated qn_Unrelated nm_DuplicateName qn_DuplicateName nm_InUse qn_InUse nm_Cyclic qn_Cyclic nm_TooLarge qn_TooLarge nm_NothingToUndo qn_NothingToUndo nm_StrandError qn_StrandError nm_Missing qn_Missing nm_Blocked qn_Blocked : Str}
    {bs_InvalidInteger bm_InvalidInteger sub_InvalidInteger bs_InvalidArity bm_InvalidArity sub_InvalidArity bs_InvalidPlace bm_InvalidPlace sub_InvalidPlace bs_InvalidPlaces bm_InvalidPlaces sub_InvalidPlaces bs_InvalidCover bm_InvalidCover sub_InvalidCover bs_InvalidPairs bm_InvalidPairs sub_InvalidPairs bs_InvalidTable bm_InvalidTable sub_InvalidTable bs_Mismatch bm_Mismatch sub_Mismatch bs_InvalidWord bm_InvalidWord sub_InvalidWord bs_InvalidPath bm_InvalidPath sub_InvalidPath bs_InvalidText bm_InvalidText sub_InvalidText bs_InvalidDiagram bm_InvalidDiagram sub_InvalidDiagram bs_InvalidStep bm_InvalidStep sub_InvalidStep bs_InvalidLog bm_InvalidLog sub_InvalidLog bs_InvalidName bm_InvalidName sub_InvalidName bs_InvalidFormula bm_InvalidFormula sub_InvalidFormula bs_InvalidLine bm_InvalidLine sub_InvalidLine bs_InvalidTree bm_InvalidTree sub_InvalidTree bs_InvalidBook bm_InvalidBook sub_InvalidBook bs_UnknownPlace bm_UnknownPlace sub_UnknownPlace bs_UnknownVertex bm_UnknownVertex sub_UnknownVertex bs_UnknownName bm_UnknownName sub_UnknownName bs_UnknownMember bm_UnknownMember sub_UnknownMember bs_NotApplicable bm_NotApplicable sub_NotApplicable bs_NotSelf bm_NotSelf sub_NotSelf bs_NotNormal bm_NotNormal sub_NotNormal bs_Unrelated bm_Unrelated sub_Unrelated bs_DuplicateName bm_DuplicateName sub_DuplicateName bs_InUse bm_InUse sub_InUse bs_Cyclic bm_Cyclic sub_Cyclic bs_TooLarge bm_TooLarge sub_TooLarge bs_NothingToUndo bm_NothingToUndo sub_NothingToUndo bs_StrandError bm_StrandError sub_StrandError bs_Missing bm_Missing sub_Missing bs_Blocked bm_Blocked sub_Blocked : List Value}
    {sn_InvalidInteger sn_InvalidArity sn_InvalidPlace sn_InvalidPlaces sn_InvalidCover sn_InvalidPairs sn_InvalidTable sn_Mismatch sn_InvalidWord sn_InvalidPath sn_InvalidText sn_InvalidDiagram sn_InvalidStep sn_InvalidLog sn_InvalidName sn_InvalidFormula sn_InvalidLine sn_InvalidTree sn_InvalidBook sn_UnknownPlace sn_UnknownVertex sn_UnknownName sn_UnknownMember sn_NotApplicable sn_NotSelf sn_NotNormal sn_Unrelated sn_DuplicateName sn_InUse sn_Cyclic sn_TooLarge sn_NothingToUndo sn_StrandError sn_Missing sn_Blocked : List Str}
    {ab_InvalidInteger ab_InvalidArity ab_InvalidPlace ab_InvalidPlaces ab_InvalidCover ab_InvalidPairs ab_InvalidTable ab_Mismatch ab_InvalidWord ab_InvalidPath ab_InvalidText ab_InvalidDiagram ab_InvalidStep ab_InvalidLog ab_InvalidName ab_InvalidFormula ab_InvalidLine ab_InvalidTree ab_InvalidBook ab_UnknownPlace ab_UnknownVertex ab_UnknownName ab_UnknownMember ab_NotApplicable ab_NotSelf ab_NotNormal ab_Unrelated ab_DuplicateName ab_InUse ab_Cyclic ab_TooLarge ab_NothingToUndo ab_StrandError ab_Missing ab_Blocked : Bool}
    {col_InvalidInteger col_InvalidArity col_InvalidPlace col_InvalidPlaces col_InvalidCover col_InvalidPairs col_InvalidTable col_Mismatch col_InvalidWord col_InvalidPath col_InvalidText col_InvalidDiagram col_InvalidStep col_InvalidLog col_InvalidName col_InvalidFormula col_InvalidLine col_InvalidTree col_InvalidBook col_UnknownPlace col_UnknownVertex col_UnknownName col_UnknownMember col_NotApplicable col_NotSelf col_NotNormal col_Unrelated col_DuplicateName col_InUse col_Cyclic col_TooLarge col_NothingToUndo col_StrandError col_Missing col_Blocked : Option Bool}
    {m0_InvalidInteger m1_InvalidInteger m2_InvalidInteger m3_InvalidInteger m5_InvalidInteger m0_InvalidArity m1_InvalidArity m2_InvalidArity m3_InvalidArity m5_InvalidArity m0_InvalidPlace m1_InvalidPlace m2_InvalidPlace m3_InvalidPlace m5_InvalidPlace m0_InvalidPlaces m1_InvalidPlaces m2_InvalidPlaces m3_InvalidPlaces m5_InvalidPlaces m0_InvalidCover m1_InvalidCover m2_InvalidCover m3_InvalidCover m5_InvalidCover m0_InvalidPairs m1_InvalidPairs m2_InvalidPairs m3_InvalidPairs m5_InvalidPairs m0_InvalidTable m1_InvalidTable m2_InvalidTable m3_InvalidTable m5_InvalidTable m0_Mismatch m1_Mismatch m2_Mismatch m3_Mismatch m5_Mismatch m0_InvalidWord m1_InvalidWord m2_InvalidWord m3_InvalidWord m5_InvalidWord m0_InvalidPath m1_InvalidPath m2_InvalidPath m3_InvalidPath m5_InvalidPath m0_InvalidText m1_InvalidText m2_InvalidText m3_InvalidText m5_InvalidText m0_InvalidDiagram m1_InvalidDiagram m2_InvalidDiagram m3_InvalidDiagram m5_InvalidDiagram m0_InvalidStep m1_InvalidStep m2_InvalidStep m3_InvalidStep m5_InvalidStep m0_InvalidLog m1_InvalidLog m2_InvalidLog m3_InvalidLog m5_InvalidLog m0_InvalidName m1_InvalidName m2_InvalidName m3_InvalidName m5_InvalidName m0_InvalidFormula m1_InvalidFormula m2_InvalidFormula m3_InvalidFormula m5_InvalidFormula m0_InvalidLine m1_InvalidLine m2_InvalidLine m3_InvalidLine m5_InvalidLine m0_InvalidTree m1_InvalidTree m2_InvalidTree m3_InvalidTree m5_InvalidTree m0_InvalidBook m1_InvalidBook m2_InvalidBook m3_InvalidBook m5_InvalidBook m0_UnknownPlace m1_UnknownPlace m2_UnknownPlace m3_UnknownPlace m5_UnknownPlace m0_UnknownVertex m1_UnknownVertex m2_UnknownVertex m3_UnknownVertex m5_UnknownVertex m0_UnknownName m1_UnknownName m2_UnknownName m3_UnknownName m5_UnknownName m0_UnknownMember m1_UnknownMember m2_UnknownMember m3_UnknownMember m5_UnknownMember m0_NotApplicable m1_NotApplicable m2_NotApplicable m3_NotApplicable m5_NotApplicable m0_NotSelf m1_NotSelf m2_NotSelf m3_NotSelf m5_NotSelf m0_NotNormal m1_NotNormal m2_NotNormal m3_NotNormal m5_NotNormal m0_Unrelated m1_Unrelated m2_Unrelated m3_Unrelated m5_Unrelated m0_DuplicateName m1_DuplicateName m2_DuplicateName m3_DuplicateName m5_DuplicateName m0_InUse m1_InUse m2_InUse m3_InUse m5_InUse m0_Cyclic m1_Cyclic m2_Cyclic m3_Cyclic m5_Cyclic m0_TooLarge m1_TooLarge m2_TooLarge m3_TooLarge m5_TooLarge m0_NothingToUndo m1_NothingToUndo m2_NothingToUndo m3_NothingToUndo m5_NothingToUndo m0_StrandError m1_StrandError m2_StrandError m3_StrandError m5_StrandError m0_Missing m1_Missing m2_Missing m3_Missing m5_Missing m0_Blocked m1_Blocked m2_Blocked m3_Blocked m5_Blocked : Option Value}
    {vs_InvalidInteger vs_InvalidArity vs_InvalidPlace vs_InvalidPlaces vs_InvalidCover vs_InvalidPairs vs_InvalidTable vs_Mismatch vs_InvalidWord vs_InvalidPath vs_InvalidText vs_InvalidDiagram vs_InvalidStep vs_InvalidLog vs_InvalidName vs_InvalidFormula vs_InvalidLine vs_InvalidTree vs_InvalidBook vs_UnknownPlace vs_UnknownVertex vs_UnknownName vs_UnknownMember vs_NotApplicable vs_NotSelf vs_NotNormal vs_Unrelated vs_DuplicateName vs_InUse vs_Cyclic vs_TooLarge vs_NothingToUndo : Array Value}
    {keC_ khm_ khn_ kf1_ kho_ khp_ khq_ kml_ kjp_ kjq_ kjr_ keD_ kjs_ kkk_ kjt_ keE_ kju_ kjv_ kjw_ khr_ kf2_ kjx_ kf3_ kf4_ knW_ klc_ kld_ kf5_ kra_ koS_ kmm_ kf6_ : Tok}
    (kpA_ : PySem.W.nsIn K mainGlobals "len" = some none)
    (kqJ_ : PySem.W.nsIn K mainGlobals "max" = some none)
    (kK_ : PySem.W.nsIn K mainGlobals "isinstance" = some none)
    (kaC_ : PySem.W.nsIn K mainGlobals "LookupError" = some none)
    (kb0_ : PySem.W.nsIn K mainGlobals "KeyError" = some none)
    (kaM_ : PySem.W.nsIn K mainGlobals "ValueError" = some none)
    (kcI_ : PySem.W.nsIn K mainGlobals "repr" = some none)
    (kqK_ : PySem.W.nsIn K mainGlobals "zip" = some none)
    (ke2_ : PySem.W.nsIn K mainGlobals "range" = some none)
    (krn_ : PySem.W.nsIn K mainGlobals "min" = some none)
    (a_l_cell' : PySem.W.nsIn K mainGlobals "_law_cell" = some (some (.ref kcE_)))
    (klF_ : K.lookup kcE_ = some ⟨kox_, koM_, .func (PySem.W.fnOf "_law_cell" "_law_cell" (defArgs kcD_) (defBody kcD_) (defScope kcD_) .none koy_ koz_ koA_ koN_ klD_ koB_), sl_l_cell⟩)
    (k_l_cell' : PySem.W.codeIn K klD_ "_law_cell" = true)
    (klG_ : PySem.W.keepIn K (.ref kcE_) = true)
    (a_l_box' : PySem.W.nsIn K mainGlobals "_law_box" = some (some (.ref kd6_)))
    (knX_ : K.lookup kd6_ = some ⟨kqW_, kq6_, .func (PySem.W.fnOf "_law_box" "_law_box" (defArgs keT_) (defBody keT_) (defScope keT_) .none kqX_ kqY_ kqZ_ kq7_ knm_ kq0_), sl_l_box⟩)
    (k_l_box' : PySem.W.codeIn K knm_ "_law_box" = true)
    (knY_ : PySem.W.keepIn K (.ref kd6_) = true)
    (a_l_take' : PySem.W.nsIn K mainGlobals "_law_take" = some (some (.ref kb4_)))
    (klH_ : K.lookup kb4_ = some ⟨koC_, koO_, .func (PySem.W.fnOf "_law_take" "_law_take" (defArgs kdu_) (defBody kdu_) (defScope kdu_) .none koD_ koE_ koF_ koP_ klE_ koG_), sl_l_take⟩)
    (k_l_take' : PySem.W.codeIn K klE_ "_law_take" = true)
    (klI_ : PySem.W.keepIn K (.ref kb4_) = true)
    (a_l_thing' : PySem.W.nsIn K mainGlobals "_law_thing" = some (some (.ref kaI_)))
    (kkl_ : K.lookup kaI_ = some ⟨knn_, knM_, .func (PySem.W.fnOf "_law_thing" "_law_thing" (defArgs kb5_) (defBody kb5_) (defScope kb5_) .none kno_ knp_ knq_ knN_ kj9_ knr_), sl_l_thing⟩)
    (k_l_thing' : PySem.W.codeIn K kj9_ "_law_thing" = true)
    (kkm_ : PySem.W.keepIn K (.ref kaI_) = true)
    (a_l_with_value' : PySem.W.nsIn K mainGlobals "_law_with_value" = some (some (.ref kR_)))
    (kdq_ : K.lookup kR_ = some ⟨kgz_, kg8_, .func (PySem.W.fnOf "_law_with_value" "_law_with_value" (defArgs k6_) (defBody k6_) (defScope k6_) .none kgA_ kgB_ kgC_ kg9_ kdp_ kgD_), sl_l_with_value⟩)
    (k_l_with_value' : PySem.W.codeIn K kdp_ "_law_with_value" = true)
    (kdr_ : PySem.W.keepIn K (.ref kR_) = true)
    (a_l_under' : PySem.W.nsIn K mainGlobals "_law_under" = some (some (.ref kY_)))
    (kkn_ : K.lookup kY_ = some ⟨kns_, knO_, .func (PySem.W.fnOf "_law_under" "_law_under" (defArgs kb7_) (defBody kb7_) (defScope kb7_) .none knt_ knu_ knv_ knP_ kka_ knw_), sl_l_under⟩)
    (k_l_under' : PySem.W.codeIn K kka_ "_law_under" = true)
    (kko_ : PySem.W.keepIn K (.ref kY_) = true)
    (a_l_alone' : PySem.W.nsIn K mainGlobals "_law_alone" = some (some (.ref kaB_)))
    (kkp_ : K.lookup kaB_ = some ⟨knx_, knQ_, .func (PySem.W.fnOf "_law_alone" "_law_alone" (defArgs kbp_) (defBody kbp_) (defScope kbp_) .none kny_ knz_ knA_ knR_ kkb_ knB_), sl_l_alone⟩)
    (k_l_alone' : PySem.W.codeIn K kkb_ "_law_alone" = true)
    (kkq_ : PySem.W.keepIn K (.ref kaB_) = true)
    (a_l_right' : PySem.W.nsIn K mainGlobals "_law_right" = some (some (.ref ka4_)))
    (kkr_ : K.lookup ka4_ = some ⟨knC_, knS_, .func (PySem.W.fnOf "_law_right" "_law_right" (defArgs kbq_) (defBody kbq_) (defScope kbq_) .none knD_ knE_ knF_ knT_ kkc_ knG_), sl_l_right⟩)
    (k_l_right' : PySem.W.codeIn K kkc_ "_law_right" = true)
    (kks_ : PySem.W.keepIn K (.ref ka4_) = true)
    (a_l_bases_right' : PySem.W.nsIn K mainGlobals "_law_bases_right" = some (some (.ref kS_)))
    (kc1_ : K.lookup kS_ = some ⟨kfe_, kfN_, .func (PySem.W.fnOf "_law_bases_right" "_law_bases_right" (defArgs k0_) (defBody k0_) (defScope k0_) .none kff_ kfg_ kfh_ kfO_ kc0_ kfi_), sl_l_bases_right⟩)
    (k_l_bases_right' : PySem.W.codeIn K kc0_ "_law_bases_right" = true)
    (kc2_ : PySem.W.keepIn K (.ref kS_) = true)
    (a_law' : PySem.W.nsIn K mainGlobals "law" = some (some (.ref kor_)))
    (ktC_ : K.lookup kor_ = some ⟨kwf_, kwk_, .func (PySem.W.fnOf "law" "law" (defArgs koq_) (defBody koq_) (defScope koq_) .none kwg_ kwh_ kwi_ kwl_ ktB_ kwj_), sl_law⟩)
    (k_law' : PySem.W.codeIn K ktB_ "law" = true)
    (ktD_ : PySem.W.keepIn K (.ref kor_) = true)
    (noS : PySem.W.nsIn K mainGlobals "super" = some none)
    (opq : PySem.W.nsIn K cStatics "thirdparty.any" = some none)
    (kbm_ : PySem.W.nsIn K mainGlobals "InvalidInteger" = some (some (.ref kb_)))
    (y_InvalidInteger : K.lookup kb_ = some (excClassObj nm_InvalidInteger qn_InvalidInteger kb_ kee_ bs_InvalidInteger bm_InvalidInteger true sn_InvalidInteger sub_InvalidInteger ab_InvalidInteger col_InvalidInteger dd_InvalidInteger m0_InvalidInteger m1_InvalidInteger m2_InvalidInteger m3_InvalidInteger m5_InvalidInteger "ValueError.__new__"))
    (v_InvalidInteger : kcu_ bxV.tl bm_InvalidInteger = true)
    (sa_InvalidInteger : PySem.W.findIn K (.ref kb_) "__setattr__" = some (some (.builtin "object.__setattr__")))
    (eC_InvalidInteger : PySem.W.subIn K (.ref kb_) (.type "BaseException") = some true)
    (tC_InvalidInteger : PySem.W.typeIn K (.ref kb_) = some (.type "type"))
    (kC_InvalidInteger : PySem.W.keepIn K (.ref kb_) = true)
    (ga_InvalidInteger : PySem.W.findIn K (.ref kb_) "__getattribute__" = some (some (.builtin "BaseException.__getattribute__")))
    (gg_InvalidInteger : PySem.W.findIn K (.ref kb_) "__getattr__" = some none)
    (hC_InvalidInteger : PySem.W.hasDictIn K kb_ = true)
    (nf0_InvalidInteger : PySem.W.findIn K (.ref kb_) "value" = some none)
    (iC_InvalidInteger : PySem.W.isClsIn K kb_ = true)
    (su_InvalidInteger : PySem.W.ks_superIn K kb_ kb_ "__init__" = some (some (.builtin "ValueError.__init__")))
    (iB_InvalidInteger : PySem.W.subIn K (.ref kb_) (.type "ValueError") = some true)
    (ini_InvalidInteger : PySem.W.findIn K (.ref kb_) "__init__" = some (some (.ref kaU_)))
    (ti_InvalidInteger : PySem.W.typeIn K (.ref kaU_) = some (.type "function"))
    (li_InvalidInteger : K.lookup kaU_ = some ⟨keh_, kew_, .func (PySem.W.ksFn "__init__" "InvalidInteger.__init__" (defArgs k3_) (defBody k3_) (defScope k3_) .none kei_ kej_ kek_ kex_ (.ref kaN_) kel_ kcy_), sl_InvalidInteger⟩)
    (ci_InvalidInteger : PySem.W.codeIn K (.ref kaN_) "InvalidInteger.__init__" = true)
    (ce_InvalidInteger : K.lookup kcy_ = some ⟨cl_InvalidInteger, cld_InvalidInteger, .cell (some (.ref kb_)), csl_InvalidInteger⟩)
    (co_InvalidInteger : K.lookup kaN_ = some ⟨ccl_InvalidInteger, cdd_InvalidInteger, .fields vs_InvalidInteger, ccs_InvalidInteger⟩)
    (fi_InvalidInteger : vs_InvalidInteger[2]? = some (.str ("/claim/cut.py" : Str) keC_))
    (kco_ : PySem.W.nsIn K mainGlobals "InvalidArity" = some (some (.ref kk_)))
    (y_InvalidArity : K.lookup kk_ = some (excClassObj nm_InvalidArity qn_InvalidArity kk_ kgt_ bs_InvalidArity bm_InvalidArity true sn_InvalidArity sub_InvalidArity ab_InvalidArity col_InvalidArity dd_InvalidArity m0_InvalidArity m1_InvalidArity m2_InvalidArity m3_InvalidArity m5_InvalidArity "ValueError.__new__"))
    (v_InvalidArity : kcu_ bxV.tl bm_InvalidArity = true)
    (sa_InvalidArity : PySem.W.findIn K (.ref kk_) "__setattr__" = some (some (.builtin "object.__setattr__")))
    (eC_InvalidArity : PySem.W.subIn K (.ref kk_) (.type "BaseException") = some true)
    (tC_InvalidArity : PySem.W.typeIn K (.ref kk_) = some (.type "type"))
    (kC_InvalidArity : PySem.W.keepIn K (.ref kk_) = true)
    (ga_InvalidArity : PySem.W.findIn K (.ref kk_) "__getattribute__" = some (some (.builtin "BaseException.__getattribute__")))
    (gg_InvalidArity : PySem.W.findIn K (.ref kk_) "__getattr__" = some none)
    (hC_InvalidArity : PySem.W.hasDictIn K kk_ = true)
    (nf0_InvalidArity : PySem.W.findIn K (.ref kk_) "value" = some none)
    (iC_InvalidArity : PySem.W.isClsIn K kk_ = true)
    (su_InvalidArity : PySem.W.ks_superIn K kk_ kk_ "__init__" = some (some (.builtin "ValueError.__init__")))
    (iB_InvalidArity : PySem.W.subIn K (.ref kk_) (.type "ValueError") = some true)
    (ini_InvalidArity : PySem.W.findIn K (.ref kk_) "__init__" = some (some (.ref kbz_)))
    (ti_InvalidArity : PySem.W.typeIn K (.ref kbz_) = some (.type "function"))
    (li_InvalidArity : K.lookup kbz_ = some ⟨kgE_, kha_, .func (PySem.W.ksFn "__init__" "InvalidArity.__init__" (defArgs kah_) (defBody kah_) (defScope kah_) .none kgF_ kgG_ kgH_ khb_ (.ref kba_) kgI_ kdj_), sl_InvalidArity⟩)
    (ci_InvalidArity : PySem.W.codeIn K (.ref kba_) "InvalidArity.__init__" = true)
    (ce_InvalidArity : K.lookup kdj_ = some ⟨cl_InvalidArity, cld_InvalidArity, .cell (some (.ref kk_)), csl_InvalidArity⟩)
    (co_InvalidArity : K.lookup kba_ = some ⟨ccl_InvalidArity, cdd_InvalidArity, .fields vs_InvalidArity, ccs_InvalidArity⟩)
    (fi_InvalidArity : vs_InvalidArity[2]? = some (.str ("/claim/cut.py" : Str) khm_))
    (kcp_ : PySem.W.nsIn K mainGlobals "InvalidPlace" = some (some (.ref kl_)))
    (y_InvalidPlace : K.lookup kl_ = some (excClassObj nm_InvalidPlace qn_InvalidPlace kl_ kgu_ bs_InvalidPlace bm_InvalidPlace true sn_InvalidPlace sub_InvalidPlace ab_InvalidPlace col_InvalidPlace dd_InvalidPlace m0_InvalidPlace m1_InvalidPlace m2_InvalidPlace m3_InvalidPlace m5_InvalidPlace "ValueError.__new__"))
    (v_InvalidPlace : kcu_ bxV.tl bm_InvalidPlace = true)
    (sa_InvalidPlace : PySem.W.findIn K (.ref kl_) "__setattr__" = some (some (.builtin "object.__setattr__")))
    (eC_InvalidPlace : PySem.W.subIn K (.ref kl_) (.type "BaseException") = some true)
    (tC_InvalidPlace : PySem.W.typeIn K (.ref kl_) = some (.type "type"))
    (kC_InvalidPlace : PySem.W.keepIn K (.ref kl_) = true)
    (ga_InvalidPlace : PySem.W.findIn K (.ref kl_) "__getattribute__" = some (some (.builtin "BaseException.__getattribute__")))
    (gg_InvalidPlace : PySem.W.findIn K (.ref kl_) "__getattr__" = some none)
    (hC_InvalidPlace : PySem.W.hasDictIn K kl_ = true)
    (nf0_InvalidPlace : PySem.W.findIn K (.ref kl_) "value" = some none)
    (iC_InvalidPlace : PySem.W.isClsIn K kl_ = true)
    (su_InvalidPlace : PySem.W.ks_superIn K kl_ kl_ "__init__" = some (some (.builtin "ValueError.__init__")))
    (iB_InvalidPlace : PySem.W.subIn K (.ref kl_) (.type "ValueError") = some true)
    (ini_InvalidPlace : PySem.W.findIn K (.ref kl_) "__init__" = some (some (.ref kbA_)))
    (ti_InvalidPlace : PySem.W.typeIn K (.ref kbA_) = some (.type "function"))
    (li_InvalidPlace : K.lookup kbA_ = some ⟨kgJ_, khc_, .func (PySem.W.ksFn "__init__" "InvalidPlace.__init__" (defArgs kai_) (defBody kai_) (defScope kai_) .none kgK_ kgL_ kgM_ khd_ (.ref kbb_) kgN_ kdk_), sl_InvalidPlace⟩)
    (ci_InvalidPlace : PySem.W.codeIn K (.ref kbb_) "InvalidPlace.__init__" = true)
    (ce_InvalidPlace : K.lookup kdk_ = some ⟨cl_InvalidPlace, cld_InvalidPlace, .cell (some (.ref kl_)), csl_InvalidPlace⟩)
    (co_InvalidPlace : K.lookup kbb_ = some ⟨ccl_InvalidPlace, cdd_InvalidPlace, .fields vs_InvalidPlace, ccs_InvalidPlace⟩)
    (fi_InvalidPlace : vs_InvalidPlace[2]? = some (.str ("/claim/cut.py" : Str) khn_))
    (kbO_ : PySem.W.nsIn K mainGlobals "InvalidPlaces" = some (some (.ref kh_)))
    (y_InvalidPlaces : K.lookup kh_ = some (excClassObj nm_InvalidPlaces qn_InvalidPlaces kh_ ke4_ bs_InvalidPlaces bm_InvalidPlaces true sn_InvalidPlaces sub_InvalidPlaces ab_InvalidPlaces col_InvalidPlaces dd_InvalidPlaces m0_InvalidPlaces m1_InvalidPlaces m2_InvalidPlaces m3_InvalidPlaces m5_InvalidPlaces "ValueError.__new__"))
    (v_InvalidPlaces : kcu_ bxV.tl bm_InvalidPlaces = true)
    (sa_InvalidPlaces : PySem.W.findIn K (.ref kh_) "__setattr__" = some (some (.builtin "object.__setattr__")))
    (eC_InvalidPlaces : PySem.W.subIn K (.ref kh_) (.type "BaseException") = some true)
    (tC_InvalidPlaces : PySem.W.typeIn K (.ref kh_) = some (.type "type"))
    (kC_InvalidPlaces : PySem.W.keepIn K (.ref kh_) = true)
    (ga_InvalidPlaces : PySem.W.findIn K (.ref kh_) "__getattribute__" = some (some (.builtin "BaseException.__getattribute__")))
    (gg_InvalidPlaces : PySem.W.findIn K (.ref kh_) "__getattr__" = some none)
    (hC_InvalidPlaces : PySem.W.hasDictIn K kh_ = true)
    (nf0_InvalidPlaces : PySem.W.findIn K (.ref kh_) "value" = some none)
    (iC_InvalidPlaces : PySem.W.isClsIn K kh_ = true)
    (su_InvalidPlaces : PySem.W.ks_superIn K kh_ kh_ "__init__" = some (some (.builtin "ValueError.__init__")))
    (iB_InvalidPlaces : PySem.W.subIn K (.ref kh_) (.type "ValueError") = some true)
    (ini_InvalidPlaces : PySem.W.findIn K (.ref kh_) "__init__" = some (some (.ref kbc_)))
    (ti_InvalidPlaces : PySem.W.typeIn K (.ref kbc_) = some (.type "function"))
    (li_InvalidPlaces : K.lookup kbc_ = some ⟨kfj_, kfP_, .func (PySem.W.ksFn "__init__" "InvalidPlaces.__init__" (defArgs k8_) (defBody k8_) (defScope k8_) .none kfk_ kfl_ kfm_ kfQ_ (.ref kaV_) kfn_ kcR_), sl_InvalidPlaces⟩)
    (ci_InvalidPlaces : PySem.W.codeIn K (.ref kaV_) "InvalidPlaces.__init__" = true)
    (ce_InvalidPlaces : K.lookup kcR_ = some ⟨cl_InvalidPlaces, cld_InvalidPlaces, .cell (some (.ref kh_)), csl_InvalidPlaces⟩)
    (co_InvalidPlaces : K.lookup kaV_ = some ⟨ccl_InvalidPlaces, cdd_InvalidPlaces, .fields vs_InvalidPlaces, ccs_InvalidPlaces⟩)
    (fi_InvalidPlaces : vs_InvalidPlaces[2]? = some (.str ("/claim/cut.py" : Str) kf1_))
    (kcq_ : PySem.W.nsIn K mainGlobals "InvalidCover" = some (some (.ref km_)))
    (y_InvalidCover : K.lookup km_ = some (excClassObj nm_InvalidCover qn_InvalidCover km_ kgv_ bs_InvalidCover bm_InvalidCover true sn_InvalidCover sub_InvalidCover ab_InvalidCover col_InvalidCover dd_InvalidCover m0_InvalidCover m1_InvalidCover m2_InvalidCover m3_InvalidCover m5_InvalidCover "ValueError.__new__"))
    (v_InvalidCover : kcu_ bxV.tl bm_InvalidCover = true)
    (sa_InvalidCover : PySem.W.findIn K (.ref km_) "__setattr__" = some (some (.builtin "object.__setattr__")))
    (eC_InvalidCover : PySem.W.subIn K (.ref km_) (.type "BaseException") = some true)
    (tC_InvalidCover : PySem.W.typeIn K (.ref km_) = some (.type "type"))
    (kC_InvalidCover : PySem.W.keepIn K (.ref km_) = true)
    (ga_InvalidCover : PySem.W.findIn K (.ref km_) "__getattribute__" = some (some (.builtin "BaseException.__getattribute__")))
    (gg_InvalidCover : PySem.W.findIn K (.ref km_) "__getattr__" = some none)
    (hC_InvalidCover : PySem.W.hasDictIn K km_ = true)
    (nf0_InvalidCover : PySem.W.findIn K (.ref km_) "value" = some none)
    (iC_InvalidCover : PySem.W.isClsIn K km_ = true)
    (su_InvalidCover : PySem.W.ks_superIn K km_ km_ "__init__" = some (some (.builtin "ValueError.__init__")))
    (iB_InvalidCover : PySem.W.subIn K (.ref km_) (.type "ValueError") = some true)
    (ini_InvalidCover : PySem.W.findIn K (.ref km_) "__init__" = some (some (.ref kbB_)))
    (ti_InvalidCover : PySem.W.typeIn K (.ref kbB_) = some (.type "function"))
    (li_InvalidCover : K.lookup kbB_ = some ⟨kgO_, khe_, .func (PySem.W.ksFn "__init__" "InvalidCover.__init__" (defArgs kaj_) (defBody kaj_) (defScope kaj_) .none kgP_ kgQ_ kgR_ khf_ (.ref kbd_) kgS_ kdl_), sl_InvalidCover⟩)
    (ci_InvalidCover : PySem.W.codeIn K (.ref kbd_) "InvalidCover.__init__" = true)
    (ce_InvalidCover : K.lookup kdl_ = some ⟨cl_InvalidCover, cld_InvalidCover, .cell (some (.ref km_)), csl_InvalidCover⟩)
    (co_InvalidCover : K.lookup kbd_ = some ⟨ccl_InvalidCover, cdd_InvalidCover, .fields vs_InvalidCover, ccs_InvalidCover⟩)
    (fi_InvalidCover : vs_InvalidCover[2]? = some (.str ("/claim/cut.py" : Str) kho_))
    (kcr_ : PySem.W.nsIn K mainGlobals "InvalidPairs" = some (some (.ref kn_)))
    (y_InvalidPairs : K.lookup kn_ = some (excClassObj nm_InvalidPairs qn_InvalidPairs kn_ kgw_ bs_InvalidPairs bm_InvalidPairs true sn_InvalidPairs sub_InvalidPairs ab_InvalidPairs col_InvalidPairs dd_InvalidPairs m0_InvalidPairs m1_InvalidPairs m2_InvalidPairs m3_InvalidPairs m5_InvalidPairs "ValueError.__new__"))
    (v_InvalidPairs : kcu_ bxV.tl bm_InvalidPairs = true)
    (sa_InvalidPairs : PySem.W.findIn K (.ref kn_) "__setattr__" = some (some (.builtin "object.__setattr__")))
    (eC_InvalidPairs : PySem.W.subIn K (.ref kn_) (.type "BaseException") = some true)
    (tC_InvalidPairs : PySem.W.typeIn K (.ref kn_) = some (.type "type"))
    (kC_InvalidPairs : PySem.W.keepIn K (.ref kn_) = true)
    (ga_InvalidPairs : PySem.W.findIn K (.ref kn_) "__getattribute__" = some (some (.builtin "BaseException.__getattribute__")))
    (gg_InvalidPairs : PySem.W.findIn K (.ref kn_) "__getattr__" = some none)
    (hC_InvalidPairs : PySem.W.hasDictIn K kn_ = true)
    (nf0_InvalidPairs : PySem.W.findIn K (.ref kn_) "value" = some none)
    (iC_InvalidPairs : PySem.W.isClsIn K kn_ = true)
    (su_InvalidPairs : PySem.W.ks_superIn K kn_ kn_ "__init__" = some (some (.builtin "ValueError.__init__")))
    (iB_InvalidPairs : PySem.W.subIn K (.ref kn_) (.type "ValueError") = some true)
    (ini_InvalidPairs : PySem.W.findIn K (.ref kn_) "__init__" = some (some (.ref kbC_)))
    (ti_InvalidPairs : PySem.W.typeIn K (.ref kbC_) = some (.type "function"))
    (li_InvalidPairs : K.lookup kbC_ = some ⟨kgT_, khg_, .func (PySem.W.ksFn "__init__" "InvalidPairs.__init__" (defArgs kak_) (defBody kak_) (defScope kak_) .none kgU_ kgV_ kgW_ khh_ (.ref kbe_) kgX_ kdm_), sl_InvalidPairs⟩)
    (ci_InvalidPairs : PySem.W.codeIn K (.ref kbe_) "InvalidPairs.__init__" = true)
    (ce_InvalidPairs : K.lookup kdm_ = some ⟨cl_InvalidPairs, cld_InvalidPairs, .cell (some (.ref kn_)), csl_InvalidPairs⟩)
    (co_InvalidPairs : K.lookup kbe_ = some ⟨ccl_InvalidPairs, cdd_InvalidPairs, .fields vs_InvalidPairs, ccs_InvalidPairs⟩)
    (fi_InvalidPairs : vs_InvalidPairs[2]? = some (.str ("/claim/cut.py" : Str) khp_))
    (kcs_ : PySem.W.nsIn K mainGlobals "InvalidTable" = some (some (.ref ko_)))
    (y_InvalidTable : K.lookup ko_ = some (excClassObj nm_InvalidTable qn_InvalidTable ko_ kgx_ bs_InvalidTable bm_InvalidTable true sn_InvalidTable sub_InvalidTable ab_InvalidTable col_InvalidTable dd_InvalidTable m0_InvalidTable m1_InvalidTable m2_InvalidTable m3_InvalidTable m5_InvalidTable "ValueError.__new__"))
    (v_InvalidTable : kcu_ bxV.tl bm_InvalidTable = true)
    (sa_InvalidTable : PySem.W.findIn K (.ref ko_) "__setattr__" = some (some (.builtin "object.__setattr__")))
    (eC_InvalidTable : PySem.W.subIn K (.ref ko_) (.type "BaseException") = some true)
    (tC_InvalidTable : PySem.W.typeIn K (.ref ko_) = some (.type "type"))
    (kC_InvalidTable : PySem.W.keepIn K (.ref ko_) = true)
    (ga_InvalidTable : PySem.W.findIn K (.ref ko_) "__getattribute__" = some (some (.builtin "BaseException.__getattribute__")))
    (gg_InvalidTable : PySem.W.findIn K (.ref ko_) "__getattr__" = some none)
    (hC_InvalidTable : PySem.W.hasDictIn K ko_ = true)
    (nf0_InvalidTable : PySem.W.findIn K (.ref ko_) "value" = some none)
    (iC_InvalidTable : PySem.W.isClsIn K ko_ = true)
    (su_InvalidTable : PySem.W.ks_superIn K ko_ ko_ "__init__" = some (some (.builtin "ValueError.__init__")))
    (iB_InvalidTable : PySem.W.subIn K (.ref ko_) (.type "ValueError") = some true)
    (ini_InvalidTable : PySem.W.findIn K (.ref ko_) "__init__" = some (some (.ref kbD_)))
    (ti_InvalidTable : PySem.W.typeIn K (.ref kbD_) = some (.type "function"))
    (li_InvalidTable : K.lookup kbD_ = some ⟨kgY_, khi_, .func (PySem.W.ksFn "__init__" "InvalidTable.__init__" (defArgs kal_) (defBody kal_) (defScope kal_) .none kgZ_ kg0_ kg1_ khj_ (.ref kbf_) kg2_ kdn_), sl_InvalidTable⟩)
    (ci_InvalidTable : PySem.W.codeIn K (.ref kbf_) "InvalidTable.__init__" = true)
    (ce_InvalidTable : K.lookup kdn_ = some ⟨cl_InvalidTable, cld_InvalidTable, .cell (some (.ref ko_)), csl_InvalidTable⟩)
    (co_InvalidTable : K.lookup kbf_ = some ⟨ccl_InvalidTable, cdd_InvalidTable, .fields vs_InvalidTable, ccs_InvalidTable⟩)
    (fi_InvalidTable : vs_InvalidTable[2]? = some (.str ("/claim/cut.py" : Str) khq_))
    (kf7_ : PySem.W.nsIn K mainGlobals "Mismatch" = some (some (.ref kC_)))
    (y_Mismatch : K.lookup kC_ = some (excClassObj nm_Mismatch qn_Mismatch kC_ kl5_ bs_Mismatch bm_Mismatch true sn_Mismatch sub_Mismatch ab_Mismatch col_Mismatch dd_Mismatch m0_Mismatch m1_Mismatch m2_Mismatch m3_Mismatch m5_Mismatch "ValueError.__new__"))
    (v_Mismatch : kcu_ bxV.tl bm_Mismatch = true)
    (sa_Mismatch : PySem.W.findIn K (.ref kC_) "__setattr__" = some (some (.builtin "object.__setattr__")))
    (eC_Mismatch : PySem.W.subIn K (.ref kC_) (.type "BaseException") = some true)
    (tC_Mismatch : PySem.W.typeIn K (.ref kC_) = some (.type "type"))
    (kC_Mismatch : PySem.W.keepIn K (.ref kC_) = true)
    (ga_Mismatch : PySem.W.findIn K (.ref kC_) "__getattribute__" = some (some (.builtin "BaseException.__getattribute__")))
    (gg_Mismatch : PySem.W.findIn K (.ref kC_) "__getattr__" = some none)
    (hC_Mismatch : PySem.W.hasDictIn K kC_ = true)
    (nf0_Mismatch : PySem.W.findIn K (.ref kC_) "one" = some none)
    (nf1_Mismatch : PySem.W.findIn K (.ref kC_) "other" = some none)
    (iC_Mismatch : PySem.W.isClsIn K kC_ = true)
    (su_Mismatch : PySem.W.ks_superIn K kC_ kC_ "__init__" = some (some (.builtin "ValueError.__init__")))
    (iB_Mismatch : PySem.W.subIn K (.ref kC_) (.type "ValueError") = some true)
    (ini_Mismatch : PySem.W.findIn K (.ref kC_) "__init__" = some (some (.ref kd1_)))
    (ti_Mismatch : PySem.W.typeIn K (.ref kd1_) = some (.type "function"))
    (li_Mismatch : K.lookup kd1_ = some ⟨kl7_, kmh_, .func (PySem.W.ksFn "__init__" "Mismatch.__init__" (defArgs ka6_) (defBody ka6_) (defScope ka6_) .none kl8_ kl9_ kma_ kmi_ (.ref kdw_) kmb_ khC_), sl_Mismatch⟩)
    (ci_Mismatch : PySem.W.codeIn K (.ref kdw_) "Mismatch.__init__" = true)
    (ce_Mismatch : K.lookup khC_ = some ⟨cl_Mismatch, cld_Mismatch, .cell (some (.ref kC_)), csl_Mismatch⟩)
    (co_Mismatch : K.lookup kdw_ = some ⟨ccl_Mismatch, cdd_Mismatch, .fields vs_Mismatch, ccs_Mismatch⟩)
    (fi_Mismatch : vs_Mismatch[2]? = some (.str ("/claim/cut.py" : Str) kml_))
    (kc3_ : PySem.W.nsIn K mainGlobals "InvalidWord" = some (some (.ref ks_)))
    (y_InvalidWord : K.lookup ks_ = some (excClassObj nm_InvalidWord qn_InvalidWord ks_ kic_ bs_InvalidWord bm_InvalidWord true sn_InvalidWord sub_InvalidWord ab_InvalidWord col_InvalidWord dd_InvalidWord m0_InvalidWord m1_InvalidWord m2_InvalidWord m3_InvalidWord m5_InvalidWord "ValueError.__new__"))
    (v_InvalidWord : kcu_ bxV.tl bm_InvalidWord = true)
    (sa_InvalidWord : PySem.W.findIn K (.ref ks_) "__setattr__" = some (some (.builtin "object.__setattr__")))
    (eC_InvalidWord : PySem.W.subIn K (.ref ks_) (.type "BaseException") = some true)
    (tC_InvalidWord : PySem.W.typeIn K (.ref ks_) = some (.type "type"))
    (kC_InvalidWord : PySem.W.keepIn K (.ref ks_) = true)
    (ga_InvalidWord : PySem.W.findIn K (.ref ks_) "__getattribute__" = some (some (.builtin "BaseException.__getattribute__")))
    (gg_InvalidWord : PySem.W.findIn K (.ref ks_) "__getattr__" = some none)
    (hC_InvalidWord : PySem.W.hasDictIn K ks_ = true)
    (nf0_InvalidWord : PySem.W.findIn K (.ref ks_) "value" = some none)
    (iC_InvalidWord : PySem.W.isClsIn K ks_ = true)
    (su_InvalidWord : PySem.W.ks_superIn K ks_ ks_ "__init__" = some (some (.builtin "ValueError.__init__")))
    (iB_InvalidWord : PySem.W.subIn K (.ref ks_) (.type "ValueError") = some true)
    (ini_InvalidWord : PySem.W.findIn K (.ref ks_) "__init__" = some (some (.ref kce_)))
    (ti_InvalidWord : PySem.W.typeIn K (.ref kce_) = some (.type "function"))
    (li_InvalidWord : K.lookup kce_ = some ⟨kio_, ki7_, .func (PySem.W.ksFn "__init__" "InvalidWord.__init__" (defArgs kar_) (defBody kar_) (defScope kar_) .none kip_ kiq_ kir_ ki8_ (.ref kbE_) kis_ kdP_), sl_InvalidWord⟩)
    (ci_InvalidWord : PySem.W.codeIn K (.ref kbE_) "InvalidWord.__init__" = true)
    (ce_InvalidWord : K.lookup kdP_ = some ⟨cl_InvalidWord, cld_InvalidWord, .cell (some (.ref ks_)), csl_InvalidWord⟩)
    (co_InvalidWord : K.lookup kbE_ = some ⟨ccl_InvalidWord, cdd_InvalidWord, .fields vs_InvalidWord, ccs_InvalidWord⟩)
    (fi_InvalidWord : vs_InvalidWord[2]? = some (.str ("/claim/cut.py" : Str) kjp_))
    (kc4_ : PySem.W.nsIn K mainGlobals "InvalidPath" = some (some (.ref kt_)))
    (y_InvalidPath : K.lookup kt_ = some (excClassObj nm_InvalidPath qn_InvalidPath kt_ kid_ bs_InvalidPath bm_InvalidPath true sn_InvalidPath sub_InvalidPath ab_InvalidPath col_InvalidPath dd_InvalidPath m0_InvalidPath m1_InvalidPath m2_InvalidPath m3_InvalidPath m5_InvalidPath "ValueError.__new__"))
    (v_InvalidPath : kcu_ bxV.tl bm_InvalidPath = true)
    (sa_InvalidPath : PySem.W.findIn K (.ref kt_) "__setattr__" = some (some (.builtin "object.__setattr__")))
    (eC_InvalidPath : PySem.W.subIn K (.ref kt_) (.type "BaseException") = some true)
    (tC_InvalidPath : PySem.W.typeIn K (.ref kt_) = some (.type "type"))
    (kC_InvalidPath : PySem.W.keepIn K (.ref kt_) = true)
    (ga_InvalidPath : PySem.W.findIn K (.ref kt_) "__getattribute__" = some (some (.builtin "BaseException.__getattribute__")))
    (gg_InvalidPath : PySem.W.findIn K (.ref kt_) "__getattr__" = some none)
    (hC_InvalidPath : PySem.W.hasDictIn K kt_ = true)
    (nf0_InvalidPath : PySem.W.findIn K (.ref kt_) "value" = some none)
    (iC_InvalidPath : PySem.W.isClsIn K kt_ = true)
    (su_InvalidPath : PySem.W.ks_superIn K kt_ kt_ "__init__" = some (some (.builtin "ValueError.__init__")))
    (iB_InvalidPath : PySem.W.subIn K (.ref kt_) (.type "ValueError") = some true)
    (ini_InvalidPath : PySem.W.findIn K (.ref kt_) "__init__" = some (some (.ref kcf_)))
    (ti_InvalidPath : PySem.W.typeIn K (.ref kcf_) = some (.type "function"))
    (li_InvalidPath : K.lookup kcf_ = some ⟨kit_, ki9_, .func (PySem.W.ksFn "__init__" "InvalidPath.__init__" (defArgs kas_) (defBody kas_) (defScope kas_) .none kiu_ kiv_ kiw_ kja_ (.ref kbF_) kix_ kdQ_), sl_InvalidPath⟩)
    (ci_InvalidPath : PySem.W.codeIn K (.ref kbF_) "InvalidPath.__init__" = true)
    (ce_InvalidPath : K.lookup kdQ_ = some ⟨cl_InvalidPath, cld_InvalidPath, .cell (some (.ref kt_)), csl_InvalidPath⟩)
    (co_InvalidPath : K.lookup kbF_ = some ⟨ccl_InvalidPath, cdd_InvalidPath, .fields vs_InvalidPath, ccs_InvalidPath⟩)
    (fi_InvalidPath : vs_InvalidPath[2]? = some (.str ("/claim/cut.py" : Str) kjq_))
    (kc5_ : PySem.W.nsIn K mainGlobals "InvalidText" = some (some (.ref kp_)))
    (y_InvalidText : K.lookup kp_ = some (excClassObj nm_InvalidText qn_InvalidText kp_ kie_ bs_InvalidText bm_InvalidText true sn_InvalidText sub_InvalidText ab_InvalidText col_InvalidText dd_InvalidText m0_InvalidText m1_InvalidText m2_InvalidText m3_InvalidText m5_InvalidText "ValueError.__new__"))
    (v_InvalidText : kcu_ bxV.tl bm_InvalidText = true)
    (sa_InvalidText : PySem.W.findIn K (.ref kp_) "__setattr__" = some (some (.builtin "object.__setattr__")))
    (eC_InvalidText : PySem.W.subIn K (.ref kp_) (.type "BaseException") = some true)
    (tC_InvalidText : PySem.W.typeIn K (.ref kp_) = some (.type "type"))
    (kC_InvalidText : PySem.W.keepIn K (.ref kp_) = true)
    (ga_InvalidText : PySem.W.findIn K (.ref kp_) "__getattribute__" = some (some (.builtin "BaseException.__getattribute__")))
    (gg_InvalidText : PySem.W.findIn K (.ref kp_) "__getattr__" = some none)
    (hC_InvalidText : PySem.W.hasDictIn K kp_ = true)
    (nf0_InvalidText : PySem.W.findIn K (.ref kp_) "position" = some none)
    (iC_InvalidText : PySem.W.isClsIn K kp_ = true)
    (su_InvalidText : PySem.W.ks_superIn K kp_ kp_ "__init__" = some (some (.builtin "ValueError.__init__")))
    (iB_InvalidText : PySem.W.subIn K (.ref kp_) (.type "ValueError") = some true)
    (ini_InvalidText : PySem.W.findIn K (.ref kp_) "__init__" = some (some (.ref kcg_)))
    (ti_InvalidText : PySem.W.typeIn K (.ref kcg_) = some (.type "function"))
    (li_InvalidText : K.lookup kcg_ = some ⟨kiy_, kjb_, .func (PySem.W.ksFn "__init__" "InvalidText.__init__" (defArgs kat_) (defBody kat_) (defScope kat_) .none kiz_ kiA_ kiB_ kjc_ (.ref kbG_) kiC_ kdR_), sl_InvalidText⟩)
    (ci_InvalidText : PySem.W.codeIn K (.ref kbG_) "InvalidText.__init__" = true)
    (ce_InvalidText : K.lookup kdR_ = some ⟨cl_InvalidText, cld_InvalidText, .cell (some (.ref kp_)), csl_InvalidText⟩)
    (co_InvalidText : K.lookup kbG_ = some ⟨ccl_InvalidText, cdd_InvalidText, .fields vs_InvalidText, ccs_InvalidText⟩)
    (fi_InvalidText : vs_InvalidText[2]? = some (.str ("/claim/cut.py" : Str) kjr_))
    (kbn_ : PySem.W.nsIn K mainGlobals "InvalidDiagram" = some (some (.ref kc_)))
    (y_InvalidDiagram : K.lookup kc_ = some (excClassObj nm_InvalidDiagram qn_InvalidDiagram kc_ kef_ bs_InvalidDiagram bm_InvalidDiagram true sn_InvalidDiagram sub_InvalidDiagram ab_InvalidDiagram col_InvalidDiagram dd_InvalidDiagram m0_InvalidDiagram m1_InvalidDiagram m2_InvalidDiagram m3_InvalidDiagram m5_InvalidDiagram "ValueError.__new__"))
    (v_InvalidDiagram : kcu_ bxV.tl bm_InvalidDiagram = true)
    (sa_InvalidDiagram : PySem.W.findIn K (.ref kc_) "__setattr__" = some (some (.builtin "object.__setattr__")))
    (eC_InvalidDiagram : PySem.W.subIn K (.ref kc_) (.type "BaseException") = some true)
    (tC_InvalidDiagram : PySem.W.typeIn K (.ref kc_) = some (.type "type"))
    (kC_InvalidDiagram : PySem.W.keepIn K (.ref kc_) = true)
    (ga_InvalidDiagram : PySem.W.findIn K (.ref kc_) "__getattribute__" = some (some (.builtin "BaseException.__getattribute__")))
    (gg_InvalidDiagram : PySem.W.findIn K (.ref kc_) "__getattr__" = some none)
    (hC_InvalidDiagram : PySem.W.hasDictIn K kc_ = true)
    (nf0_InvalidDiagram : PySem.W.findIn K (.ref kc_) "value" = some none)
    (iC_InvalidDiagram : PySem.W.isClsIn K kc_ = true)
    (su_InvalidDiagram : PySem.W.ks_superIn K kc_ kc_ "__init__" = some (some (.builtin "ValueError.__init__")))
    (iB_InvalidDiagram : PySem.W.subIn K (.ref kc_) (.type "ValueError") = some true)
    (ini_InvalidDiagram : PySem.W.findIn K (.ref kc_) "__init__" = some (some (.ref kaW_)))
    (ti_InvalidDiagram : PySem.W.typeIn K (.ref kaW_) = some (.type "function"))
    (li_InvalidDiagram : K.lookup kaW_ = some ⟨kem_, key_, .func (PySem.W.ksFn "__init__" "InvalidDiagram.__init__" (defArgs k4_) (defBody k4_) (defScope k4_) .none ken_ keo_ kep_ kez_ (.ref kaO_) keq_ kcz_), sl_InvalidDiagram⟩)
    (ci_InvalidDiagram : PySem.W.codeIn K (.ref kaO_) "InvalidDiagram.__init__" = true)
    (ce_InvalidDiagram : K.lookup kcz_ = some ⟨cl_InvalidDiagram, cld_InvalidDiagram, .cell (some (.ref kc_)), csl_InvalidDiagram⟩)
    (co_InvalidDiagram : K.lookup kaO_ = some ⟨ccl_InvalidDiagram, cdd_InvalidDiagram, .fields vs_InvalidDiagram, ccs_InvalidDiagram⟩)
    (fi_InvalidDiagram : vs_InvalidDiagram[2]? = some (.str ("/claim/cut.py" : Str) keD_))
    (kc6_ : PySem.W.nsIn K mainGlobals "InvalidStep" = some (some (.ref ku_)))
    (y_InvalidStep : K.lookup ku_ = some (excClassObj nm_InvalidStep qn_InvalidStep ku_ kif_ bs_InvalidStep bm_InvalidStep true sn_InvalidStep sub_InvalidStep ab_InvalidStep col_InvalidStep dd_InvalidStep m0_InvalidStep m1_InvalidStep m2_InvalidStep m3_InvalidStep m5_InvalidStep "ValueError.__new__"))
    (v_InvalidStep : kcu_ bxV.tl bm_InvalidStep = true)
    (sa_InvalidStep : PySem.W.findIn K (.ref ku_) "__setattr__" = some (some (.builtin "object.__setattr__")))
    (eC_InvalidStep : PySem.W.subIn K (.ref ku_) (.type "BaseException") = some true)
    (tC_InvalidStep : PySem.W.typeIn K (.ref ku_) = some (.type "type"))
    (kC_InvalidStep : PySem.W.keepIn K (.ref ku_) = true)
    (ga_InvalidStep : PySem.W.findIn K (.ref ku_) "__getattribute__" = some (some (.builtin "BaseException.__getattribute__")))
    (gg_InvalidStep : PySem.W.findIn K (.ref ku_) "__getattr__" = some none)
    (hC_InvalidStep : PySem.W.hasDictIn K ku_ = true)
    (nf0_InvalidStep : PySem.W.findIn K (.ref ku_) "value" = some none)
    (iC_InvalidStep : PySem.W.isClsIn K ku_ = true)
    (su_InvalidStep : PySem.W.ks_superIn K ku_ ku_ "__init__" = some (some (.builtin "ValueError.__init__")))
    (iB_InvalidStep : PySem.W.subIn K (.ref ku_) (.type "ValueError") = some true)
    (ini_InvalidStep : PySem.W.findIn K (.ref ku_) "__init__" = some (some (.ref kch_)))
    (ti_InvalidStep : PySem.W.typeIn K (.ref kch_) = some (.type "function"))
    (li_InvalidStep : K.lookup kch_ = some ⟨kiD_, kjd_, .func (PySem.W.ksFn "__init__" "InvalidStep.__init__" (defArgs kau_) (defBody kau_) (defScope kau_) .none kiE_ kiF_ kiG_ kje_ (.ref kbH_) kiH_ kdS_), sl_InvalidStep⟩)
    (ci_InvalidStep : PySem.W.codeIn K (.ref kbH_) "InvalidStep.__init__" = true)
    (ce_InvalidStep : K.lookup kdS_ = some ⟨cl_InvalidStep, cld_InvalidStep, .cell (some (.ref ku_)), csl_InvalidStep⟩)
    (co_InvalidStep : K.lookup kbH_ = some ⟨ccl_InvalidStep, cdd_InvalidStep, .fields vs_InvalidStep, ccs_InvalidStep⟩)
    (fi_InvalidStep : vs_InvalidStep[2]? = some (.str ("/claim/cut.py" : Str) kjs_))
    (kdA_ : PySem.W.nsIn K mainGlobals "InvalidLog" = some (some (.ref kz_)))
    (y_InvalidLog : K.lookup kz_ = some (excClassObj nm_InvalidLog qn_InvalidLog kz_ kj7_ bs_InvalidLog bm_InvalidLog true sn_InvalidLog sub_InvalidLog ab_InvalidLog col_InvalidLog dd_InvalidLog m0_InvalidLog m1_InvalidLog m2_InvalidLog m3_InvalidLog m5_InvalidLog "ValueError.__new__"))
    (v_InvalidLog : kcu_ bxV.tl bm_InvalidLog = true)
    (sa_InvalidLog : PySem.W.findIn K (.ref kz_) "__setattr__" = some (some (.builtin "object.__setattr__")))
    (eC_InvalidLog : PySem.W.subIn K (.ref kz_) (.type "BaseException") = some true)
    (tC_InvalidLog : PySem.W.typeIn K (.ref kz_) = some (.type "type"))
    (kC_InvalidLog : PySem.W.keepIn K (.ref kz_) = true)
    (ga_InvalidLog : PySem.W.findIn K (.ref kz_) "__getattribute__" = some (some (.builtin "BaseException.__getattribute__")))
    (gg_InvalidLog : PySem.W.findIn K (.ref kz_) "__getattr__" = some none)
    (hC_InvalidLog : PySem.W.hasDictIn K kz_ = true)
    (nf0_InvalidLog : PySem.W.findIn K (.ref kz_) "value" = some none)
    (iC_InvalidLog : PySem.W.isClsIn K kz_ = true)
    (su_InvalidLog : PySem.W.ks_superIn K kz_ kz_ "__init__" = some (some (.builtin "ValueError.__init__")))
    (iB_InvalidLog : PySem.W.subIn K (.ref kz_) (.type "ValueError") = some true)
    (ini_InvalidLog : PySem.W.findIn K (.ref kz_) "__init__" = some (some (.ref kcS_)))
    (ti_InvalidLog : PySem.W.typeIn K (.ref kcS_) = some (.type "function"))
    (li_InvalidLog : K.lookup kcS_ = some ⟨kkd_, kki_, .func (PySem.W.ksFn "__init__" "InvalidLog.__init__" (defArgs kaK_) (defBody kaK_) (defScope kaK_) .none kke_ kkf_ kkg_ kkj_ (.ref kci_) kkh_ kd7_), sl_InvalidLog⟩)
    (ci_InvalidLog : PySem.W.codeIn K (.ref kci_) "InvalidLog.__init__" = true)
    (ce_InvalidLog : K.lookup kd7_ = some ⟨cl_InvalidLog, cld_InvalidLog, .cell (some (.ref kz_)), csl_InvalidLog⟩)
    (co_InvalidLog : K.lookup kci_ = some ⟨ccl_InvalidLog, cdd_InvalidLog, .fields vs_InvalidLog, ccs_InvalidLog⟩)
    (fi_InvalidLog : vs_InvalidLog[2]? = some (.str ("/claim/cut.py" : Str) kkk_))
    (kc7_ : PySem.W.nsIn K mainGlobals "InvalidName" = some (some (.ref kv_)))
    (y_InvalidName : K.lookup kv_ = some (excClassObj nm_InvalidName qn_InvalidName kv_ kig_ bs_InvalidName bm_InvalidName true sn_InvalidName sub_InvalidName ab_InvalidName col_InvalidName dd_InvalidName m0_InvalidName m1_InvalidName m2_InvalidName m3_InvalidName m5_InvalidName "ValueError.__new__"))
    (v_InvalidName : kcu_ bxV.tl bm_InvalidName = true)
    (sa_InvalidName : PySem.W.findIn K (.ref kv_) "__setattr__" = some (some (.builtin "object.__setattr__")))
    (eC_InvalidName : PySem.W.subIn K (.ref kv_) (.type "BaseException") = some true)
    (tC_InvalidName : PySem.W.typeIn K (.ref kv_) = some (.type "type"))
    (kC_InvalidName : PySem.W.keepIn K (.ref kv_) = true)
    (ga_InvalidName : PySem.W.findIn K (.ref kv_) "__getattribute__" = some (some (.builtin "BaseException.__getattribute__")))
    (gg_InvalidName : PySem.W.findIn K (.ref kv_) "__getattr__" = some none)
    (hC_InvalidName : PySem.W.hasDictIn K kv_ = true)
    (nf0_InvalidName : PySem.W.findIn K (.ref kv_) "value" = some none)
    (iC_InvalidName : PySem.W.isClsIn K kv_ = true)
    (su_InvalidName : PySem.W.ks_superIn K kv_ kv_ "__init__" = some (some (.builtin "ValueError.__init__")))
    (iB_InvalidName : PySem.W.subIn K (.ref kv_) (.type "ValueError") = some true)
    (ini_InvalidName : PySem.W.findIn K (.ref kv_) "__init__" = some (some (.ref kcj_)))
    (ti_InvalidName : PySem.W.typeIn K (.ref kcj_) = some (.type "function"))
    (li_InvalidName : K.lookup kcj_ = some ⟨kiI_, kjf_, .func (PySem.W.ksFn "__init__" "InvalidName.__init__" (defArgs kav_) (defBody kav_) (defScope kav_) .none kiJ_ kiK_ kiL_ kjg_ (.ref kbI_) kiM_ kdT_), sl_InvalidName⟩)
    (ci_InvalidName : PySem.W.codeIn K (.ref kbI_) "InvalidName.__init__" = true)
    (ce_InvalidName : K.lookup kdT_ = some ⟨cl_InvalidName, cld_InvalidName, .cell (some (.ref kv_)), csl_InvalidName⟩)
    (co_InvalidName : K.lookup kbI_ = some ⟨ccl_InvalidName, cdd_InvalidName, .fields vs_InvalidName, ccs_InvalidName⟩)
    (fi_InvalidName : vs_InvalidName[2]? = some (.str ("/claim/cut.py" : Str) kjt_))
    (kbo_ : PySem.W.nsIn K mainGlobals "InvalidFormula" = some (some (.ref ka_)))
    (y_InvalidFormula : K.lookup ka_ = some (excClassObj nm_InvalidFormula qn_InvalidFormula ka_ keg_ bs_InvalidFormula bm_InvalidFormula true sn_InvalidFormula sub_InvalidFormula ab_InvalidFormula col_InvalidFormula dd_InvalidFormula m0_InvalidFormula m1_InvalidFormula m2_InvalidFormula m3_InvalidFormula m5_InvalidFormula "ValueError.__new__"))
    (v_InvalidFormula : kcu_ bxV.tl bm_InvalidFormula = true)
    (sa_InvalidFormula : PySem.W.findIn K (.ref ka_) "__setattr__" = some (some (.builtin "object.__setattr__")))
    (eC_InvalidFormula : PySem.W.subIn K (.ref ka_) (.type "BaseException") = some true)
    (tC_InvalidFormula : PySem.W.typeIn K (.ref ka_) = some (.type "type"))
    (kC_InvalidFormula : PySem.W.keepIn K (.ref ka_) = true)
    (ga_InvalidFormula : PySem.W.findIn K (.ref ka_) "__getattribute__" = some (some (.builtin "BaseException.__getattribute__")))
    (gg_InvalidFormula : PySem.W.findIn K (.ref ka_) "__getattr__" = some none)
    (hC_InvalidFormula : PySem.W.hasDictIn K ka_ = true)
    (nf0_InvalidFormula : PySem.W.findIn K (.ref ka_) "position" = some none)
    (iC_InvalidFormula : PySem.W.isClsIn K ka_ = true)
    (su_InvalidFormula : PySem.W.ks_superIn K ka_ ka_ "__init__" = some (some (.builtin "ValueError.__init__")))
    (iB_InvalidFormula : PySem.W.subIn K (.ref ka_) (.type "ValueError") = some true)
    (ini_InvalidFormula : PySem.W.findIn K (.ref ka_) "__init__" = some (some (.ref kaX_)))
    (ti_InvalidFormula : PySem.W.typeIn K (.ref kaX_) = some (.type "function"))
    (li_InvalidFormula : K.lookup kaX_ = some ⟨ker_, keA_, .func (PySem.W.ksFn "__init__" "InvalidFormula.__init__" (defArgs k5_) (defBody k5_) (defScope k5_) .none kes_ ket_ keu_ keB_ (.ref kaP_) kev_ kcA_), sl_InvalidFormula⟩)
    (ci_InvalidFormula : PySem.W.codeIn K (.ref kaP_) "InvalidFormula.__init__" = true)
    (ce_InvalidFormula : K.lookup kcA_ = some ⟨cl_InvalidFormula, cld_InvalidFormula, .cell (some (.ref ka_)), csl_InvalidFormula⟩)
    (co_InvalidFormula : K.lookup kaP_ = some ⟨ccl_InvalidFormula, cdd_InvalidFormula, .fields vs_InvalidFormula, ccs_InvalidFormula⟩)
    (fi_InvalidFormula : vs_InvalidFormula[2]? = some (.str ("/claim/cut.py" : Str) keE_))
    (kc8_ : PySem.W.nsIn K mainGlobals "InvalidLine" = some (some (.ref kw_)))
    (y_InvalidLine : K.lookup kw_ = some (excClassObj nm_InvalidLine qn_InvalidLine kw_ kih_ bs_InvalidLine bm_InvalidLine true sn_InvalidLine sub_InvalidLine ab_InvalidLine col_InvalidLine dd_InvalidLine m0_InvalidLine m1_InvalidLine m2_InvalidLine m3_InvalidLine m5_InvalidLine "ValueError.__new__"))
    (v_InvalidLine : kcu_ bxV.tl bm_InvalidLine = true)
    (sa_InvalidLine : PySem.W.findIn K (.ref kw_) "__setattr__" = some (some (.builtin "object.__setattr__")))
    (eC_InvalidLine : PySem.W.subIn K (.ref kw_) (.type "BaseException") = some true)
    (tC_InvalidLine : PySem.W.typeIn K (.ref kw_) = some (.type "type"))
    (kC_InvalidLine : PySem.W.keepIn K (.ref kw_) = true)
    (ga_InvalidLine : PySem.W.findIn K (.ref kw_) "__getattribute__" = some (some (.builtin "BaseException.__getattribute__")))
    (gg_InvalidLine : PySem.W.findIn K (.ref kw_) "__getattr__" = some none)
    (hC_InvalidLine : PySem.W.hasDictIn K kw_ = true)
    (nf0_InvalidLine : PySem.W.findIn K (.ref kw_) "value" = some none)
    (iC_InvalidLine : PySem.W.isClsIn K kw_ = true)
    (su_InvalidLine : PySem.W.ks_superIn K kw_ kw_ "__init__" = some (some (.builtin "ValueError.__init__")))
    (iB_InvalidLine : PySem.W.subIn K (.ref kw_) (.type "ValueError") = some true)
    (ini_InvalidLine : PySem.W.findIn K (.ref kw_) "__init__" = some (some (.ref kck_)))
    (ti_InvalidLine : PySem.W.typeIn K (.ref kck_) = some (.type "function"))
    (li_InvalidLine : K.lookup kck_ = some ⟨kiN_, kjh_, .func (PySem.W.ksFn "__init__" "InvalidLine.__init__" (defArgs kaw_) (defBody kaw_) (defScope kaw_) .none kiO_ kiP_ kiQ_ kji_ (.ref kbJ_) kiR_ kdU_), sl_InvalidLine⟩)
    (ci_InvalidLine : PySem.W.codeIn K (.ref kbJ_) "InvalidLine.__init__" = true)
    (ce_InvalidLine : K.lookup kdU_ = some ⟨cl_InvalidLine, cld_InvalidLine, .cell (some (.ref kw_)), csl_InvalidLine⟩)
    (co_InvalidLine : K.lookup kbJ_ = some ⟨ccl_InvalidLine, cdd_InvalidLine, .fields vs_InvalidLine, ccs_InvalidLine⟩)
    (fi_InvalidLine : vs_InvalidLine[2]? = some (.str ("/claim/cut.py" : Str) kju_))
    (kc9_ : PySem.W.nsIn K mainGlobals "InvalidTree" = some (some (.ref kx_)))
    (y_InvalidTree : K.lookup kx_ = some (excClassObj nm_InvalidTree qn_InvalidTree kx_ kii_ bs_InvalidTree bm_InvalidTree true sn_InvalidTree sub_InvalidTree ab_InvalidTree col_InvalidTree dd_InvalidTree m0_InvalidTree m1_InvalidTree m2_InvalidTree m3_InvalidTree m5_InvalidTree "ValueError.__new__"))
    (v_InvalidTree : kcu_ bxV.tl bm_InvalidTree = true)
    (sa_InvalidTree : PySem.W.findIn K (.ref kx_) "__setattr__" = some (some (.builtin "object.__setattr__")))
    (eC_InvalidTree : PySem.W.subIn K (.ref kx_) (.type "BaseException") = some true)
    (tC_InvalidTree : PySem.W.typeIn K (.ref kx_) = some (.type "type"))
    (kC_InvalidTree : PySem.W.keepIn K (.ref kx_) = true)
    (ga_InvalidTree : PySem.W.findIn K (.ref kx_) "__getattribute__" = some (some (.builtin "BaseException.__getattribute__")))
    (gg_InvalidTree : PySem.W.findIn K (.ref kx_) "__getattr__" = some none)
    (hC_InvalidTree : PySem.W.hasDictIn K kx_ = true)
    (nf0_InvalidTree : PySem.W.findIn K (.ref kx_) "value" = some none)
    (iC_InvalidTree : PySem.W.isClsIn K kx_ = true)
    (su_InvalidTree : PySem.W.ks_superIn K kx_ kx_ "__init__" = some (some (.builtin "ValueError.__init__")))
    (iB_InvalidTree : PySem.W.subIn K (.ref kx_) (.type "ValueError") = some true)
    (ini_InvalidTree : PySem.W.findIn K (.ref kx_) "__init__" = some (some (.ref kcl_)))
    (ti_InvalidTree : PySem.W.typeIn K (.ref kcl_) = some (.type "function"))
    (li_InvalidTree : K.lookup kcl_ = some ⟨kiS_, kjj_, .func (PySem.W.ksFn "__init__" "InvalidTree.__init__" (defArgs kax_) (defBody kax_) (defScope kax_) .none kiT_ kiU_ kiV_ kjk_ (.ref kbK_) kiW_ kdV_), sl_InvalidTree⟩)
    (ci_InvalidTree : PySem.W.codeIn K (.ref kbK_) "InvalidTree.__init__" = true)
    (ce_InvalidTree : K.lookup kdV_ = some ⟨cl_InvalidTree, cld_InvalidTree, .cell (some (.ref kx_)), csl_InvalidTree⟩)
    (co_InvalidTree : K.lookup kbK_ = some ⟨ccl_InvalidTree, cdd_InvalidTree, .fields vs_InvalidTree, ccs_InvalidTree⟩)
    (fi_InvalidTree : vs_InvalidTree[2]? = some (.str ("/claim/cut.py" : Str) kjv_))
    (kda_ : PySem.W.nsIn K mainGlobals "InvalidBook" = some (some (.ref ky_)))
    (y_InvalidBook : K.lookup ky_ = some (excClassObj nm_InvalidBook qn_InvalidBook ky_ kij_ bs_InvalidBook bm_InvalidBook true sn_InvalidBook sub_InvalidBook ab_InvalidBook col_InvalidBook dd_InvalidBook m0_InvalidBook m1_InvalidBook m2_InvalidBook m3_InvalidBook m5_InvalidBook "ValueError.__new__"))
    (v_InvalidBook : kcu_ bxV.tl bm_InvalidBook = true)
    (sa_InvalidBook : PySem.W.findIn K (.ref ky_) "__setattr__" = some (some (.builtin "object.__setattr__")))
    (eC_InvalidBook : PySem.W.subIn K (.ref ky_) (.type "BaseException") = some true)
    (tC_InvalidBook : PySem.W.typeIn K (.ref ky_) = some (.type "type"))
    (kC_InvalidBook : PySem.W.keepIn K (.ref ky_) = true)
    (ga_InvalidBook : PySem.W.findIn K (.ref ky_) "__getattribute__" = some (some (.builtin "BaseException.__getattribute__")))
    (gg_InvalidBook : PySem.W.findIn K (.ref ky_) "__getattr__" = some none)
    (hC_InvalidBook : PySem.W.hasDictIn K ky_ = true)
    (nf0_InvalidBook : PySem.W.findIn K (.ref ky_) "value" = some none)
    (iC_InvalidBook : PySem.W.isClsIn K ky_ = true)
    (su_InvalidBook : PySem.W.ks_superIn K ky_ ky_ "__init__" = some (some (.builtin "ValueError.__init__")))
    (iB_InvalidBook : PySem.W.subIn K (.ref ky_) (.type "ValueError") = some true)
    (ini_InvalidBook : PySem.W.findIn K (.ref ky_) "__init__" = some (some (.ref kcm_)))
    (ti_InvalidBook : PySem.W.typeIn K (.ref kcm_) = some (.type "function"))
    (li_InvalidBook : K.lookup kcm_ = some ⟨kiX_, kjl_, .func (PySem.W.ksFn "__init__" "InvalidBook.__init__" (defArgs kay_) (defBody kay_) (defScope kay_) .none kiY_ kiZ_ ki0_ kjm_ (.ref kbL_) ki1_ kdW_), sl_InvalidBook⟩)
    (ci_InvalidBook : PySem.W.codeIn K (.ref kbL_) "InvalidBook.__init__" = true)
    (ce_InvalidBook : K.lookup kdW_ = some ⟨cl_InvalidBook, cld_InvalidBook, .cell (some (.ref ky_)), csl_InvalidBook⟩)
    (co_InvalidBook : K.lookup kbL_ = some ⟨ccl_InvalidBook, cdd_InvalidBook, .fields vs_InvalidBook, ccs_InvalidBook⟩)
    (fi_InvalidBook : vs_InvalidBook[2]? = some (.str ("/claim/cut.py" : Str) kjw_))
    (kct_ : PySem.W.nsIn K mainGlobals "UnknownPlace" = some (some (.ref kj_)))
    (y_UnknownPlace : K.lookup kj_ = some (excClassObj nm_UnknownPlace qn_UnknownPlace kj_ kgy_ bs_UnknownPlace bm_UnknownPlace true sn_UnknownPlace sub_UnknownPlace ab_UnknownPlace col_UnknownPlace dd_UnknownPlace m0_UnknownPlace m1_UnknownPlace m2_UnknownPlace m3_UnknownPlace m5_UnknownPlace "LookupError.__new__"))
    (v_UnknownPlace : kcu_ bxK.tl bm_UnknownPlace = true)
    (sa_UnknownPlace : PySem.W.findIn K (.ref kj_) "__setattr__" = some (some (.builtin "object.__setattr__")))
    (eC_UnknownPlace : PySem.W.subIn K (.ref kj_) (.type "BaseException") = some true)
    (tC_UnknownPlace : PySem.W.typeIn K (.ref kj_) = some (.type "type"))
    (kC_UnknownPlace : PySem.W.keepIn K (.ref kj_) = true)
    (ga_UnknownPlace : PySem.W.findIn K (.ref kj_) "__getattribute__" = some (some (.builtin "BaseException.__getattribute__")))
    (gg_UnknownPlace : PySem.W.findIn K (.ref kj_) "__getattr__" = some none)
    (hC_UnknownPlace : PySem.W.hasDictIn K kj_ = true)
    (nf0_UnknownPlace : PySem.W.findIn K (.ref kj_) "value" = some none)
    (iC_UnknownPlace : PySem.W.isClsIn K kj_ = true)
    (su_UnknownPlace : PySem.W.ks_superIn K kj_ kj_ "__init__" = some (some (.builtin "KeyError.__init__")))
    (iB_UnknownPlace : PySem.W.subIn K (.ref kj_) (.type "KeyError") = some true)
    (ini_UnknownPlace : PySem.W.findIn K (.ref kj_) "__init__" = some (some (.ref kbM_)))
    (ti_UnknownPlace : PySem.W.typeIn K (.ref kbM_) = some (.type "function"))
    (li_UnknownPlace : K.lookup kbM_ = some ⟨kg3_, khk_, .func (PySem.W.ksFn "__init__" "UnknownPlace.__init__" (defArgs kam_) (defBody kam_) (defScope kam_) .none kg4_ kg5_ kg6_ khl_ (.ref kbg_) kg7_ kdo_), sl_UnknownPlace⟩)
    (ci_UnknownPlace : PySem.W.codeIn K (.ref kbg_) "UnknownPlace.__init__" = true)
    (ce_UnknownPlace : K.lookup kdo_ = some ⟨cl_UnknownPlace, cld_UnknownPlace, .cell (some (.ref kj_)), csl_UnknownPlace⟩)
    (co_UnknownPlace : K.lookup kbg_ = some ⟨ccl_UnknownPlace, cdd_UnknownPlace, .fields vs_UnknownPlace, ccs_UnknownPlace⟩)
    (fi_UnknownPlace : vs_UnknownPlace[2]? = some (.str ("/claim/cut.py" : Str) khr_))
    (kbP_ : PySem.W.nsIn K mainGlobals "UnknownVertex" = some (some (.ref kf_)))
    (y_UnknownVertex : K.lookup kf_ = some (excClassObj nm_UnknownVertex qn_UnknownVertex kf_ ke5_ bs_UnknownVertex bm_UnknownVertex true sn_UnknownVertex sub_UnknownVertex ab_UnknownVertex col_UnknownVertex dd_UnknownVertex m0_UnknownVertex m1_UnknownVertex m2_UnknownVertex m3_UnknownVertex m5_UnknownVertex "LookupError.__new__"))
    (v_UnknownVertex : kcu_ bxK.tl bm_UnknownVertex = true)
    (sa_UnknownVertex : PySem.W.findIn K (.ref kf_) "__setattr__" = some (some (.builtin "object.__setattr__")))
    (eC_UnknownVertex : PySem.W.subIn K (.ref kf_) (.type "BaseException") = some true)
    (tC_UnknownVertex : PySem.W.typeIn K (.ref kf_) = some (.type "type"))
    (kC_UnknownVertex : PySem.W.keepIn K (.ref kf_) = true)
    (ga_UnknownVertex : PySem.W.findIn K (.ref kf_) "__getattribute__" = some (some (.builtin "BaseException.__getattribute__")))
    (gg_UnknownVertex : PySem.W.findIn K (.ref kf_) "__getattr__" = some none)
    (hC_UnknownVertex : PySem.W.hasDictIn K kf_ = true)
    (nf0_UnknownVertex : PySem.W.findIn K (.ref kf_) "value" = some none)
    (iC_UnknownVertex : PySem.W.isClsIn K kf_ = true)
    (su_UnknownVertex : PySem.W.ks_superIn K kf_ kf_ "__init__" = some (some (.builtin "KeyError.__init__")))
    (iB_UnknownVertex : PySem.W.subIn K (.ref kf_) (.type "KeyError") = some true)
    (ini_UnknownVertex : PySem.W.findIn K (.ref kf_) "__init__" = some (some (.ref kbh_)))
    (ti_UnknownVertex : PySem.W.typeIn K (.ref kbh_) = some (.type "function"))
    (li_UnknownVertex : K.lookup kbh_ = some ⟨kfo_, kfR_, .func (PySem.W.ksFn "__init__" "UnknownVertex.__init__" (defArgs k9_) (defBody k9_) (defScope k9_) .none kfp_ kfq_ kfr_ kfS_ (.ref kaY_) kfs_ kcT_), sl_UnknownVertex⟩)
    (ci_UnknownVertex : PySem.W.codeIn K (.ref kaY_) "UnknownVertex.__init__" = true)
    (ce_UnknownVertex : K.lookup kcT_ = some ⟨cl_UnknownVertex, cld_UnknownVertex, .cell (some (.ref kf_)), csl_UnknownVertex⟩)
    (co_UnknownVertex : K.lookup kaY_ = some ⟨ccl_UnknownVertex, cdd_UnknownVertex, .fields vs_UnknownVertex, ccs_UnknownVertex⟩)
    (fi_UnknownVertex : vs_UnknownVertex[2]? = some (.str ("/claim/cut.py" : Str) kf2_))
    (kdb_ : PySem.W.nsIn K mainGlobals "UnknownName" = some (some (.ref kr_)))
    (y_UnknownName : K.lookup kr_ = some (excClassObj nm_UnknownName qn_UnknownName kr_ kik_ bs_UnknownName bm_UnknownName true sn_UnknownName sub_UnknownName ab_UnknownName col_UnknownName dd_UnknownName m0_UnknownName m1_UnknownName m2_UnknownName m3_UnknownName m5_UnknownName "LookupError.__new__"))
    (v_UnknownName : kcu_ bxK.tl bm_UnknownName = true)
    (sa_UnknownName : PySem.W.findIn K (.ref kr_) "__setattr__" = some (some (.builtin "object.__setattr__")))
    (eC_UnknownName : PySem.W.subIn K (.ref kr_) (.type "BaseException") = some true)
    (tC_UnknownName : PySem.W.typeIn K (.ref kr_) = some (.type "type"))
    (kC_UnknownName : PySem.W.keepIn K (.ref kr_) = true)
    (ga_UnknownName : PySem.W.findIn K (.ref kr_) "__getattribute__" = some (some (.builtin "BaseException.__getattribute__")))
    (gg_UnknownName : PySem.W.findIn K (.ref kr_) "__getattr__" = some none)
    (hC_UnknownName : PySem.W.hasDictIn K kr_ = true)
    (nf0_UnknownName : PySem.W.findIn K (.ref kr_) "value" = some none)
    (iC_UnknownName : PySem.W.isClsIn K kr_ = true)
    (su_UnknownName : PySem.W.ks_superIn K kr_ kr_ "__init__" = some (some (.builtin "KeyError.__init__")))
    (iB_UnknownName : PySem.W.subIn K (.ref kr_) (.type "KeyError") = some true)
    (ini_UnknownName : PySem.W.findIn K (.ref kr_) "__init__" = some (some (.ref kcn_)))
    (ti_UnknownName : PySem.W.typeIn K (.ref kcn_) = some (.type "function"))
    (li_UnknownName : K.lookup kcn_ = some ⟨ki2_, kjn_, .func (PySem.W.ksFn "__init__" "UnknownName.__init__" (defArgs kaz_) (defBody kaz_) (defScope kaz_) .none ki3_ ki4_ ki5_ kjo_ (.ref kbN_) ki6_ kdX_), sl_UnknownName⟩)
    (ci_UnknownName : PySem.W.codeIn K (.ref kbN_) "UnknownName.__init__" = true)
    (ce_UnknownName : K.lookup kdX_ = some ⟨cl_UnknownName, cld_UnknownName, .cell (some (.ref kr_)), csl_UnknownName⟩)
    (co_UnknownName : K.lookup kbN_ = some ⟨ccl_UnknownName, cdd_UnknownName, .fields vs_UnknownName, ccs_UnknownName⟩)
    (fi_UnknownName : vs_UnknownName[2]? = some (.str ("/claim/cut.py" : Str) kjx_))
    (kbQ_ : PySem.W.nsIn K mainGlobals "UnknownMember" = some (some (.ref kg_)))
    (y_UnknownMember : K.lookup kg_ = some (excClassObj nm_UnknownMember qn_UnknownMember kg_ ke6_ bs_UnknownMember bm_UnknownMember true sn_UnknownMember sub_UnknownMember ab_UnknownMember col_UnknownMember dd_UnknownMember m0_UnknownMember m1_UnknownMember m2_UnknownMember m3_UnknownMember m5_UnknownMember "LookupError.__new__"))
    (v_UnknownMember : kcu_ bxK.tl bm_UnknownMember = true)
    (sa_UnknownMember : PySem.W.findIn K (.ref kg_) "__setattr__" = some (some (.builtin "object.__setattr__")))
    (eC_UnknownMember : PySem.W.subIn K (.ref kg_) (.type "BaseException") = some true)
    (tC_UnknownMember : PySem.W.typeIn K (.ref kg_) = some (.type "type"))
    (kC_UnknownMember : PySem.W.keepIn K (.ref kg_) = true)
    (ga_UnknownMember : PySem.W.findIn K (.ref kg_) "__getattribute__" = some (some (.builtin "BaseException.__getattribute__")))
    (gg_UnknownMember : PySem.W.findIn K (.ref kg_) "__getattr__" = some none)
    (hC_UnknownMember : PySem.W.hasDictIn K kg_ = true)
    (nf0_UnknownMember : PySem.W.findIn K (.ref kg_) "value" = some none)
    (iC_UnknownMember : PySem.W.isClsIn K kg_ = true)
    (su_UnknownMember : PySem.W.ks_superIn K kg_ kg_ "__init__" = some (some (.builtin "KeyError.__init__")))
    (iB_UnknownMember : PySem.W.subIn K (.ref kg_) (.type "KeyError") = some true)
    (ini_UnknownMember : PySem.W.findIn K (.ref kg_) "__init__" = some (some (.ref kbi_)))
    (ti_UnknownMember : PySem.W.typeIn K (.ref kbi_) = some (.type "function"))
    (li_UnknownMember : K.lookup kbi_ = some ⟨kft_, kfT_, .func (PySem.W.ksFn "__init__" "UnknownMember.__init__" (defArgs kaa_) (defBody kaa_) (defScope kaa_) .none kfu_ kfv_ kfw_ kfU_ (.ref kaZ_) kfx_ kcU_), sl_UnknownMember⟩)
    (ci_UnknownMember : PySem.W.codeIn K (.ref kaZ_) "UnknownMember.__init__" = true)
    (ce_UnknownMember : K.lookup kcU_ = some ⟨cl_UnknownMember, cld_UnknownMember, .cell (some (.ref kg_)), csl_UnknownMember⟩)
    (co_UnknownMember : K.lookup kaZ_ = some ⟨ccl_UnknownMember, cdd_UnknownMember, .fields vs_UnknownMember, ccs_UnknownMember⟩)
    (fi_UnknownMember : vs_UnknownMember[2]? = some (.str ("/claim/cut.py" : Str) kf3_))
    (kbR_ : PySem.W.nsIn K mainGlobals "NotApplicable" = some (some (.ref kd_)))
    (y_NotApplicable : K.lookup kd_ = some (excClassObj nm_NotApplicable qn_NotApplicable kd_ ke7_ bs_NotApplicable bm_NotApplicable true sn_NotApplicable sub_NotApplicable ab_NotApplicable col_NotApplicable dd_NotApplicable m0_NotApplicable m1_NotApplicable m2_NotApplicable m3_NotApplicable m5_NotApplicable "LookupError.__new__"))
    (v_NotApplicable : kcu_ bxL.tl bm_NotApplicable = true)
    (sa_NotApplicable : PySem.W.findIn K (.ref kd_) "__setattr__" = some (some (.builtin "object.__setattr__")))
    (eC_NotApplicable : PySem.W.subIn K (.ref kd_) (.type "BaseException") = some true)
    (tC_NotApplicable : PySem.W.typeIn K (.ref kd_) = some (.type "type"))
    (kC_NotApplicable : PySem.W.keepIn K (.ref kd_) = true)
    (ga_NotApplicable : PySem.W.findIn K (.ref kd_) "__getattribute__" = some (some (.builtin "BaseException.__getattribute__")))
    (gg_NotApplicable : PySem.W.findIn K (.ref kd_) "__getattr__" = some none)
    (hC_NotApplicable : PySem.W.hasDictIn K kd_ = true)
    (nf0_NotApplicable : PySem.W.findIn K (.ref kd_) "step" = some none)
    (nf1_NotApplicable : PySem.W.findIn K (.ref kd_) "reason" = some none)
    (iC_NotApplicable : PySem.W.isClsIn K kd_ = true)
    (su_NotApplicable : PySem.W.ks_superIn K kd_ kd_ "__init__" = some (some (.builtin "LookupError.__init__")))
    (iB_NotApplicable : PySem.W.subIn K (.ref kd_) (.type "LookupError") = some true)
    (ini_NotApplicable : PySem.W.findIn K (.ref kd_) "__init__" = some (some (.ref kbj_)))
    (ti_NotApplicable : PySem.W.typeIn K (.ref kbj_) = some (.type "function"))
    (li_NotApplicable : K.lookup kbj_ = some ⟨kfy_, kfV_, .func (PySem.W.ksFn "__init__" "NotApplicable.__init__" (defArgs kab_) (defBody kab_) (defScope kab_) .none kfz_ kfA_ kfB_ kfW_ (.ref ka0_) kfC_ kcV_), sl_NotApplicable⟩)
    (ci_NotApplicable : PySem.W.codeIn K (.ref ka0_) "NotApplicable.__init__" = true)
    (ce_NotApplicable : K.lookup kcV_ = some ⟨cl_NotApplicable, cld_NotApplicable, .cell (some (.ref kd_)), csl_NotApplicable⟩)
    (co_NotApplicable : K.lookup ka0_ = some ⟨ccl_NotApplicable, cdd_NotApplicable, .fields vs_NotApplicable, ccs_NotApplicable⟩)
    (fi_NotApplicable : vs_NotApplicable[2]? = some (.str ("/claim/cut.py" : Str) kf4_))
    (kjy_ : PySem.W.nsIn K mainGlobals "NotSelf" = some (some (.ref kG_)))
    (y_NotSelf : K.lookup kG_ = some (excClassObj nm_NotSelf qn_NotSelf kG_ kni_ bs_NotSelf bm_NotSelf true sn_NotSelf sub_NotSelf ab_NotSelf col_NotSelf dd_NotSelf m0_NotSelf m1_NotSelf m2_NotSelf m3_NotSelf m5_NotSelf "LookupError.__new__"))
    (v_NotSelf : kcu_ bxL.tl bm_NotSelf = true)
    (sa_NotSelf : PySem.W.findIn K (.ref kG_) "__setattr__" = some (some (.builtin "object.__setattr__")))
    (eC_NotSelf : PySem.W.subIn K (.ref kG_) (.type "BaseException") = some true)
    (tC_NotSelf : PySem.W.typeIn K (.ref kG_) = some (.type "type"))
    (kC_NotSelf : PySem.W.keepIn K (.ref kG_) = true)
    (ga_NotSelf : PySem.W.findIn K (.ref kG_) "__getattribute__" = some (some (.builtin "BaseException.__getattribute__")))
    (gg_NotSelf : PySem.W.findIn K (.ref kG_) "__getattr__" = some none)
    (hC_NotSelf : PySem.W.hasDictIn K kG_ = true)
    (nf0_NotSelf : PySem.W.findIn K (.ref kG_) "value" = some none)
    (iC_NotSelf : PySem.W.isClsIn K kG_ = true)
    (su_NotSelf : PySem.W.ks_superIn K kG_ kG_ "__init__" = some (some (.builtin "LookupError.__init__")))
    (iB_NotSelf : PySem.W.subIn K (.ref kG_) (.type "LookupError") = some true)
    (ini_NotSelf : PySem.W.findIn K (.ref kG_) "__init__" = some (some (.ref ke8_)))
    (ti_NotSelf : PySem.W.typeIn K (.ref ke8_) = some (.type "function"))
    (li_NotSelf : K.lookup ke8_ = some ⟨knH_, knU_, .func (PySem.W.ksFn "__init__" "NotSelf.__init__" (defArgs kbZ_) (defBody kbZ_) (defScope kbZ_) .none knI_ knJ_ knK_ knV_ (.ref kd2_) knL_ kj8_), sl_NotSelf⟩)
    (ci_NotSelf : PySem.W.codeIn K (.ref kd2_) "NotSelf.__init__" = true)
    (ce_NotSelf : K.lookup kj8_ = some ⟨cl_NotSelf, cld_NotSelf, .cell (some (.ref kG_)), csl_NotSelf⟩)
    (co_NotSelf : K.lookup kd2_ = some ⟨ccl_NotSelf, cdd_NotSelf, .fields vs_NotSelf, ccs_NotSelf⟩)
    (fi_NotSelf : vs_NotSelf[2]? = some (.str ("/claim/cut.py" : Str) knW_))
    (kd4_ : PySem.W.nsIn K mainGlobals "NotNormal" = some (some (.ref kB_)))
    (y_NotNormal : K.lookup kB_ = some (excClassObj nm_NotNormal qn_NotNormal kB_ kkV_ bs_NotNormal bm_NotNormal true sn_NotNormal sub_NotNormal ab_NotNormal col_NotNormal dd_NotNormal m0_NotNormal m1_NotNormal m2_NotNormal m3_NotNormal m5_NotNormal "LookupError.__new__"))
    (v_NotNormal : kcu_ bxL.tl bm_NotNormal = true)
    (sa_NotNormal : PySem.W.findIn K (.ref kB_) "__setattr__" = some (some (.builtin "object.__setattr__")))
    (eC_NotNormal : PySem.W.subIn K (.ref kB_) (.type "BaseException") = some true)
    (tC_NotNormal : PySem.W.typeIn K (.ref kB_) = some (.type "type"))
    (kC_NotNormal : PySem.W.keepIn K (.ref kB_) = true)
    (ga_NotNormal : PySem.W.findIn K (.ref kB_) "__getattribute__" = some (some (.builtin "BaseException.__getattribute__")))
    (gg_NotNormal : PySem.W.findIn K (.ref kB_) "__getattr__" = some none)
    (hC_NotNormal : PySem.W.hasDictIn K kB_ = true)
    (nf0_NotNormal : PySem.W.findIn K (.ref kB_) "value" = some none)
    (iC_NotNormal : PySem.W.isClsIn K kB_ = true)
    (su_NotNormal : PySem.W.ks_superIn K kB_ kB_ "__init__" = some (some (.builtin "LookupError.__init__")))
    (iB_NotNormal : PySem.W.subIn K (.ref kB_) (.type "LookupError") = some true)
    (ini_NotNormal : PySem.W.findIn K (.ref kB_) "__init__" = some (some (.ref kdx_)))
    (ti_NotNormal : PySem.W.typeIn K (.ref kdx_) = some (.type "function"))
    (li_NotNormal : K.lookup kdx_ = some ⟨kkY_, kk8_, .func (PySem.W.ksFn "__init__" "NotNormal.__init__" (defArgs kaR_) (defBody kaR_) (defScope kaR_) .none kkZ_ kk0_ kk1_ kk9_ (.ref kcW_) kk2_ ke9_), sl_NotNormal⟩)
    (ci_NotNormal : PySem.W.codeIn K (.ref kcW_) "NotNormal.__init__" = true)
    (ce_NotNormal : K.lookup ke9_ = some ⟨cl_NotNormal, cld_NotNormal, .cell (some (.ref kB_)), csl_NotNormal⟩)
    (co_NotNormal : K.lookup kcW_ = some ⟨ccl_NotNormal, cdd_NotNormal, .fields vs_NotNormal, ccs_NotNormal⟩)
    (fi_NotNormal : vs_NotNormal[2]? = some (.str ("/claim/cut.py" : Str) klc_))
    (kd5_ : PySem.W.nsIn K mainGlobals "Unrelated" = some (some (.ref kA_)))
    (y_Unrelated : K.lookup kA_ = some (excClassObj nm_Unrelated qn_Unrelated kA_ kkW_ bs_Unrelated bm_Unrelated true sn_Unrelated sub_Unrelated ab_Unrelated col_Unrelated dd_Unrelated m0_Unrelated m1_Unrelated m2_Unrelated m3_Unrelated m5_Unrelated "LookupError.__new__"))
    (v_Unrelated : kcu_ bxL.tl bm_Unrelated = true)
    (sa_Unrelated : PySem.W.findIn K (.ref kA_) "__setattr__" = some (some (.builtin "object.__setattr__")))
    (eC_Unrelated : PySem.W.subIn K (.ref kA_) (.type "BaseException") = some true)
    (tC_Unrelated : PySem.W.typeIn K (.ref kA_) = some (.type "type"))
    (kC_Unrelated : PySem.W.keepIn K (.ref kA_) = true)
    (ga_Unrelated : PySem.W.findIn K (.ref kA_) "__getattribute__" = some (some (.builtin "BaseException.__getattribute__")))
    (gg_Unrelated : PySem.W.findIn K (.ref kA_) "__getattr__" = some none)
    (hC_Unrelated : PySem.W.hasDictIn K kA_ = true)
    (nf0_Unrelated : PySem.W.findIn K (.ref kA_) "one" = some none)
    (nf1_Unrelated : PySem.W.findIn K (.ref kA_) "other" = some none)
    (iC_Unrelated : PySem.W.isClsIn K kA_ = true)
    (su_Unrelated : PySem.W.ks_superIn K kA_ kA_ "__init__" = some (some (.builtin "LookupError.__init__")))
    (iB_Unrelated : PySem.W.subIn K (.ref kA_) (.type "LookupError") = some true)
    (ini_Unrelated : PySem.W.findIn K (.ref kA_) "__init__" = some (some (.ref kdy_)))
    (ti_Unrelated : PySem.W.typeIn K (.ref kdy_) = some (.type "function"))
    (li_Unrelated : K.lookup kdy_ = some ⟨kk3_, kla_, .func (PySem.W.ksFn "__init__" "Unrelated.__init__" (defArgs kaS_) (defBody kaS_) (defScope kaS_) .none kk4_ kk5_ kk6_ klb_ (.ref kcX_) kk7_ kfa_), sl_Unrelated⟩)
    (ci_Unrelated : PySem.W.codeIn K (.ref kcX_) "Unrelated.__init__" = true)
    (ce_Unrelated : K.lookup kfa_ = some ⟨cl_Unrelated, cld_Unrelated, .cell (some (.ref kA_)), csl_Unrelated⟩)
    (co_Unrelated : K.lookup kcX_ = some ⟨ccl_Unrelated, cdd_Unrelated, .fields vs_Unrelated, ccs_Unrelated⟩)
    (fi_Unrelated : vs_Unrelated[2]? = some (.str ("/claim/cut.py" : Str) kld_))
    (kbS_ : PySem.W.nsIn K mainGlobals "DuplicateName" = some (some (.ref ki_)))
    (y_DuplicateName : K.lookup ki_ = some (excClassObj nm_DuplicateName qn_DuplicateName ki_ kfb_ bs_DuplicateName bm_DuplicateName true sn_DuplicateName sub_DuplicateName ab_DuplicateName col_DuplicateName dd_DuplicateName m0_DuplicateName m1_DuplicateName m2_DuplicateName m3_DuplicateName m5_DuplicateName "LookupError.__new__"))
    (v_DuplicateName : kcu_ bxL.tl bm_DuplicateName = true)
    (sa_DuplicateName : PySem.W.findIn K (.ref ki_) "__setattr__" = some (some (.builtin "object.__setattr__")))
    (eC_DuplicateName : PySem.W.subIn K (.ref ki_) (.type "BaseException") = some true)
    (tC_DuplicateName : PySem.W.typeIn K (.ref ki_) = some (.type "type"))
    (kC_DuplicateName : PySem.W.keepIn K (.ref ki_) = true)
    (ga_DuplicateName : PySem.W.findIn K (.ref ki_) "__getattribute__" = some (some (.builtin "BaseException.__getattribute__")))
    (gg_DuplicateName : PySem.W.findIn K (.ref ki_) "__getattr__" = some none)
    (hC_DuplicateName : PySem.W.hasDictIn K ki_ = true)
    (nf0_DuplicateName : PySem.W.findIn K (.ref ki_) "value" = some none)
    (iC_DuplicateName : PySem.W.isClsIn K ki_ = true)
    (su_DuplicateName : PySem.W.ks_superIn K ki_ ki_ "__init__" = some (some (.builtin "LookupError.__init__")))
    (iB_DuplicateName : PySem.W.subIn K (.ref ki_) (.type "LookupError") = some true)
    (ini_DuplicateName : PySem.W.findIn K (.ref ki_) "__init__" = some (some (.ref kbk_)))
    (ti_DuplicateName : PySem.W.typeIn K (.ref kbk_) = some (.type "function"))
    (li_DuplicateName : K.lookup kbk_ = some ⟨kfD_, kfX_, .func (PySem.W.ksFn "__init__" "DuplicateName.__init__" (defArgs kac_) (defBody kac_) (defScope kac_) .none kfE_ kfF_ kfG_ kfY_ (.ref ka1_) kfH_ kcY_), sl_DuplicateName⟩)
    (ci_DuplicateName : PySem.W.codeIn K (.ref ka1_) "DuplicateName.__init__" = true)
    (ce_DuplicateName : K.lookup kcY_ = some ⟨cl_DuplicateName, cld_DuplicateName, .cell (some (.ref ki_)), csl_DuplicateName⟩)
    (co_DuplicateName : K.lookup ka1_ = some ⟨ccl_DuplicateName, cdd_DuplicateName, .fields vs_DuplicateName, ccs_DuplicateName⟩)
    (fi_DuplicateName : vs_DuplicateName[2]? = some (.str ("/claim/cut.py" : Str) kf5_))
    (knZ_ : PySem.W.nsIn K mainGlobals "InUse" = some (some (.ref kI_)))
    (y_InUse : K.lookup kI_ = some (excClassObj nm_InUse qn_InUse kI_ kqV_ bs_InUse bm_InUse true sn_InUse sub_InUse ab_InUse col_InUse dd_InUse m0_InUse m1_InUse m2_InUse m3_InUse m5_InUse "LookupError.__new__"))
    (v_InUse : kcu_ bxL.tl bm_InUse = true)
    (sa_InUse : PySem.W.findIn K (.ref kI_) "__setattr__" = some (some (.builtin "object.__setattr__")))
    (eC_InUse : PySem.W.subIn K (.ref kI_) (.type "BaseException") = some true)
    (tC_InUse : PySem.W.typeIn K (.ref kI_) = some (.type "type"))
    (kC_InUse : PySem.W.keepIn K (.ref kI_) = true)
    (ga_InUse : PySem.W.findIn K (.ref kI_) "__getattribute__" = some (some (.builtin "BaseException.__getattribute__")))
    (gg_InUse : PySem.W.findIn K (.ref kI_) "__getattr__" = some none)
    (hC_InUse : PySem.W.hasDictIn K kI_ = true)
    (nf0_InUse : PySem.W.findIn K (.ref kI_) "value" = some none)
    (iC_InUse : PySem.W.isClsIn K kI_ = true)
    (su_InUse : PySem.W.ks_superIn K kI_ kI_ "__init__" = some (some (.builtin "LookupError.__init__")))
    (iB_InUse : PySem.W.subIn K (.ref kI_) (.type "LookupError") = some true)
    (ini_InUse : PySem.W.findIn K (.ref kI_) "__init__" = some (some (.ref kkX_)))
    (ti_InUse : PySem.W.typeIn K (.ref kkX_) = some (.type "function"))
    (li_InUse : K.lookup kkX_ = some ⟨kq1_, kq8_, .func (PySem.W.ksFn "__init__" "InUse.__init__" (defArgs kdL_) (defBody kdL_) (defScope kdL_) .none kq2_ kq3_ kq4_ kq9_ (.ref kil_) kq5_ knj_), sl_InUse⟩)
    (ci_InUse : PySem.W.codeIn K (.ref kil_) "InUse.__init__" = true)
    (ce_InUse : K.lookup knj_ = some ⟨cl_InUse, cld_InUse, .cell (some (.ref kI_)), csl_InUse⟩)
    (co_InUse : K.lookup kil_ = some ⟨ccl_InUse, cdd_InUse, .fields vs_InUse, ccs_InUse⟩)
    (fi_InUse : vs_InUse[2]? = some (.str ("/claim/cut.py" : Str) kra_))
    (kle_ : PySem.W.nsIn K mainGlobals "Cyclic" = some (some (.ref kH_)))
    (y_Cyclic : K.lookup kH_ = some (excClassObj nm_Cyclic qn_Cyclic kH_ kow_ bs_Cyclic bm_Cyclic true sn_Cyclic sub_Cyclic ab_Cyclic col_Cyclic dd_Cyclic m0_Cyclic m1_Cyclic m2_Cyclic m3_Cyclic m5_Cyclic "LookupError.__new__"))
    (v_Cyclic : kcu_ bxL.tl bm_Cyclic = true)
    (sa_Cyclic : PySem.W.findIn K (.ref kH_) "__setattr__" = some (some (.builtin "object.__setattr__")))
    (eC_Cyclic : PySem.W.subIn K (.ref kH_) (.type "BaseException") = some true)
    (tC_Cyclic : PySem.W.typeIn K (.ref kH_) = some (.type "type"))
    (kC_Cyclic : PySem.W.keepIn K (.ref kH_) = true)
    (ga_Cyclic : PySem.W.findIn K (.ref kH_) "__getattribute__" = some (some (.builtin "BaseException.__getattribute__")))
    (gg_Cyclic : PySem.W.findIn K (.ref kH_) "__getattr__" = some none)
    (hC_Cyclic : PySem.W.hasDictIn K kH_ = true)
    (nf0_Cyclic : PySem.W.findIn K (.ref kH_) "cycle" = some none)
    (iC_Cyclic : PySem.W.isClsIn K kH_ = true)
    (su_Cyclic : PySem.W.ks_superIn K kH_ kH_ "__init__" = some (some (.builtin "LookupError.__init__")))
    (iB_Cyclic : PySem.W.subIn K (.ref kH_) (.type "LookupError") = some true)
    (ini_Cyclic : PySem.W.findIn K (.ref kH_) "__init__" = some (some (.ref kim_)))
    (ti_Cyclic : PySem.W.typeIn K (.ref kim_) = some (.type "function"))
    (li_Cyclic : K.lookup kim_ = some ⟨koH_, koQ_, .func (PySem.W.ksFn "__init__" "Cyclic.__init__" (defArgs kcH_) (defBody kcH_) (defScope kcH_) .none koI_ koJ_ koK_ koR_ (.ref kfc_) koL_ klC_), sl_Cyclic⟩)
    (ci_Cyclic : PySem.W.codeIn K (.ref kfc_) "Cyclic.__init__" = true)
    (ce_Cyclic : K.lookup klC_ = some ⟨cl_Cyclic, cld_Cyclic, .cell (some (.ref kH_)), csl_Cyclic⟩)
    (co_Cyclic : K.lookup kfc_ = some ⟨ccl_Cyclic, cdd_Cyclic, .fields vs_Cyclic, ccs_Cyclic⟩)
    (fi_Cyclic : vs_Cyclic[2]? = some (.str ("/claim/cut.py" : Str) koS_))
    (kf8_ : PySem.W.nsIn K mainGlobals "TooLarge" = some (some (.ref kD_)))
    (y_TooLarge : K.lookup kD_ = some (excClassObj nm_TooLarge qn_TooLarge kD_ kl6_ bs_TooLarge bm_TooLarge true sn_TooLarge sub_TooLarge ab_TooLarge col_TooLarge dd_TooLarge m0_TooLarge m1_TooLarge m2_TooLarge m3_TooLarge m5_TooLarge "LookupError.__new__"))
    (v_TooLarge : kcu_ bxL.tl bm_TooLarge = true)
    (sa_TooLarge : PySem.W.findIn K (.ref kD_) "__setattr__" = some (some (.builtin "object.__setattr__")))
    (eC_TooLarge : PySem.W.subIn K (.ref kD_) (.type "BaseException") = some true)
    (tC_TooLarge : PySem.W.typeIn K (.ref kD_) = some (.type "type"))
    (kC_TooLarge : PySem.W.keepIn K (.ref kD_) = true)
    (ga_TooLarge : PySem.W.findIn K (.ref kD_) "__getattribute__" = some (some (.builtin "BaseException.__getattribute__")))
    (gg_TooLarge : PySem.W.findIn K (.ref kD_) "__getattr__" = some none)
    (hC_TooLarge : PySem.W.hasDictIn K kD_ = true)
    (nf0_TooLarge : PySem.W.findIn K (.ref kD_) "total" = some none)
    (iC_TooLarge : PySem.W.isClsIn K kD_ = true)
    (su_TooLarge : PySem.W.ks_superIn K kD_ kD_ "__init__" = some (some (.builtin "LookupError.__init__")))
    (iB_TooLarge : PySem.W.subIn K (.ref kD_) (.type "LookupError") = some true)
    (ini_TooLarge : PySem.W.findIn K (.ref kD_) "__init__" = some (some (.ref kd3_)))
    (ti_TooLarge : PySem.W.typeIn K (.ref kd3_) = some (.type "function"))
    (li_TooLarge : K.lookup kd3_ = some ⟨kmc_, kmj_, .func (PySem.W.ksFn "__init__" "TooLarge.__init__" (defArgs ka7_) (defBody ka7_) (defScope ka7_) .none kmd_ kme_ kmf_ kmk_ (.ref kdz_) kmg_ khD_), sl_TooLarge⟩)
    (ci_TooLarge : PySem.W.codeIn K (.ref kdz_) "TooLarge.__init__" = true)
    (ce_TooLarge : K.lookup khD_ = some ⟨cl_TooLarge, cld_TooLarge, .cell (some (.ref kD_)), csl_TooLarge⟩)
    (co_TooLarge : K.lookup kdz_ = some ⟨ccl_TooLarge, cdd_TooLarge, .fields vs_TooLarge, ccs_TooLarge⟩)
    (fi_TooLarge : vs_TooLarge[2]? = some (.str ("/claim/cut.py" : Str) kmm_))
    (kbT_ : PySem.W.nsIn K mainGlobals "NothingToUndo" = some (some (.ref ke_)))
    (y_NothingToUndo : K.lookup ke_ = some (excClassObj nm_NothingToUndo qn_NothingToUndo ke_ kfd_ bs_NothingToUndo bm_NothingToUndo true sn_NothingToUndo sub_NothingToUndo ab_NothingToUndo col_NothingToUndo dd_NothingToUndo m0_NothingToUndo m1_NothingToUndo m2_NothingToUndo m3_NothingToUndo m5_NothingToUndo "LookupError.__new__"))
    (v_NothingToUndo : kcu_ bxL.tl bm_NothingToUndo = true)
    (sa_NothingToUndo : PySem.W.findIn K (.ref ke_) "__setattr__" = some (some (.builtin "object.__setattr__")))
    (eC_NothingToUndo : PySem.W.subIn K (.ref ke_) (.type "BaseException") = some true)
    (tC_NothingToUndo : PySem.W.typeIn K (.ref ke_) = some (.type "type"))
    (kC_NothingToUndo : PySem.W.keepIn K (.ref ke_) = true)
    (ga_NothingToUndo : PySem.W.findIn K (.ref ke_) "__getattribute__" = some (some (.builtin "BaseException.__getattribute__")))
    (gg_NothingToUndo : PySem.W.findIn K (.ref ke_) "__getattr__" = some none)
    (hC_NothingToUndo : PySem.W.hasDictIn K ke_ = true)
    (iC_NothingToUndo : PySem.W.isClsIn K ke_ = true)
    (su_NothingToUndo : PySem.W.ks_superIn K ke_ ke_ "__init__" = some (some (.builtin "LookupError.__init__")))
    (iB_NothingToUndo : PySem.W.subIn K (.ref ke_) (.type "LookupError") = some true)
    (ini_NothingToUndo : PySem.W.findIn K (.ref ke_) "__init__" = some (some (.ref kbl_)))
    (ti_NothingToUndo : PySem.W.typeIn K (.ref kbl_) = some (.type "function"))
    (li_NothingToUndo : K.lookup kbl_ = some ⟨kfI_, kfZ_, .func (PySem.W.ksFn "__init__" "NothingToUndo.__init__" (defArgs kad_) (defBody kad_) (defScope kad_) .none kfJ_ kfK_ kfL_ kf0_ (.ref ka2_) kfM_ kcZ_), sl_NothingToUndo⟩)
    (ci_NothingToUndo : PySem.W.codeIn K (.ref ka2_) "NothingToUndo.__init__" = true)
    (ce_NothingToUndo : K.lookup kcZ_ = some ⟨cl_NothingToUndo, cld_NothingToUndo, .cell (some (.ref ke_)), csl_NothingToUndo⟩)
    (co_NothingToUndo : K.lookup ka2_ = some ⟨ccl_NothingToUndo, cdd_NothingToUndo, .fields vs_NothingToUndo, ccs_NothingToUndo⟩)
    (fi_NothingToUndo : vs_NothingToUndo[2]? = some (.str ("/claim/cut.py" : Str) kf6_))
    (kdc_ : PySem.W.nsIn K mainGlobals "StrandError" = some (some (.ref kq_)))
    (y_StrandError : K.lookup kq_ = some (excClassObj nm_StrandError qn_StrandError kq_ kin_ bs_StrandError bm_StrandError true sn_StrandError sub_StrandError ab_StrandError col_StrandError dd_StrandError m0_StrandError m1_StrandError m2_StrandError m3_StrandError m5_StrandError "ValueError.__new__"))
    (v_StrandError : kcu_ bxV.tl bm_StrandError = true)
    (sa_StrandError : PySem.W.findIn K (.ref kq_) "__setattr__" = some (some (.builtin "object.__setattr__")))
    (eC_StrandError : PySem.W.subIn K (.ref kq_) (.type "BaseException") = some true)
    (tC_StrandError : PySem.W.typeIn K (.ref kq_) = some (.type "type"))
    (kC_StrandError : PySem.W.keepIn K (.ref kq_) = true)
    (xn_StrandError : PySem.W.findIn K (.ref kq_) "__init__" = some (some (.builtin "ValueError.__init__")))
    (kjz_ : PySem.W.nsIn K mainGlobals "Missing" = some (some (.ref kF_)))
    (y_Missing : K.lookup kF_ = some (excClassObj nm_Missing qn_Missing kF_ knk_ bs_Missing bm_Missing true sn_Missing sub_Missing ab_Missing col_Missing dd_Missing m0_Missing m1_Missing m2_Missing m3_Missing m5_Missing "LookupError.__new__"))
    (v_Missing : kcu_ bxK.tl bm_Missing = true)
    (sa_Missing : PySem.W.findIn K (.ref kF_) "__setattr__" = some (some (.builtin "object.__setattr__")))
    (eC_Missing : PySem.W.subIn K (.ref kF_) (.type "BaseException") = some true)
    (tC_Missing : PySem.W.typeIn K (.ref kF_) = some (.type "type"))
    (kC_Missing : PySem.W.keepIn K (.ref kF_) = true)
    (xn_Missing : PySem.W.findIn K (.ref kF_) "__init__" = some (some (.builtin "KeyError.__init__")))
    (kjA_ : PySem.W.nsIn K mainGlobals "Blocked" = some (some (.ref kE_)))
    (y_Blocked : K.lookup kE_ = some (excClassObj nm_Blocked qn_Blocked kE_ knl_ bs_Blocked bm_Blocked true sn_Blocked sub_Blocked ab_Blocked col_Blocked dd_Blocked m0_Blocked m1_Blocked m2_Blocked m3_Blocked m5_Blocked "LookupError.__new__"))
    (v_Blocked : kcu_ bxL.tl bm_Blocked = true)
    (sa_Blocked : PySem.W.findIn K (.ref kE_) "__setattr__" = some (some (.builtin "object.__setattr__")))
    (eC_Blocked : PySem.W.subIn K (.ref kE_) (.type "BaseException") = some true)
    (tC_Blocked : PySem.W.typeIn K (.ref kE_) = some (.type "type"))
    (kC_Blocked : PySem.W.keepIn K (.ref kE_) = true)
    (xn_Blocked : PySem.W.findIn K (.ref kE_) "__init__" = some (some (.builtin "LookupError.__init__")))
    (et : kpr_ K (row kb_ kk_ kl_ kh_ km_ kn_ ko_ kC_ ks_ kt_ kp_ kc_ ku_ kz_ kv_ ka_ kw_ kx_ ky_ kj_ kf_ kr_ kg_ kd_ kG_ kB_ kA_ ki_ kI_ kH_ kD_ ke_ kq_ kF_ kE_) = true)
    : Tx K mg kb_ kk_ kl_ kh_ km_ kn_ ko_ kC_ ks_ kt_ kp_ kc_ ku_ kz_ kv_ ka_ kw_ kx_ ky_ kj_ kf_ kr_ kg_ kd_ kG_ kB_ kA_ ki_ kI_ kH_ kD_ ke_ kq_ kF_ kE_ where
  kpA_ := PySem.W.mg_none_of X G kpA_
  kqJ_ := PySem.W.mg_none_of X G kqJ_
  kK_ := PySem.W.mg_none_of X G kK_
  kaC_ := PySem.W.mg_none_of X G kaC_
  kb0_ := PySem.W.mg_none_of X G kb0_
  kaM_ := PySem.W.mg_none_of X G kaM_
  kcI_ := PySem.W.mg_none_of X G kcI_
  kqK_ := PySem.W.mg_none_of X G kqK_
  ke2_ := PySem.W.mg_none_of X G ke2_
  krn_ := PySem.W.mg_none_of X G krn_
  kna_ := ⟨_, _, fun_mk (st := kcD_) klF_ k_l_cell' klG_, PySem.W.mg_of X G a_l_cell', (fun_mk (st := kcD_) klF_ k_l_cell' klG_).binds (ps := kdZ_) fun _ _ _ _ _ _ us hl => match us, hl with | [_, _], _ => rfl⟩
  kpB_ := ⟨_, _, fun_mk (st := keT_) knX_ k_l_box' knY_, PySem.W.mg_of X G a_l_box', (fun_mk (st := keT_) knX_ k_l_box' knY_).binds (ps := kj1_) fun _ _ _ _ _ _ us hl => match us, hl with | [_], _ => rfl⟩
  knb_ := ⟨_, _, fun_mk (st := kdu_) klH_ k_l_take' klI_, PySem.W.mg_of X G a_l_take', (fun_mk (st := kdu_) klH_ k_l_take' klI_).binds (ps := keU_) fun _ _ _ _ _ _ us hl => match us, hl with | [_, _], _ => rfl⟩
  kly_ := ⟨_, _, fun_mk (st := kb5_) kkl_ k_l_thing' kkm_, PySem.W.mg_of X G a_l_thing', (fun_mk (st := kb5_) kkl_ k_l_thing' kkm_).binds (ps := kdG_) fun _ _ _ _ _ _ us hl => match us, hl with | [_], _ => rfl⟩
  kdM_ := ⟨_, _, fun_mk (st := k6_) kdq_ k_l_with_value' kdr_, PySem.W.mg_of X G a_l_with_value', (fun_mk (st := k6_) kdq_ k_l_with_value' kdr_).binds (ps := kaJ_) fun _ _ _ _ _ _ us hl => match us, hl with | [_], _ => rfl⟩
  klz_ := ⟨_, _, fun_mk (st := kb7_) kkn_ k_l_under' kko_, PySem.W.mg_of X G a_l_under', (fun_mk (st := kb7_) kkn_ k_l_under' kko_).binds (ps := kdH_) fun _ _ _ _ _ _ us hl => match us, hl with | [_, _], _ => rfl⟩
  klA_ := ⟨_, _, fun_mk (st := kbp_) kkp_ k_l_alone' kkq_, PySem.W.mg_of X G a_l_alone', (fun_mk (st := kbp_) kkp_ k_l_alone' kkq_).binds (ps := kdI_) fun _ _ _ _ _ _ us hl => match us, hl with | [_], _ => rfl⟩
  klB_ := ⟨_, _, fun_mk (st := kbq_) kkr_ k_l_right' kks_, PySem.W.mg_of X G a_l_right', (fun_mk (st := kbq_) kkr_ k_l_right' kks_).binds (ps := kdJ_) fun _ _ _ _ _ _ us hl => match us, hl with | [_, _], _ => rfl⟩
  kdh_ := ⟨_, _, fun_mk (st := k0_) kc1_ k_l_bases_right' kc2_, PySem.W.mg_of X G a_l_bases_right', (fun_mk (st := k0_) kc1_ k_l_bases_right' kc2_).binds (ps := kaq_) fun _ _ _ _ _ _ us hl => match us, hl with | [], _ => rfl⟩
  kwZ_ := ⟨_, _, fun_mk (st := koq_) ktC_ k_law' ktD_, PySem.W.mg_of X G a_law', (fun_mk (st := koq_) ktC_ k_law' ktD_).binds (ps := krm_) fun _ _ _ _ _ _ us hl => match us, hl with | [_], _ => rfl⟩
  ka8_ := ⟨PySem.W.mg_of X G kbm_, kbU_, ⟨⟨_, _, _, _, _, _, _, _, _, _, _, _, _, _, _, y_InvalidInteger, v_InvalidInteger⟩, sa_InvalidInteger, eC_InvalidInteger, tC_InvalidInteger, kC_InvalidInteger⟩, ⟨ga_InvalidInteger, gg_InvalidInteger, eC_InvalidInteger, hC_InvalidInteger⟩, (List.forall_mem_cons.mpr ⟨nf0_InvalidInteger, (fun _ z => nomatch z)⟩), iC_InvalidInteger, PySem.W.mg_none_of X G noS, opq, su_InvalidInteger, iB_InvalidInteger,
    ⟨_, _, _, _, _, _, _, _, _, _, _, _, ini_InvalidInteger, ti_InvalidInteger, li_InvalidInteger, ci_InvalidInteger, ⟨_, _, _, ce_InvalidInteger⟩, _, _, _, _, _, co_InvalidInteger, fi_InvalidInteger⟩⟩
  kb8_ := ⟨PySem.W.mg_of X G kco_, kbU_, ⟨⟨_, _, _, _, _, _, _, _, _, _, _, _, _, _, _, y_InvalidArity, v_InvalidArity⟩, sa_InvalidArity, eC_InvalidArity, tC_InvalidArity, kC_InvalidArity⟩, ⟨ga_InvalidArity, gg_InvalidArity, eC_InvalidArity, hC_InvalidArity⟩, (List.forall_mem_cons.mpr ⟨nf0_InvalidArity, (fun _ z => nomatch z)⟩), iC_InvalidArity, PySem.W.mg_none_of X G noS, opq, su_InvalidArity, iB_InvalidArity,
    ⟨_, _, _, _, _, _, _, _, _, _, _, _, ini_InvalidArity, ti_InvalidArity, li_InvalidArity, ci_InvalidArity, ⟨_, _, _, ce_InvalidArity⟩, _, _, _, _, _, co_InvalidArity, fi_InvalidArity⟩⟩
  kb9_ := ⟨PySem.W.mg_of X G kcp_, kbU_, ⟨⟨_, _, _, _, _, _, _, _, _, _, _, _, _, _, _, y_InvalidPlace, v_InvalidPlace⟩, sa_InvalidPlace, eC_InvalidPlace, tC_InvalidPlace, kC_InvalidPlace⟩, ⟨ga_InvalidPlace, gg_InvalidPlace, eC_InvalidPlace, hC_InvalidPlace⟩, (List.forall_mem_cons.mpr ⟨nf0_InvalidPlace, (fun _ z => nomatch z)⟩), iC_InvalidPlace, PySem.W.mg_none_of X G noS, opq, su_InvalidPlace, iB_InvalidPlace,
    ⟨_, _, _, _, _, _, _, _, _, _, _, _, ini_InvalidPlace, ti_InvalidPlace, li_InvalidPlace, ci_InvalidPlace, ⟨_, _, _, ce_InvalidPlace⟩, _, _, _, _, _, co_InvalidPlace, fi_InvalidPlace⟩⟩
  kbu_ := ⟨PySem.W.mg_of X G kbO_, kbU_, ⟨⟨_, _, _, _, _, _, _, _, _, _, _, _, _, _, _, y_InvalidPlaces, v_InvalidPlaces⟩, sa_InvalidPlaces, eC_InvalidPlaces, tC_InvalidPlaces, kC_InvalidPlaces⟩, ⟨ga_InvalidPlaces, gg_InvalidPlaces, eC_InvalidPlaces, hC_InvalidPlaces⟩, (List.forall_mem_cons.mpr ⟨nf0_InvalidPlaces, (fun _ z => nomatch z)⟩), iC_InvalidPlaces, PySem.W.mg_none_of X G noS, opq, su_InvalidPlaces, iB_InvalidPlaces,
    ⟨_, _, _, _, _, _, _, _, _, _, _, _, ini_InvalidPlaces, ti_InvalidPlaces, li_InvalidPlaces, ci_InvalidPlaces, ⟨_, _, _, ce_InvalidPlaces⟩, _, _, _, _, _, co_InvalidPlaces, fi_InvalidPlaces⟩⟩
  kca_ := ⟨PySem.W.mg_of X G kcq_, kbU_, ⟨⟨_, _, _, _, _, _, _, _, _, _, _, _, _, _, _, y_InvalidCover, v_InvalidCover⟩, sa_InvalidCover, eC_InvalidCover, tC_InvalidCover, kC_InvalidCover⟩, ⟨ga_InvalidCover, gg_InvalidCover, eC_InvalidCover, hC_InvalidCover⟩, (List.forall_mem_cons.mpr ⟨nf0_InvalidCover, (fun _ z => nomatch z)⟩), iC_InvalidCover, PySem.W.mg_none_of X G noS, opq, su_InvalidCover, iB_InvalidCover,
    ⟨_, _, _, _, _, _, _, _, _, _, _, _, ini_InvalidCover, ti_InvalidCover, li_InvalidCover, ci_InvalidCover, ⟨_, _, _, ce_InvalidCover⟩, _, _, _, _, _, co_InvalidCover, fi_InvalidCover⟩⟩
  kcb_ := ⟨PySem.W.mg_of X G kcr_, kbU_, ⟨⟨_, _, _, _, _, _, _, _, _, _, _, _, _, _, _, y_InvalidPairs, v_InvalidPairs⟩, sa_InvalidPairs, eC_InvalidPairs, tC_InvalidPairs, kC_InvalidPairs⟩, ⟨ga_InvalidPairs, gg_InvalidPairs, eC_InvalidPairs, hC_InvalidPairs⟩, (List.forall_mem_cons.mpr ⟨nf0_InvalidPairs, (fun _ z => nomatch z)⟩), iC_InvalidPairs, PySem.W.mg_none_of X G noS, opq, su_InvalidPairs, iB_InvalidPairs,
    ⟨_, _, _, _, _, _, _, _, _, _, _, _, ini_InvalidPairs, ti_InvalidPairs, li_InvalidPairs, ci_InvalidPairs, ⟨_, _, _, ce_InvalidPairs⟩, _, _, _, _, _, co_InvalidPairs, fi_InvalidPairs⟩⟩
  kcc_ := ⟨PySem.W.mg_of X G kcs_, kbU_, ⟨⟨_, _, _, _, _, _, _, _, _, _, _, _, _, _, _, y_InvalidTable, v_InvalidTable⟩, sa_InvalidTable, eC_InvalidTable, tC_InvalidTable, kC_InvalidTable⟩, ⟨ga_InvalidTable, gg_InvalidTable, eC_InvalidTable, hC_InvalidTable⟩, (List.forall_mem_cons.mpr ⟨nf0_InvalidTable, (fun _ z => nomatch z)⟩), iC_InvalidTable, PySem.W.mg_none_of X G noS, opq, su_InvalidTable, iB_InvalidTable,
    ⟨_, _, _, _, _, _, _, _, _, _, _, _, ini_InvalidTable, ti_InvalidTable, li_InvalidTable, ci_InvalidTable, ⟨_, _, _, ce_InvalidTable⟩, _, _, _, _, _, co_InvalidTable, fi_InvalidTable⟩⟩
  kdN_ := ⟨PySem.W.mg_of X G kf7_, kbU_, ⟨⟨_, _, _, _, _, _, _, _, _, _, _, _, _, _, _, y_Mismatch, v_Mismatch⟩, sa_Mismatch, eC_Mismatch, tC_Mismatch, kC_Mismatch⟩, ⟨ga_Mismatch, gg_Mismatch, eC_Mismatch, hC_Mismatch⟩, (List.forall_mem_cons.mpr ⟨nf0_Mismatch, (List.forall_mem_cons.mpr ⟨nf1_Mismatch, (fun _ z => nomatch z)⟩)⟩), iC_Mismatch, PySem.W.mg_none_of X G noS, opq, su_Mismatch, iB_Mismatch,
    ⟨_, _, _, _, _, _, _, _, _, _, _, _, ini_Mismatch, ti_Mismatch, li_Mismatch, ci_Mismatch, ⟨_, _, _, ce_Mismatch⟩, _, _, _, _, _, co_Mismatch, fi_Mismatch⟩⟩
  kcJ_ := ⟨PySem.W.mg_of X G kc3_, kbU_, ⟨⟨_, _, _, _, _, _, _, _, _, _, _, _, _, _, _, y_InvalidWord, v_InvalidWord⟩, sa_InvalidWord, eC_InvalidWord, tC_InvalidWord, kC_InvalidWord⟩, ⟨ga_InvalidWord, gg_InvalidWord, eC_InvalidWord, hC_InvalidWord⟩, (List.forall_mem_cons.mpr ⟨nf0_InvalidWord, (fun _ z => nomatch z)⟩), iC_InvalidWord, PySem.W.mg_none_of X G noS, opq, su_InvalidWord, iB_InvalidWord,
    ⟨_, _, _, _, _, _, _, _, _, _, _, _, ini_InvalidWord, ti_InvalidWord, li_InvalidWord, ci_InvalidWord, ⟨_, _, _, ce_InvalidWord⟩, _, _, _, _, _, co_InvalidWord, fi_InvalidWord⟩⟩
  kcK_ := ⟨PySem.W.mg_of X G kc4_, kbU_, ⟨⟨_, _, _, _, _, _, _, _, _, _, _, _, _, _, _, y_InvalidPath, v_InvalidPath⟩, sa_InvalidPath, eC_InvalidPath, tC_InvalidPath, kC_InvalidPath⟩, ⟨ga_InvalidPath, gg_InvalidPath, eC_InvalidPath, hC_InvalidPath⟩, (List.forall_mem_cons.mpr ⟨nf0_InvalidPath, (fun _ z => nomatch z)⟩), iC_InvalidPath, PySem.W.mg_none_of X G noS, opq, su_InvalidPath, iB_InvalidPath,
    ⟨_, _, _, _, _, _, _, _, _, _, _, _, ini_InvalidPath, ti_InvalidPath, li_InvalidPath, ci_InvalidPath, ⟨_, _, _, ce_InvalidPath⟩, _, _, _, _, _, co_InvalidPath, fi_InvalidPath⟩⟩
  kbr_ := ⟨PySem.W.mg_of X G kc5_, kbU_, ⟨⟨_, _, _, _, _, _, _, _, _, _, _, _, _, _, _, y_InvalidText, v_InvalidText⟩, sa_InvalidText, eC_InvalidText, tC_InvalidText, kC_InvalidText⟩, ⟨ga_InvalidText, gg_InvalidText, eC_InvalidText, hC_InvalidText⟩, (List.forall_mem_cons.mpr ⟨nf0_InvalidText, (fun _ z => nomatch z)⟩), iC_InvalidText, PySem.W.mg_none_of X G noS, opq, su_InvalidText, iB_InvalidText,
    ⟨_, _, _, _, _, _, _, _, _, _, _, _, ini_InvalidText, ti_InvalidText, li_InvalidText, ci_InvalidText, ⟨_, _, _, ce_InvalidText⟩, _, _, _, _, _, co_InvalidText, fi_InvalidText⟩⟩
  ka9_ := ⟨PySem.W.mg_of X G kbn_, kbU_, ⟨⟨_, _, _, _, _, _, _, _, _, _, _, _, _, _, _, y_InvalidDiagram, v_InvalidDiagram⟩, sa_InvalidDiagram, eC_InvalidDiagram, tC_InvalidDiagram, kC_InvalidDiagram⟩, ⟨ga_InvalidDiagram, gg_InvalidDiagram, eC_InvalidDiagram, hC_InvalidDiagram⟩, (List.forall_mem_cons.mpr ⟨nf0_InvalidDiagram, (fun _ z => nomatch z)⟩), iC_InvalidDiagram, PySem.W.mg_none_of X G noS, opq, su_InvalidDiagram, iB_InvalidDiagram,
    ⟨_, _, _, _, _, _, _, _, _, _, _, _, ini_InvalidDiagram, ti_InvalidDiagram, li_InvalidDiagram, ci_InvalidDiagram, ⟨_, _, _, ce_InvalidDiagram⟩, _, _, _, _, _, co_InvalidDiagram, fi_InvalidDiagram⟩⟩
  kcL_ := ⟨PySem.W.mg_of X G kc6_, kbU_, ⟨⟨_, _, _, _, _, _, _, _, _, _, _, _, _, _, _, y_InvalidStep, v_InvalidStep⟩, sa_InvalidStep, eC_InvalidStep, tC_InvalidStep, kC_InvalidStep⟩, ⟨ga_InvalidStep, gg_InvalidStep, eC_InvalidStep, hC_InvalidStep⟩, (List.forall_mem_cons.mpr ⟨nf0_InvalidStep, (fun _ z => nomatch z)⟩), iC_InvalidStep, PySem.W.mg_none_of X G noS, opq, su_InvalidStep, iB_InvalidStep,
    ⟨_, _, _, _, _, _, _, _, _, _, _, _, ini_InvalidStep, ti_InvalidStep, li_InvalidStep, ci_InvalidStep, ⟨_, _, _, ce_InvalidStep⟩, _, _, _, _, _, co_InvalidStep, fi_InvalidStep⟩⟩
  kdv_ := ⟨PySem.W.mg_of X G kdA_, kbU_, ⟨⟨_, _, _, _, _, _, _, _, _, _, _, _, _, _, _, y_InvalidLog, v_InvalidLog⟩, sa_InvalidLog, eC_InvalidLog, tC_InvalidLog, kC_InvalidLog⟩, ⟨ga_InvalidLog, gg_InvalidLog, eC_InvalidLog, hC_InvalidLog⟩, (List.forall_mem_cons.mpr ⟨nf0_InvalidLog, (fun _ z => nomatch z)⟩), iC_InvalidLog, PySem.W.mg_none_of X G noS, opq, su_InvalidLog, iB_InvalidLog,
    ⟨_, _, _, _, _, _, _, _, _, _, _, _, ini_InvalidLog, ti_InvalidLog, li_InvalidLog, ci_InvalidLog, ⟨_, _, _, ce_InvalidLog⟩, _, _, _, _, _, co_InvalidLog, fi_InvalidLog⟩⟩
  kcM_ := ⟨PySem.W.mg_of X G kc7_, kbU_, ⟨⟨_, _, _, _, _, _, _, _, _, _, _, _, _, _, _, y_InvalidName, v_InvalidName⟩, sa_InvalidName, eC_InvalidName, tC_InvalidName, kC_InvalidName⟩, ⟨ga_InvalidName, gg_InvalidName, eC_InvalidName, hC_InvalidName⟩, (List.forall_mem_cons.mpr ⟨nf0_InvalidName, (fun _ z => nomatch z)⟩), iC_InvalidName, PySem.W.mg_none_of X G noS, opq, su_InvalidName, iB_InvalidName,
    ⟨_, _, _, _, _, _, _, _, _, _, _, _, ini_InvalidName, ti_InvalidName, li_InvalidName, ci_InvalidName, ⟨_, _, _, ce_InvalidName⟩, _, _, _, _, _, co_InvalidName, fi_InvalidName⟩⟩
  kaL_ := ⟨PySem.W.mg_of X G kbo_, kbU_, ⟨⟨_, _, _, _, _, _, _, _, _, _, _, _, _, _, _, y_InvalidFormula, v_InvalidFormula⟩, sa_InvalidFormula, eC_InvalidFormula, tC_InvalidFormula, kC_InvalidFormula⟩, ⟨ga_InvalidFormula, gg_InvalidFormula, eC_InvalidFormula, hC_InvalidFormula⟩, (List.forall_mem_cons.mpr ⟨nf0_InvalidFormula, (fun _ z => nomatch z)⟩), iC_InvalidFormula, PySem.W.mg_none_of X G noS, opq, su_InvalidFormula, iB_InvalidFormula,
    ⟨_, _, _, _, _, _, _, _, _, _, _, _, ini_InvalidFormula, ti_InvalidFormula, li_InvalidFormula, ci_InvalidFormula, ⟨_, _, _, ce_InvalidFormula⟩, _, _, _, _, _, co_InvalidFormula, fi_InvalidFormula⟩⟩
  kcN_ := ⟨PySem.W.mg_of X G kc8_, kbU_, ⟨⟨_, _, _, _, _, _, _, _, _, _, _, _, _, _, _, y_InvalidLine, v_InvalidLine⟩, sa_InvalidLine, eC_InvalidLine, tC_InvalidLine, kC_InvalidLine⟩, ⟨ga_InvalidLine, gg_InvalidLine, eC_InvalidLine, hC_InvalidLine⟩, (List.forall_mem_cons.mpr ⟨nf0_InvalidLine, (fun _ z => nomatch z)⟩), iC_InvalidLine, PySem.W.mg_none_of X G noS, opq, su_InvalidLine, iB_InvalidLine,
    ⟨_, _, _, _, _, _, _, _, _, _, _, _, ini_InvalidLine, ti_InvalidLine, li_InvalidLine, ci_InvalidLine, ⟨_, _, _, ce_InvalidLine⟩, _, _, _, _, _, co_InvalidLine, fi_InvalidLine⟩⟩
  kcO_ := ⟨PySem.W.mg_of X G kc9_, kbU_, ⟨⟨_, _, _, _, _, _, _, _, _, _, _, _, _, _, _, y_InvalidTree, v_InvalidTree⟩, sa_InvalidTree, eC_InvalidTree, tC_InvalidTree, kC_InvalidTree⟩, ⟨ga_InvalidTree, gg_InvalidTree, eC_InvalidTree, hC_InvalidTree⟩, (List.forall_mem_cons.mpr ⟨nf0_InvalidTree, (fun _ z => nomatch z)⟩), iC_InvalidTree, PySem.W.mg_none_of X G noS, opq, su_InvalidTree, iB_InvalidTree,
    ⟨_, _, _, _, _, _, _, _, _, _, _, _, ini_InvalidTree, ti_InvalidTree, li_InvalidTree, ci_InvalidTree, ⟨_, _, _, ce_InvalidTree⟩, _, _, _, _, _, co_InvalidTree, fi_InvalidTree⟩⟩
  kcP_ := ⟨PySem.W.mg_of X G kda_, kbU_, ⟨⟨_, _, _, _, _, _, _, _, _, _, _, _, _, _, _, y_InvalidBook, v_InvalidBook⟩, sa_InvalidBook, eC_InvalidBook, tC_InvalidBook, kC_InvalidBook⟩, ⟨ga_InvalidBook, gg_InvalidBook, eC_InvalidBook, hC_InvalidBook⟩, (List.forall_mem_cons.mpr ⟨nf0_InvalidBook, (fun _ z => nomatch z)⟩), iC_InvalidBook, PySem.W.mg_none_of X G noS, opq, su_InvalidBook, iB_InvalidBook,
    ⟨_, _, _, _, _, _, _, _, _, _, _, _, ini_InvalidBook, ti_InvalidBook, li_InvalidBook, ci_InvalidBook, ⟨_, _, _, ce_InvalidBook⟩, _, _, _, _, _, co_InvalidBook, fi_InvalidBook⟩⟩
  kcd_ := ⟨PySem.W.mg_of X G kct_, klK_, ⟨⟨_, _, _, _, _, _, _, _, _, _, _, _, _, _, _, y_UnknownPlace, v_UnknownPlace⟩, sa_UnknownPlace, eC_UnknownPlace, tC_UnknownPlace, kC_UnknownPlace⟩, ⟨ga_UnknownPlace, gg_UnknownPlace, eC_UnknownPlace, hC_UnknownPlace⟩, (List.forall_mem_cons.mpr ⟨nf0_UnknownPlace, (fun _ z => nomatch z)⟩), iC_UnknownPlace, PySem.W.mg_none_of X G noS, opq, su_UnknownPlace, iB_UnknownPlace,
    ⟨_, _, _, _, _, _, _, _, _, _, _, _, ini_UnknownPlace, ti_UnknownPlace, li_UnknownPlace, ci_UnknownPlace, ⟨_, _, _, ce_UnknownPlace⟩, _, _, _, _, _, co_UnknownPlace, fi_UnknownPlace⟩⟩
  kbv_ := ⟨PySem.W.mg_of X G kbP_, klK_, ⟨⟨_, _, _, _, _, _, _, _, _, _, _, _, _, _, _, y_UnknownVertex, v_UnknownVertex⟩, sa_UnknownVertex, eC_UnknownVertex, tC_UnknownVertex, kC_UnknownVertex⟩, ⟨ga_UnknownVertex, gg_UnknownVertex, eC_UnknownVertex, hC_UnknownVertex⟩, (List.forall_mem_cons.mpr ⟨nf0_UnknownVertex, (fun _ z => nomatch z)⟩), iC_UnknownVertex, PySem.W.mg_none_of X G noS, opq, su_UnknownVertex, iB_UnknownVertex,
    ⟨_, _, _, _, _, _, _, _, _, _, _, _, ini_UnknownVertex, ti_UnknownVertex, li_UnknownVertex, ci_UnknownVertex, ⟨_, _, _, ce_UnknownVertex⟩, _, _, _, _, _, co_UnknownVertex, fi_UnknownVertex⟩⟩
  kcQ_ := ⟨PySem.W.mg_of X G kdb_, klK_, ⟨⟨_, _, _, _, _, _, _, _, _, _, _, _, _, _, _, y_UnknownName, v_UnknownName⟩, sa_UnknownName, eC_UnknownName, tC_UnknownName, kC_UnknownName⟩, ⟨ga_UnknownName, gg_UnknownName, eC_UnknownName, hC_UnknownName⟩, (List.forall_mem_cons.mpr ⟨nf0_UnknownName, (fun _ z => nomatch z)⟩), iC_UnknownName, PySem.W.mg_none_of X G noS, opq, su_UnknownName, iB_UnknownName,
    ⟨_, _, _, _, _, _, _, _, _, _, _, _, ini_UnknownName, ti_UnknownName, li_UnknownName, ci_UnknownName, ⟨_, _, _, ce_UnknownName⟩, _, _, _, _, _, co_UnknownName, fi_UnknownName⟩⟩
  kbw_ := ⟨PySem.W.mg_of X G kbQ_, klK_, ⟨⟨_, _, _, _, _, _, _, _, _, _, _, _, _, _, _, y_UnknownMember, v_UnknownMember⟩, sa_UnknownMember, eC_UnknownMember, tC_UnknownMember, kC_UnknownMember⟩, ⟨ga_UnknownMember, gg_UnknownMember, eC_UnknownMember, hC_UnknownMember⟩, (List.forall_mem_cons.mpr ⟨nf0_UnknownMember, (fun _ z => nomatch z)⟩), iC_UnknownMember, PySem.W.mg_none_of X G noS, opq, su_UnknownMember, iB_UnknownMember,
    ⟨_, _, _, _, _, _, _, _, _, _, _, _, ini_UnknownMember, ti_UnknownMember, li_UnknownMember, ci_UnknownMember, ⟨_, _, _, ce_UnknownMember⟩, _, _, _, _, _, co_UnknownMember, fi_UnknownMember⟩⟩
  kaQ_ := ⟨PySem.W.mg_of X G kbR_, kga_, ⟨⟨_, _, _, _, _, _, _, _, _, _, _, _, _, _, _, y_NotApplicable, v_NotApplicable⟩, sa_NotApplicable, eC_NotApplicable, tC_NotApplicable, kC_NotApplicable⟩, ⟨ga_NotApplicable, gg_NotApplicable, eC_NotApplicable, hC_NotApplicable⟩, (List.forall_mem_cons.mpr ⟨nf0_NotApplicable, (List.forall_mem_cons.mpr ⟨nf1_NotApplicable, (fun _ z => nomatch z)⟩)⟩), iC_NotApplicable, PySem.W.mg_none_of X G noS, opq, su_NotApplicable, iB_NotApplicable,
    ⟨_, _, _, _, _, _, _, _, _, _, _, _, ini_NotApplicable, ti_NotApplicable, li_NotApplicable, ci_NotApplicable, ⟨_, _, _, ce_NotApplicable⟩, _, _, _, _, _, co_NotApplicable, fi_NotApplicable⟩⟩
  kia_ := ⟨PySem.W.mg_of X G kjy_, kga_, ⟨⟨_, _, _, _, _, _, _, _, _, _, _, _, _, _, _, y_NotSelf, v_NotSelf⟩, sa_NotSelf, eC_NotSelf, tC_NotSelf, kC_NotSelf⟩, ⟨ga_NotSelf, gg_NotSelf, eC_NotSelf, hC_NotSelf⟩, (List.forall_mem_cons.mpr ⟨nf0_NotSelf, (fun _ z => nomatch z)⟩), iC_NotSelf, PySem.W.mg_none_of X G noS, opq, su_NotSelf, iB_NotSelf,
    ⟨_, _, _, _, _, _, _, _, _, _, _, _, ini_NotSelf, ti_NotSelf, li_NotSelf, ci_NotSelf, ⟨_, _, _, ce_NotSelf⟩, _, _, _, _, _, co_NotSelf, fi_NotSelf⟩⟩
  kd0_ := ⟨PySem.W.mg_of X G kd4_, kga_, ⟨⟨_, _, _, _, _, _, _, _, _, _, _, _, _, _, _, y_NotNormal, v_NotNormal⟩, sa_NotNormal, eC_NotNormal, tC_NotNormal, kC_NotNormal⟩, ⟨ga_NotNormal, gg_NotNormal, eC_NotNormal, hC_NotNormal⟩, (List.forall_mem_cons.mpr ⟨nf0_NotNormal, (fun _ z => nomatch z)⟩), iC_NotNormal, PySem.W.mg_none_of X G noS, opq, su_NotNormal, iB_NotNormal,
    ⟨_, _, _, _, _, _, _, _, _, _, _, _, ini_NotNormal, ti_NotNormal, li_NotNormal, ci_NotNormal, ⟨_, _, _, ce_NotNormal⟩, _, _, _, _, _, co_NotNormal, fi_NotNormal⟩⟩
  kdd_ := ⟨PySem.W.mg_of X G kd5_, kga_, ⟨⟨_, _, _, _, _, _, _, _, _, _, _, _, _, _, _, y_Unrelated, v_Unrelated⟩, sa_Unrelated, eC_Unrelated, tC_Unrelated, kC_Unrelated⟩, ⟨ga_Unrelated, gg_Unrelated, eC_Unrelated, hC_Unrelated⟩, (List.forall_mem_cons.mpr ⟨nf0_Unrelated, (List.forall_mem_cons.mpr ⟨nf1_Unrelated, (fun _ z => nomatch z)⟩)⟩), iC_Unrelated, PySem.W.mg_none_of X G noS, opq, su_Unrelated, iB_Unrelated,
    ⟨_, _, _, _, _, _, _, _, _, _, _, _, ini_Unrelated, ti_Unrelated, li_Unrelated, ci_Unrelated, ⟨_, _, _, ce_Unrelated⟩, _, _, _, _, _, co_Unrelated, fi_Unrelated⟩⟩
  kbx_ := ⟨PySem.W.mg_of X G kbS_, kga_, ⟨⟨_, _, _, _, _, _, _, _, _, _, _, _, _, _, _, y_DuplicateName, v_DuplicateName⟩, sa_DuplicateName, eC_DuplicateName, tC_DuplicateName, kC_DuplicateName⟩, ⟨ga_DuplicateName, gg_DuplicateName, eC_DuplicateName, hC_DuplicateName⟩, (List.forall_mem_cons.mpr ⟨nf0_DuplicateName, (fun _ z => nomatch z)⟩), iC_DuplicateName, PySem.W.mg_none_of X G noS, opq, su_DuplicateName, iB_DuplicateName,
    ⟨_, _, _, _, _, _, _, _, _, _, _, _, ini_DuplicateName, ti_DuplicateName, li_DuplicateName, ci_DuplicateName, ⟨_, _, _, ce_DuplicateName⟩, _, _, _, _, _, co_DuplicateName, fi_DuplicateName⟩⟩
  knc_ := ⟨PySem.W.mg_of X G knZ_, kga_, ⟨⟨_, _, _, _, _, _, _, _, _, _, _, _, _, _, _, y_InUse, v_InUse⟩, sa_InUse, eC_InUse, tC_InUse, kC_InUse⟩, ⟨ga_InUse, gg_InUse, eC_InUse, hC_InUse⟩, (List.forall_mem_cons.mpr ⟨nf0_InUse, (fun _ z => nomatch z)⟩), iC_InUse, PySem.W.mg_none_of X G noS, opq, su_InUse, iB_InUse,
    ⟨_, _, _, _, _, _, _, _, _, _, _, _, ini_InUse, ti_InUse, li_InUse, ci_InUse, ⟨_, _, _, ce_InUse⟩, _, _, _, _, _, co_InUse, fi_InUse⟩⟩
  kib_ := ⟨PySem.W.mg_of X G kle_, kga_, ⟨⟨_, _, _, _, _, _, _, _, _, _, _, _, _, _, _, y_Cyclic, v_Cyclic⟩, sa_Cyclic, eC_Cyclic, tC_Cyclic, kC_Cyclic⟩, ⟨ga_Cyclic, gg_Cyclic, eC_Cyclic, hC_Cyclic⟩, (List.forall_mem_cons.mpr ⟨nf0_Cyclic, (fun _ z => nomatch z)⟩), iC_Cyclic, PySem.W.mg_none_of X G noS, opq, su_Cyclic, iB_Cyclic,
    ⟨_, _, _, _, _, _, _, _, _, _, _, _, ini_Cyclic, ti_Cyclic, li_Cyclic, ci_Cyclic, ⟨_, _, _, ce_Cyclic⟩, _, _, _, _, _, co_Cyclic, fi_Cyclic⟩⟩
  kdO_ := ⟨PySem.W.mg_of X G kf8_, kga_, ⟨⟨_, _, _, _, _, _, _, _, _, _, _, _, _, _, _, y_TooLarge, v_TooLarge⟩, sa_TooLarge, eC_TooLarge, tC_TooLarge, kC_TooLarge⟩, ⟨ga_TooLarge, gg_TooLarge, eC_TooLarge, hC_TooLarge⟩, (List.forall_mem_cons.mpr ⟨nf0_TooLarge, (fun _ z => nomatch z)⟩), iC_TooLarge, PySem.W.mg_none_of X G noS, opq, su_TooLarge, iB_TooLarge,
    ⟨_, _, _, _, _, _, _, _, _, _, _, _, ini_TooLarge, ti_TooLarge, li_TooLarge, ci_TooLarge, ⟨_, _, _, ce_TooLarge⟩, _, _, _, _, _, co_TooLarge, fi_TooLarge⟩⟩
  kby_ := ⟨PySem.W.mg_of X G kbT_, kga_, ⟨⟨_, _, _, _, _, _, _, _, _, _, _, _, _, _, _, y_NothingToUndo, v_NothingToUndo⟩, sa_NothingToUndo, eC_NothingToUndo, tC_NothingToUndo, kC_NothingToUndo⟩, ⟨ga_NothingToUndo, gg_NothingToUndo, eC_NothingToUndo, hC_NothingToUndo⟩, (fun _ z => nomatch z), iC_NothingToUndo, PySem.W.mg_none_of X G noS, opq, su_NothingToUndo, iB_NothingToUndo,
    ⟨_, _, _, _, _, _, _, _, _, _, _, _, ini_NothingToUndo, ti_NothingToUndo, li_NothingToUndo, ci_NothingToUndo, ⟨_, _, _, ce_NothingToUndo⟩, _, _, _, _, _, co_NothingToUndo, fi_NothingToUndo⟩⟩
  xg_StrandError := PySem.W.mg_of X G kdc_
  xt_StrandError := ⟨⟨_, _, _, _, _, _, _, _, _, _, _, _, _, _, _, y_StrandError, v_StrandError⟩, sa_StrandError, eC_StrandError, tC_StrandError, kC_StrandError⟩
  xn_StrandError := xn_StrandError
  xg_Missing := PySem.W.mg_of X G kjz_
  xt_Missing := ⟨⟨_, _, _, _, _, _, _, _, _, _, _, _, _, _, _, y_Missing, v_Missing⟩, sa_Missing, eC_Missing, tC_Missing, kC_Missing⟩
  xn_Missing := xn_Missing
  xg_Blocked := PySem.W.mg_of X G kjA_
  xt_Blocked := ⟨⟨_, _, _, _, _, _, _, _, _, _, _, _, _, _, _, y_Blocked, v_Blocked⟩, sa_Blocked, eC_Blocked, tC_Blocked, kC_Blocked⟩
  xn_Blocked := xn_Blocked
  et := kok_ et
theorem ktE_ {l : PySem.W.OpenLaw} {w : World} {K : PySem.W.Frag} {mg : Str → Option Value} {fa : Addr} {h : Heap} {kb_ kk_ kl_ kh_ km_ kn_ ko_ kC_ ks_ kt_ kp_ kc_ ku_ kz_ kv_ ka_ kw_ kx_ ky_ kj_ kf_ kr_ kg_ kd_ kG_ kB_ kA_ ki_ kI_ kH_ kD_ ke_ kq_ kF_ kE_ : Addr}
    (T : Tx K mg kb_ kk_ kl_ kh_ km_ kn_ ko_ kC_ ks_ kt_ kp_ kc_ ku_ kz_ kv_ ka_ kw_ kx_ ky_ kj_ kf_ kr_ kg_ kd_ kG_ kB_ kA_ ki_ kI_ kH_ kD_ ke_ kq_ kF_ kE_) (KX : K.In h) (hm : mg "law" = some (.ref fa)) (hP : PTx l.prog)
    (hlaw : [kb_, kk_, kl_, kh_, km_, kn_, ko_, kC_, ks_, kt_, kp_, kc_, ku_, kz_, kv_, ka_, kw_, kx_, ky_, kj_, kf_, kr_, kg_, kd_, kG_, kB_, kA_, ki_, kI_, kH_, kD_, ke_, kq_, kF_, kE_].Nodup → ∀ a ns, ns.length ≤ 63 → ∃ h', kor_ K kb_ kk_ kl_ kh_ km_ kn_ ko_ kC_ ks_ kt_ kp_ kc_ ku_ kz_ kv_ ka_ kw_ kx_ ky_ kj_ kf_ kr_ kg_ kd_ kG_ kB_ kA_ ki_ kI_ kH_ kD_ ke_ kq_ kF_ kE_ a ns [] [] = .ok (.bl true) h') : kpI_ l w K (L2.CX l.prog w) 5 63 mg fa h :=
  kxd_ [] [] KX hm (fun _ z => nomatch z) (fun _ z => nomatch z) (fun _ z => nomatch z) (fun _ z => nomatch z) (hlaw T.nodup) T.kwZ_ rfl (fun base hs TB => ok_law hP hs T )
theorem krb_ {K : PySem.W.Frag} {kb_ kk_ kl_ kh_ km_ kn_ ko_ kC_ ks_ kt_ kp_ kc_ ku_ kz_ kv_ ka_ kw_ kx_ ky_ kj_ kf_ kr_ kg_ kd_ kG_ kB_ kA_ ki_ kI_ kH_ kD_ ke_ kq_ kF_ kE_ : Addr} (nd : [kb_, kk_, kl_, kh_, km_, kn_, ko_, kC_, ks_, kt_, kp_, kc_, ku_, kz_, kv_, ka_, kw_, kx_, ky_, kj_, kf_, kr_, kg_, kd_, kG_, kB_, kA_, ki_, kI_, kH_, kD_, ke_, kq_, kF_, kE_].Nodup) : ∀ (a : Addr) (ns : List Int), ns.length ≤ 63 → ∃ h', kor_ K kb_ kk_ kl_ kh_ km_ kn_ ko_ kC_ ks_ kt_ kp_ kc_ ku_ kz_ kv_ ka_ kw_ kx_ ky_ kj_ kf_ kr_ kg_ kd_ kG_ kB_ kA_ ki_ kI_ kH_ kD_ ke_ kq_ kF_ kE_ a ns [] [] = .ok (.bl true) h' := fun a ns hl => by
  obtain ⟨d, h', e, rfl⟩ := kuo_ (@kwe_ kb_ kk_ kl_ kh_ km_ kn_ ko_ kC_ ks_ kt_ kp_ kc_ ku_ kz_ kv_ ka_ kw_ kx_ ky_ kj_ kf_ kr_ kg_ kd_ kG_ kB_ kA_ ki_ kI_ kH_ kD_ ke_ kq_ kF_ kE_ [] nd K a ns hl)
  exact ⟨h', e⟩
end Z
open PySem PySem.W PyProof.Rows
set_option maxHeartbeats 0 in
theorem PySem.Challenge.cw_strandclasses_k07_exceptions_by_class_holds : PySem.Challenge.rw_strandclasses_k07_exceptions_by_class.Holds := by
  refine topH ?_
  k_fill
  refine Y.ktZ_ (l := PySem.Challenge.rw_strandclasses_k07_exceptions_by_class) (n := 63) (k := 5) (CX := fun w => L2.CX PySem.Challenge.rw_strandclasses_k07_exceptions_by_class.prog w) rfl (by decide) rfl ⟨rfl, by decide, by decide⟩ (by rfl) (fun w h Y => PySem.W.kIn_of Y) ?F (fun _ _ _ _ _ ⟨_, _, _, _, _, _, _, _, _, _, _, _, z⟩ => z)
  case F =>
    intro w mg fa h Y KX G hmg
    refine' Z.ktE_ (Z.kzW_ KX G ?kpA_ ?kqJ_ ?kK_ ?kaC_ ?kb0_ ?kaM_ ?kcI_ ?kqK_ ?ke2_ ?krn_ ?kdZ_ ?krc_ ?k_l_cell ?krd_ ?kj1_ ?ktF_ ?k_l_box ?ktG_ ?keU_ ?kre_ ?k_l_take ?krf_ ?kdG_ ?koT_ ?k_l_thing ?koU_ ?kaJ_ ?kjB_ ?k_l_with_value ?kjC_ ?kdH_ ?koV_ ?k_l_under ?koW_ ?kdI_ ?koX_ ?k_l_alone ?koY_ ?kdJ_ ?koZ_ ?k_l_right ?ko0_ ?kaq_ ?khs_ ?k_l_bases_right ?kht_ ?krm_ ?kzX_ ?k_law ?kzY_ ?noS ?opq ?kbm_ ?y_InvalidInteger ?v_InvalidInteger ?sa_InvalidInteger ?eC_InvalidInteger ?tC_InvalidInteger ?kC_InvalidInteger ?ga_InvalidInteger ?gg_InvalidInteger ?hC_InvalidInteger ?nf0_InvalidInteger ?iC_InvalidInteger ?su_InvalidInteger ?iB_InvalidInteger ?ini_InvalidInteger ?ti_InvalidInteger ?li_InvalidInteger ?ci_InvalidInteger ?ce_InvalidInteger ?co_InvalidInteger ?fi_InvalidInteger ?kco_ ?y_InvalidArity ?v_InvalidArity ?sa_InvalidArity ?eC_InvalidArity ?tC_InvalidArity ?kC_InvalidArity ?ga_InvalidArity ?gg_InvalidArity ?hC_InvalidArity ?nf0_InvalidArity ?iC_InvalidArity ?su_InvalidArity ?iB_InvalidArity ?ini_InvalidArity ?ti_InvalidArity ?li_InvalidArity ?ci_InvalidArity ?ce_InvalidArity ?co_InvalidArity ?fi_InvalidArity ?kcp_ ?y_InvalidPlace ?v_InvalidPlace ?sa_InvalidPlace ?eC_InvalidPlace ?tC_InvalidPlace ?kC_InvalidPlace ?ga_InvalidPlace ?gg_InvalidPlace ?hC_InvalidPlace ?nf0_InvalidPlace ?iC_InvalidPlace ?su_InvalidPlace ?iB_InvalidPlace ?ini_InvalidPlace ?ti_InvalidPlace ?li_InvalidPlace ?ci_InvalidPlace ?ce_InvalidPlace ?co_InvalidPlace ?fi_InvalidPlace ?kbO_ ?y_InvalidPlaces ?v_InvalidPlaces ?sa_InvalidPlaces ?eC_InvalidPlaces ?tC_InvalidPlaces ?kC_InvalidPlaces ?ga_InvalidPlaces ?gg_InvalidPlaces ?hC_InvalidPlaces ?nf0_InvalidPlaces ?iC_InvalidPlaces ?su_InvalidPlaces ?iB_InvalidPlaces ?ini_InvalidPlaces ?ti_InvalidPlaces ?li_InvalidPlaces ?ci_InvalidPlaces ?ce_InvalidPlaces ?co_InvalidPlaces ?fi_InvalidPlaces ?kcq_ ?y_InvalidCover ?v_InvalidCover ?sa_InvalidCover ?eC_InvalidCover ?tC_InvalidCover ?kC_InvalidCover ?ga_InvalidCover ?gg_InvalidCover ?hC_InvalidCover ?nf0_InvalidCover ?iC_InvalidCover ?su_InvalidCover ?iB_InvalidCover ?ini_InvalidCover ?ti_InvalidCover ?li_InvalidCover ?ci_InvalidCover ?ce_InvalidCover ?co_InvalidCover ?fi_InvalidCover ?kcr_ ?y_InvalidPairs ?v_InvalidPairs ?sa_InvalidPairs ?eC_InvalidPairs ?tC_InvalidPairs ?kC_InvalidPairs ?ga_InvalidPairs ?gg_InvalidPairs ?hC_InvalidPairs ?nf0_InvalidPairs ?iC_InvalidPairs ?su_InvalidPairs ?iB_InvalidPairs ?ini_InvalidPairs ?ti_InvalidPairs ?li_InvalidPairs ?ci_InvalidPairs ?ce_InvalidPairs ?co_InvalidPairs ?fi_InvalidPairs ?kcs_ ?y_InvalidTable ?v_InvalidTable ?sa_InvalidTable ?eC_InvalidTable ?tC_InvalidTable ?kC_InvalidTable ?ga_InvalidTable ?gg_InvalidTable ?hC_InvalidTable ?nf0_InvalidTable ?iC_InvalidTable ?su_InvalidTable ?iB_InvalidTable ?ini_InvalidTable ?ti_InvalidTable ?li_InvalidTable ?ci_InvalidTable ?ce_InvalidTable ?co_InvalidTable ?fi_InvalidTable ?kf7_ ?y_Mismatch ?v_Mismatch ?sa_Mismatch ?eC_Mismatch ?tC_Mismatch ?kC_Mismatch ?ga_Mismatch ?gg_Mismatch ?hC_Mismatch ?nf0_Mismatch ?nf1_Mismatch ?iC_Mismatch ?su_Mismatch ?iB_Mismatch ?ini_Mismatch ?ti_Mismatch ?li_Mismatch ?ci_Mismatch ?ce_Mismatch ?co_Mismatch ?fi_Mismatch ?kc3_ ?y_InvalidWord ?v_InvalidWord ?sa_InvalidWord ?eC_InvalidWord ?tC_InvalidWord ?kC_InvalidWord ?ga_InvalidWord ?gg_InvalidWord ?hC_InvalidWord ?nf0_InvalidWord ?iC_InvalidWord ?su_InvalidWord ?iB_InvalidWord ?ini_InvalidWord ?ti_InvalidWord ?li_InvalidWord ?ci_InvalidWord ?ce_InvalidWord ?co_InvalidWord ?fi_InvalidWord ?kc4_ ?y_InvalidPath ?v_InvalidPath ?sa_InvalidPath ?eC_InvalidPath ?tC_InvalidPath ?kC_InvalidPath ?ga_InvalidPath ?gg_InvalidPath ?hC_InvalidPath ?nf0_InvalidPath ?iC_InvalidPath ?su_InvalidPath ?iB_InvalidPath ?ini_InvalidPath ?ti_InvalidPath ?li_InvalidPath ?ci_InvalidPath ?ce_InvalidPath ?co_InvalidPath ?fi_InvalidPath ?kc5_ ?y_InvalidText ?v_InvalidText ?sa_InvalidText ?eC_InvalidText ?tC_InvalidText ?kC_InvalidText ?ga_InvalidText ?gg_InvalidText ?hC_InvalidText ?nf0_InvalidText ?iC_InvalidText ?su_InvalidText ?iB_InvalidText ?ini_InvalidText ?ti_InvalidText ?li_InvalidText ?ci_InvalidText ?ce_InvalidText ?co_InvalidText ?fi_InvalidText ?kbn_ ?y_InvalidDiagram ?v_InvalidDiagram ?sa_InvalidDiagram ?eC_InvalidDiagram ?tC_InvalidDiagram ?kC_InvalidDiagram ?ga_InvalidDiagram ?gg_InvalidDiagram ?hC_InvalidDiagram ?nf0_InvalidDiagram ?iC_InvalidDiagram ?su_InvalidDiagram ?iB_InvalidDiagram ?ini_InvalidDiagram ?ti_InvalidDiagram ?li_InvalidDiagram ?ci_InvalidDiagram ?ce_InvalidDiagram ?co_InvalidDiagram ?fi_InvalidDiagram ?kc6_ ?y_InvalidStep ?v_InvalidStep ?sa_InvalidStep ?eC_InvalidStep ?tC_InvalidStep ?kC_InvalidStep ?ga_InvalidStep ?gg_InvalidStep ?hC_InvalidStep ?nf0_InvalidStep ?iC_InvalidStep ?su_InvalidStep ?iB_InvalidStep ?ini_InvalidStep ?ti_InvalidStep ?li_InvalidStep ?ci_InvalidStep ?ce_InvalidStep ?co_InvalidStep ?fi_InvalidStep ?kdA_ ?y_InvalidLog ?v_InvalidLog ?sa_InvalidLog ?eC_InvalidLog ?tC_InvalidLog ?kC_InvalidLog ?ga_InvalidLog ?gg_InvalidLog ?hC_InvalidLog ?nf0_InvalidLog ?iC_InvalidLog ?su_InvalidLog ?iB_InvalidLog ?ini_InvalidLog ?ti_InvalidLog ?li_InvalidLog ?ci_InvalidLog ?ce_InvalidLog ?co_InvalidLog ?fi_InvalidLog ?kc7_ ?y_InvalidName ?v_InvalidName ?sa_InvalidName ?eC_InvalidName ?tC_InvalidName ?kC_InvalidName ?ga_InvalidName ?gg_InvalidName ?hC_InvalidName ?nf0_InvalidName ?iC_InvalidName ?su_InvalidName ?iB_InvalidName ?ini_InvalidName ?ti_InvalidName ?li_InvalidName ?ci_InvalidName ?ce_InvalidName ?co_InvalidName ?fi_InvalidName ?kbo_ ?y_InvalidFormula ?v_InvalidFormula ?sa_InvalidFormula ?eC_InvalidFormula ?tC_InvalidFormula ?kC_InvalidFormula ?ga_InvalidFormula ?gg_InvalidFormula ?hC_InvalidFormula ?nf0_InvalidFormula ?iC_InvalidFormula ?su_InvalidFormula ?iB_InvalidFormula ?ini_InvalidFormula ?ti_InvalidFormula ?li_InvalidFormula ?ci_InvalidFormula ?ce_InvalidFormula ?co_InvalidFormula ?fi_InvalidFormula ?kc8_ ?y_InvalidLine ?v_InvalidLine ?sa_InvalidLine ?eC_InvalidLine ?tC_InvalidLine ?kC_InvalidLine ?ga_InvalidLine ?gg_InvalidLine ?hC_InvalidLine ?nf0_InvalidLine ?iC_InvalidLine ?su_InvalidLine ?iB_InvalidLine ?ini_InvalidLine ?ti_InvalidLine ?li_InvalidLine ?ci_InvalidLine ?ce_InvalidLine ?co_InvalidLine ?fi_InvalidLine ?kc9_ ?y_InvalidTree ?v_InvalidTree ?sa_InvalidTree ?eC_InvalidTree ?tC_InvalidTree ?kC_InvalidTree ?ga_InvalidTree ?gg_InvalidTree ?hC_InvalidTree ?nf0_InvalidTree ?iC_InvalidTree ?su_InvalidTree ?iB_InvalidTree ?ini_InvalidTree ?ti_InvalidTree ?li_InvalidTree ?ci_InvalidTree ?ce_InvalidTree ?co_InvalidTree ?fi_InvalidTree ?kda_ ?y_InvalidBook ?v_InvalidBook ?sa_InvalidBook ?eC_InvalidBook ?tC_InvalidBook ?kC_InvalidBook ?ga_InvalidBook ?gg_InvalidBook ?hC_InvalidBook ?nf0_InvalidBook ?iC_InvalidBook ?su_InvalidBook ?iB_InvalidBook ?ini_InvalidBook ?ti_InvalidBook ?li_InvalidBook ?ci_InvalidBook ?ce_InvalidBook ?co_InvalidBook ?fi_InvalidBook ?kct_ ?y_UnknownPlace ?v_UnknownPlace ?sa_UnknownPlace ?eC_UnknownPlace ?tC_UnknownPlace ?kC_UnknownPlace ?ga_UnknownPlace ?gg_UnknownPlace ?hC_UnknownPlace ?nf0_UnknownPlace ?iC_UnknownPlace ?su_UnknownPlace ?iB_UnknownPlace ?ini_UnknownPlace ?ti_UnknownPlace ?li_UnknownPlace ?ci_UnknownPlace ?ce_UnknownPlace ?co_UnknownPlace ?fi_UnknownPlace ?kbP_ ?y_UnknownVertex ?v_UnknownVertex ?sa_UnknownVertex ?eC_UnknownVertex ?tC_UnknownVertex ?kC_UnknownVertex ?ga_UnknownVertex ?gg_UnknownVertex ?hC_UnknownVertex ?nf0_UnknownVertex ?iC_UnknownVertex ?su_UnknownVertex ?iB_UnknownVertex ?ini_UnknownVertex ?ti_UnknownVertex ?li_UnknownVertex ?ci_UnknownVertex ?ce_UnknownVertex ?co_UnknownVertex ?fi_UnknownVertex ?kdb_ ?y_UnknownName ?v_UnknownName ?sa_UnknownName ?eC_UnknownName ?tC_UnknownName ?kC_UnknownName ?ga_UnknownName ?gg_UnknownName ?hC_UnknownName ?nf0_UnknownName ?iC_UnknownName ?su_UnknownName ?iB_UnknownName ?ini_UnknownName ?ti_UnknownName ?li_UnknownName ?ci_UnknownName ?ce_UnknownName ?co_UnknownName ?fi_UnknownName ?kbQ_ ?y_UnknownMember ?v_UnknownMember ?sa_UnknownMember ?eC_UnknownMember ?tC_UnknownMember ?kC_UnknownMember ?ga_UnknownMember ?gg_UnknownMember ?hC_UnknownMember ?nf0_UnknownMember ?iC_UnknownMember ?su_UnknownMember ?iB_UnknownMember ?ini_UnknownMember ?ti_UnknownMember ?li_UnknownMember ?ci_UnknownMember ?ce_UnknownMember ?co_UnknownMember ?fi_UnknownMember ?kbR_ ?y_NotApplicable ?v_NotApplicable ?sa_NotApplicable ?eC_NotApplicable ?tC_NotApplicable ?kC_NotApplicable ?ga_NotApplicable ?gg_NotApplicable ?hC_NotApplicable ?nf0_NotApplicable ?nf1_NotApplicable ?iC_NotApplicable ?su_NotApplicable ?iB_NotApplicable ?ini_NotApplicable ?ti_NotApplicable ?li_NotApplicable ?ci_NotApplicable ?ce_NotApplicable ?co_NotApplicable ?fi_NotApplicable ?kjy_ ?y_NotSelf ?v_NotSelf ?sa_NotSelf ?eC_NotSelf ?tC_NotSelf ?kC_NotSelf ?ga_NotSelf ?gg_NotSelf ?hC_NotSelf ?nf0_NotSelf ?iC_NotSelf ?su_NotSelf ?iB_NotSelf ?ini_NotSelf ?ti_NotSelf ?li_NotSelf ?ci_NotSelf ?ce_NotSelf ?co_NotSelf ?fi_NotSelf ?kd4_ ?y_NotNormal ?v_NotNormal ?sa_NotNormal ?eC_NotNormal ?tC_NotNormal ?kC_NotNormal ?ga_NotNormal ?gg_NotNormal ?hC_NotNormal ?nf0_NotNormal ?iC_NotNormal ?su_NotNormal ?iB_NotNormal ?ini_NotNormal ?ti_NotNormal ?li_NotNormal ?ci_NotNormal ?ce_NotNormal ?co_NotNormal ?fi_NotNormal ?kd5_ ?y_Unrelated ?v_Unrelated ?sa_Unrelated ?eC_Unrelated ?tC_Unrelated ?kC_Unrelated ?ga_Unrelated ?gg_Unrelated ?hC_Unrelated ?nf0_Unrelated ?nf1_Unrelated ?iC_Unrelated ?su_Unrelated ?iB_Unrelated ?ini_Unrelated ?ti_Unrelated ?li_Unrelated ?ci_Unrelated ?ce_Unrelated ?co_Unrelated ?fi_Unrelated ?kbS_ ?y_DuplicateName ?v_DuplicateName ?sa_DuplicateName ?eC_DuplicateName ?tC_DuplicateName ?kC_DuplicateName ?ga_DuplicateName ?gg_DuplicateName ?hC_DuplicateName ?nf0_DuplicateName ?iC_DuplicateName ?su_DuplicateName ?iB_DuplicateName ?ini_DuplicateName ?ti_DuplicateName ?li_DuplicateName ?ci_DuplicateName ?ce_DuplicateName ?co_DuplicateName ?fi_DuplicateName ?knZ_ ?y_InUse ?v_InUse ?sa_InUse ?eC_InUse ?tC_InUse ?kC_InUse ?ga_InUse ?gg_InUse ?hC_InUse ?nf0_InUse ?iC_InUse ?su_InUse ?iB_InUse ?ini_InUse ?ti_InUse ?li_InUse ?ci_InUse ?ce_InUse ?co_InUse ?fi_InUse ?kle_ ?y_Cyclic ?v_Cyclic ?sa_Cyclic ?eC_Cyclic ?tC_Cyclic ?kC_Cyclic ?ga_Cyclic ?gg_Cyclic ?hC_Cyclic ?nf0_Cyclic ?iC_Cyclic ?su_Cyclic ?iB_Cyclic ?ini_Cyclic ?ti_Cyclic ?li_Cyclic ?ci_Cyclic ?ce_Cyclic ?co_Cyclic ?fi_Cyclic ?kf8_ ?y_TooLarge ?v_TooLarge ?sa_TooLarge ?eC_TooLarge ?tC_TooLarge ?kC_TooLarge ?ga_TooLarge ?gg_TooLarge ?hC_TooLarge ?nf0_TooLarge ?iC_TooLarge ?su_TooLarge ?iB_TooLarge ?ini_TooLarge ?ti_TooLarge ?li_TooLarge ?ci_TooLarge ?ce_TooLarge ?co_TooLarge ?fi_TooLarge ?kbT_ ?y_NothingToUndo ?v_NothingToUndo ?sa_NothingToUndo ?eC_NothingToUndo ?tC_NothingToUndo ?kC_NothingToUndo ?ga_NothingToUndo ?gg_NothingToUndo ?hC_NothingToUndo ?iC_NothingToUndo ?su_NothingToUndo ?iB_NothingToUndo ?ini_NothingToUndo ?ti_NothingToUndo ?li_NothingToUndo ?ci_NothingToUndo ?ce_NothingToUndo ?co_NothingToUndo ?fi_NothingToUndo ?kdc_ ?y_StrandError ?v_StrandError ?sa_StrandError ?eC_StrandError ?tC_StrandError ?kC_StrandError ?xn_StrandError ?kjz_ ?y_Missing ?v_Missing ?sa_Missing ?eC_Missing ?tC_Missing ?kC_Missing ?xn_Missing ?kjA_ ?y_Blocked ?v_Blocked ?sa_Blocked ?eC_Blocked ?tC_Blocked ?kC_Blocked ?xn_Blocked ?et) KX hmg ⟨rfl, rfl⟩  Z.krb_
    (case kpA_ => k_is); (case kqJ_ => k_is); (case kK_ => k_is); (case kaC_ => k_is); (case kb0_ => k_is); (case kaM_ => k_is); (case kcI_ => k_is); (case kqK_ => k_is); (case ke2_ => k_is); (case krn_ => k_is); (case kdZ_ => k_is); (case krc_ => k_is); (case k_l_cell => k_is); (case krd_ => k_is); (case kj1_ => k_is); (case ktF_ => k_is); (case k_l_box => k_is); (case ktG_ => k_is); (case keU_ => k_is); (case kre_ => k_is); (case k_l_take => k_is); (case krf_ => k_is); (case kdG_ => k_is); (case koT_ => k_is); (case k_l_thing => k_is); (case koU_ => k_is); (case kaJ_ => k_is); (case kjB_ => k_is); (case k_l_with_value => k_is); (case kjC_ => k_is); (case kdH_ => k_is); (case koV_ => k_is); (case k_l_under => k_is); (case koW_ => k_is); (case kdI_ => k_is); (case koX_ => k_is); (case k_l_alone => k_is); (case koY_ => k_is); (case kdJ_ => k_is); (case koZ_ => k_is); (case k_l_right => k_is); (case ko0_ => k_is); (case kaq_ => k_is); (case khs_ => k_is); (case k_l_bases_right => k_is); (case kht_ => k_is); (case krm_ => k_is); (case kzX_ => k_is); (case k_law => k_is); (case kzY_ => k_is); (case noS => k_is); (case opq => k_is); (case kbm_ => k_is); (case y_InvalidInteger => k_is); (case v_InvalidInteger => decide +kernel); (case sa_InvalidInteger => k_is); (case eC_InvalidInteger => k_is); (case tC_InvalidInteger => k_is); (case kC_InvalidInteger => k_is); (case ga_InvalidInteger => k_is); (case gg_InvalidInteger => k_is); (case hC_InvalidInteger => k_is); (case nf0_InvalidInteger => k_is); (case iC_InvalidInteger => k_is); (case su_InvalidInteger => ks_is); (case iB_InvalidInteger => k_is); (case ini_InvalidInteger => k_is); (case ti_InvalidInteger => k_is); (case li_InvalidInteger => k_is); (case ci_InvalidInteger => k_is); (case ce_InvalidInteger => k_is); (case co_InvalidInteger => k_is); (case fi_InvalidInteger => rfl); (case kco_ => k_is); (case y_InvalidArity => k_is); (case v_InvalidArity => decide +kernel); (case sa_InvalidArity => k_is); (case eC_InvalidArity => k_is); (case tC_InvalidArity => k_is); (case kC_InvalidArity => k_is); (case ga_InvalidArity => k_is); (case gg_InvalidArity => k_is); (case hC_InvalidArity => k_is); (case nf0_InvalidArity => k_is); (case iC_InvalidArity => k_is); (case su_InvalidArity => ks_is); (case iB_InvalidArity => k_is); (case ini_InvalidArity => k_is); (case ti_InvalidArity => k_is); (case li_InvalidArity => k_is); (case ci_InvalidArity => k_is); (case ce_InvalidArity => k_is); (case co_InvalidArity => k_is); (case fi_InvalidArity => rfl); (case kcp_ => k_is); (case y_InvalidPlace => k_is); (case v_InvalidPlace => decide +kernel); (case sa_InvalidPlace => k_is); (case eC_InvalidPlace => k_is); (case tC_InvalidPlace => k_is); (case kC_InvalidPlace => k_is); (case ga_InvalidPlace => k_is); (case gg_InvalidPlace => k_is); (case hC_InvalidPlace => k_is); (case nf0_InvalidPlace => k_is); (case iC_InvalidPlace => k_is); (case su_InvalidPlace => ks_is); (case iB_InvalidPlace => k_is); (case ini_InvalidPlace => k_is); (case ti_InvalidPlace => k_is); (case li_InvalidPlace => k_is); (case ci_InvalidPlace => k_is); (case ce_InvalidPlace => k_is); (case co_InvalidPlace => k_is); (case fi_InvalidPlace => rfl); (case kbO_ => k_is); (case y_InvalidPlaces => k_is); (case v_InvalidPlaces => decide +kernel); (case sa_InvalidPlaces => k_is); (case eC_InvalidPlaces => k_is); (case tC_InvalidPlaces => k_is); (case kC_InvalidPlaces => k_is); (case ga_InvalidPlaces => k_is); (case gg_InvalidPlaces => k_is); (case hC_InvalidPlaces => k_is); (case nf0_InvalidPlaces => k_is); (case iC_InvalidPlaces => k_is); (case su_InvalidPlaces => ks_is); (case iB_InvalidPlaces => k_is); (case ini_InvalidPlaces => k_is); (case ti_InvalidPlaces => k_is); (case li_InvalidPlaces => k_is); (case ci_InvalidPlaces => k_is); (case ce_InvalidPlaces => k_is); (case co_InvalidPlaces => k_is); (case fi_InvalidPlaces => rfl); (case kcq_ => k_is); (case y_InvalidCover => k_is); (case v_InvalidCover => decide +kernel); (case sa_InvalidCover => k_is); (case eC_InvalidCover => k_is); (case tC_InvalidCover => k_is); (case kC_InvalidCover => k_is); (case ga_InvalidCover => k_is); (case gg_InvalidCover => k_is); (case hC_InvalidCover => k_is); (case nf0_InvalidCover => k_is); (case iC_InvalidCover => k_is); (case su_InvalidCover => ks_is); (case iB_InvalidCover => k_is); (case ini_InvalidCover => k_is); (case ti_InvalidCover => k_is); (case li_InvalidCover => k_is); (case ci_InvalidCover => k_is); (case ce_InvalidCover => k_is); (case co_InvalidCover => k_is); (case fi_InvalidCover => rfl); (case kcr_ => k_is); (case y_InvalidPairs => k_is); (case v_InvalidPairs => decide +kernel); (case sa_InvalidPairs => k_is); (case eC_InvalidPairs => k_is); (case tC_InvalidPairs => k_is); (case kC_InvalidPairs => k_is); (case ga_InvalidPairs => k_is); (case gg_InvalidPairs => k_is); (case hC_InvalidPairs => k_is); (case nf0_InvalidPairs => k_is); (case iC_InvalidPairs => k_is); (case su_InvalidPairs => ks_is); (case iB_InvalidPairs => k_is); (case ini_InvalidPairs => k_is); (case ti_InvalidPairs => k_is); (case li_InvalidPairs => k_is); (case ci_InvalidPairs => k_is); (case ce_InvalidPairs => k_is); (case co_InvalidPairs => k_is); (case fi_InvalidPairs => rfl); (case kcs_ => k_is); (case y_InvalidTable => k_is); (case v_InvalidTable => decide +kernel); (case sa_InvalidTable => k_is); (case eC_InvalidTable => k_is); (case tC_InvalidTable => k_is); (case kC_InvalidTable => k_is); (case ga_InvalidTable => k_is); (case gg_InvalidTable => k_is); (case hC_InvalidTable => k_is); (case nf0_InvalidTable => k_is); (case iC_InvalidTable => k_is); (case su_InvalidTable => ks_is); (case iB_InvalidTable => k_is); (case ini_InvalidTable => k_is); (case ti_InvalidTable => k_is); (case li_InvalidTable => k_is); (case ci_InvalidTable => k_is); (case ce_InvalidTable => k_is); (case co_InvalidTable => k_is); (case fi_InvalidTable => rfl); (case kf7_ => k_is); (case y_Mismatch => k_is); (case v_Mismatch => decide +kernel); (case sa_Mismatch => k_is); (case eC_Mismatch => k_is); (case tC_Mismatch => k_is); (case kC_Mismatch => k_is); (case ga_Mismatch => k_is); (case gg_Mismatch => k_is); (case hC_Mismatch => k_is); (case nf0_Mismatch => k_is); (case nf1_Mismatch => k_is); (case iC_Mismatch => k_is); (case su_Mismatch => ks_is); (case iB_Mismatch => k_is); (case ini_Mismatch => k_is); (case ti_Mismatch => k_is); (case li_Mismatch => k_is); (case ci_Mismatch => k_is); (case ce_Mismatch => k_is); (case co_Mismatch => k_is); (case fi_Mismatch => rfl); (case kc3_ => k_is); (case y_InvalidWord => k_is); (case v_InvalidWord => decide +kernel); (case sa_InvalidWord => k_is); (case eC_InvalidWord => k_is); (case tC_InvalidWord => k_is); (case kC_InvalidWord => k_is); (case ga_InvalidWord => k_is); (case gg_InvalidWord => k_is); (case hC_InvalidWord => k_is); (case nf0_InvalidWord => k_is); (case iC_InvalidWord => k_is); (case su_InvalidWord => ks_is); (case iB_InvalidWord => k_is); (case ini_InvalidWord => k_is); (case ti_InvalidWord => k_is); (case li_InvalidWord => k_is); (case ci_InvalidWord => k_is); (case ce_InvalidWord => k_is); (case co_InvalidWord => k_is); (case fi_InvalidWord => rfl); (case kc4_ => k_is); (case y_InvalidPath => k_is); (case v_InvalidPath => decide +kernel); (case sa_InvalidPath => k_is); (case eC_InvalidPath => k_is); (case tC_InvalidPath => k_is); (case kC_InvalidPath => k_is); (case ga_InvalidPath => k_is); (case gg_InvalidPath => k_is); (case hC_InvalidPath => k_is); (case nf0_InvalidPath => k_is); (case iC_InvalidPath => k_is); (case su_InvalidPath => ks_is); (case iB_InvalidPath => k_is); (case ini_InvalidPath => k_is); (case ti_InvalidPath => k_is); (case li_InvalidPath => k_is); (case ci_InvalidPath => k_is); (case ce_InvalidPath => k_is); (case co_InvalidPath => k_is); (case fi_InvalidPath => rfl); (case kc5_ => k_is); (case y_InvalidText => k_is); (case v_InvalidText => decide +kernel); (case sa_InvalidText => k_is); (case eC_InvalidText => k_is); (case tC_InvalidText => k_is); (case kC_InvalidText => k_is); (case ga_InvalidText => k_is); (case gg_InvalidText => k_is); (case hC_InvalidText => k_is); (case nf0_InvalidText => k_is); (case iC_InvalidText => k_is); (case su_InvalidText => ks_is); (case iB_InvalidText => k_is); (case ini_InvalidText => k_is); (case ti_InvalidText => k_is); (case li_InvalidText => k_is); (case ci_InvalidText => k_is); (case ce_InvalidText => k_is); (case co_InvalidText => k_is); (case fi_InvalidText => rfl); (case kbn_ => k_is); (case y_InvalidDiagram => k_is); (case v_InvalidDiagram => decide +kernel); (case sa_InvalidDiagram => k_is); (case eC_InvalidDiagram => k_is); (case tC_InvalidDiagram => k_is); (case kC_InvalidDiagram => k_is); (case ga_InvalidDiagram => k_is); (case gg_InvalidDiagram => k_is); (case hC_InvalidDiagram => k_is); (case nf0_InvalidDiagram => k_is); (case iC_InvalidDiagram => k_is); (case su_InvalidDiagram => ks_is); (case iB_InvalidDiagram => k_is); (case ini_InvalidDiagram => k_is); (case ti_InvalidDiagram => k_is); (case li_InvalidDiagram => k_is); (case ci_InvalidDiagram => k_is); (case ce_InvalidDiagram => k_is); (case co_InvalidDiagram => k_is); (case fi_InvalidDiagram => rfl); (case kc6_ => k_is); (case y_InvalidStep => k_is); (case v_InvalidStep => decide +kernel); (case sa_InvalidStep => k_is); (case eC_InvalidStep => k_is); (case tC_InvalidStep => k_is); (case kC_InvalidStep => k_is); (case ga_InvalidStep => k_is); (case gg_InvalidStep => k_is); (case hC_InvalidStep => k_is); (case nf0_InvalidStep => k_is); (case iC_InvalidStep => k_is); (case su_InvalidStep => ks_is); (case iB_InvalidStep => k_is); (case ini_InvalidStep => k_is); (case ti_InvalidStep => k_is); (case li_InvalidStep => k_is); (case ci_InvalidStep => k_is); (case ce_InvalidStep => k_is); (case co_InvalidStep => k_is); (case fi_InvalidStep => rfl); (case kdA_ => k_is); (case y_InvalidLog => k_is); (case v_InvalidLog => decide +kernel); (case sa_InvalidLog => k_is); (case eC_InvalidLog => k_is); (case tC_InvalidLog => k_is); (case kC_InvalidLog => k_is); (case ga_InvalidLog => k_is); (case gg_InvalidLog => k_is); (case hC_InvalidLog => k_is); (case nf0_InvalidLog => k_is); (case iC_InvalidLog => k_is); (case su_InvalidLog => ks_is); (case iB_InvalidLog => k_is); (case ini_InvalidLog => k_is); (case ti_InvalidLog => k_is); (case li_InvalidLog => k_is); (case ci_InvalidLog => k_is); (case ce_InvalidLog => k_is); (case co_InvalidLog => k_is); (case fi_InvalidLog => rfl); (case kc7_ => k_is); (case y_InvalidName => k_is); (case v_InvalidName => decide +kernel); (case sa_InvalidName => k_is); (case eC_InvalidName => k_is); (case tC_InvalidName => k_is); (case kC_InvalidName => k_is); (case ga_InvalidName => k_is); (case gg_InvalidName => k_is); (case hC_InvalidName => k_is); (case nf0_InvalidName => k_is); (case iC_InvalidName => k_is); (case su_InvalidName => ks_is); (case iB_InvalidName => k_is); (case ini_InvalidName => k_is); (case ti_InvalidName => k_is); (case li_InvalidName => k_is); (case ci_InvalidName => k_is); (case ce_InvalidName => k_is); (case co_InvalidName => k_is); (case fi_InvalidName => rfl); (case kbo_ => k_is); (case y_InvalidFormula => k_is); (case v_InvalidFormula => decide +kernel); (case sa_InvalidFormula => k_is); (case eC_InvalidFormula => k_is); (case tC_InvalidFormula => k_is); (case kC_InvalidFormula => k_is); (case ga_InvalidFormula => k_is); (case gg_InvalidFormula => k_is); (case hC_InvalidFormula => k_is); (case nf0_InvalidFormula => k_is); (case iC_InvalidFormula => k_is); (case su_InvalidFormula => ks_is); (case iB_InvalidFormula => k_is); (case ini_InvalidFormula => k_is); (case ti_InvalidFormula => k_is); (case li_InvalidFormula => k_is); (case ci_InvalidFormula => k_is); (case ce_InvalidFormula => k_is); (case co_InvalidFormula => k_is); (case fi_InvalidFormula => rfl); (case kc8_ => k_is); (case y_InvalidLine => k_is); (case v_InvalidLine => decide +kernel); (case sa_InvalidLine => k_is); (case eC_InvalidLine => k_is); (case tC_InvalidLine => k_is); (case kC_InvalidLine => k_is); (case ga_InvalidLine => k_is); (case gg_InvalidLine => k_is); (case hC_InvalidLine => k_is); (case nf0_InvalidLine => k_is); (case iC_InvalidLine => k_is); (case su_InvalidLine => ks_is); (case iB_InvalidLine => k_is); (case ini_InvalidLine => k_is); (case ti_InvalidLine => k_is); (case li_InvalidLine => k_is); (case ci_InvalidLine => k_is); (case ce_InvalidLine => k_is); (case co_InvalidLine => k_is); (case fi_InvalidLine => rfl); (case kc9_ => k_is); (case y_InvalidTree => k_is); (case v_InvalidTree => decide +kernel); (case sa_InvalidTree => k_is); (case eC_InvalidTree => k_is); (case tC_InvalidTree => k_is); (case kC_InvalidTree => k_is); (case ga_InvalidTree => k_is); (case gg_InvalidTree => k_is); (case hC_InvalidTree => k_is); (case nf0_InvalidTree => k_is); (case iC_InvalidTree => k_is); (case su_InvalidTree => ks_is); (case iB_InvalidTree => k_is); (case ini_InvalidTree => k_is); (case ti_InvalidTree => k_is); (case li_InvalidTree => k_is); (case ci_InvalidTree => k_is); (case ce_InvalidTree => k_is); (case co_InvalidTree => k_is); (case fi_InvalidTree => rfl); (case kda_ => k_is); (case y_InvalidBook => k_is); (case v_InvalidBook => decide +kernel); (case sa_InvalidBook => k_is); (case eC_InvalidBook => k_is); (case tC_InvalidBook => k_is); (case kC_InvalidBook => k_is); (case ga_InvalidBook => k_is); (case gg_InvalidBook => k_is); (case hC_InvalidBook => k_is); (case nf0_InvalidBook => k_is); (case iC_InvalidBook => k_is); (case su_InvalidBook => ks_is); (case iB_InvalidBook => k_is); (case ini_InvalidBook => k_is); (case ti_InvalidBook => k_is); (case li_InvalidBook => k_is); (case ci_InvalidBook => k_is); (case ce_InvalidBook => k_is); (case co_InvalidBook => k_is); (case fi_InvalidBook => rfl); (case kct_ => k_is); (case y_UnknownPlace => k_is); (case v_UnknownPlace => decide +kernel); (case sa_UnknownPlace => k_is); (case eC_UnknownPlace => k_is); (case tC_UnknownPlace => k_is); (case kC_UnknownPlace => k_is); (case ga_UnknownPlace => k_is); (case gg_UnknownPlace => k_is); (case hC_UnknownPlace => k_is); (case nf0_UnknownPlace => k_is); (case iC_UnknownPlace => k_is); (case su_UnknownPlace => ks_is); (case iB_UnknownPlace => k_is); (case ini_UnknownPlace => k_is); (case ti_UnknownPlace => k_is); (case li_UnknownPlace => k_is); (case ci_UnknownPlace => k_is); (case ce_UnknownPlace => k_is); (case co_UnknownPlace => k_is); (case fi_UnknownPlace => rfl); (case kbP_ => k_is); (case y_UnknownVertex => k_is); (case v_UnknownVertex => decide +kernel); (case sa_UnknownVertex => k_is); (case eC_UnknownVertex => k_is); (case tC_UnknownVertex => k_is); (case kC_UnknownVertex => k_is); (case ga_UnknownVertex => k_is); (case gg_UnknownVertex => k_is); (case hC_UnknownVertex => k_is); (case nf0_UnknownVertex => k_is); (case iC_UnknownVertex => k_is); (case su_UnknownVertex => ks_is); (case iB_UnknownVertex => k_is); (case ini_UnknownVertex => k_is); (case ti_UnknownVertex => k_is); (case li_UnknownVertex => k_is); (case ci_UnknownVertex => k_is); (case ce_UnknownVertex => k_is); (case co_UnknownVertex => k_is); (case fi_UnknownVertex => rfl); (case kdb_ => k_is); (case y_UnknownName => k_is); (case v_UnknownName => decide +kernel); (case sa_UnknownName => k_is); (case eC_UnknownName => k_is); (case tC_UnknownName => k_is); (case kC_UnknownName => k_is); (case ga_UnknownName => k_is); (case gg_UnknownName => k_is); (case hC_UnknownName => k_is); (case nf0_UnknownName => k_is); (case iC_UnknownName => k_is); (case su_UnknownName => ks_is); (case iB_UnknownName => k_is); (case ini_UnknownName => k_is); (case ti_UnknownName => k_is); (case li_UnknownName => k_is); (case ci_UnknownName => k_is); (case ce_UnknownName => k_is); (case co_UnknownName => k_is); (case fi_UnknownName => rfl); (case kbQ_ => k_is); (case y_UnknownMember => k_is); (case v_UnknownMember => decide +kernel); (case sa_UnknownMember => k_is); (case eC_UnknownMember => k_is); (case tC_UnknownMember => k_is); (case kC_UnknownMember => k_is); (case ga_UnknownMember => k_is); (case gg_UnknownMember => k_is); (case hC_UnknownMember => k_is); (case nf0_UnknownMember => k_is); (case iC_UnknownMember => k_is); (case su_UnknownMember => ks_is); (case iB_UnknownMember => k_is); (case ini_UnknownMember => k_is); (case ti_UnknownMember => k_is); (case li_UnknownMember => k_is); (case ci_UnknownMember => k_is); (case ce_UnknownMember => k_is); (case co_UnknownMember => k_is); (case fi_UnknownMember => rfl); (case kbR_ => k_is); (case y_NotApplicable => k_is); (case v_NotApplicable => decide +kernel); (case sa_NotApplicable => k_is); (case eC_NotApplicable => k_is); (case tC_NotApplicable => k_is); (case kC_NotApplicable => k_is); (case ga_NotApplicable => k_is); (case gg_NotApplicable => k_is); (case hC_NotApplicable => k_is); (case nf0_NotApplicable => k_is); (case nf1_NotApplicable => k_is); (case iC_NotApplicable => k_is); (case su_NotApplicable => ks_is); (case iB_NotApplicable => k_is); (case ini_NotApplicable => k_is); (case ti_NotApplicable => k_is); (case li_NotApplicable => k_is); (case ci_NotApplicable => k_is); (case ce_NotApplicable => k_is); (case co_NotApplicable => k_is); (case fi_NotApplicable => rfl); (case kjy_ => k_is); (case y_NotSelf => k_is); (case v_NotSelf => decide +kernel); (case sa_NotSelf => k_is); (case eC_NotSelf => k_is); (case tC_NotSelf => k_is); (case kC_NotSelf => k_is); (case ga_NotSelf => k_is); (case gg_NotSelf => k_is); (case hC_NotSelf => k_is); (case nf0_NotSelf => k_is); (case iC_NotSelf => k_is); (case su_NotSelf => ks_is); (case iB_NotSelf => k_is); (case ini_NotSelf => k_is); (case ti_NotSelf => k_is); (case li_NotSelf => k_is); (case ci_NotSelf => k_is); (case ce_NotSelf => k_is); (case co_NotSelf => k_is); (case fi_NotSelf => rfl); (case kd4_ => k_is); (case y_NotNormal => k_is); (case v_NotNormal => decide +kernel); (case sa_NotNormal => k_is); (case eC_NotNormal => k_is); (case tC_NotNormal => k_is); (case kC_NotNormal => k_is); (case ga_NotNormal => k_is); (case gg_NotNormal => k_is); (case hC_NotNormal => k_is); (case nf0_NotNormal => k_is); (case iC_NotNormal => k_is); (case su_NotNormal => ks_is); (case iB_NotNormal => k_is); (case ini_NotNormal => k_is); (case ti_NotNormal => k_is); (case li_NotNormal => k_is); (case ci_NotNormal => k_is); (case ce_NotNormal => k_is); (case co_NotNormal => k_is); (case fi_NotNormal => rfl); (case kd5_ => k_is); (case y_Unrelated => k_is); (case v_Unrelated => decide +kernel); (case sa_Unrelated => k_is); (case eC_Unrelated => k_is); (case tC_Unrelated => k_is); (case kC_Unrelated => k_is); (case ga_Unrelated => k_is); (case gg_Unrelated => k_is); (case hC_Unrelated => k_is); (case nf0_Unrelated => k_is); (case nf1_Unrelated => k_is); (case iC_Unrelated => k_is); (case su_Unrelated => ks_is); (case iB_Unrelated => k_is); (case ini_Unrelated => k_is); (case ti_Unrelated => k_is); (case li_Unrelated => k_is); (case ci_Unrelated => k_is); (case ce_Unrelated => k_is); (case co_Unrelated => k_is); (case fi_Unrelated => rfl); (case kbS_ => k_is); (case y_DuplicateName => k_is); (case v_DuplicateName => decide +kernel); (case sa_DuplicateName => k_is); (case eC_DuplicateName => k_is); (case tC_DuplicateName => k_is); (case kC_DuplicateName => k_is); (case ga_DuplicateName => k_is); (case gg_DuplicateName => k_is); (case hC_DuplicateName => k_is); (case nf0_DuplicateName => k_is); (case iC_DuplicateName => k_is); (case su_DuplicateName => ks_is); (case iB_DuplicateName => k_is); (case ini_DuplicateName => k_is); (case ti_DuplicateName => k_is); (case li_DuplicateName => k_is); (case ci_DuplicateName => k_is); (case ce_DuplicateName => k_is); (case co_DuplicateName => k_is); (case fi_DuplicateName => rfl); (case knZ_ => k_is); (case y_InUse => k_is); (case v_InUse => decide +kernel); (case sa_InUse => k_is); (case eC_InUse => k_is); (case tC_InUse => k_is); (case kC_InUse => k_is); (case ga_InUse => k_is); (case gg_InUse => k_is); (case hC_InUse => k_is); (case nf0_InUse => k_is); (case iC_InUse => k_is); (case su_InUse => ks_is); (case iB_InUse => k_is); (case ini_InUse => k_is); (case ti_InUse => k_is); (case li_InUse => k_is); (case ci_InUse => k_is); (case ce_InUse => k_is); (case co_InUse => k_is); (case fi_InUse => rfl); (case kle_ => k_is); (case y_Cyclic => k_is); (case v_Cyclic => decide +kernel); (case sa_Cyclic => k_is); (case eC_Cyclic => k_is); (case tC_Cyclic => k_is); (case kC_Cyclic => k_is); (case ga_Cyclic => k_is); (case gg_Cyclic => k_is); (case hC_Cyclic => k_is); (case nf0_Cyclic => k_is); (case iC_Cyclic => k_is); (case su_Cyclic => ks_is); (case iB_Cyclic => k_is); (case ini_Cyclic => k_is); (case ti_Cyclic => k_is); (case li_Cyclic => k_is); (case ci_Cyclic => k_is); (case ce_Cyclic => k_is); (case co_Cyclic => k_is); (case fi_Cyclic => rfl); (case kf8_ => k_is); (case y_TooLarge => k_is); (case v_TooLarge => decide +kernel); (case sa_TooLarge => k_is); (case eC_TooLarge => k_is); (case tC_TooLarge => k_is); (case kC_TooLarge => k_is); (case ga_TooLarge => k_is); (case gg_TooLarge => k_is); (case hC_TooLarge => k_is); (case nf0_TooLarge => k_is); (case iC_TooLarge => k_is); (case su_TooLarge => ks_is); (case iB_TooLarge => k_is); (case ini_TooLarge => k_is); (case ti_TooLarge => k_is); (case li_TooLarge => k_is); (case ci_TooLarge => k_is); (case ce_TooLarge => k_is); (case co_TooLarge => k_is); (case fi_TooLarge => rfl); (case kbT_ => k_is); (case y_NothingToUndo => k_is); (case v_NothingToUndo => decide +kernel); (case sa_NothingToUndo => k_is); (case eC_NothingToUndo => k_is); (case tC_NothingToUndo => k_is); (case kC_NothingToUndo => k_is); (case ga_NothingToUndo => k_is); (case gg_NothingToUndo => k_is); (case hC_NothingToUndo => k_is); (case iC_NothingToUndo => k_is); (case su_NothingToUndo => ks_is); (case iB_NothingToUndo => k_is); (case ini_NothingToUndo => k_is); (case ti_NothingToUndo => k_is); (case li_NothingToUndo => k_is); (case ci_NothingToUndo => k_is); (case ce_NothingToUndo => k_is); (case co_NothingToUndo => k_is); (case fi_NothingToUndo => rfl); (case kdc_ => k_is); (case y_StrandError => k_is); (case v_StrandError => decide +kernel); (case sa_StrandError => k_is); (case eC_StrandError => k_is); (case tC_StrandError => k_is); (case kC_StrandError => k_is); (case xn_StrandError => k_is); (case kjz_ => k_is); (case y_Missing => k_is); (case v_Missing => decide +kernel); (case sa_Missing => k_is); (case eC_Missing => k_is); (case tC_Missing => k_is); (case kC_Missing => k_is); (case xn_Missing => k_is); (case kjA_ => k_is); (case y_Blocked => k_is); (case v_Blocked => decide +kernel); (case sa_Blocked => k_is); (case eC_Blocked => k_is); (case tC_Blocked => k_is); (case kC_Blocked => k_is); (case xn_Blocked => k_is); (case et => first | kernel_rfl | decide +kernel)
    skip
