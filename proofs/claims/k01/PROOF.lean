import PyProof.Rows.All
import Wide.All
import OpenK.AllK
import Wide.FinOn
import HandS.ForMost
import HandS.GenList
import HandS.Lambda
import PyProof.ConsumeS
import PyProof.TupleOfGen
import KE.GoesEnum
import HandS.Zip
import HandS.DictComp
import KE.KeyNested
import HandS.IsInst
import HandS.TupAny
import HandS.Deep
import HandS.SortInts
import HandS.SetFor
import HandS.Strs
import HandS.Words
import HandS.EndOwn
import PyProof.JoinWalk
import KE.KSetDisp
import HandS.ClsMeth
import HandS.Steps
import HandS.Conv
import HandS.SortRule
import HandS.Small
import KE.DatumOrd
import KE.KRevSl
import HandS.Style
import KE.SortData
import HandS.Dict
import HandS.SortKw
import KE.DataMinMax
import KE.SortKeyHeap
import PyProof.ReprRoads
import PyProof.Rows.RegFStrParts
import PyProof.Rows.ReprOcc
import HandS.FStr
import HandS.TupSets
import HandS.TryOnly
import KE.DataEq
import PyProof.StrLawsTight
import PyProof.StrLawsChain
import HandS.Zip0
import KE.KDictZip
import HandS.ExcInit
import HandS.ExcIs
import HandS.ExcField
import KE.KExcIs
import HandS.ExcCtx
import HandS.HotCalls
import PySem.Challenge.RW_formalconcepts_k01_the_first_fault_of_a
set_option Elab.async false
set_option linter.all false
set_option maxRecDepth 100000
set_option maxHeartbeats 2000000
namespace GX
open PySem PySem.Spec PyProof.Rows L2 GenW

/-! ## 1. code objects and their tables -/
/-- the object at c is a code object whose table stands at P -/
def CodeG (c P : Addr) : HO := .ext fun h => PySem.W.CodeHd h c P
/-- a table's entry at a place: a generator expression's code object with its own table, or a lambda's -/
def EntryOk (nm : Nat → Nat → Option Str) (H : Hp) (pos : Pos) (c : Addr) : Prop :=
  match nm pos.line pos.col with
  | none => ∃ P', H c = some (CodeG c P') ∧ ∃ ps', H P' = some (.tbl ps')
  | some q => H c = some (LamX.CodeO c q)
def AllTabs (nm : Nat → Nat → Option Str) (H : Hp) : Prop := ∀ P ps, H P = some (.tbl ps) → TriplesOk ps.toList ∧ ∀ (pos : Pos) (cv : Value), codeAmong pos ps.toList = some cv → ∃ c, cv = .ref c ∧ EntryOk nm H pos c
/-- the code object that runs: written ahead of the law, or made on the way -/
def CodeAt (base : Heap) (H : Hp) (c P : Addr) : Prop := PySem.W.CodeHd base c P ∨ H c = some (CodeG c P)

section
variable {X : Cx} {pins : List (Addr × Obj)} {σ : L2.St} {H : Hp} {s : Shared}
theorem codeAt_hd {c P : Addr} (I : Inv X pins σ H s) (h : CodeAt X.base H c P) : PySem.W.CodeHd s.heap c P := by
  rcases h with h | h
  · exact h.keeps I.bk
  · have q := I.hok c _ h
    exact q.1
/-- behind the making of a new code object at c with its table at P', entered into the table at P -/
theorem inv_code {P c P' : Addr} {ps more : Array Value} {h' : Heap} {t' : Nat} (I : Inv X pins σ H s) (hP : H P = some (.tbl ps)) (k : ∀ b o, b ≠ P → s.heap.get? b = some o → h'.get? b = some o)
    (hm : h'.get? P = some { cls := .none, data := .fields (ps ++ more) }) (hc : s.heap.objs.size ≤ c) (hP' : s.heap.objs.size ≤ P') (hne : c ≠ P') (ho : PySem.W.CodeHd h' c P')
    (hp' : h'.get? P' = some { cls := .none, data := .fields #[] }) :
    Inv X pins σ (upd (upd (upd H P (.tbl (ps ++ more))) c (CodeG c P')) P' (.tbl #[])) { s with heap := h', toks := t' } := by
  have nC : H c = none := I.hok.fresh hc
  have nP' : H P' = none := I.hok.fresh hP'
  have nPc : P ≠ c := ne_of_none hP nC
  have nPP : P ≠ P' := ne_of_none hP nP'
  have at_ : ∀ b, b ≠ P → b ≠ c → b ≠ P' → upd (upd (upd H P (.tbl (ps ++ more))) c (CodeG c P')) P' (.tbl #[]) b = H b := fun b h1 h2 h3 => by rw [upd_ne h3, upd_ne h2, upd_ne h1]
  have atP : upd (upd (upd H P (.tbl (ps ++ more))) c (CodeG c P')) P' (.tbl #[]) P = some (.tbl (ps ++ more)) := by rw [upd_ne nPP, upd_ne nPc, upd_same]
  have nP : ∀ b u, H b = some u → (∀ q, u ≠ .tbl q) → b ≠ P := fun b u e q z => by
    rw [z, hP] at e
    exact q ps (Option.some.inj e).symm
  have nN : ∀ b, H b = none → b ≠ P := fun b e z => by
    rw [z, hP] at e
    cases e
  have lt' : ∀ b o, s.heap.get? b = some o → b ≠ c ∧ b ≠ P' := fun b o e => ⟨fun z => by
    rw [z] at e
    exact Nat.lt_irrefl _ (Nat.lt_of_lt_of_le (Heap.lt_size e) hc), fun z => by
    rw [z] at e
    exact Nat.lt_irrefl _ (Nat.lt_of_lt_of_le (Heap.lt_size e) hP')⟩
  have sm : ∀ b u, H b = some u → b ≠ c ∧ b ≠ P' := fun b u e => ⟨ne_of_none e nC, ne_of_none e nP'⟩
  refine I.step (g' := s.gens) (d' := s.drawn) (ch := []) (fun b hb => absurd hb (by simp)) (fun b o _ _ _ e n => k b o (nN b n) e) (fun b o _ _ _ e n => ⟨o.slots, k b o (nN b n) e⟩)
    (fun b o _ e n => by rw [at_ b (nN b n) (lt' b o e).1 (lt' b o e).2]; exact n) (fun b o _ e => ?_) (fun b xs e => by rw [at_ b (nP b _ e (fun q z => by cases z)) (sm b _ e).1 (sm b _ e).2]; exact e) (fun b o u e => by rw [at_ b (nP b _ e (fun q z => by cases z)) (sm b _ e).1 (sm b _ e).2]; exact e) (fun b qs e => ?_) (fun m hn => ?_) (fun b u e => ?_) I.bare
  · by_cases hb : b = P
    · rw [hb]
      exact ⟨_, hm⟩
    · exact ⟨o, k b o hb e⟩
  · by_cases hb : b = P
    · rw [hb, hP] at e
      cases e
      rw [hb, atP]
      exact ⟨more, rfl⟩
    · rw [at_ b hb (sm b _ e).1 (sm b _ e).2, e]
      exact ⟨#[], by simp⟩
  · obtain ⟨ob, es, ep, ho, r⟩ := hn
    exact ⟨ob, es, ep, k _ ob (nN _ I.free) ho, r⟩
  · by_cases hb3 : b = P'
    · rw [hb3, upd_same] at e
      cases e
      rw [hb3]
      exact hp'
    by_cases hb : b = c
    · rw [hb, upd_ne hne, upd_same] at e
      cases e
      rw [hb]
      obtain ⟨o, vs, file, tf, flags, tg, inF, text, tt, e1, r⟩ := id ho
      exact ⟨ho, ⟨o, e1⟩, fun h1 h2 ⟨o, vs, file, tf, flags, tg, inF, text, tt, e1, r⟩ st => ⟨o, vs, file, tf, flags, tg, inF, text, tt, st _ e1, r⟩⟩
    · by_cases hb2 : b = P
      · rw [hb2, atP] at e
        cases e
        rw [hb2]
        exact hm
      · rw [at_ b hb2 hb hb3] at e
        refine (I.hok b u e).stay (fun d v hd q => k d v ?_ q) (fun d q => by rw [at_ d (nP d _ q (fun q z => by cases z)) (sm d _ q).1 (sm d _ q).2]; exact q) fun d xs q => by rw [at_ d (nP d _ q (fun q z => by cases z)) (sm d _ q).1 (sm d _ q).2]; exact q
        rcases hd with z | z
        · rw [z]
          exact hb2
        · exact nP d _ z (fun q z => by cases z)
end

/-- all but the tables stay, and these grow -/
structure Grown (H H' : Hp) : Prop where
  keep : ∀ b o, H b = some o → (∀ ps, o ≠ .tbl ps) → H' b = some o
  tab : ∀ b ps, H b = some (.tbl ps) → ∃ ps', H' b = some (.tbl ps')
theorem Grown.refl (H : Hp) : Grown H H := ⟨fun _ _ e _ => e, fun _ ps e => ⟨ps, e⟩⟩
theorem Grown.trans {H H1 H2 : Hp} (a : Grown H H1) (b : Grown H1 H2) : Grown H H2 :=
  ⟨fun c o e n => b.keep c o (a.keep c o e n) n, fun c ps e => let ⟨ps1, e1⟩ := a.tab c ps e; b.tab c ps1 e1⟩
theorem codeG_ne {c P : Addr} (ps : Array Value) : CodeG c P ≠ .tbl ps := fun z => by
  unfold CodeG at z
  cases z
theorem Grown.entry {nm : Nat → Nat → Option Str} {H H' : Hp} (g : Grown H H') {pos : Pos} {c : Addr} (h : EntryOk nm H pos c) : EntryOk nm H' pos c := by
  unfold EntryOk at h ⊢
  split
  · rename_i e
    rw [e] at h
    obtain ⟨P', h1, ps', h2⟩ := h
    exact ⟨P', g.keep _ _ h1 codeG_ne, g.tab _ _ h2⟩
  · rename_i q e
    rw [e] at h
    exact g.keep _ _ h LamX.codeO_ne

theorem among_pos {pos p' : Pos} {c cv : Value} (l : List Value) (h : TriplesOk l) (hc : codeAmong p' (l ++ [rawInt pos.line, rawInt pos.col, c]) = some cv) : codeAmong p' l = some cv ∨ (cv = c ∧ p'.line = pos.line ∧ p'.col = pos.col) := by
  fun_induction TriplesOk l with
  | case1 =>
    simp only [List.nil_append, rawInt, codeAmong] at hc
    split at hc
    · rename_i q
      refine .inr ⟨(Option.some.inj hc).symm, ?_⟩
      simp at q
      omega
    · cases hc
  | case2 a t b u x rest ih =>
    simp only [List.cons_append, codeAmong] at hc ⊢
    split at hc
    · rename_i q
      rw [if_pos q]
      exact .inl hc
    · rename_i q
      rw [if_neg q]
      exact ih h hc
  | case3 l h1 h2 => exact h.elim

section
variable {X : Cx} {pins : List (Addr × Obj)} {σ : L2.St} {H : Hp} {s : Shared}
/-- the code object of a generator expression: made, or found -/
theorem gen_code {nm : Nat → Nat → Option Str} {c P : Addr} {pos : Pos} {q : Str} {scope : Scope} {E : Value → Shared → Prop} {Q : Value → Shared → Prop} (I : Inv X pins σ H s) (hcode : X.env.code = .ref c) (C : CodeAt X.base H c P)
    (hP : ∃ ps, H P = some (.tbl ps)) (T : AllTabs nm H) (hn : nm pos.line pos.col = none)
    (h : ∀ (c' P' : Addr) (H1 : Hp) (s' : Shared), Inv X pins σ H1 s' → Grown H H1 → AllTabs nm H1 → s'.gens = s.gens → (∀ b o, b ≠ P → s.heap.get? b = some o → s'.heap.get? b = some o) → (∃ o, s'.heap.get? P = some o ∧ ∀ v, o.data ≠ .cell v) → s.heap.objs.size ≤ s'.heap.objs.size → (∀ b o, s.heap.get? b = some o → H b = none → H1 b = none) → H1 c' = some (CodeG c' P') → (∃ ps', H1 P' = some (.tbl ps')) → Q (.ref c') s') :
    wpAny (model X.prog X.w) X.A (genexprCode X.env pos q scope) Q E s := by
  obtain ⟨ps, hP⟩ := hP
  obtain ⟨ht, ha⟩ := T P ps hP
  have hd := codeAt_hd I C
  have hPh : s.heap.get? P = some (PySem.W.tabObj ps) := I.hok P _ hP
  cases hf : codeAmong pos ps.toList with
  | none =>
    refine wpAny_genexprCodeX hcode (hd.code hPh ht) (hd.tab hPh) hf fun c' h' tk hx hge hlt hco hrec htab hnew => ?_
    obtain ⟨P', hP', hic, hit⟩ := hnew
    have hcd : PySem.W.CodeHd h' c' P' := PySem.W.CodeHd.of hic hit
    have hne : c' ≠ P' := by
      obtain ⟨_, _, _, _, _, _, _, _, _, _, _, _, _, _, _, _, _, _, hne⟩ := hcd
      exact hne
    have nC : H c' = none := I.hok.fresh hge
    have nP' : H P' = none := I.hok.fresh hP'
    have I1 := inv_code (t' := tk) I hP (fun b o hb e => hx b o hb e) htab.2 hge hP' hne hcd hit.2
    have nPc : P ≠ c' := ne_of_none hP nC
    have nPP : P ≠ P' := ne_of_none hP nP'
    have G : Grown H (upd (upd (upd H P (.tbl (ps ++ #[rawInt pos.line, rawInt pos.col, .ref c']))) c' (CodeG c' P')) P' (.tbl #[])) := by
      refine ⟨fun b o e n => ?_, fun b qs e => ?_⟩
      · rw [upd_ne (ne_of_none e nP'), upd_ne (ne_of_none e nC), upd_ne (fun z => n ps (Option.some.inj (e.symm.trans (by rw [z]; exact hP))))]
        exact e
      · by_cases hb : b = P
        · rw [hb, upd_ne nPP, upd_ne nPc, upd_same]
          exact ⟨_, rfl⟩
        · rw [upd_ne (ne_of_none e nP'), upd_ne (ne_of_none e nC), upd_ne hb]
          exact ⟨_, e⟩
    refine h c' P' _ _ I1 G (fun Q' qs e => ?_) rfl (fun b o hb e => hx b o hb e) ⟨_, htab.2, fun v z => by cases z⟩ (Nat.le_trans hge (Nat.le_of_lt hlt)) (fun b o e n => by
      have lb := Heap.lt_size e
      rw [upd_ne (Nat.ne_of_lt (Nat.lt_of_lt_of_le lb hP')), upd_ne (Nat.ne_of_lt (Nat.lt_of_lt_of_le lb hge)), upd_ne (fun z => by rw [z, hP] at n; cases n)]
      exact n) (by rw [upd_ne hne, upd_same]) ⟨#[], upd_same⟩
    by_cases hb3 : Q' = P'
    · rw [hb3, upd_same] at e
      cases e
      exact ⟨True.intro, fun pos cv hcv => by simp [codeAmong] at hcv⟩
    rw [upd_ne hb3] at e
    by_cases hb2 : Q' = c'
    · rw [hb2, upd_same] at e
      exact absurd (Option.some.inj e) (codeG_ne qs)
    rw [upd_ne hb2] at e
    by_cases hb1 : Q' = P
    · rw [hb1, upd_same] at e
      cases e
      have eL : (ps ++ #[rawInt pos.line, rawInt pos.col, .ref c']).toList = ps.toList ++ [rawInt pos.line, rawInt pos.col, .ref c'] := by simp
      refine ⟨by rw [eL]; exact PySem.TriplesOk_snoc _ _ _ _ ht, fun p2 cv hcv => ?_⟩
      rw [eL] at hcv
      rcases among_pos _ ht hcv with z | ⟨z, z1, z2⟩
      · obtain ⟨c0, e1, e2⟩ := ha p2 cv z
        exact ⟨c0, e1, G.entry e2⟩
      · refine ⟨c', z, ?_⟩
        unfold EntryOk
        rw [z1, z2, hn]
        exact ⟨P', by rw [upd_ne hne, upd_same], #[], upd_same⟩
    · rw [upd_ne hb1] at e
      obtain ⟨t1, t2⟩ := T Q' qs e
      refine ⟨t1, fun p2 cv hcv => ?_⟩
      obtain ⟨c0, e1, e2⟩ := t2 p2 cv hcv
      exact ⟨c0, e1, G.entry e2⟩
  | some cv =>
    obtain ⟨c', e, he⟩ := ha pos cv hf
    subst e
    unfold EntryOk at he
    rw [hn] at he
    obtain ⟨P', h1, h2⟩ := he
    exact wpAny_genexprCode_hit hcode (hd.code hPh ht) hf (h c' P' H s I (Grown.refl H) T rfl (fun b o _ e => e) ⟨_, hPh, fun v z => by cases z⟩ (Nat.le_refl _) (fun _ _ _ n => n) h1 h2)
end
end GX

set_option Elab.async false
set_option linter.all false
set_option maxRecDepth 100000
set_option maxHeartbeats 2000000
namespace GX
open PySem PySem.Spec PyProof.Rows L2 GenW

/-! ## 2. the frame of a generator expression -/
structure GenOk (N : List Str) (sc scope : Scope) (own : List (Str × Nat)) : Prop extends BlkOk N sc scope own where
  co : scope.isCoroutine = false
  dot : scope.names.lookup (".0" : Str) = some NameKind.local
def genC (N : List Str) (sc scope : Scope) (own : List (Str × Nat)) : Bool := blkC N sc scope own && !scope.isCoroutine && decide (scope.names.lookup (".0" : Str) = some NameKind.local)
theorem genOk_by {N : List Str} {sc scope : Scope} {own : List (Str × Nat)} (h : genC N sc scope own = true) : GenOk N sc scope own := by
  unfold genC at h
  simp only [Bool.and_eq_true, Bool.not_eq_true', decide_eq_true_eq] at h
  exact { blkOk_by h.1.1 with co := h.1.2, dot := h.2 }

theorem newEnv_gen {M : Model} {A : Around} {E : Value → Shared → Prop} {s : Shared} {scope : Scope} {globals : Addr} {closure : List (Str × Addr)} {qual : Str} {code it : Value} {bi : Addr} {Q : Env → Shared → Prop}
    (hk : scope.kind = .function) (h0 : scope.names.lookup (".0" : Str) = some NameKind.local)
    (h : ∀ h5 tk, h5.Ns s.heap.objs.size (fun y => if y = ".0" then some it else none) → Heap.SameBut s.heap.objs.size (pushCells (s.heap.push { cls := .type "frame", data := .dict #[] }) scope.names) h5 →
      Q (newEnv scope s.heap.objs.size globals (cellsFrom (s.heap.objs.size + 1) scope.names closure) qual none code none bi) { s with heap := h5, toks := tk }) :
    wpAny M A (newFunctionEnv scope globals closure [(".0", it)] qual none code none bi) Q E s := by
  simp only [newFunctionEnv, Option.isSome_none, Bool.false_eq_true, if_false]
  refine wpAny_bind (wpAny_alloc ?_)
  refine wpAny_bind (wpAny_layCells _ (fun n k c => rfl) scope.names closure _ _ ?_)
  rw [show ({ s with heap := s.heap.push { cls := .type "frame", data := .dict #[] } } : Shared).heap.objs.size = s.heap.objs.size + 1 from Heap.size_push ..]
  rw [List.forIn_cons]
  refine wpAny_bind (wpAny_bind (wpAny_bind (wpAny_storeName_local (m := fun _ => none) (by exact h0) ?_ (fun h5 hn5 hs5 => ?_) (by show (scope.kind == ScopeKind.class || _) = false; rw [hk]; rfl))))
  · exact (Heap.Ns.new s.heap (.type "frame")).keeps fun b o e => pushCells_keeps _ _ _ _ e
  · refine wpAny_pure ?_
    dsimp only
    rw [List.forIn_nil]
    exact wpAny_pure (wpAny_pure (h h5 _ hn5 hs5))

abbrev genv (X : Cx) (scope : Scope) (cells : List (Str × Addr)) (L : Addr) (code : Value) : Env := newEnv scope L X.env.globals cells (X.env.qual ++ "<genexpr>.") none code none builtinsNs
abbrev gcx (X : Cx) (s : Shared) (H : Hp) (ge : Env) (fp : List Addr) (A : Around) (pn : List (Addr × Obj)) : Cx :=
  { X with s_0 := s, H_0 := H, env := ge, outer := X.stack, stack := ge :: X.stack, A := A.deeper ge, ex := fp, fn := fun x => ge.scope.names.lookup x == some .cell, calm := true, pn := pn, xe := fun _ _ => False }

section
variable {X : Cx} {pins : List (Addr × Obj)} {σ : L2.St} {H : Hp} {s : Shared}
theorem gen_start {scope : Scope} {own : List (Str × Nat)} {fp : List Addr} {A : Around} {code : Value} {h5 : Heap} {tk : Nat} {m5 : Str → Option Value} (I : Inv X pins σ H s) (ok : GenOk X.N X.env.scope scope own) (hN : X.N.Nodup) (hfp : ∀ b ∈ fp, FpOk X pins H b ∧ b < s.heap.objs.size)
    (hh : A.handled = none) (hfr : A.frames = some X.stack) (hn5 : h5.Ns s.heap.objs.size m5) (hs5 : Heap.SameBut s.heap.objs.size (pushCells (s.heap.push { cls := .type "frame", data := .dict #[] }) scope.names) h5) :
    Inv (gcx X s H (genv X scope (cellsFrom (s.heap.objs.size + 1) scope.names (cloFrom X.env.cells scope.names [])) s.heap.objs.size code) fp A []) [] (wipe σ (own.map (·.2))) H { s with heap := h5, toks := tk } := by
  have hfree : ∀ y ∈ scope.names, y.2 = .free → ∃ c, X.env.cells.lookup y.1 = some c := fun y hy e => by
    rcases ok.free y hy e with k | k
    · exact I.ok.has _ (.inl k)
    · exact I.ok.has _ (.inr k)
  generalize hcenv : genv X scope (cellsFrom (s.heap.objs.size + 1) scope.names (cloFrom X.env.cells scope.names [])) s.heap.objs.size code = cenv
  have kp : ∀ b o, s.heap.get? b = some o → h5.get? b = some o := fun b o e => hs5.extBut b o (Nat.ne_of_lt (Heap.lt_size e)) (pushCells_keeps _ _ _ _ (Heap.get?_push_of_some _ e))
  have hL : cenv.locals = s.heap.objs.size := by rw [← hcenv]; rfl
  have hcl : cenv.cells = cellsFrom (s.heap.objs.size + 1) scope.names (cloFrom X.env.cells scope.names []) := by rw [← hcenv]; rfl
  have hsc : cenv.scope = scope := by rw [← hcenv]; rfl
  rw [← Heap.size_push s.heap { cls := .type "frame", data := .dict #[] }] at hcl
  have cm : ∀ {y c}, (y, c) ∈ cloFrom X.env.cells scope.names [] → X.env.cells.lookup y = some c ∧ c < s.heap.objs.size := fun {y c} hm => by
    rcases cloFrom_mem hm with hm | ⟨h1, rfl⟩
    · cases hm
    · obtain ⟨c, hc⟩ := hfree _ h1 rfl
      rw [hc]
      obtain ⟨w, z⟩ := I.cell _ _ hc
      exact ⟨rfl, z.lt⟩
  have mem : ∀ {y c}, cenv.cells.lookup y = some c → (X.env.cells.lookup y = some c ∧ c < s.heap.objs.size) ∨ (s.heap.objs.size + 1 ≤ c ∧ CellAt h5 c none) := fun {y c} e => by
    rw [hcl] at e
    rcases cells_mem (PySem.mem_of_lookup e) with hm | ⟨_, h2, h3⟩
    · exact .inl (cm hm)
    · rw [Heap.size_push] at h2
      exact .inr ⟨h2, h3.sameBut hs5 (Nat.ne_of_gt h2)⟩
  have look : ∀ {y}, scope.names.lookup y = some .free → ∃ c, cenv.cells.lookup y = some c ∧ X.env.cells.lookup y = some c := fun {y} hl => by
    have hy : (y, NameKind.free) ∈ scope.names := PySem.mem_of_lookup hl
    obtain ⟨c', e'⟩ := mem_lookup (cells_acc (names := scope.names) (n := (s.heap.push { cls := .type "frame", data := .dict #[] }).objs.size) (cloFrom_has (cells := X.env.cells) (acc := []) hy))
    rw [← hcl] at e'
    refine ⟨c', e', ?_⟩
    rw [hcl] at e'
    rcases cells_mem (PySem.mem_of_lookup e') with hm | ⟨h1, _, _⟩
    · exact (cm hm).1
    · have := ok.uniq _ h1
      rw [hl] at this; cases this
  have okB : (gcx X s H cenv fp A []).Ok := by
    refine ⟨I.ok.mod, by show cenv.scope.kind = _; rw [hsc]; exact ok.kind, by show cenv.globals = _; rw [← hcenv]; exact I.ok.glob, by show cenv.builtins = _; rw [← hcenv]; rfl, by show s.heap.objs.size ≤ cenv.locals; rw [hL]; exact Nat.le_refl _,
      fun y z c e1 e2 => ?_, fun y hy => ?_, fun y c z e => ?_, fun _ => hh, Around.frames_deeper hfr, .inr ⟨rfl, by show cenv.frame = some cenv.locals; rw [← hcenv]; rfl⟩, fun b hb => ⟨?_, fun y c e z => ?_⟩, I.bs, Nat.le_trans I.ok.bsz I.sz, fun b o e hb => ?_, fun b hb z => ?_, I.stack, I.stkFree⟩
    · have e1 : cenv.cells.lookup y = some c := e1
      have e2 : cenv.cells.lookup z = some c := e2
      rw [hcl] at e1 e2
      refine cells_inj (fun p hp => ?_) (fun y z c a b => I.ok.inj y z c (cm a).1 (cm b).1) (PySem.mem_of_lookup e1) (PySem.mem_of_lookup e2)
      rw [Heap.size_push]
      exact Nat.lt_succ_of_lt (cm (y := p.1) (c := p.2) hp).2
    · show ∃ c, cenv.cells.lookup y = some c
      have hy : cenv.scope.names.lookup y = some .cell ∨ cenv.scope.names.lookup y = some .free := hy
      rw [hsc] at hy
      rcases hy with e | e
      · obtain ⟨c, hm⟩ := cells_has (n := (s.heap.push { cls := .type "frame", data := .dict #[] }).objs.size) (acc := cloFrom X.env.cells scope.names []) (PySem.mem_of_lookup e)
        obtain ⟨c', e'⟩ := mem_lookup hm
        exact ⟨c', by rw [hcl]; exact e'⟩
      · obtain ⟨c, h1, _⟩ := look e
        exact ⟨c, h1⟩
    · have z : (cenv.scope.names.lookup y == some NameKind.cell) = true := z
      rw [hsc] at z
      have z : scope.names.lookup y = some .cell := by simpa using z
      have e : cenv.cells.lookup y = some c := e
      rw [hcl] at e
      rcases cells_mem (PySem.mem_of_lookup e) with hm | ⟨_, h2, _⟩
      · rcases cloFrom_mem hm with hm | ⟨h1, _⟩
        · cases hm
        · have q := ok.uniq _ h1
          rw [z] at q; cases q
      · rw [Heap.size_push] at h2
        exact Nat.le_of_succ_le h2
    · show b ≠ cenv.locals
      rw [hL]; exact Nat.ne_of_lt (hfp b hb).2
    · have e : cenv.cells.lookup y = some c := e
      rcases mem e with ⟨h1, _⟩ | ⟨h1, _⟩
      · exact (hfp b hb).1.2.2.2.2.1 y c h1 z
      · have h2 : s.heap.objs.size + 1 ≤ b := by rw [← z]; exact h1
        exact absurd (Nat.lt_of_lt_of_le (hfp b hb).2 (Nat.le_of_succ_le h2)) (Nat.lt_irrefl _)
    · rcases (hfp b hb).1.2.2.2.1 with z | z
      · exact I.ok.noex b o e z
      · exact absurd (Nat.lt_of_lt_of_le (Heap.lt_size e) (Nat.le_trans I.ok.bsz z)) (Nat.lt_irrefl _)
    · rcases List.mem_cons.mp (I.stkSub b z) with z | z
      · exact (hfp b hb).1.2.1 z
      · exact (hfp b hb).1.2.2.1 z
  refine ⟨okB, rfl, I.bare, Un.kept kp, ⟨m5, ?_, fun i y av e1 e2 e3 => ?_⟩, fun y c e => ?_, ?_, fun y c e => ?_, fun p hp => ?_, I.hok.kept kp, by rw [wipe_length]; exact I.len⟩
  · show Heap.Ns _ cenv.locals _
    rw [hL]
    exact hn5
  · obtain ⟨e2, hne⟩ := wipe_some e2
    have e3 : Vis cenv.scope y := e3
    rw [hsc] at e3
    have no : ∀ k', scope.names.lookup y = some k' → ¬ (k' = .local ∨ k' = .cell) := fun k' e hh => by
      rcases ok.own _ (PySem.mem_of_lookup e) hh with e' | e'
      · obtain ⟨p, hp, hpy⟩ := List.mem_map.mp e'
        have e3 := ok.ix p hp
        have : p.1 = y := hpy
        rw [this] at e3
        exact hne (List.mem_map.mpr ⟨p, hp, nodup_ix hN e3 e1⟩)
      · exact e' (List.mem_of_getElem? e1)
    have hfr' : scope.names.lookup y = some .free := by
      rcases e3 with e3 | e3 | e3
      · exact absurd (.inl rfl) (no _ e3)
      · exact absurd (.inr rfl) (no _ e3)
      · exact e3
    obtain ⟨m, hn, hl⟩ := I.loc
    have hvis : Vis X.env.scope y := (ok.free _ (PySem.mem_of_lookup hfr') rfl).elim (fun k => .inr (.inl k)) (fun k => .inr (.inr k))
    obtain ⟨w, r, q⟩ := hl i y av e1 e2 hvis
    refine ⟨w, r, .inr ⟨.inr (by show cenv.scope.names.lookup y = _; rw [hsc]; exact hfr'), ?_⟩⟩
    obtain ⟨c, h1, h2⟩ := look hfr'
    rcases q with ⟨k, _⟩ | ⟨_, c', e', z⟩
    · have k : X.env.scope.names.lookup y = some .local := k
      rcases ok.free _ (PySem.mem_of_lookup hfr') rfl with k' | k' <;> rw [show X.env.scope.names.lookup y = _ from k'] at k <;> cases k
    · rw [h2] at e'; cases e'
      exact ⟨c, h1, z.keeps kp⟩
  · have e : cenv.cells.lookup y = some c := e
    rcases mem e with ⟨h1, _⟩ | ⟨_, z⟩
    · obtain ⟨w, z⟩ := I.cell y c h1
      exact ⟨w, z.keeps kp⟩
    · exact ⟨_, z⟩
  · show H cenv.locals = none
    rw [hL]; exact I.hok.fresh (Nat.le_refl _)
  · have e : cenv.cells.lookup y = some c := e
    rcases mem e with ⟨h1, _⟩ | ⟨h1, _⟩
    · exact I.freeC y c h1
    · exact I.hok.fresh (Nat.le_of_succ_le h1)
  · exact absurd (show p ∈ ([] : List (Addr × Obj)) ++ [] from hp) (by simp)

/-- pins more in the context, if they hold -/
theorem Inv.pinX {X : Cx} {s0 : Shared} {H0 H' : Hp} {ge : Env} {fp : List Addr} {A : Around} {pn pins : List (Addr × Obj)} {σ : L2.St} {s1 : Shared}
    (I : Inv (gcx X s0 H0 ge fp A []) [] σ H' s1)
    (h : ∀ p ∈ pn ++ pins, s1.heap.get? p.1 = some p.2 ∧ H' p.1 = none ∧ p.1 ≠ ge.locals ∧ p.1 ∉ frs X.stack ∧ ∀ v, p.2.data ≠ .cell v) :
    Inv (gcx X s0 H0 ge fp A pn) pins σ H' s1 :=
  ⟨⟨I.ok.mod, I.ok.kind, I.ok.glob, I.ok.blt, I.ok.above, I.ok.inj, I.ok.has, I.ok.cab, I.ok.hd, I.ok.frames, I.ok.stk, I.ok.exf, I.ok.bs, I.ok.bsz, I.ok.noex, I.ok.exfs, I.ok.funs, I.ok.frf⟩, I.os, I.bare, I.base, I.loc, I.cell, I.free, I.freeC, h, I.hok, I.len⟩
end
end GX

set_option Elab.async false
set_option linter.all false
set_option maxRecDepth 100000
set_option maxHeartbeats 2000000
namespace GX
open PySem PySem.Spec PyProof.Rows L2 GenW

/-! ## 3. the generator's run -/
/-- what is known of a generator expression's run: W ys i m H ahead of turn i, ys handed out so far, m a measure; alive: it is asked on behind ys; fin: its end -/
structure GWs where
  W : List V → Nat → Nat → Hp → Prop
  alive : List V → Prop
  fin : List V → Hp → Prop
def GTurn (J : It) (g : TG) (tt : TT) (te : TE) (vs : List Nat) (σ : L2.St) (G : GWs) : Prop := ∀ ys i m H, G.alive ys → G.W ys i m H →
  (J.stop i H ∧ G.fin ys H) ∨ (J.go i H ∧ ∃ (NF : Hp → Prop) (NY : V → Hp → Prop), (∀ H', NF H' → ∃ m', m' < m ∧ G.W ys (i + 1) m' H') ∧ (∀ y H', NY y H' → ∃ m', m' < m ∧ G.W (ys ++ [y]) (i + 1) m' H') ∧
    ∀ x H', J.yld i H x H' → g x (wipe σ vs) H' fun σ2 H2 => wipe σ2 vs = wipe σ vs ∧ tt σ2 H2 fun b H3 => if b = true then te σ2 H3 fun y H4 => ys.length < sizeLine ∧ NY y H4 else NF H3)
/-- the consumer's own objects stand -/
def OwnC (cs : List Addr) (h : Heap) : Prop := ∀ b ∈ cs, ∃ o, h.get? b = some o ∧ ∀ v, o.data ≠ .cell v
/-- the consumer's objects tell ys, by themselves -/
def ConC (cs : List Addr) (C : List V → Heap → Prop) : Prop := ∀ ys h h', C ys h → (∀ b ∈ cs, ∀ o, h.get? b = some o → h'.get? b = some o) → C ys h'
/-- while the generator sleeps -/
structure Woke (cs : List Addr) (C : List V → Heap → Prop) (ys : List V) (s s' : Shared) : Prop where
  os : s'.os = s.os
  bare : AllBare s'.gens
  keep : ∀ b o, b ∉ cs → s.heap.get? b = some o → s'.heap.get? b = some o
  own : OwnC cs s'.heap
  con : C ys s'.heap
/-- the end of a run -/
def RX (P : Program) (w : World) (outer : List Env) (H : Hp) (s : Shared) (ex cs : List Addr) (C : List V → Heap → Prop) (G : GWs) (n : Nat) (s1 : Shared) : Prop :=
  ∃ H' ys, (n + ys.length = sizeLine + 1 ∧ 1 ≤ n) ∧ s1.os = s.os ∧ AllBare s1.gens ∧ Un (frs outer) ex H H' s.heap s1.heap ∧ HOk P w H' s1.heap ∧ (∀ b ∈ cs, H' b = none) ∧ C ys s1.heap ∧ OwnC cs s1.heap ∧ G.alive ys ∧ G.fin ys H'
/-- an item is handed out -/
def YX (P : Program) (w : World) (outer : List Env) (H : Hp) (s : Shared) (ex cs : List Addr) (C : List V → Heap → Prop) (a : Addr) (g : Nat) (G : GWs) : Protocol := fun n s₀ v s1 kap =>
  ∃ H' ys y, (n + ys.length = sizeLine ∧ ys.length < sizeLine) ∧ s1.os = s.os ∧ AllBare s1.gens ∧ s1.heap.NoLimit ∧ s1.heap.IsGen a g ∧ Un (frs outer) ex H H' s.heap s1.heap ∧ HOk P w H' s1.heap ∧ (∀ b ∈ cs, H' b = none) ∧ C ys s1.heap ∧ OwnC cs s1.heap ∧ G.alive ys ∧ RelV y v ∧
    (∃ i m, G.W (ys ++ [y]) i m H') ∧ ∀ s', Woke cs C (ys ++ [y]) s1 s' → G.alive (ys ++ [y]) → kap (.send .none) s'
abbrev RX' (P : Program) (w : World) (outer : List Env) (H : Hp) (s : Shared) (ex cs : List Addr) (C : List V → Heap → Prop) (G : GWs) : GenEnd := fun n s₀ r s1 => ((r = .ok (.ret .none) ∨ r = .ok .next) ∧ RX P w outer H s ex cs C G n s1) ∨ ∃ e, r = .error e ∧ False

theorem over_gen {A : Around} {elt : Expr} {gens : List Comprehension} {scope : Scope} {pos : Pos} {it acc : Value} {env : Env} : A.over (.compLoop (.GeneratorExp elt gens scope pos) 0 it acc env) [] = A.deeper env := by
  first
    | rfl
    | (obtain ⟨hd, d, fr, gs, u⟩ := A; simp [Around.over, Around.deeper, marksOver, frameCount, unitsOf, envsOf, guardsOf, pushEnvs, pushGuards, Code.envs, Code.env?, Code.isFrame, Code.guards, Code.isGuard, Code.weight, Code.frames, Code.isCreation, Code.isCaller, Code.cUnits])
section
variable {X : Cx} {s0 : Shared} {H0 : Hp} {ge : Env} {fp cs : List Addr} {A : Around} {a : Addr} {go : Obj} {gn : Nat}
/-- woken again: the consumer's objects may have changed -/
theorem inv_woken {cob : List (Addr × Obj)} {C : List V → Heap → Prop} {σ : L2.St} {H : Hp} {s s' : Shared} {ys : List V} (I : Inv (gcx X s0 H0 ge fp A [(a, go)]) cob σ H s) (hcob : ∀ b ∈ cs, ∃ p ∈ cob, p.1 = b) (hac : a ∉ cs) (hfc : ∀ b ∈ fp, b ∉ cs)
    (hlo : ∀ b ∈ cs, s0.heap.objs.size ≤ b) (z : Woke cs C ys s s') :
    ∃ cob', (∀ b ∈ cs, ∃ p ∈ cob', p.1 = b) ∧ (∀ p ∈ cob', p.1 ∈ cs) ∧ Inv (gcx X s0 H0 ge fp A [(a, go)]) cob' σ H s' := by
  have at_ : ∀ b ∈ cs, ∃ o, s.heap.get? b = some o ∧ H b = none ∧ b ≠ ge.locals ∧ b ∉ frs X.stack ∧ ∀ v, o.data ≠ .cell v := fun b hb => by
    obtain ⟨p, hp, e⟩ := hcob b hb
    obtain ⟨h1, h2, h3, h4, h5⟩ := I.pin p (List.mem_append_right _ hp)
    rw [e] at h1 h2 h3 h4
    exact ⟨p.2, h1, h2, h3, h4, h5⟩
  have nt : ∀ b u, H b = some u → b ∉ cs := fun b u q hb => by
    obtain ⟨_, _, n, _⟩ := at_ b hb
    rw [n] at q
    cases q
  have I0 : Inv (gcx X s0 H0 ge fp A [(a, go)]) [] σ H s := I.pins_of fun p hp => I.pin p (List.mem_append_left _ (by simpa using hp))
  obtain ⟨z1, z2, z3, z4, z5⟩ := z
  obtain ⟨hh, g, d, t, o⟩ := s'
  have ho : o = s.os := z1
  subst ho
  have J : Inv (gcx X s0 H0 ge fp A [(a, go)]) [] σ H { s with heap := hh, gens := g, drawn := d, toks := t } := by
    refine I0.step (g' := g) (t' := t) (d' := d) (ch := cs) (fun b hb => ?_)
      (fun b ob _ _ hc q _ => z3 b ob hc q) (fun b ob _ _ hc q _ => ⟨ob.slots, z3 b ob hc q⟩) (fun _ _ _ _ n => n) (fun b ob hc q => ⟨ob, z3 b ob hc q⟩)
      (fun _ _ q => q) (fun _ _ _ q => q) (fun b ps q => ⟨#[], by rw [q]; simp⟩) (fun m hm => ?_) (fun b u q => ?_) z2
    · obtain ⟨ob, e1, e2, e3, e4, e5⟩ := at_ b hb
      refine ⟨.inr (hlo b hb), e3, fun x c e q => ?_, fun p hp q => ?_⟩
      · obtain ⟨v, o', ho', hd'⟩ := I0.cell x c e
        rw [q, e1] at ho'
        cases ho'
        exact e5 v hd'
      · have hp : p ∈ [(a, go)] ++ ([] : List (Addr × Obj)) := hp
        have e : p = (a, go) := by simpa using hp
        rw [e] at q
        exact hac (by rw [show a = b from q]; exact hb)
    · obtain ⟨ob, es, ep, ho, r⟩ := hm
      refine ⟨ob, es, ep, z3 _ ob (fun hb => ?_) ho, r⟩
      obtain ⟨_, _, _, e3, _⟩ := at_ _ hb
      exact e3 rfl
    · refine (I0.hok b u q).stay (fun c v hc y => z3 c v ?_ y) (fun _ y => y) fun _ _ y => y
      rcases hc with y | y
      · rw [y]; exact nt b u q
      · exact nt c _ y
  refine ⟨pinsAt cs hh, fun b hb => ?_, fun p hp => (of_pinsAt hp).1, J.pins_of fun p hp => ?_⟩
  · obtain ⟨ob, e, _⟩ := z4 b hb
    exact ⟨(b, ob), mem_pinsAt hb e, rfl⟩
  · obtain ⟨hb, e⟩ := of_pinsAt hp
    obtain ⟨ob, _, e2, e3, e4, _⟩ := at_ p.1 hb
    obtain ⟨ob', e', d'⟩ := z4 p.1 hb
    have e' : hh.get? p.1 = some ob' := e'
    rw [e] at e'
    cases e'
    exact ⟨e, e2, e3, e4, d'⟩

theorem seg_gloop {elt tg iter : Expr} {ifs : List Expr} {scope : Scope} {pos : Pos} {it : Addr} {J : It} {tn : Nat → Heap → Prop} {g : TG} {tt : TT} {te : TE} {vs : List Nat} {σ : L2.St} {G : GWs} {C : List V → Heap → Prop}
    (T : Turn X.prog X.w X.K tg J fp it tn) (hco : ge.scope.isCoroutine = false) (hg0 : go.cls = .type "generator" ∧ (∃ nm qn, go.data = .fields #[.int gn 0, nm, qn]) ∧ go.slots = #[])
    (hg : PG (gcx X s0 H0 ge fp A [(a, go)]) tg g) (ht : PTs (gcx X s0 H0 ge fp A [(a, go)]) ifs tt) (he : PE (gcx X s0 H0 ge fp A [(a, go)]) elt te)
    (turn : GTurn J g tt te vs σ G) (hfa : ∀ b ∈ fp, b ≠ a) (hac : a ∉ cs) (hfc : ∀ b ∈ fp, b ∉ cs) (hlo : ∀ b ∈ cs, s0.heap.objs.size ≤ b) (hC : ConC cs C) :
    ∀ (m n i : Nat) (ys : List V) (H : Hp) (cob : List (Addr × Obj)) (s₀ s : Shared), (n + ys.length = sizeLine + 1 ∧ 1 ≤ n) → G.alive ys → G.W ys i m H → (∀ b ∈ cs, ∃ p ∈ cob, p.1 = b) → (∀ p ∈ cob, p.1 ∈ cs) → Inv (gcx X s0 H0 ge fp A [(a, go)]) cob (wipe σ vs) H s → tn i s.heap → (∀ b ∈ fp, H b = none) → C ys s.heap →
      Seg (model X.prog X.w) A (RX' X.prog X.w X.stack H0 s0 fp cs C G) (YX X.prog X.w X.stack H0 s0 fp cs C a gn G) n s₀
        (.compLoop (.GeneratorExp elt [⟨tg, iter, ifs, 0⟩] scope pos) 0 (.ref it) .none ge) ((model X.prog X.w).den (.compLoop (.GeneratorExp elt [⟨tg, iter, ifs, 0⟩] scope pos) 0 (.ref it) .none ge)) [] s := by
  have ov : A.over (.compLoop (.GeneratorExp elt [⟨tg, iter, ifs, 0⟩] scope pos) 0 (.ref it) .none ge) [] = A.deeper ge := over_gen
  have stat : ∀ {cob : List (Addr × Obj)} {σ' : L2.St} {H' : Hp} {s' : Shared}, Inv (gcx X s0 H0 ge fp A [(a, go)]) cob σ' H' s' → (∀ p ∈ cob, p.1 ∈ cs) → (∀ b ∈ fp, H' b = none) → (∀ b ∈ fp, b ≠ a) → ∀ b ∈ fp, FpOk (gcx X s0 H0 ge fp A [(a, go)]) cob H' b := fun {cob σ' H' s'} I' hcc hn hfa b hb =>
    ⟨hn b hb, (I'.ok.exf b hb).1, I'.ok.exfs b hb, .inl hb, fun x c e => (I'.ok.exf b hb).2 x c e, fun p hp z => by
      rcases List.mem_append.mp hp with hp | hp
      · have hp : p ∈ [(a, go)] := hp
        have e : p = (a, go) := by simpa using hp
        rw [e] at z
        exact hfa b hb z.symm
      · exact hfc b hb (by rw [← z]; exact hcc p hp)⟩
  intro m
  induction m using Nat.strongRecOn with
  | ind m ih =>
  intro n i ys H cob s₀ s hn hal hW hcb hcc I st nf hCs
  show Seg _ A _ _ _ s₀ _ ((compTurn (.GeneratorExp elt [⟨tg, iter, ifs, 0⟩] scope pos) 0 (.ref it) .none ge).onRaise (leaving ge)) [] s
  rw [compTurn_gen, Sem.onRaise_eq_wrap]
  refine seg_bind_wrap (wpAny_standAt ?_)
  have done_of : ∀ {ys : List V} {n : Nat} {H1 : Hp} {s1 : Shared} {cob : List (Addr × Obj)} {σ1 : L2.St}, (∀ b ∈ cs, ∃ p ∈ cob, p.1 = b) → Inv (gcx X s0 H0 ge fp A [(a, go)]) cob σ1 H1 s1 → (∀ b ∈ cs, H1 b = none) ∧ OwnC cs s1.heap := fun {ys n H1 s1 cob σ1} hcb I1 => by
    refine ⟨fun b hb => ?_, fun b hb => ?_⟩
    · obtain ⟨p, hp, e⟩ := hcb b hb
      have q := (I1.pin p (List.mem_append_right _ hp)).2.1
      rw [e] at q
      exact q
    · obtain ⟨p, hp, e⟩ := hcb b hb
      obtain ⟨q, _, _, _, d⟩ := I1.pin p (List.mem_append_right _ hp)
      rw [e] at q
      exact ⟨p.2, q, d⟩
  have conK : ∀ {ys : List V} {H1 : Hp} {s s1 : Shared} {cob pl : List (Addr × Obj)} {σ σ1 : L2.St} {H : Hp}, (∀ b ∈ cs, ∃ p ∈ cob, p.1 = b) → Inv (gcx X s0 H0 ge fp A [(a, go)]) cob σ H s → C ys s.heap → Inv (gcx X s0 H0 ge fp A [(a, go)]) (cob ++ pl) σ1 H1 s1 → C ys s1.heap := fun {ys H1 s s1 cob pl σ σ1 H} hcb I hCs I1 => by
    refine hC ys _ _ hCs fun b hb o e => ?_
    obtain ⟨p, hp, e'⟩ := hcb b hb
    have q0 := (I.pin p (List.mem_append_right _ hp)).1
    have q := (I1.pin p (List.mem_append_right _ (List.mem_append_left _ hp))).1
    rw [e', e] at q0
    cases q0
    rw [e'] at q
    exact q
  rcases turn ys i m H hal hW with ⟨stop, hfin⟩ | ⟨go', NF, NY, hNF, hNY, step⟩
  · have td := T.done (gcx X s0 H0 ge fp A [(a, go)]) rfl rfl rfl rfl i cob s _ H (fun _ _ => False) I (stat I hcc nf hfa) st stop
    refine seg_bind_wrap ?_
    rw [ov]
    refine wpAny_mono td (fun r s6 ⟨hr, I6⟩ => ?_) fun _ _ q => q.elim
    subst hr
    obtain ⟨d1, d2⟩ := done_of (ys := ys) (n := n) hcb I6
    exact seg_end (.ok .next) (.inl ⟨.inr rfl, H, ys, hn, I6.os, I6.bare, I6.base, I6.hok, d1, conK (pl := []) hcb I hCs (by rw [List.append_nil]; exact I6), d2, hal, hfin⟩)
  · have ti := T.item (gcx X s0 H0 ge fp A [(a, go)]) rfl rfl rfl rfl i cob s _ H (fun _ _ => False) I (stat I hcc nf hfa) st go'
    refine seg_bind_wrap ?_
    rw [ov]
    refine wpAny_mono ti (fun r s6 ⟨u, hr, h6⟩ => ?_) fun _ _ q => q.elim
    subst hr
    refine seg_bind_wrap ?_
    rw [ov]
    refine wpAny_mono h6 (fun _ s7 ⟨x, H7, I7, r7, y7, st7, n7⟩ => ?_) fun _ _ q => q.elim
    have I7' := I7.pinned (stat I7 hcc n7 hfa) (T.obj _ _ st7)
    refine seg_bind_wrap ?_
    rw [ov]
    refine wpAny_mono (hg.run _ s7 _ H7 x u _ I7' r7 (step x H7 y7)) (fun _ s8 ⟨σ8, H8, I8, hw8, q8⟩ => ?_) fun _ _ q => False.elim q
    refine seg_bind_wrap ?_
    rw [ov]
    refine wpAny_mono (ht.run _ s8 σ8 H8 _ I8 q8) (fun b s9 ⟨H9, I9, q9⟩ => ?_) fun _ _ q => False.elim q
    have hl : (wipe σ vs).length = σ8.length := by rw [← hw8, wipe_length]
    -- back at the loop's head
    have back : ∀ {H' : Hp} {s' : Shared} {cob' : List (Addr × Obj)}, Inv (gcx X s0 H0 ge fp A [(a, go)]) (cob' ++ pinsAt fp s7.heap) σ8 H' s' → Inv (gcx X s0 H0 ge fp A [(a, go)]) cob' (wipe σ vs) H' s' ∧ tn (i + 1) s'.heap ∧ (∀ b ∈ fp, H' b = none) := fun {H' s' cob'} I' => by
      have pin' : ∀ b ∈ fp, ∀ o, s7.heap.get? b = some o → s'.heap.get? b = some o ∧ H' b = none := fun b hb o e =>
        let z := I'.pin (b, o) (List.mem_append_right _ (List.mem_append_right _ (mem_pinsAt hb e)))
        ⟨z.1, z.2.1⟩
      refine ⟨(I'.unpinned).weak hl (fun j v e => ?_), T.keep _ _ _ st7 fun b hb o e => (pin' b hb o e).1, fun b hb => ?_⟩
      · rw [← hw8] at e
        exact (wipe_some e).1
      · obtain ⟨o, e, _⟩ := T.obj _ _ st7 b hb
        exact (pin' b hb o e).2
    cases b with
    | false =>
      simp only [Bool.false_eq_true, if_false] at q9 ⊢
      obtain ⟨m', hm, w'⟩ := hNF _ q9
      obtain ⟨b1, b2, b3⟩ := back I9
      exact seg_again rfl (ih m' hm n (i + 1) ys H9 cob s₀ s9 hn hal w' hcb hcc b1 b2 b3 (conK hcb I hCs I9))
    | true =>
      simp only [if_true] at q9 ⊢
      have hy : ∀ v, yieldOut ge v = yieldValue v := fun v => by simp only [yieldOut, hco, Bool.false_eq_true, if_false]
      simp only [hy]
      rw [Sem.bind_eq_wrap', Sem.bind_eq_wrap', Sem.wrap_wrap, Sem.wrap_wrap]
      refine seg_wrap ?_
      rw [ov]
      refine wpAny_mono (he.run _ s9 σ8 H9 _ I9 q9) (fun z s10 ⟨yv, H10, I10, r10, hlt, ny⟩ => ?_) fun _ _ q => False.elim q
      obtain ⟨m', hm, w'⟩ := hNY _ _ ny
      obtain ⟨n', rfl⟩ : ∃ k, n = k + 1 := ⟨n - 1, by omega⟩
      obtain ⟨b1, b2, b3⟩ := back I10
      obtain ⟨d1, d2⟩ := done_of (ys := ys) (n := n') hcb I10.unpinned
      have hC10 : C ys s10.heap := conK hcb I hCs I10
      have hgen : s10.heap.IsGen a gn := by
        obtain ⟨c1, ⟨nm, qn, c2⟩, c3⟩ := hg0
        exact ⟨go, nm, qn, (I10.pin (a, go) (List.mem_append_left _ (List.mem_singleton.mpr rfl))).1, c1, c2, c3⟩
      refine seg_at (seg_yield rfl rfl rfl ⟨H10, ys, yv, ⟨by omega, hlt⟩, I10.os, I10.bare, I10.nolimit, hgen, I10.base, I10.hok, d1, hC10, d2, hal, r10, ⟨_, _, w'⟩, fun s' wk hal' => ?_⟩)
      obtain ⟨cob', e1, e2, I11⟩ := inv_woken b1 hcb hac hfc hlo wk
      refine seg_again rfl (ih m' hm n' (i + 1) (ys ++ [yv]) H10 cob' s' s' (by rw [List.length_append, List.length_singleton]; exact ⟨by omega, by omega⟩) hal' w' e1 e2 I11 (T.keep _ _ _ b2 fun b hb o e => wk.keep b o (hfc b hb) e) b3 wk.con)
end
end GX

set_option Elab.async false
set_option linter.all false
set_option maxRecDepth 100000
set_option maxHeartbeats 2000000
namespace GX
open PySem PySem.Spec PyProof.Rows L2 GenW

/-! ## 4. a generator expression's value -/
def GMadeX (P : Program) (w : World) (k : Nat) (outer : List Env) (H : Hp) (s : Shared) (ex : List Addr) (G : GWs) (u : Value) (s' : Shared) : Prop :=
  ∃ (a : Addr) (g : Nat) (c : Code), u = .ref a ∧ s.heap.objs.size ≤ a ∧ a < s'.heap.objs.size ∧ s'.heap.IsGen a g ∧ s'.gens[g]? = some (.fresh c) ∧ s'.os = s.os ∧ AllBare s'.gens ∧ s'.heap.NoLimit ∧ (∀ b o, s.heap.get? b = some o → s'.heap.get? b = some o) ∧
    G.alive [] ∧ ∀ (A : Around) (cs : List Addr) (C : List V → Heap → Prop) (s2 : Shared), Room (k + 1) A → A.frames = some outer → (∀ b ∈ cs, s'.heap.objs.size ≤ b) → ConC cs C → (∀ b o, s'.heap.get? b = some o → s2.heap.get? b = some o) → OwnC cs s2.heap → C [] s2.heap → s2.os = s.os → AllBare s2.gens →
      Seg (model P w) A (RX' P w outer H s ex cs C G) (YX P w outer H s ex cs C a g G) (sizeLine + 1) s2 c ((model P w).den c) [] s2
abbrev TGx := L2.St → Hp → (GWs → Hp → Prop) → Prop
structure PGx (X : Cx) (k : Nat) (e : Expr) (tg : TGx) : Prop where
  run : ∀ (pins : List (Addr × Obj)) (s : Shared) (σ : L2.St) (H : Hp) (R : GWs → Hp → Prop), Inv X pins σ H s → tg σ H R → wpAny (model X.prog X.w) X.A (eval e X.env)
    (fun u s' => ∃ H1 sc ex G, Inv X pins σ H1 sc ∧ ExOk X pins ex ∧ GMadeX X.prog X.w k X.stack H1 sc ex G u s' ∧ R G H1) X.xe s
def tGen (B : Heap) (nm : Nat → Nat → Option Str) (c : Addr) (wi : TI) (g : TG) (tt : Addr → TT) (te : Addr → TE) (vs : List Nat) : TGx := fun σ H R => wi σ H fun J H1 =>
  (∃ P, CodeAt B H1 c P ∧ ∃ ps, H1 P = some (.tbl ps)) ∧ AllTabs nm H1 ∧ ∀ (H2 : Hp) (c' P' : Addr), Grown H1 H2 → AllTabs nm H2 → H2 c' = some (CodeG c' P') → (∃ ps', H2 P' = some (.tbl ps')) →
    ∃ G : GWs, G.alive [] ∧ (∃ m, G.W [] 0 m H2) ∧ GTurn J g (tt c') (te c') vs σ G ∧ R G H2
/-- the main module's builtins -/
def Bm (base : Heap) (mg : Str → Option Value) : Prop := ∃ (bm : Addr) (ob : Obj), mg "__builtins__" = some (.ref bm) ∧ bm ≠ builtinsNs ∧ base.get? bm = some ob ∧ ob.cls = .type "module" ∧ ob.dict = some builtinsNs ∧ ob.data = .plain

section
variable {X : Cx}
theorem pgx_gen {elt tg iter : Expr} {ifs : List Expr} {scope : Scope} {own : List (Str × Nat)} {pos : Pos} {wi : TI} {g : TG} {tt : Addr → TT} {te : Addr → TE} {c : Addr} {nm : Nat → Nat → Option Str} {k : Nat}
    (hc : X.calm = true) (hN : X.N.Nodup) (hr : Room 0 X.A) (hcode : X.env.code = .ref c) (hb : Bm X.base X.mg) (hn : nm pos.line pos.col = none) (hi : PI X tg iter wi) (ok : GenOk X.N X.env.scope scope own)
    (hg : ∀ (s : Shared) (H : Hp) (cells : List (Str × Addr)) (L c' : Addr) (fp : List Addr) (A : Around) (pn : List (Addr × Obj)), PG (gcx X s H (genv X scope cells L (.ref c')) fp A pn) tg g)
    (ht : ∀ (s : Shared) (H : Hp) (cells : List (Str × Addr)) (L c' : Addr) (fp : List Addr) (A : Around) (pn : List (Addr × Obj)), Room k (A.deeper (genv X scope cells L (.ref c'))) → PTs (gcx X s H (genv X scope cells L (.ref c')) fp A pn) ifs (tt c'))
    (he : ∀ (s : Shared) (H : Hp) (cells : List (Str × Addr)) (L c' : Addr) (fp : List Addr) (A : Around) (pn : List (Addr × Obj)), Room k (A.deeper (genv X scope cells L (.ref c'))) → PE (gcx X s H (genv X scope cells L (.ref c')) fp A pn) elt (te c'))
    (hs : ∀ x, genFold iter X.env x = pure x := by intro _; rfl) :
    PGx X k (.GeneratorExp elt [⟨tg, iter, ifs, 0⟩] scope pos) (tGen X.base nm c wi g tt te (own.map (·.2))) := by
  refine ⟨fun pins s σ H R I h => ?_⟩
  have hfree : ∀ y ∈ scope.names, y.2 = .free → ∃ c, X.env.cells.lookup y.1 = some c := fun y hy e => by
    rcases ok.free y hy e with k | k
    · exact I.ok.has _ (.inl k)
    · exact I.ok.has _ (.inr k)
  rw [eval_GeneratorExp1 _ _ _ _ _ _ _ ok.co]
  refine wpAny_bind (thn (hi.run pins s σ H _ I h) fun xv s1 hx => ?_)
  refine wpAny_bind (wpAny_standAt ?_)
  refine wpAny_bind (wpAny_of_eq (hs xv) ?_)
  refine wpAny_bind (wpAny_holding (thn hx fun itv s2 h2 => ?_))
  obtain ⟨it, fp, tn, J, H2, e, I2, T, st2, f2, hCode, hTabs, hG⟩ := h2
  subst e
  obtain ⟨P, hCA, hPt⟩ := hCode
  refine wpAny_bind (wpAny_enterFrame I2.nolimit hr.depth ?_)
  rw [closure_ok hfree]
  refine wpAny_bind (wpAny_pure ?_)
  refine wpAny_bind (gen_code I2 hcode hCA hPt hTabs hn fun c' P' H3 s3 I3 G3 T3 eg3 k3 hP3 sz3 nn3 hc3 hp3 => ?_)
  obtain ⟨bm, ob, b1, b2, b3, b4, b5, b6⟩ := hb
  refine wpAny_bind (wpAny_builtinsFor (m := X.mg) (by rw [I3.ok.glob]; exact I3.mod.glob.keeps I3.bk) b1 b2 (I3.bk _ _ b3) b4 b5 b6 ?_)
  refine wpAny_bind (newEnv_gen ok.kind ok.dot fun h5 tk5 hn5 hs5 => ?_)
  obtain ⟨G, hal, ⟨m0, w0⟩, turn, hR⟩ := hG H3 c' P' G3 T3 hc3 hp3
  simp only [newGenerator, newFields]
  refine wpAny_bind (wpAny_newGen (wpAny_bind (wpAny_mkText (wpAny_bind (wpAny_mkText (wpAny_newObj_type ?_ (by size_fits)))))))
  -- the iterator's objects
  have fex : ∀ b ∈ fp, ∃ o, s2.heap.get? b = some o := fun b hb => by
    obtain ⟨o, e, _⟩ := T.obj _ _ st2 b hb
    exact ⟨o, e⟩
  have sz2 : ∀ b ∈ fp, b < s2.heap.objs.size := fun b hb => let ⟨o, e⟩ := fex b hb; Heap.lt_size e
  have fnP : ∀ b ∈ fp, b ≠ P := fun b hb z => by
    obtain ⟨ps, hps⟩ := hPt
    have q := (f2 b hb).1
    rw [z, hps] at q
    cases q
  have f3 : ∀ b ∈ fp, FpOk X pins H3 b ∧ b < s3.heap.objs.size := fun b hb => by
    obtain ⟨o, e⟩ := fex b hb
    exact ⟨⟨nn3 b o e (f2 b hb).1, (f2 b hb).2⟩, Nat.lt_of_lt_of_le (sz2 b hb) sz3⟩
  have st3 : tn 0 s3.heap := T.keep _ _ _ st2 fun b hb o e => k3 b o (fnP b hb) e
  have ex3 : ExOk X pins fp := fun b hb => ⟨(f3 b hb).1.2.2.2.1, (f3 b hb).1.2.1, (f3 b hb).1.2.2.2.2.1, (f3 b hb).1.2.2.2.2.2⟩
  have kp5 : ∀ b o, s3.heap.get? b = some o → h5.get? b = some o := fun b o e => hs5.extBut b o (Nat.ne_of_lt (Heap.lt_size e)) (pushCells_keeps _ _ _ _ (Heap.get?_push_of_some _ e))
  have lt5 : s3.heap.objs.size < h5.objs.size := hn5.lt
  have key : ∀ (gob : Obj) (tk2 : Nat), gob.cls = .type "generator" → (∃ nm qn, gob.data = .fields #[.int s3.gens.size 0, nm, qn]) → gob.slots = #[] → (∀ h : Heap, (h.push gob).get? h.objs.size = some gob) →
      GMadeX X.prog X.w k X.stack H3 s3 fp G (.ref h5.objs.size) { s3 with gens := s3.gens.push (.fresh (.compStart (.GeneratorExp elt [⟨tg, iter, ifs, 0⟩] scope pos) 0 (.ref it) .none (genv X scope (cellsFrom (s3.heap.objs.size + 1) scope.names (cloFrom X.env.cells scope.names [])) s3.heap.objs.size (.ref c')))), toks := tk2, heap := h5.push gob } := by
    intro gob tk2 gc gd gs gp
    obtain ⟨gnm, gqn, gd'⟩ := id gd
    have hpushed : (h5.push gob).get? h5.objs.size = some gob := gp _
    have kp6 : ∀ b o, s3.heap.get? b = some o → (h5.push gob).get? b = some o := fun b o e => Heap.get?_push_of_some _ (kp5 b o e)
    refine ⟨h5.objs.size, s3.gens.size, _, rfl, Nat.le_of_lt lt5, ?_, ⟨gob, gnm, gqn, hpushed, gc, gd', gs⟩, Array.getElem?_push_size .., rfl, AllBare.push I3.bare rfl, I3.nolimit.keeps kp6, kp6, hal, ?_⟩
    · show _ < (h5.push gob).objs.size
      rw [Heap.size_push]; exact Nat.lt_succ_self _
    intro Aw cs C s7 hrw hfr hcs hC hk7 hown hC0 hos hba
    have I5 := gen_start (code := .ref c') (tk := tk5) I3 { ok with } hN f3 hrw.hd hfr hn5 hs5
    generalize hge : genv X scope (cellsFrom (s3.heap.objs.size + 1) scope.names (cloFrom X.env.cells scope.names [])) s3.heap.objs.size (.ref c') = ge at I5 ⊢
    have kp7 : ∀ b o, h5.get? b = some o → s7.heap.get? b = some o := fun b o e => hk7 b o (Heap.get?_push_of_some _ e)
    have I7 : Inv (gcx X s3 H3 ge fp Aw []) [] (wipe σ (own.map (·.2))) H3 s7 := I5.call' (ch := []) hos (Un.kept kp7) (I5.hok.kept kp7) hba fun b z => by simp at z
    have young : ∀ b, h5.objs.size ≤ b → H3 b = none ∧ b ≠ ge.locals ∧ b ∉ frs X.stack ∧ s3.heap.objs.size ≤ b := fun b hb =>
      ⟨I5.hok.fresh hb, by rw [← hge]; exact Nat.ne_of_gt (Nat.lt_of_lt_of_le lt5 hb), I5.nofs hb, Nat.le_trans (Nat.le_of_lt lt5) hb⟩
    have hcs5 : ∀ b ∈ cs, h5.objs.size < b := fun b hb => by
      have q : (h5.push gob).objs.size ≤ b := hcs b hb
      rw [Heap.size_push] at q
      exact q
    have hgnc : ∀ v, gob.data ≠ .cell v := fun v z => by rw [gd'] at z; cases z
    have pinned : Inv (gcx X s3 H3 ge fp Aw [(h5.objs.size, gob)]) (pinsAt cs s7.heap) (wipe σ (own.map (·.2))) H3 s7 := Inv.pinX I7 fun p hp => by
      rcases List.mem_append.mp hp with z | z
      · rw [List.mem_singleton.mp z]
        obtain ⟨y1, y2, y3, _⟩ := young h5.objs.size (Nat.le_refl _)
        exact ⟨hk7 _ _ hpushed, y1, y2, y3, hgnc⟩
      · obtain ⟨hb, e⟩ := of_pinsAt z
        obtain ⟨y1, y2, y3, _⟩ := young p.1 (Nat.le_of_lt (hcs5 p.1 hb))
        obtain ⟨o, e', d⟩ := hown p.1 hb
        rw [e] at e'
        cases e'
        exact ⟨e, y1, y2, y3, d⟩
    have st7 : tn 0 s7.heap := T.keep _ _ _ st3 fun b _ o e => kp7 b o (kp5 b o e)
    have roomB : Room k (Aw.deeper ge) := hrw.deeper _
    have loop := seg_gloop (X := X) (s0 := s3) (H0 := H3) (ge := ge) (fp := fp) (cs := cs) (A := Aw) (a := h5.objs.size) (go := gob) (gn := s3.gens.size) (elt := elt) (tg := tg) (iter := iter) (ifs := ifs) (scope := scope) (pos := pos) (it := it) (C := C) (G := G)
      T (by rw [← hge]; exact ok.co) ⟨gc, gd, gs⟩ (by rw [← hge]; exact hg _ _ _ _ _ _ _ _) (by rw [← hge] at roomB ⊢; exact ht _ _ _ _ _ _ _ _ roomB) (by rw [← hge] at roomB ⊢; exact he _ _ _ _ _ _ _ _ roomB) turn
      (fun b hb => Nat.ne_of_lt (Nat.lt_trans (f3 b hb).2 lt5)) (fun z => Nat.lt_irrefl _ (hcs5 _ z)) (fun b hb z => Nat.lt_irrefl _ (Nat.lt_trans (Nat.lt_trans (f3 b hb).2 lt5) (hcs5 b z))) (fun b hb => Nat.le_trans (Nat.le_of_lt lt5) (Nat.le_of_lt (hcs5 b hb))) hC
      m0 (sizeLine + 1) 0 [] H3 (pinsAt cs s7.heap) s7 s7 ⟨Nat.add_zero _, Nat.le_add_left _ _⟩ hal w0 (fun b hb => by obtain ⟨o, e, _⟩ := hown b hb; exact ⟨(b, o), mem_pinsAt hb e, rfl⟩) (fun p hp => (of_pinsAt hp).1) pinned st7 (fun b hb => (f3 b hb).1.1) hC0
    show Seg _ Aw _ _ _ s7 _ ((compStart (.GeneratorExp elt [⟨tg, iter, ifs, 0⟩] scope pos) 0 (.ref it) .none ge).onRaise (leaving ge)) [] s7
    unfold compStart
    rw [Sem.onRaise_eq_wrap]
    show Seg _ Aw _ _ _ s7 _ ((ask >>= _).wrap _ _ _ _) [] s7
    refine seg_bind_wrap (wpAny_askSetting ?_)
    split
    · exact seg_again rfl loop
    · first
        | exact seg_bind_wrap (wpAny_rule (seg_bind_wrap (wpAny_standAt (seg_bind_wrap (T.self _ 0 s7 _ _ st7 (seg_again rfl loop))))))
        | (refine seg_bind_wrap (wpAny_rule ?_); show Seg _ Aw _ _ _ s7 _ ((standAt iter.pos >>= _).wrap _ _ _ _) [] s7; exact seg_bind_wrap (wpAny_standAt (seg_bind_wrap (T.self _ 0 s7 _ _ st7 (seg_again rfl loop)))))
  refine ⟨H3, s3, fp, G, I3, ex3, ?_, hR⟩
  have e5 : genv X scope (cellsFrom (s3.heap.objs.size + 1) scope.names (cloFrom X.env.cells scope.names [])) s3.heap.objs.size (.ref c') = newEnv scope s3.heap.objs.size X.env.globals (cellsFrom (s3.heap.objs.size + 1) scope.names (cloFrom X.env.cells scope.names [])) (X.env.qual ++ "<genexpr>.") none (.ref c') none builtinsNs := rfl
  exact key _ _ rfl ⟨_, _, rfl⟩ rfl fun h => Heap.get?_push_size _ rfl
end
end GX

set_option Elab.async false
set_option linter.all false
set_option maxRecDepth 100000
set_option maxHeartbeats 2000000
namespace GX
open PySem PySem.Spec PyProof.Rows L2 GenW

/-! ## 5. who asks the generator -/
section
variable {P : Program} {w : World} {outer : List Env} {H : Hp} {sc : Shared} {ex cs : List Addr} {C : List V → Heap → Prop} {G : GWs} {a : Addr} {g : Nat}
/-- the generator waits to be asked: n items at most are left -/
def Waits (P : Program) (w : World) (outer : List Env) (H : Hp) (sc : Shared) (ex cs : List Addr) (C : List V → Heap → Prop) (G : GWs) (a : Addr) (g : Nat) (A : Around) (n : Nat) (s : Shared) : Prop :=
  s.heap.IsGen a g ∧ s.heap.NoLimit ∧ ∃ gs, s.gens[g]? = some gs ∧ gs.Goes (model P w) A.in1 (RX' P w outer H sc ex cs C G) (YX P w outer H sc ex cs C a g G) n (.send .none) (s.setGen g .running)
/-- it is asked once -/
theorem next_X {A : Around} {E : Value → Shared → Prop} {n : Nat} {s : Shared} {Q : Option Value → Shared → Prop} (hh : A.handled = none) (hd : A.depth < recursionLimit) (hw : Waits P w outer H sc ex cs C G a g A n s) (hcs : cStatics ∉ cs) (hac : a ∉ cs)
    (hY : ∀ (v : Value) (s1 : Shared) (y : V) (ys : List V) (H' : Hp) (m : Nat), n = m + 1 → m + ys.length = sizeLine → ys.length < sizeLine → s1.os = sc.os → AllBare s1.gens → Un (frs outer) ex H H' sc.heap s1.heap → HOk P w H' s1.heap → (∀ b ∈ cs, H' b = none) → C ys s1.heap → OwnC cs s1.heap → G.alive ys → RelV y v → (∃ i k, G.W (ys ++ [y]) i k H') →
      (∀ s2 : Shared, s2.gens = s1.gens → Woke cs C (ys ++ [y]) s1 s2 → G.alive (ys ++ [y]) → Waits P w outer H sc ex cs C G a g A m s2) → Q (some v) s1)
    (hF : ∀ (s1 : Shared) (ys : List V) (H' : Hp), (n + ys.length = sizeLine + 1 ∧ 1 ≤ n) → s1.os = sc.os → AllBare s1.gens → Un (frs outer) ex H H' sc.heap s1.heap → HOk P w H' s1.heap → (∀ b ∈ cs, H' b = none) → C ys s1.heap → OwnC cs s1.heap → G.alive ys → G.fin ys H' → Q none s1) (hC : ConC cs C) :
    wpAny (model P w) A (pyNext (.ref a)) Q E s := by
  obtain ⟨hg, hl, gs, hgs, hgo⟩ := hw
  have hgl : g < s.gens.size := (Array.getElem?_eq_some_iff.mp hgs).1
  refine wpAny_gsz (n := g + 1) hgl (next_genG (F := fun n _ s1 => RX P w outer H sc ex cs C G n s1) (Er := fun _ _ => False) hh hl hd hg hgs hgo (fun v s₁ gs' hbare hv => ?_) (fun s₁ hp h' hk => ?_) fun e s₁ he => he.elim)
  · intro hsz
    obtain ⟨H', ys, y, ⟨hn, hlt⟩, os1, hb1, hl1, hg1, un, hok, hcn, hCy, hown, hal, rv, hW, hkap⟩ := hv
    cases n with
    | zero =>
      exfalso
      have hn' : 0 - 1 + ys.length = sizeLine := hn
      omega
    | succ m =>
      have hsz1 : g < s₁.gens.size := by
        have q : (s₁.setGen g gs').gens.size = s₁.gens.size := setGen_size _ _ _
        have hsz' : g + 1 ≤ (s₁.setGen g gs').gens.size := hsz
        omega
      refine hY v (s₁.setGen g gs') y ys H' m rfl hn hlt os1 (allBare_setGen hb1 hbare) un hok hcn hCy hown hal rv hW fun s2 eg wk hal2 => ⟨?_, ?_, gs', ?_, ?_⟩
      · obtain ⟨o, nm, qn, ho, r⟩ := hg1
        exact ⟨o, nm, qn, wk.keep a o hac ho, r⟩
      · obtain ⟨mc, hns, hnn⟩ := hl1
        exact ⟨mc, hns.at' fun o e => wk.keep _ o hcs e, hnn⟩
      · rw [eg]
        exact setGen_at hsz1
      · refine hkap (s2.setGen g .running) ⟨wk.os, allBare_setGen wk.bare rfl, wk.keep, wk.own, wk.con⟩ hal2
  · intro _
    obtain ⟨H', ys, hn, os1, hb1, un, hok, hcn, hCy, hown, hal, hfin⟩ := hp
    refine hF _ ys H' hn os1 (allBare_setGen (s := s₁) hb1 rfl) (un.trans (Un.kept hk)) (hok.kept hk) hcn (hC _ _ _ hCy fun b _ o e => hk b o e) (fun b hb => ?_) hal hfin
    obtain ⟨o, e, d⟩ := hown b hb
    exact ⟨o, hk b o e, d⟩

/-- any(g): the turns -/
theorem any_X {A : Around} {R : Result → Shared → Prop} {Qt Qf : Hp → Prop} (hh : A.handled = none) (hd : A.depth < recursionLimit)
    (hyes : ∀ ys y i k H', G.alive ys → G.W (ys ++ [y]) i k H' → ∃ c : Bool, y = .bl c ∧ (c = false → G.alive (ys ++ [y])) ∧ (c = true → Qt H')) (hfin : ∀ ys H', G.alive ys → G.fin ys H' → Qf H')
    (hend : ∀ (b : Bool) (s' : Shared) (H' : Hp), s'.os = sc.os → AllBare s'.gens → Un (frs outer) ex H H' sc.heap s'.heap → HOk P w H' s'.heap → (if b = true then Qt H' else Qf H') → R (.ok (.ret (.bool b))) s') :
    ∀ (n : Nat) (s : Shared), Waits P w outer H sc ex [] (fun _ _ => True) G a g A.in1 n s → codeAny (model P w) A (.builtin "any.loop" ⟨[.ref a], []⟩) R s := by
  intro n
  induction n with
  | zero =>
    intro s hw
    refine codeAny_builtin F.entry_any_loop ?_
    rw [Around.under_plainId F.plain_any_loop _]
    show wpAny _ A.in1 (pyNext (.ref a) >>= _) _ _ s
    refine wpAny_bind (next_X (A := A.in1) hh hd hw (by simp) (by simp) (fun v s1 y ys H' m e => by omega) (fun s1 ys H' _ os1 hb1 un hok _ _ _ hal hf => ?_) fun _ _ _ _ _ => trivial)
    exact wpAny_bind (wpAny_rule (wpAny_pure (hend false s1 H' os1 hb1 un hok (by rw [if_neg Bool.false_ne_true]; exact hfin ys H' hal hf))))
  | succ n ih =>
    intro s hw
    refine codeAny_builtin F.entry_any_loop ?_
    rw [Around.under_plainId F.plain_any_loop _]
    show wpAny _ A.in1 (pyNext (.ref a) >>= _) _ _ s
    refine wpAny_bind (next_X (A := A.in1) hh hd hw (by simp) (by simp) (fun v s1 y ys H' m e _ _ os1 hb1 un hok _ _ _ hal rv hW hk => ?_) (fun s1 ys H' _ os1 hb1 un hok _ _ _ hal hf => ?_) fun _ _ _ _ _ => trivial)
    · obtain ⟨i, k, hW⟩ := hW
      obtain ⟨c, rfl, h1, h2⟩ := hyes ys y i k H' hal hW
      obtain rfl : v = Value.bool c := rv
      obtain rfl : n = m := by omega
      refine wpAny_bind (wpAny_holding (wpAny_truthy_bool ?_))
      refine wpAny_bind (wpAny_letGo ?_)
      cases c with
      | false =>
        simp only [Bool.false_eq_true, if_false]
        refine wpAny_pure ⟨plainId_quiet F.plain_any_loop _, ih s1 (hk s1 rfl ⟨rfl, hb1, fun _ _ _ e => e, fun b hb => by simp at hb, trivial⟩ (h1 rfl))⟩
      | true =>
        simp only [if_true]
        exact wpAny_bind (wpAny_rule (wpAny_pure (hend true s1 H' os1 hb1 un hok (by rw [if_pos rfl]; exact h2 rfl))))
    · exact wpAny_bind (wpAny_rule (wpAny_pure (hend false s1 H' os1 hb1 un hok (by rw [if_neg Bool.false_ne_true]; exact hfin ys H' hal hf))))

/-- a list that is filled from g tells what came -/
def ConL (S : Addr) (ys : List V) (h : Heap) : Prop := ∃ acc c, h.get? S = some (lstObj acc c) ∧ Vals ys acc.toList
theorem conL_ok {S : Addr} : ConC [S] (ConL S) := fun ys h h' ⟨acc, c, e, r⟩ k => ⟨acc, c, k S (List.mem_singleton.mpr rfl) _ e, r⟩
/-- list.extend(g): the turns -/
theorem ext_X {A : Around} {R : Result → Shared → Prop} {S : Addr} {res : Value} (hh : A.handled = none) (hd : A.depth < recursionLimit) (hSa : S ≠ a) (hSc : S ≠ cStatics) (hal1 : ∀ ys, G.alive ys)
    (hend : ∀ s' acc c H' ys, s'.heap.get? S = some (lstObj acc c) → Vals ys acc.toList → ys.length ≤ sizeLine → s'.os = sc.os → AllBare s'.gens → Un (frs outer) ex H H' sc.heap s'.heap → HOk P w H' s'.heap → H' S = none → G.fin ys H' → R (.ok (.ret res)) s') :
    ∀ (n : Nat) (s : Shared), Waits P w outer H sc ex [S] (ConL S) G a g A.in1 n s → codeAny (model P w) A (.builtin "list.extend.loop" ⟨[.ref S, .ref a, res], []⟩) R s := by
  have fin : ∀ {n : Nat} (s1 : Shared) (ys : List V) (H' : Hp), (n + ys.length = sizeLine + 1 ∧ 1 ≤ n) → s1.os = sc.os → AllBare s1.gens → Un (frs outer) ex H H' sc.heap s1.heap → HOk P w H' s1.heap → (∀ b ∈ [S], H' b = none) → ConL S ys s1.heap → ys.length ≤ sizeLine → G.fin ys H' → R (.ok (.ret res)) s1 := fun s1 ys H' _ os1 hb1 un hok hcn hC hl hf => by
    obtain ⟨acc, c, e, r⟩ := hC
    exact hend s1 acc c H' ys e r hl os1 hb1 un hok (hcn S (List.mem_singleton.mpr rfl)) hf
  have hcs : cStatics ∉ [S] := fun z => hSc (List.mem_singleton.mp z).symm
  have hac : a ∉ [S] := fun z => hSa (List.mem_singleton.mp z).symm
  intro n
  induction n with
  | zero =>
    intro s hw
    refine codeAny_builtin F.entry_extend_loop ?_
    rw [Around.under_plainId F.plain_extend_loop _]
    show wpAny _ A.in1 (pyNext (.ref a) >>= _) _ _ s
    refine wpAny_bind (next_X (A := A.in1) hh hd hw hcs hac (fun v s1 y ys H' m e => by omega) (fun s1 ys H' hn os1 hb1 un hok hcn hC hown hal hf => ?_) conL_ok)
    exact absurd hn.2 (by decide)
  | succ n ih =>
    intro s hw
    refine codeAny_builtin F.entry_extend_loop ?_
    rw [Around.under_plainId F.plain_extend_loop _]
    show wpAny _ A.in1 (pyNext (.ref a) >>= _) _ _ s
    refine wpAny_bind (next_X (A := A.in1) hh hd hw hcs hac (fun v s1 y ys H' m e hn hlt os1 hb1 un hok hcn hC hown hal rv hW hk => ?_) (fun s1 ys H' hn os1 hb1 un hok hcn hC hown hal hf => ?_) conL_ok)
    · obtain ⟨acc, c, hS1, r⟩ := hC
      have hasz : acc.size = ys.length := by
        have e1 := r.length
        have e2 : acc.toList.length = acc.size := by simp
        omega
      obtain rfl : n = m := by omega
      show wpAny _ A.in1 (updateSeq S (·.push v) >>= _) _ _ _
      refine wpAny_bind ?_
      refine wpAny_updateSeq hS1 rfl (wpAny_pure ⟨plainId_quiet F.plain_extend_loop _, ?_⟩) (by omega) (by show (acc.push v).size ≤ sizeLine + 1; rw [Array.size_push]; omega)
      have hS2 := Heap.get?_update_self (Obj.mapSeq (·.push v)) hS1 rfl
      refine ih _ (hk _ rfl ⟨rfl, hb1, fun b o hb e => (Heap.get?_update_other _ _ (fun z => hb (List.mem_singleton.mpr z.symm))).trans e, fun b hb => ?_, ?_⟩ (hal1 _))
      · rw [List.mem_singleton.mp hb]
        exact ⟨_, hS2, fun v z => by cases z⟩
      · refine ⟨acc.push v, _, hS2, ?_⟩
        rw [Array.toList_push]
        exact r.append (.cons rv .nil)
    · exact wpAny_pure (fin (n := n + 1) s1 ys H' hn os1 hb1 un hok hcn hC (by omega) hf)
end
end GX

set_option Elab.async false
set_option linter.all false
set_option maxRecDepth 100000
set_option maxHeartbeats 2000000
namespace GX
open PySem PySem.Spec PyProof.Rows L2 GenW

/-! ## 6. all(g), any(g), tuple(g) -/
section
variable {P : Program} {w : World} {outer : List Env} {H : Hp} {sc s : Shared} {ex : List Addr} {G : GWs} {k : Nat} {u : Value}
/-- the first waking -/
theorem waits0 {A : Around} {cs : List Addr} {C : List V → Heap → Prop} {s2 : Shared} {a : Addr} {g : Nat} {c : Code} (hr : Room (k + 2) A) (hfr : A.frames = some outer) (hg : s.heap.IsGen a g) (hgs : s.gens[g]? = some (.fresh c)) (hos : s.os = sc.os) (hb : AllBare s.gens) (hl : s.heap.NoLimit)
    (wake : ∀ (A : Around) (cs : List Addr) (C : List V → Heap → Prop) (s2 : Shared), Room (k + 1) A → A.frames = some outer → (∀ b ∈ cs, s.heap.objs.size ≤ b) → ConC cs C → (∀ b o, s.heap.get? b = some o → s2.heap.get? b = some o) → OwnC cs s2.heap → C [] s2.heap → s2.os = sc.os → AllBare s2.gens →
      Seg (model P w) A (RX' P w outer H sc ex cs C G) (YX P w outer H sc ex cs C a g G) (sizeLine + 1) s2 c ((model P w).den c) [] s2)
    (hcs : ∀ b ∈ cs, s.heap.objs.size ≤ b) (hC : ConC cs C) (k2 : ∀ b o, s.heap.get? b = some o → s2.heap.get? b = some o) (hown : OwnC cs s2.heap) (hC0 : C [] s2.heap) (eos : s2.os = s.os) (egs : s2.gens = s.gens) :
    Waits P w outer H sc ex cs C G a g A (sizeLine + 1) s2 := by
  refine ⟨hg.keeps k2, hl.keeps k2, .fresh c, by rw [egs]; exact hgs, rfl, ?_⟩
  exact wake A.in1 cs C (s2.setGen g .running) hr.in1 hfr hcs hC k2 hown hC0 (eos.trans hos) (allBare_setGen (by rw [egs]; exact hb) rfl)

theorem call_anyX {A : Around} {E : Value → Shared → Prop} {Q : Value → Shared → Prop} {Qt Qf : Hp → Prop} (hr : Room (k + 3) A) (hfr : A.frames = some outer) (h : GMadeX P w k outer H sc ex G u s)
    (hyes : ∀ ys y i k H', G.alive ys → G.W (ys ++ [y]) i k H' → ∃ c : Bool, y = .bl c ∧ (c = false → G.alive (ys ++ [y])) ∧ (c = true → Qt H')) (hfin : ∀ ys H', G.alive ys → G.fin ys H' → Qf H')
    (hend : ∀ (b : Bool) (s' : Shared) (H' : Hp), s'.os = sc.os → AllBare s'.gens → Un (frs outer) ex H H' sc.heap s'.heap → HOk P w H' s'.heap → (if b = true then Qt H' else Qf H') → Q (.bool b) s') :
    wpAny (model P w) A (call (.builtin "any") [u]) Q E s := by
  obtain ⟨a, g, c, rfl, ha1, ha2, hg, hgs, hos, hb, hl, hkp, hal, wake⟩ := h
  refine call_function_tree F.kind_any F.plain_any F.entry_any (F.args_any1 _) ?_
  unfold Builtin.«any»
  refine wpAny_bind (m := oneArg "any" _) (wpAny_pure ?_)
  refine wpAny_bind (wpAny_pyIter_gen hg ?_)
  refine wpAny_pure ⟨plainId_quiet F.plain_any_loop _, any_X (P := P) (w := w) (outer := outer) (H := H) (sc := sc) (ex := ex) (G := G) (a := a) (g := g) (A := A) (Qt := Qt) (Qf := Qf) hr.hd (by have := hr.dp; show A.depth < _; omega) hyes hfin (fun b s' H' q1 q2 q3 q4 q5 => hend b s' H' q1 q2 q3 q4 q5) (sizeLine + 1) s ?_⟩
  exact waits0 (A := A.in1) hr.in1 hfr hg hgs hos hb hl wake (fun b hb => by simp at hb) (fun _ _ _ _ _ => trivial) (fun _ _ e => e) (fun b hb => by simp at hb) trivial rfl rfl

/-- all items of g in a new list of the machine's own -/
theorem collect_X {A : Around} {E : Value → Shared → Prop} {Q : List Value → Shared → Prop} (hr : Room (k + 3) A) (hfr : A.frames = some outer) (h : GMadeX P w k outer H sc ex G u s) (hal1 : ∀ ys, G.alive ys)
    (hQ : ∀ (s' : Shared) (vs : List Value) (H' : Hp) (ys : List V), Vals ys vs → ys.length ≤ sizeLine → s'.os = sc.os → AllBare s'.gens → Un (frs outer) ex H H' sc.heap s'.heap → HOk P w H' s'.heap → G.fin ys H' → Q vs s') :
    wpAny (model P w) A (collect u) Q E s := by
  obtain ⟨a, g, c, rfl, ha1, ha2, hg, hgs, hos, hb, hl, hkp, hal, wake⟩ := h
  have hSa : s.heap.objs.size ≠ a := Nat.ne_of_gt ha2
  have hcl : cStatics < s.heap.objs.size := let ⟨_, hn, _⟩ := hl; hn.lt
  have hSc : s.heap.objs.size ≠ cStatics := Nat.ne_of_gt hcl
  unfold collect
  refine wpAny_bind (wpAny_runValue (codeAny_builtin F.entry_proto_collect ?_))
  rw [Around.under_plainId F.plain_proto_collect _]
  show wpAny _ A.in1 (newList [] >>= fun l => again (.builtin "list.__iadd__" ⟨[l, .ref a], []⟩)) _ _ s
  refine wpAny_bind (wpAny_newObj_type ?_)
  refine wpAny_pure ⟨plainId_quiet F.plain_list_iadd _, codeAny_builtin F.entry_list_iadd ?_⟩
  rw [Around.under_plainId F.plain_list_iadd _]
  show wpAny _ A.in1 (Builtin.List.listExtendWith (.ref s.heap.objs.size) (.ref a) (.ref s.heap.objs.size)) _ _ _
  unfold Builtin.List.listExtendWith
  have up : ∀ (h : Heap) (f : Obj → Obj), (∀ b o, s.heap.get? b = some o → h.get? b = some o) → ∀ b o, s.heap.get? b = some o → (h.update s.heap.objs.size f).get? b = some o := fun h f q b o e =>
    (Heap.get?_update_other _ _ (Ne.symm (Nat.ne_of_lt (Heap.lt_size e)))).trans (q b o e)
  have k1 : ∀ b o, s.heap.get? b = some o → (s.heap.push { cls := .type "list", data := .seq ([] : List Value).toArray }).get? b = some o := fun b o e => Heap.get?_push_of_some _ e
  have gty : ∀ {h : Heap}, (∀ b o, s.heap.get? b = some o → h.get? b = some o) → h.IsGen a g := fun {h} q => hg.keeps q
  refine wpAny_bind (wpAny_typeOf (Heap.IsGen.typeIs (s := { s with heap := _ }) (gty k1)) ?_)
  have h1 : Builtin.List.listSameRef (.ref s.heap.objs.size) (.ref a) = false := by simp [Builtin.List.listSameRef, hSa]
  have h2 : (Value.type "generator" == Value.type "list") = false := by decide
  have h3 : (Value.type "generator" == Value.type "tuple") = false := by decide
  simp only [h1, h2, h3, Bool.or_false, Bool.false_eq_true, if_false]
  refine wpAny_bind (wpAny_pyIter_gen (s := { s with heap := _ }) (gty k1) ?_)
  refine wpAny_bind (wpAny_holding ?_)
  unfold Builtin.List.listLengthHint
  refine wpAny_bind (wpAny_specialOf (Heap.IsGen.typeIs (s := { s with heap := _ }) (gty k1)) F.gen_no_len ?_)
  show wpAny _ A.in1 (specialOf (Value.ref a) (Str.ofString "__length_hint__") >>= _) _ _ _
  refine wpAny_bind (wpAny_specialOf (Heap.IsGen.typeIs (s := { s with heap := _ }) (gty k1)) F.gen_no_hint ?_)
  refine wpAny_pure ?_
  show wpAny _ A.in1 (rule "list.extend.makes-room" >>= fun _ => Builtin.List.listTouch (.ref s.heap.objs.size) >>= fun _ =>
    again (.builtin "list.extend.loop" ⟨[.ref s.heap.objs.size, .ref a, .ref s.heap.objs.size], []⟩)) _ _ _
  refine wpAny_bind (wpAny_rule ?_)
  have hS₁ : (s.heap.push { cls := .type "list", data := .seq ([] : List Value).toArray }).get? s.heap.objs.size = some { cls := .type "list", data := .seq ([] : List Value).toArray } := Heap.get?_push_size _ rfl
  refine wpAny_bind ?_
  show wpAny _ A.in1 (updateSeq s.heap.objs.size (·.push .none) >>= fun _ => updateSeq s.heap.objs.size (·.pop)) _ _ _
  refine wpAny_bind (wpAny_updateSeq hS₁ rfl ?_)
  have hS₂ := Heap.get?_update_self (Obj.mapSeq (·.push Value.none)) hS₁ rfl
  refine wpAny_updateSeq (hz := by seq_fits) hS₂ rfl ?_
  have hS₃ := Heap.get?_update_self (Obj.mapSeq (·.pop)) hS₂ rfl
  have k4 := up _ (Obj.mapSeq (·.pop)) (up _ (Obj.mapSeq (·.push Value.none)) k1)
  refine wpAny_pure ⟨plainId_quiet F.plain_extend_loop _, ?_⟩
  refine ext_X (A := A) (G := G) (res := .ref s.heap.objs.size) hr.hd (by have := hr.dp; show A.depth < _; omega) hSa hSc hal1 (fun s' acc c' H' ys e r hl2 q3 q4 q5 q6 q7 q8 => ?_) (sizeLine + 1) _ (waits0 (A := A.in1) hr.in1 hfr hg hgs hos hb hl wake (fun b hb => by rw [List.mem_singleton.mp hb]; exact Nat.le_refl _) conL_ok k4 (fun b hb => ?_) ?_ rfl rfl)
  · show wpAny _ A (load s.heap.objs.size >>= _) _ _ s'
    refine wpAny_bind (wpAny_load e ?_)
    exact wpAny_pure (hQ s' acc.toList H' ys r hl2 q3 q4 q5 q6 q8)
  · rw [List.mem_singleton.mp hb]
    exact ⟨_, hS₃, fun v z => by cases z⟩
  · exact ⟨_, _, hS₃, .nil⟩

theorem code_tuple_newX {A : Around} {E : Value → Shared → Prop} {Q₁ : Value → Shared → Prop} (hr : Room (k + 4) A) (hfr : A.frames = some outer) (h : GMadeX P w k outer H sc ex G u s) (hal1 : ∀ ys, G.alive ys)
    (hQ : ∀ (s' : Shared) (vs : List Value) (H' : Hp) (ys : List V), Vals ys vs → ys.length ≤ sizeLine → s'.os = sc.os → AllBare s'.gens → Un (frs outer) ex H H' sc.heap s'.heap → HOk P w H' s'.heap → G.fin ys H' → Q₁ (.ref s'.heap.objs.size) { s' with heap := s'.heap.push { cls := .type "tuple", data := .seq vs.toArray } }) :
    codeAny (model P w) A (.call (.builtin "tuple.__new__") ⟨[.type "tuple", u], []⟩) (wants Q₁ E) s := by
  obtain ⟨a, g, c, rfl, _, _, hg, _⟩ := id h
  refine codeAny_of_tree ?_
  show wpAny _ A.in1 (do checkBuiltinCall "tuple.__new__" ⟨[.type "tuple", .ref a], []⟩; again (.builtin "tuple.__new__" ⟨[.type "tuple", .ref a], []⟩)) _ _ s
  refine wpAny_bind (wpAny_of_eq (F.newCall_tuple_1 _) (wpAny_pure ⟨plainId_quiet F.plain_tuple_new _, codeAny_builtin F.entry_tuple_new ?_⟩))
  rw [Around.under_plainId F.plain_tuple_new _]
  have hsub := sub_tuple_self
  have hinit := init_tuple_lookup
  have hmh := madeHere_tuple
  have hTI : s.TypeIs (.ref a) "generator" := hg.typeIs
  wp_walk using wpAny_typeOf hTI, collect_X (A := A.in1) hr.in1 hfr h hal1
  intro s' vs H' ys r hl q3 q4 q5 q6 q8
  show wpAny _ _ (Builtin.Tuple.tupleExact vs.toArray >>= fun v => ret v) _ _ _
  unfold Builtin.Tuple.tupleExact
  refine wpAny_bind (wpAny_newObj_type ?_ (by show vs.toArray.size ≤ sizeLine; rw [List.size_toArray, ← r.length]; exact hl))
  refine wpAny_pure ?_
  exact hQ s' vs H' ys r hl q3 q4 q5 q6 q8
theorem call_tupleX {A : Around} {E : Value → Shared → Prop} {Q : Value → Shared → Prop} (hr : Room (k + 5) A) (hfr : A.frames = some outer) (h : GMadeX P w k outer H sc ex G u s) (hal1 : ∀ ys, G.alive ys)
    (hQ : ∀ (s' : Shared) (vs : List Value) (H' : Hp) (ys : List V), Vals ys vs → ys.length ≤ sizeLine → s'.os = sc.os → AllBare s'.gens → Un (frs outer) ex H H' sc.heap s'.heap → HOk P w H' s'.heap → G.fin ys H' → Q (.ref s'.heap.objs.size) { s' with heap := s'.heap.push { cls := .type "tuple", data := .seq vs.toArray } }) :
    wpAny (model P w) A (call (.type "tuple") [u]) Q E s := by
  refine callType_codes (Q₁ := fun obj s₁ => s₁.TypeIs obj "tuple" ∧ Q obj s₁) F.called_tuple (F.typeCall_tuple_1 _) F.entry_object_init
    (code_tuple_newX hr.in1 hfr h hal1 fun s' vs H' ys r hl q3 q4 q5 q6 q8 => ⟨⟨_, Heap.get?_push_size _ rfl, rfl⟩, hQ s' vs H' ys r hl q3 q4 q5 q6 q8⟩) fun obj s₁ h₁ => ?_
  exact ⟨h₁.1, F.args_object_init_2 obj _, object_init_meets F.called_tuple.init.lookup F.called_tuple.made (by decide) P w A.in1 _ s₁ ⟨h₁.1, rfl, h₁.2⟩⟩
end

section
variable {X : Cx} {k : Nat} {e : Expr} {tg : TGx} {p pos : Pos}
/-- behind the asking: the def's own frame -/
theorem asked {pins : List (Addr × Obj)} {σ : L2.St} {H H' : Hp} {sc s' : Shared} {ex : List Addr} (I : Inv X pins σ H sc) (hex : ExOk X pins ex) (os : s'.os = sc.os) (hb : AllBare s'.gens) (un : Un (frs X.stack) ex H H' sc.heap s'.heap) (hok : HOk X.prog X.w H' s'.heap) : Inv X pins σ H' s' :=
  I.call' (ch := ex) os un hok hb hex
def tAnyX (tg : TGx) : TE := fun σ H Q => tg σ H fun G _ =>
  (∀ ys y i k H', G.alive ys → G.W (ys ++ [y]) i k H' → ∃ c : Bool, y = .bl c ∧ (c = false → G.alive (ys ++ [y])) ∧ (c = true → Q (.bl true) H')) ∧ ∀ ys H', G.alive ys → G.fin ys H' → Q (.bl false) H'
def tTupX (tg : TGx) : TE := fun σ H Q => tg σ H fun G _ => (∀ ys, G.alive ys) ∧ ∀ ys H', G.fin ys H' → ys.length ≤ sizeLine → ∀ p, H' p = none → Q (.ref p) (upd H' p (.tup ys))
theorem pe_anyX (h : PGx X k e tg) (hr : Room (k + 3) X.A) (hg : Gl X "any") (hm : X.mg "any" = none) (hb : bootBuiltins "any" = some (.builtin "any") := by decide +kernel)
    (he : starEach [e] X.env = (false, eval e X.env) :: starEach [] X.env := by rfl) : PE X (.Call (.Name "any" p) [e] [] pos) (tAnyX tg) := by
  refine ⟨fun pins s σ H Q I hq => ?_⟩
  refine wpAny_Call_Name_kw (ld_blt I hg hm hb ?_)
  refine PyProof.Rows.callWith_builtin1 ?_ he (by rfl)
  rw [he]
  show wpAny _ _ (spliced ((false, eval e X.env) :: backTo pos (starEach [] X.env))) _ _ s
  refine Calls.spliced_cons (thn (h.run pins s σ H _ I hq) fun u s1 ⟨H1, sc, ex, G, I1, hex, hG, hy, hf⟩ => ?_)
  refine Calls.spliced_nil ?_
  refine call_anyX hr I1.ok.frames hG hy hf fun b s' H' q1 q2 q3 q4 q5 => ?_
  refine ⟨.bl b, H', asked I1 hex q1 q2 q3 q4, rfl, ?_⟩
  cases b with
  | true => simpa using q5
  | false => simpa using q5
theorem pe_tupX (h : PGx X k e tg) (hr : Room (k + 5) X.A) (hg : Gl X "tuple") (hm : X.mg "tuple" = none) (hb : bootBuiltins "tuple" = some (.type "tuple") := by decide +kernel)
    (he : starEach [e] X.env = (false, eval e X.env) :: starEach [] X.env := by rfl) : PE X (.Call (.Name "tuple" p) [e] [] pos) (tTupX tg) := by
  refine ⟨fun pins s σ H Q I hq => ?_⟩
  refine wpAny_Call_Name_kw (ld_blt I hg hm hb ?_)
  refine PyProof.Rows.callWith_type1 ?_ he rfl
  rw [he]
  show wpAny _ _ (spliced ((false, eval e X.env) :: backTo pos (starEach [] X.env))) _ _ s
  refine Calls.spliced_cons (thn (h.run pins s σ H _ I hq) fun u s1 ⟨H1, sc, ex, G, I1, hex, hG, hal, hf⟩ => ?_)
  refine Calls.spliced_nil ?_
  refine call_tupleX hr I1.ok.frames hG hal fun s' vs H' ys r hl q1 q2 q3 q4 q5 => ?_
  have I2 : Inv X pins σ H' s' := asked I1 hex q1 q2 q3 q4
  have hf2 : H' s'.heap.objs.size = none := I2.hok.fresh (Nat.le_refl _)
  refine ⟨.ref s'.heap.objs.size, upd H' s'.heap.objs.size (.tup ys), I2.laid (t' := s'.toks) (fun b u e => Heap.get?_push_of_some _ e) (Nat.le_refl _) ?_, rfl, hf ys H' q5 hl _ hf2⟩
  exact ⟨hl, vs, r, ⟨_, Heap.get?_push_size _ rfl, rfl, _, rfl⟩⟩
end
end GX

set_option Elab.async false
set_option linter.all false
set_option maxRecDepth 100000
set_option maxHeartbeats 2000000
namespace GX
open PySem PySem.Spec PyProof.Rows L2 GenW

/-! ## 7. enumerate(t), t a tuple -/
theorem meets_enumerate_newT (t : Addr) (items : Array Value) :
    Meets (Builtin.«enumerate.__new__» ⟨[.type "enumerate", .ref t], []⟩) (fun _ R s => s.heap.IsTuple t items ∧
      R (.ok (.ret (.ref (s.heap.push { cls := .type "tuple_iterator", data := .fields #[.ref t, .int 0 0] }).objs.size)))
        { s with heap := (s.heap.push { cls := .type "tuple_iterator", data := .fields #[.ref t, .int 0 0] }).push { cls := .type "enumerate", data := .fields #[.none, .bool false, .ref s.heap.objs.size, rawInt 0, .none, .none] } }) :=
  .of_wp fun prog w A R s h => by
    obtain ⟨hp, g, d, tk, os⟩ := s; obtain ⟨h1, h⟩ := h
    have hsub := sub_enumerate
    have q1 : ∀ {A' : Around} {E : Value → Shared → Prop} {Q : Value → Shared → Prop}, Q (.ref hp.objs.size) ⟨hp.push { cls := .type "tuple_iterator", data := .fields #[.ref t, .int 0 0] }, g, d, tk, os⟩ → wpAny (model prog w) A' (pyIter (.ref t)) Q E ⟨hp, g, d, tk, os⟩ :=
      fun q => (begins_tuple t items).iter prog w _ _ ⟨hp, g, d, tk, os⟩ _ h1 q
    wp_walk using q1
    refine wpAny_stack_any fun st => wpAny_pure ?_
    split
    · rename_i c _ _ _ _ _
      cases (c == Value.type "enumerate")
      · wp_walk using q1
        exact ⟨_, rfl, h⟩
      · wp_walk using q1
        exact ⟨_, rfl, h⟩
    · wp_walk using q1
      exact ⟨_, rfl, h⟩
section
variable {prog : Program} {w : World} {A : Around} {E : Value → Shared → Prop} {s : Shared}
theorem call_enumerate_tuple {t : Addr} {items : Array Value} {Q : Value → Shared → Prop} (hT : s.heap.IsTuple t items)
    (h : ∀ h', IsEnum h' (s.heap.objs.size + 1) s.heap.objs.size 0 .none → h'.IsTupleIter s.heap.objs.size t 0 → h'.objs.size = s.heap.objs.size + 2 →
      (∀ b o, s.heap.get? b = some o → h'.get? b = some o) → Q (.ref (s.heap.objs.size + 1)) { s with heap := h' }) :
    wpAny (model prog w) A (call (.type "enumerate") [.ref t]) Q E s := by
  refine callType_new F.called_enumerate (by decide) (F.typeCall_enumerate_1 _) (F.newCall_enumerate_1 _) (fun obj => F.args_object_init_2 obj _) F.entry_enumerate_new
    (meets_enumerate_newT t items) ⟨hT, ?_⟩
  have hz : (s.heap.push { cls := .type "tuple_iterator", data := .fields #[.ref t, .int 0 0] }).objs.size = s.heap.objs.size + 1 := Heap.size_push ..
  show _ ∧ _
  rw [hz]
  have he : IsEnum ((s.heap.push { cls := .type "tuple_iterator", data := .fields #[.ref t, .int 0 0] }).push
      { cls := .type "enumerate", data := .fields #[.none, .bool false, .ref s.heap.objs.size, rawInt 0, .none, .none] }) (s.heap.objs.size + 1) s.heap.objs.size 0 .none := by
    have := Heap.get?_push_size (s.heap.push { cls := .type "tuple_iterator", data := .fields #[.ref t, .int 0 0] })
      (o := { cls := .type "enumerate", data := .fields #[.none, .bool false, .ref s.heap.objs.size, rawInt 0, .none, .none] }) rfl
    rw [hz] at this; exact this
  refine ⟨⟨_, he, rfl⟩, h _ he ⟨_, Heap.get?_push_of_some _ (Heap.get?_push_size _ rfl), rfl, rfl⟩ (by rw [Heap.size_push, hz]) fun b o x => Heap.get?_push_of_some _ (Heap.get?_push_of_some _ x)⟩
end
def IteT (K : PySem.W.Frag) (a : Addr) : It :=
  ⟨fun i H => ∃ (xs : List V) (x : V), SqT K H a xs ∧ xs[i]? = some x, fun i H v H' => ∃ T x, v = .ref T ∧ H T = none ∧ H' = upd H T (.tup [.int (i : Nat), x]) ∧ ∀ xs, SqT K H a xs → xs[i]? = some x, fun i H => ∃ xs : List V, SqT K H a xs ∧ xs.length ≤ i⟩
theorem turn_enumT {P : Program} {w : World} {K : PySem.W.Frag} {elts : List Expr} {kk : Nat} {tpos : Pos} (a e it : Addr) (hae : a ≠ e) (hai : a ≠ it) :
    Turn P w K (.Tuple elts kk tpos) (IteT K a) [e, it] e (fun i h => (∃ old, IsEnum h e it ((i : Nat) : Int) old) ∧ h.IsTupleIter it a i ∧ e ≠ it) where
  mem := by simp
  obj := fun i h st b hb => by
    obtain ⟨⟨old, he⟩, ⟨o, ho, hc, hd⟩, _⟩ := st
    have e' : b = e ∨ b = it := by simpa using hb
    rcases e' with z | z
    · rw [z]; exact ⟨_, he, fun v q => nomatch q⟩
    · rw [z]; exact ⟨o, ho, fun v q => by rw [hd] at q; cases q⟩
  keep := fun i h h' st k => let ⟨⟨old, he⟩, hi, hne⟩ := st; ⟨⟨old, k e (by simp) _ he⟩, hi.at fun o q => k it (by simp) o q, hne⟩
  item := by
    intro X hP hw hK hc i pins s σ H E I hf st hg
    subst hP hw hK
    obtain ⟨⟨old, he⟩, hit, hne⟩ := st
    obtain ⟨xs, x, hq, hx⟩ := hg
    obtain ⟨its, rv, p, hz⟩ := I.tuple hq
    obtain ⟨u, hu, ru⟩ := rv.get hx
    have hel : e < s.heap.objs.size := Heap.lt_size he
    have hil : it < s.heap.objs.size := by obtain ⟨_, q, _⟩ := hit; exact Heap.lt_size q
    have hlt : i < its.toArray.size := by
      have q := (List.getElem?_eq_some_iff.mp hu).1
      simpa using q
    have D := Draws.tuple (prog := X.prog) (w := X.w) (A := X.A.in1) (I.ok.hd hc) it a hai its.toArray
    refine wpAny_pyNext_enum_itemD D he ⟨hit, p⟩ hlt hne (by simp [Ne.symm hae, hne]) fun x' h' tk hP ho hst' hT hsz hk => ?_
    obtain rfl : x' = u := by
      have q : its.toArray[i]? = some u := by simpa using hu
      exact Option.some.inj (hP.symm.trans q)
    obtain ⟨hit', _⟩ := hst'
    refine ⟨_, rfl, wpAny_letOwnedTupleGo_enum (s := { s with heap := h', toks := tk + 1 }) ho fun h'' he' sb => ?_⟩
    have hT2 : h''.get? s.heap.objs.size = some { cls := .type "tuple", data := .seq #[.int i tk, x'] } := (sb.2 _ (Nat.ne_of_gt hel)).trans hT
    have new : ObjOk X.prog X.w (upd H s.heap.objs.size (.tup [.int (i : Nat), x])) h'' s.heap.objs.size (.tup [.int (i : Nat), x]) :=
      ⟨by show 2 ≤ sizeLine; decide, [.int i tk, x'], .cons ⟨_, rfl⟩ (.cons ru .nil), ⟨_, hT2, rfl, _, rfl⟩⟩
    have I1 : Inv X pins σ (upd H s.heap.objs.size (.tup [.int (i : Nat), x])) { s with heap := h'', toks := tk + 1 } :=
      I.turnedNew (ch := [e, it]) (fun b ob hb q => (sb.2 b (fun z => hb (by simp [z]))).trans (hk b ob (fun z => hb (by simp [z])) (fun z => hb (by simp [z])) q)) hf (Nat.le_refl _) new
    refine ⟨.ref s.heap.objs.size, _, I1, rfl, ⟨_, x, rfl, I.hok.fresh (Nat.le_refl _), rfl, fun ys hy => by rw [I.tuple_inj hy hq]; exact hx⟩, ⟨⟨x', ?_⟩, hit'.at fun o q => (sb.2 it (Ne.symm hne)).trans q, hne⟩, fun b hb => ?_⟩
    · have e1 : ((i + 1 : Nat) : Int) = (i : Int) + 1 := by omega
      rw [e1]; exact he'
    · have hb' : b < s.heap.objs.size := by
        have e' : b = e ∨ b = it := by simpa using hb
        rcases e' with z | z
        · rw [z]; exact hel
        · rw [z]; exact hil
      rw [upd_ne (Nat.ne_of_lt hb')]
      exact (hf b hb).1
  done := by
    intro X hP hw hK hc i pins s σ H E I hf st hg
    subst hP hw hK
    obtain ⟨⟨old, he⟩, hit, hne⟩ := st
    obtain ⟨xs, hq, hx⟩ := hg
    obtain ⟨its, rv, p, hz⟩ := I.tuple hq
    obtain ⟨f0, f1, f2, f3, f4, f5⟩ := hf it (by simp)
    have hl := rv.length
    have hh : X.A.in1.handled = none := I.ok.hd hc
    have hT : s.TypeIs (.ref e) "enumerate" := ⟨_, he, rfl⟩
    unfold pyNext
    refine wpAny_bind (wpAny_attempt (wpAny_callSpecial?_slot (name := Str.ofString "__next__") hT F.slot_enumerate_next
      (wpAny_call_entry F.slot_enumerate_next hT F.entry_enumerate_next ?_ (F.args_enumerate_next_1 _))))
    show wpAny _ _ (field (.ref e) 2 >>= _) _ _ _
    refine wpAny_bind (wpAny_field he rfl (x := .ref it) rfl ?_)
    refine wpAny_bind (wpAny_nextOf_tuple_end hh hit (show s.heap.IsTuple a its.toArray from p) (by simp; omega) fun h' x he' hx' => ?_)
    obtain ⟨o, ho, hcc⟩ := hx'
    refine wpAny_bind (wpAny_isInstance (T := "StopIteration") (b := true) ⟨o, ho, hcc⟩ isSubtype_stop ?_)
    exact wpAny_pure ⟨rfl, I.turned (t' := s.toks) (fun b o hb q => he' b o hb q) f0 f1 f3 f4 f5⟩
  self := fun A i s Q E st h => let ⟨⟨_, he⟩, _⟩ := st; wpAny_pyIter_enum he h
/-- enumerate over a list or a tuple -/
def iEnumA (K : PySem.W.Frag) (ta : TA) : TI := fun σ H R => ta σ H fun vs H1 => ∃ a xs, vs = [.ref a] ∧ ((SqL K H1 a xs ∧ R (Ite K a) H1) ∨ (SqT K H1 a xs ∧ R (IteT K a) H1))
theorem pi_enumA {X : Cx} {e : Expr} {ta : TA} {p pos tpos : Pos} {elts : List Expr} {kk : Nat} (hg : Gl X "enumerate") (hm : X.mg "enumerate" = none) (ha : PA X [e] ta) (hs : starEach [e] X.env = [(false, eval e X.env)] := by rfl) :
    PI X (.Tuple elts kk tpos) (.Call (.Name "enumerate" p) [e] [] pos) (iEnumA X.K ta) := by
  refine ⟨fun pins s σ H R I h => ?_⟩
  refine Call_ (ld_blt I hg hm boot_enumerate (PyProof.Rows.callWith_type1 (thn (ha.run pos pins s σ H _ I h) fun us s1 ⟨vs, H1, I1, r1, q1⟩ => ?_) hs rfl))
  obtain ⟨a, xs, ex, q1⟩ := q1
  subst ex
  cases r1 with
  | cons r rr =>
    cases rr
    cases r
    have fr : ∀ b, b ∈ [s1.heap.objs.size + 1, s1.heap.objs.size] → FpOk X pins H1 b := fun b hb => by
      have e' : b = s1.heap.objs.size + 1 ∨ b = s1.heap.objs.size := by simpa using hb
      have hle : s1.heap.objs.size ≤ b := by
        rcases e' with z | z
        · rw [z]; exact Nat.le_add_right _ _
        · rw [z]; exact Nat.le_refl _
      exact I1.fpOk hle (I1.hok.fresh hle)
    rcases q1 with ⟨hq, q⟩ | ⟨hq, q⟩
    · obtain ⟨its, rv, p', hz⟩ := I1.list hq
      refine call_enumerate_list p'.isList fun h' he hit hsz hk => wpAny_pyIter_enum he ?_
      have I2 : Inv X pins σ H1 { s1 with heap := h' } := I1.kept (t' := s1.toks) hk
      exact ⟨s1.heap.objs.size + 1, [s1.heap.objs.size + 1, s1.heap.objs.size], _, _, H1, rfl, I2, turn_enum a (s1.heap.objs.size + 1) s1.heap.objs.size, ⟨⟨.none, he⟩, hit, Nat.succ_ne_self _⟩, fr, q⟩
    · obtain ⟨its, rv, p', hz⟩ := I1.tuple hq
      have hlt : a < s1.heap.objs.size := by obtain ⟨o, ho, _⟩ := id p'; exact Heap.lt_size ho
      refine call_enumerate_tuple (show s1.heap.IsTuple a its.toArray from p') fun h' he hit hsz hk => wpAny_pyIter_enum he ?_
      have I2 : Inv X pins σ H1 { s1 with heap := h' } := I1.kept (t' := s1.toks) hk
      exact ⟨s1.heap.objs.size + 1, [s1.heap.objs.size + 1, s1.heap.objs.size], _, _, H1, rfl, I2, turn_enumT a (s1.heap.objs.size + 1) s1.heap.objs.size (Nat.ne_of_lt (Nat.lt_succ_of_lt hlt)) (Nat.ne_of_lt hlt), ⟨⟨.none, he⟩, hit, Nat.succ_ne_self _⟩, fr, q⟩
end GX

set_option Elab.async false
set_option linter.all false
set_option maxRecDepth 100000
set_option maxHeartbeats 2000000
namespace GX
open PySem PySem.Spec PyProof.Rows L2 GenW
/-! ## 7. generator expressions of two clauses: their turns -/
section
variable {elt tg0 iter0 tg1 iter1 : Expr} {ifs0 ifs1 : List Expr} {scope : Scope} {pos : Pos} {it acc : Value} {env : Env}
end
end GX

set_option Elab.async false
set_option linter.all false
set_option maxRecDepth 100000
set_option maxHeartbeats 2000000
namespace GX
open PySem PySem.Spec PyProof.Rows L2 GenW
/-! ## 8. generator expressions of two clauses: the run -/
def GTurn2 (J : It) (g : TG) (tt : TT) (wi1 : TI) (g1 : TG) (tt1 : TT) (te : TE) (vs vs1 : List Nat) (σ : L2.St) (W0 : List V → Nat → Nat → Hp → Prop) (G : GWs) : Prop := ∀ ys i m H, G.alive ys → W0 ys i m H →
  (J.stop i H ∧ G.fin ys H) ∨ (J.go i H ∧ ∃ NX : List V → Hp → Prop, (∀ ys' H', NX ys' H' → ∃ m', m' < m ∧ W0 ys' (i + 1) m' H') ∧
    ∀ x H', J.yld i H x H' → g x (wipe σ vs) H' fun σ2 H2 => wipe σ2 vs = wipe σ vs ∧ tt σ2 H2 fun b H3 => if b = true then wi1 σ2 H3 fun J1 H4 => ∃ W1 : List V → Nat → Nat → Hp → Prop, (∃ k, W1 ys 0 k H4) ∧ ∀ ys1 j k H, G.alive ys1 → W1 ys1 j k H →
      (J1.stop j H ∧ NX ys1 H) ∨ (J1.go j H ∧ ∃ (NF : Hp → Prop) (NY : V → Hp → Prop), (∀ H', NF H' → ∃ k', k' < k ∧ W1 ys1 (j + 1) k' H') ∧ (∀ y H', NY y H' → (∃ i m, G.W (ys1 ++ [y]) i m H') ∧ ∃ k', k' < k ∧ W1 (ys1 ++ [y]) (j + 1) k' H') ∧
        ∀ x1 H', J1.yld j H x1 H' → g1 x1 (wipe σ2 vs1) H' fun σ3 H5 => wipe σ3 vs1 = wipe σ2 vs1 ∧ tt1 σ3 H5 fun b1 H6 => if b1 = true then te σ3 H6 fun y H7 => ys1.length < sizeLine ∧ NY y H7 else NF H6)
    else NX ys H3)
section
variable {X : Cx} {s0 : Shared} {H0 : Hp} {ge : Env} {fp cs : List Addr} {A : Around} {a : Addr} {go : Obj} {gn : Nat}
end
end GX

set_option Elab.async false
set_option linter.all false
set_option maxRecDepth 100000
set_option maxHeartbeats 2000000
namespace GX
open PySem PySem.Spec PyProof.Rows L2 GenW
/-! ## 9. generator expressions of two clauses: the outer run, the value -/
section
variable {X : Cx} {s0 : Shared} {H0 : Hp} {ge : Env} {fp cs : List Addr} {A : Around} {a : Addr} {go : Obj} {gn : Nat}
end
def tGen2 (B : Heap) (nm : Nat → Nat → Option Str) (c : Addr) (wi : TI) (g : TG) (tt : Addr → TT) (wi1 : Addr → TI) (g1 : TG) (tt1 : Addr → TT) (te : Addr → TE) (vs vs1 : List Nat) : TGx := fun σ H R => wi σ H fun J H1 =>
  (∃ P, CodeAt B H1 c P ∧ ∃ ps, H1 P = some (.tbl ps)) ∧ AllTabs nm H1 ∧ ∀ (H2 : Hp) (c' P' : Addr), Grown H1 H2 → AllTabs nm H2 → H2 c' = some (CodeG c' P') → (∃ ps', H2 P' = some (.tbl ps')) →
    ∃ (W0 : List V → Nat → Nat → Hp → Prop) (G : GWs), G.alive [] ∧ (∃ m, W0 [] 0 m H2) ∧ GTurn2 J g (tt c') (wi1 c') g1 (tt1 c') (te c') vs vs1 σ W0 G ∧ R G H2
section
variable {X : Cx}
end
end GX

set_option Elab.async false
set_option linter.all false
set_option maxRecDepth 100000
set_option maxHeartbeats 2000000
namespace GX
open PySem PySem.Spec PyProof.Rows L2
/-! ## 9. comprehensions of any number of clauses: one clause's loop around what is done at its end -/
/-- what a clause's turn does, its end being t -/
def TurnIs (e : Expr) (k : Nat) (p : Pos) (tg : Expr) (ifs : List Expr) (t : Sem PySem.Fin) (it acc : Value) (env : Env) : Prop :=
  compTurn e k it acc env = (standAt p >>= fun _ => pyNext it >>= fun r => match r with | none => pure (.done .next) | some v => letOwnedTupleGo tg it v >>= fun _ => assign tg env v >>= fun _ => (forIn ifs true fun c r => if r = true then do let ok ← isTrue c env (eval c env); pure (ForInStep.yield ok) else pure (ForInStep.yield r)) >>= fun ok => if ok = true then t else again (.compLoop e k it acc env))
def CallTurn (Y : Cx) (e : Expr) (k : Nat) : Prop := ∀ it acc, Y.A.under (.compLoop e k it acc Y.env) = Y.A ∧ (Code.compLoop e k it acc Y.env).quiet = true ∧ (model Y.prog Y.w).den (.compLoop e k it acc Y.env) = (compTurn e k it acc Y.env).onRaise (fun x => do noteFrame x Y.env; theTreesLotGoes x)
section
variable {Y : Cx} {e tg : Expr} {ifs : List Expr} {k : Nat} {p : Pos} {it acc : Value}
/-- a clause's end, within a block -/
structure PBd (Y : Cx) (c : Code) (t : Sem PySem.Fin) (tb : L2.St → Hp → (Hp → Prop) → Prop) (vs : List Nat) : Prop where
  run : ∀ (pins : List (Addr × Obj)) (s : Shared) (σ : L2.St) (H : Hp) (N : Hp → Prop), Inv Y pins σ H s → tb σ H N → wpAny (model Y.prog Y.w) Y.A t (fun f s' => f = .again c ∧ ∃ H', Inv Y pins (wipe σ vs) H' s' ∧ N H') (fun _ _ => False) s
/-- how a clause within another one starts -/
def StartIs (e : Expr) (k : Nat) (it acc : Value) (Y : Cx) : Prop := ∀ (s : Shared) (R : Result → Shared → Prop), codeAny (model Y.prog Y.w) Y.A (.compLoop e k it acc Y.env) R s → wpAny (model Y.prog Y.w) Y.A (pyIter it) (fun it' s' => codeAny (model Y.prog Y.w) Y.A (.compLoop e k it' acc Y.env) R s') (notedBy (model Y.prog Y.w) Y.A Y.env fun x s' => R (.error x) s') s → codeAny (model Y.prog Y.w) Y.A (.compStart e k it acc Y.env) R s
end
/-! ### what stands at the innermost clause's end -/
section
variable {Y : Cx} {c : Code}
end
end GX

set_option Elab.async false
set_option linter.all false
set_option maxRecDepth 100000
set_option maxHeartbeats 2000000
namespace GX
open PySem PySem.Spec PyProof.Rows L2
/-! ## 10. comprehensions of any number of clauses: the whole -/
/-- what is known of a comprehension's first clause, whatever stands behind it -/
structure Comp1 (e : Expr) (mk : Sem Value) (o0 : HO) (ob : Obj) (iter : Expr) (tg : Expr) (ifs : List Expr) (tail : Value → Value → Env → Sem PySem.Fin) : Prop where
  cl : ∃ rest, clausesOf e = ⟨tg, iter, ifs, 0⟩ :: rest
  mkd : ∀ (P : Program) (w : World) (A : Around) (E : Value → Shared → Prop) (s : Shared) (Q : Value → Shared → Prop), Q (.ref s.heap.objs.size) { s with heap := s.heap.push ob } → wpAny (model P w) A mk Q E s
  new : ∀ (P : Program) (w : World) (H : Hp) (h : Heap), sysModules < h.objs.size → ObjOk P w H (h.push ob) h.objs.size o0
  call : ∀ Y, CallTurn Y e 0
  turn : ∀ it acc env, TurnIs e 0 iter.pos tg ifs (tail it acc env) it acc env
  start : ∀ Y it acc, StartIs e 0 it acc Y
section
variable {X : Cx}
end
end GX

set_option Elab.async false
set_option linter.all false
set_option maxRecDepth 100000
set_option maxHeartbeats 2000000
namespace GX
open PySem PySem.Spec PyProof.Rows L2
/-! ## 11. list comprehensions of three clauses, dict comprehensions of one and two -/
section
variable {elt kx vx t0 i0 t1 i1 t2 i2 : Expr} {f0 f1 f2 : List Expr} {scope : Scope} {pos : Pos}
abbrev TBd := Addr → L2.St → Hp → (Hp → Prop) → Prop
/-- what is done at the end of the first clause, in any block context -/
structure BdOk (e : Expr) (tail : Value → Value → Env → Sem PySem.Fin) (Y : Cx) (tb : TBd) (vs : List Nat) (k : Nat) : Prop where
  run : ∀ it D, PBd Y (.compLoop e k it (.ref D) Y.env) (tail it (.ref D) Y.env) (tb D) vs
end
end GX

set_option Elab.async false
set_option linter.all false
set_option maxRecDepth 100000
set_option maxHeartbeats 2000000
namespace GX
open PySem PySem.Spec PyProof.Rows L2
/-! ## 14. dicts whose keys are tuples of tuples of numbers -/
mutual
def KeyV (H : Hp) : NestedKey → V → Prop
  | .none, _ => False
  | .num i, v => v = .int i
  | .text _, _ => False
  | .tup ks, v => ∃ b xs, v = .ref b ∧ H b = some (.tup xs) ∧ KeyVs H ks xs
def KeyVs (H : Hp) : List NestedKey → List V → Prop
  | [], xs => xs = []
  | k :: ks, xs => ∃ y ys, xs = y :: ys ∧ KeyV H k y ∧ KeyVs H ks ys
end
section
variable {H H' : Hp} {P : Program} {w w' : World} {h : Heap}
mutual
theorem keyV_mono (ht : ∀ b ys, H b = some (.tup ys) → H' b = some (.tup ys)) : ∀ (k : NestedKey) (v : V), KeyV H k v → KeyV H' k v
  | .none, _, z => by unfold KeyV at z; exact z.elim
  | .num i, v, z => by unfold KeyV at z ⊢; exact z
  | .text _, _, z => by unfold KeyV at z; exact z.elim
  | .tup ks, v, z => by
    unfold KeyV at z ⊢
    obtain ⟨b, xs, e, hb, r⟩ := z
    exact ⟨b, xs, e, ht _ _ hb, keyVs_mono ht ks xs r⟩
theorem keyVs_mono (ht : ∀ b ys, H b = some (.tup ys) → H' b = some (.tup ys)) : ∀ (ks : List NestedKey) (xs : List V), KeyVs H ks xs → KeyVs H' ks xs
  | [], xs, z => by unfold KeyVs at z ⊢; exact z
  | k :: ks, xs, z => by
    unfold KeyVs at z ⊢
    obtain ⟨y, ys, e, h1, h2⟩ := z
    exact ⟨y, ys, e, keyV_mono ht k y h1, keyVs_mono ht ks ys h2⟩
end
mutual
theorem keyV_hash (w w' : World) : ∀ (k : NestedKey) (v : V), KeyV H k v → k.hash w = k.hash w'
  | .none, _, z => by unfold KeyV at z; exact z.elim
  | .num i, v, z => by rw [NestedKey.hash, NestedKey.hash]
  | .text _, _, z => by unfold KeyV at z; exact z.elim
  | .tup ks, v, z => by
    unfold KeyV at z
    obtain ⟨b, xs, e, hb, r⟩ := z
    rw [NestedKey.hash, NestedKey.hash, keyVs_hash w w' ks xs r]
theorem keyVs_hash (w w' : World) : ∀ (ks : List NestedKey) (xs : List V), KeyVs H ks xs → NestedKey.hashes w ks = NestedKey.hashes w' ks
  | [], xs, z => by rw [NestedKey.hashes, NestedKey.hashes]
  | k :: ks, xs, z => by
    unfold KeyVs at z
    obtain ⟨y, ys, e, h1, h2⟩ := z
    rw [NestedKey.hashes, NestedKey.hashes, keyV_hash w w' k y h1, keyVs_hash w w' ks ys h2]
end
mutual
theorem key_nested (ok : HOk P w H h) : ∀ (k : NestedKey) (v : V) (u : Value), KeyV H k v → RelV v u → NestedIs h k u
  | .none, _, _, z, _ => by unfold KeyV at z; exact z.elim
  | .num i, v, u, z, r => by
    unfold KeyV at z
    subst z
    obtain ⟨t, rfl⟩ := (show ∃ t, u = Value.int i t from r)
    exact .int i t
  | .text _, _, _, z, _ => by unfold KeyV at z; exact z.elim
  | .tup ks, v, u, z, r => by
    unfold KeyV at z
    obtain ⟨b, xs, e, hb, q⟩ := z
    subst e
    cases (show u = Value.ref b from r)
    obtain ⟨_, its, rs, o, h1, h2, n, h3⟩ := (show ObjOk P w H h b (.tup xs) from ok b _ hb)
    exact .tup h1 h2 h3 (keys_nested ok ks xs its q rs)
theorem keys_nested (ok : HOk P w H h) : ∀ (ks : List NestedKey) (xs : List V) (us : List Value), KeyVs H ks xs → Vals xs us → NestedAll h ks us
  | [], xs, us, z, r => by
    unfold KeyVs at z
    subst z
    cases r
    exact .nil
  | k :: ks, xs, us, z, r => by
    unfold KeyVs at z
    obtain ⟨y, ys, e, h1, h2⟩ := z
    subst e
    cases r with
    | cons r1 r2 => exact .cons (key_nested ok k y _ h1 r1) (keys_nested ok ks ys _ h2 r2)
end
end
abbrev NX := NestedKey × Addr × Value
def entN (w : World) (x : NX) : DictEntry := ⟨x.1.hash w, .ref x.2.1, x.2.2⟩
/-- the dict at a that holds xs -/
def NDf (a : Addr) (xs : List NX) : Heap → Prop := fun h => ∃ o es ep w, h.get? a = some o ∧ o.ExactDict ∧ o.data = .dict es ep ∧ es.toList = xs.map (entN w)
def NDO (a : Addr) (xs : List NX) : HO := .ext (NDf a xs)
/-- what is told of an object with fields -/
def FldX (φ : Heap → Prop) : Prop := ∀ h, φ h → ∃ (c : Addr) (oc : Obj) (vs : Array Value), h.get? c = some oc ∧ oc.data = .fields vs
abbrev KN (H : Hp) : List (NestedKey × V) → List NX → Prop := Paired fun p q => p.1 = q.1 ∧ (p.1.depth ≤ 8 ∧ KeyV H p.1 (.ref q.2.1)) ∧ RelV p.2 q.2.2
def DctN (H : Hp) (a : Addr) (kvs : List (NestedKey × V)) : Prop := (H a = some (.dT []) ∧ kvs = []) ∨ ∃ xs, H a = some (NDO a xs) ∧ ¬ FldX (NDf a xs) ∧ kvs.length ≤ sizeLine ∧ (a == sysModules) = false ∧ (xs.map (·.1)).Nodup ∧ KN H kvs xs
section
variable {H H' : Hp} {kvs : List (NestedKey × V)} {xs : List NX} {a b : Addr} {k : NestedKey}
theorem KN.val (r : KN H kvs xs) (k : NestedKey) : RelO (valV kvs k) ((atKey xs k).map (·.2)) := by
  induction r with
  | nil => exact True.intro
  | @cons p q ps qs h t ih =>
    obtain ⟨h1, _, h2⟩ := h
    by_cases e : p.1 = k
    · have e' : q.1 = k := h1.symm.trans e
      have b : atKey (q :: qs) k = some q.2 := by simp [atKey, List.find?_cons, e']
      rw [valV_pos e, b]; exact h2
    · have e' : ¬ q.1 = k := fun z => e (h1.trans z)
      have b : atKey (q :: qs) k = atKey qs k := by simp [atKey, List.find?_cons, e']
      rw [valV_neg e, b]; exact ih
theorem KN.repl (r : KN H kvs xs) (k : NestedKey) {y : V} {u : Value} (ry : RelV y u) :
    KN H (kvs.map fun kv => if kv.1 = k then (kv.1, y) else kv) (xs.map (putAt k u)) := by
  induction r with
  | nil => exact .nil
  | @cons p q ps qs h t ih =>
    rw [List.map_cons, List.map_cons]
    refine .cons ?_ ih
    obtain ⟨h1, h2, h3⟩ := h
    unfold putAt
    by_cases e : p.1 = k
    · rw [if_pos e, if_pos (h1.symm.trans e)]; exact ⟨h1, h2, ry⟩
    · rw [if_neg e, if_neg (fun z => e (h1.trans z))]; exact ⟨h1, h2, h3⟩
theorem KN.put (r : KN H kvs xs) (k : NestedKey) {b : Addr} {y : V} {u : Value} (hb : k.depth ≤ 8 ∧ KeyV H k (.ref b)) (ry : RelV y u) :
    KN H (putK kvs k y) (storedH xs k b u) := by
  have e : (kvs.any fun kv => decide (kv.1 = k)) = (atKey xs k).isSome := by
    rw [valV_any, (r.val k).isSome_eq, Option.isSome_map]
  unfold putK storedH
  rw [e]
  by_cases q : (atKey xs k).isSome = true
  · rw [if_pos q, if_pos q]; exact r.repl k ry
  · rw [if_neg q, if_neg q]; exact Paired.snoc r ⟨rfl, hb, ry⟩
theorem KN.keeps (r : KN H kvs xs) (ht : ∀ b ys, H b = some (.tup ys) → H' b = some (.tup ys)) : KN H' kvs xs :=
  Paired.mapP r fun _ _ z => ⟨z.1, ⟨z.2.1.1, keyV_mono ht _ _ z.2.1.2⟩, z.2.2⟩
theorem DctN.keeps (d : DctN H a kvs) (ht : ∀ b ys, H b = some (.tup ys) → H' b = some (.tup ys)) (e : H' a = H a) : DctN H' a kvs := by
  rcases d with ⟨h, z⟩ | ⟨xs, h, nf, z, hd, hn, r⟩
  · exact .inl ⟨e.trans h, z⟩
  · exact .inr ⟨xs, e.trans h, nf, z, hd, hn, r.keeps ht⟩
end
section
variable {Y : Cx} {c : Code}
end
end GX

set_option Elab.async false
set_option linter.all false
set_option maxRecDepth 100000
set_option maxHeartbeats 2000000
namespace GD
open PySem PySem.Spec PyProof.Rows L2 GX

/-! ## 1. data -/
/-- a value as data: a tuple by its items, a list (or another thing that may change) by its place in the store -/
inductive D where
  | non | bl (b : Bool) | int (i : Int) | str (x : Str) | tup (l : List D) | ref (n : Nat)
instance : Inhabited D := ⟨.non⟩
inductive Cell where
  | lst (l : List D)
  | frz (l : List D)
  | dic (l : List (List L2.Key × D))
  | obj (c : Str) (l : List (Str × D))
  | dicN (l : List (NestedKey × D))
abbrev EV := List (Option D)
abbrev SS := List Cell
mutual
inductive Rep (ι : List Addr) (H : Hp) : V → D → Prop
  | non : Rep ι H .non .non
  | bl (b : Bool) : Rep ι H (.bl b) (.bl b)
  | int (i : Int) : Rep ι H (.int i) (.int i)
  | str (x : Str) : Rep ι H (.str x) (.str x)
  | tup {a : Addr} {vs : List V} {ds : List D} : H a = some (.tup vs) → ds.length ≤ sizeLine → Reps ι H vs ds → Rep ι H (.ref a) (.tup ds)
  | ref {n : Nat} {a : Addr} : ι[n]? = some a → Rep ι H (.ref a) (.ref n)
inductive Reps (ι : List Addr) (H : Hp) : List V → List D → Prop
  | nil : Reps ι H [] []
  | cons {v : V} {vs : List V} {d : D} {ds : List D} : Rep ι H v d → Reps ι H vs ds → Reps ι H (v :: vs) (d :: ds)
end
/-- what never changes -/
def Fixed : HO → Prop
  | .lst _ => False
  | .dK _ => False
  | .dT _ => False
  | .set _ _ => False
  | .ins _ _ _ => False
  | .xd _ => False
  | .tbl _ => False
  | .ext φ => FldX φ
  | _ => True
/-- what stood stands, but for what the store holds (there what never changes stands) and code tables, which grow -/
structure Kp (ι : List Addr) (H H' : Hp) : Prop where
  keep : ∀ b o, H b = some o → (∀ ps, o ≠ .tbl ps) → (b ∈ ι → Fixed o) → H' b = some o
  tab : ∀ b ps, H b = some (.tbl ps) → ∃ ps', H' b = some (.tbl ps')
theorem fixed_tbl {o : HO} (h : Fixed o) : ∀ ps, o ≠ .tbl ps := fun ps z => by rw [z] at h; exact h
theorem Kp.fix {ι : List Addr} {H H' : Hp} (k : Kp ι H H') {b : Addr} {o : HO} (h : H b = some o) (f : Fixed o) : H' b = some o := k.keep b o h (fixed_tbl f) fun _ => f
theorem Kp.refl {ι : List Addr} (H : Hp) : Kp ι H H := ⟨fun _ _ e _ _ => e, fun _ ps e => ⟨ps, e⟩⟩
theorem Kp.trans {ι : List Addr} {H H1 H2 : Hp} (a : Kp ι H H1) (b : Kp ι H1 H2) : Kp ι H H2 :=
  ⟨fun c o e n f => b.keep c o (a.keep c o e n f) n f, fun c ps e => let ⟨ps1, e1⟩ := a.tab c ps e; b.tab c ps1 e1⟩
/-- the store has grown by what was new -/
theorem Kp.trans2 {ι ι1 : List Addr} {H H1 H2 : Hp} (a : Kp ι H H1) (b : Kp ι1 H1 H2) (n : ∀ c ∈ ι1, c ∈ ι ∨ H c = none) : Kp ι H H2 :=
  ⟨fun c o e m f => b.keep c o (a.keep c o e m f) m fun hc => f ((n c hc).elim id fun z => by rw [z] at e; cases e), fun c ps e => let ⟨ps1, e1⟩ := a.tab c ps e; b.tab c ps1 e1⟩
theorem Kp.fresh {ι : List Addr} {H H' : Hp} (a : Kp ι H H') {c : Addr} (hi : c ∉ ι) (h : H' c = none) : H c = none := by
  cases e : H c with
  | none => rfl
  | some o =>
    by_cases ht : ∃ ps, o = .tbl ps
    · obtain ⟨ps, rfl⟩ := ht
      obtain ⟨ps', e'⟩ := a.tab c ps e
      rw [h] at e'
      cases e'
    · rw [a.keep c o e (fun ps z => ht ⟨ps, z⟩) fun z => absurd z hi] at h
      cases h
theorem Kp.of {ι : List Addr} {H H' : Hp} (h : ∀ b o, H b = some o → H' b = some o) : Kp ι H H' := ⟨fun b o e _ _ => h b o e, fun b ps e => ⟨ps, h b _ e⟩⟩
theorem Kp.new {ι : List Addr} {H : Hp} {p : Addr} {o : HO} (h : H p = none) : Kp ι H (upd H p o) := .of fun b u e => by
  rw [upd_ne (ne_of_none e h)]
  exact e
theorem Kp.grown {ι : List Addr} {H H' : Hp} (g : Grown H H') : Kp ι H H' := ⟨fun b o e n _ => g.keep b o e n, g.tab⟩
theorem Kp.code {ι : List Addr} {H H' : Hp} (k : Kp ι H H') {c P : Addr} (h : H c = some (CodeG c P)) : H' c = some (CodeG c P) := k.fix h (by unfold CodeG; exact fun _ ⟨o, vs, _, _, _, _, _, _, _, e1, _, e2, _⟩ => ⟨_, o, vs, e1, e2⟩)
/-- a list of the store is written -/
theorem Kp.wr {ι : List Addr} {H : Hp} {p : Addr} {xs : List V} {o : HO} (h : H p = some (.lst xs)) (hp : p ∈ ι) : Kp ι H (upd H p o) := by
  refine ⟨fun b u e n f => ?_, fun b ps e => ⟨ps, ?_⟩⟩
  · rw [upd_ne]
    · exact e
    · intro z
      subst z
      rw [h] at e
      cases e
      exact f hp
  · rw [upd_ne]
    · exact e
    · intro z
      rw [z, h] at e
      cases e

section
variable {ι ι' ιk : List Addr} {H H' : Hp}
theorem pre_get (p : ι <+: ι') {n : Nat} {a : Addr} (h : ι[n]? = some a) : ι'[n]? = some a := by
  obtain ⟨t, rfl⟩ := p
  rw [List.getElem?_append_left (List.getElem?_eq_some_iff.mp h).1]
  exact h
mutual
theorem Rep.mono (k : Kp ιk H H') (p : ι <+: ι') : ∀ {v : V} {d : D}, Rep ι H v d → Rep ι' H' v d
  | _, _, .non => .non
  | _, _, .bl b => .bl b
  | _, _, .int i => .int i
  | _, _, .str x => .str x
  | _, _, .tup h l r =>   .tup (k.fix h trivial) l (Reps.mono k p r)
  | _, _, .ref h => .ref (pre_get p h)
theorem Reps.mono (k : Kp ιk H H') (p : ι <+: ι') : ∀ {vs : List V} {ds : List D}, Reps ι H vs ds → Reps ι' H' vs ds
  | _, _, .nil => .nil
  | _, _, .cons r t => .cons (Rep.mono k p r) (Reps.mono k p t)
end
theorem Rep.kp (k : Kp ι H H') {v : V} {d : D} (r : Rep ι H v d) : Rep ι H' v d := r.mono k (List.prefix_refl _)
theorem Reps.kp (k : Kp ι H H') {vs : List V} {ds : List D} (r : Reps ι H vs ds) : Reps ι H' vs ds := r.mono k (List.prefix_refl _)
theorem Reps.length : ∀ {vs : List V} {ds : List D}, Reps ι H vs ds → vs.length = ds.length
  | _, _, .nil => rfl
  | _, _, .cons _ t => by rw [List.length_cons, List.length_cons, Reps.length t]
theorem Reps.get : ∀ {vs : List V} {ds : List D} {i : Nat} {v : V}, Reps ι H vs ds → vs[i]? = some v → ∃ d, ds[i]? = some d ∧ Rep ι H v d
  | _, _, _, _, .nil, e => by simp at e
  | _, _, 0, _, .cons r _, e => by simp at e; subst e; exact ⟨_, rfl, r⟩
  | _, _, i + 1, v, .cons _ t, e => by
    obtain ⟨d, h1, h2⟩ := Reps.get (i := i) (v := v) t (by simpa using e)
    exact ⟨d, by simpa using h1, h2⟩
theorem Reps.get' : ∀ {vs : List V} {ds : List D} {i : Nat} {d : D}, Reps ι H vs ds → ds[i]? = some d → ∃ v, vs[i]? = some v ∧ Rep ι H v d
  | _, _, _, _, .nil, e => by simp at e
  | _, _, 0, _, .cons r _, e => by simp at e; subst e; exact ⟨_, rfl, r⟩
  | _, _, i + 1, d, .cons _ t, e => by
    obtain ⟨v, h1, h2⟩ := Reps.get' (i := i) (d := d) t (by simpa using e)
    exact ⟨v, by simpa using h1, h2⟩
theorem Reps.append : ∀ {vs ws : List V} {ds es : List D}, Reps ι H vs ds → Reps ι H ws es → Reps ι H (vs ++ ws) (ds ++ es)
  | _, _, _, _, .nil, s => s
  | _, _, _, _, .cons r t, s => .cons r (Reps.append t s)
theorem Reps.set {v : V} {d : D} (r : Rep ι H v d) : ∀ {vs : List V} {ds : List D} (i : Nat), Reps ι H vs ds → Reps ι H (vs.set i v) (ds.set i d)
  | _, _, _, .nil => .nil
  | _, _, 0, .cons _ t => .cons r t
  | _, _, i + 1, .cons q t => .cons q (Reps.set r i t)
theorem Reps.take : ∀ {vs : List V} {ds : List D} (n : Nat), Reps ι H vs ds → Reps ι H (vs.take n) (ds.take n)
  | _, _, 0, _ => .nil
  | _, _, _ + 1, .nil => .nil
  | _, _, n + 1, .cons r t => .cons r (Reps.take n t)
theorem Reps.drop : ∀ {vs : List V} {ds : List D} (n : Nat), Reps ι H vs ds → Reps ι H (vs.drop n) (ds.drop n)
  | _, _, 0, r => r
  | _, _, _ + 1, .nil => .nil
  | _, _, n + 1, .cons _ t => Reps.drop n t
theorem Reps.one {v : V} {d : D} (r : Rep ι H v d) : Reps ι H [v] [d] := .cons r .nil
theorem Reps.ints : ∀ {vs : List V} {ns : List Int}, Reps ι H vs (ns.map D.int) → vs = ns.map V.int
  | _, [], h => by cases h; rfl
  | _, n :: ns, h => by
    cases h with
    | cons r t =>
      cases r
      rw [Reps.ints t]
      rfl
-- the places in a datum lie in the store
mutual
def D.lo (n : Nat) : D → Bool
  | .ref m => decide (m < n)
  | .tup l => D.loAll n l
  | _ => true
def D.loAll (n : Nat) : List D → Bool
  | [] => true
  | d :: ds => D.lo n d && D.loAll n ds
end
mutual
theorem Rep.low : ∀ {v : V} {d : D}, Rep ι H v d → D.lo ι.length d = true
  | _, _, .non => rfl
  | _, _, .bl b => rfl
  | _, _, .int i => rfl
  | _, _, .str x => rfl
  | _, _, .tup h l r => by unfold D.lo; exact Reps.low r
  | _, _, .ref h => by unfold D.lo; exact decide_eq_true (List.getElem?_eq_some_iff.mp h).1
theorem Reps.low : ∀ {vs : List V} {ds : List D}, Reps ι H vs ds → D.loAll ι.length ds = true
  | _, _, .nil => by unfold D.loAll; rfl
  | _, _, .cons r t => by unfold D.loAll; rw [Rep.low r, Reps.low t]; rfl
end
-- a datum that needs the older places alone
mutual
theorem Rep.cut (p : ι <+: ι') : ∀ {v : V} {d : D}, Rep ι' H v d → D.lo ι.length d = true → Rep ι H v d
  | _, _, .non, _ => .non
  | _, _, .bl b, _ => .bl b
  | _, _, .int i, _ => .int i
  | _, _, .str x, _ => .str x
  | _, _, .tup h l r, q => .tup h l (Reps.cut p r (by unfold D.lo at q; exact q))
  | _, _, .ref h, q => .ref (by
      unfold D.lo at q
      have q := of_decide_eq_true q
      obtain ⟨t, rfl⟩ := p
      rw [List.getElem?_append_left q] at h
      exact h)
theorem Reps.cut (p : ι <+: ι') : ∀ {vs : List V} {ds : List D}, Reps ι' H vs ds → D.loAll ι.length ds = true → Reps ι H vs ds
  | _, _, .nil, _ => .nil
  | _, _, .cons r t, q => by
    unfold D.loAll at q
    rw [Bool.and_eq_true] at q
    exact .cons (Rep.cut p r q.1) (Reps.cut p t q.2)
end
end

/-! ## 2. the store -/
/-- what is fixed through the law -/
structure Ws where
  K : PySem.W.Frag
  base : Heap
  nm : Nat → Nat → Option Str
  tabs : List (Addr × Addr)
  cls : Str → Option Addr := fun _ => none
/-- and the code object that runs -/
structure Wd where
  s : Ws
  c : Addr
  fx : List (Nat × V) := []
  sq : List (Addr × List Int) := []
  lm : List (Addr × Expr × List D) := []
  gn : Bool := true
/-- pairs: the same names or keys, values that stand for data -/
structure PairsR {κ : Type} (ι : List Addr) (H : Hp) (vs : List (κ × V)) (ds : List (κ × D)) : Prop where
  keys : vs.map (·.1) = ds.map (·.1)
  vals : Reps ι H (vs.map (·.2)) (ds.map (·.2))
theorem PairsR.mono {κ : Type} {ι ι' ιk : List Addr} {H H' : Hp} {vs : List (κ × V)} {ds : List (κ × D)} (h : PairsR ι H vs ds) (k : Kp ιk H H') (p : ι <+: ι') : PairsR ι' H' vs ds := ⟨h.keys, h.vals.mono k p⟩
def CellR (w : Ws) (ι : List Addr) (H : Hp) (a : Addr) : Cell → Prop
  | .lst ds => ∃ vs, H a = some (.lst vs) ∧ ds.length ≤ sizeLine ∧ Reps ι H vs ds
  | .frz ds => ∃ o vs, H a = some (.frz o (.lst vs)) ∧ ds.length ≤ sizeLine ∧ Reps ι H vs ds
  | .dic ds => ∃ vs, H a = some (.dT vs) ∧ ds.length ≤ sizeLine ∧ PairsR ι H vs ds
  | .obj x ds => ∃ C dx vs, H a = some (.ins C dx vs) ∧ w.cls x = some C ∧ PairsR ι H vs ds
  | .dicN ds => ∃ vs, DctN H a vs ∧ ds.length ≤ sizeLine ∧ PairsR ι H vs ds
structure SR (w : Ws) (ι : List Addr) (st : SS) (H : Hp) : Prop where
  len : ι.length = st.length
  nd : ι.Nodup
  cell : ∀ (n : Nat) (a : Addr) (c : Cell), ι[n]? = some a → st[n]? = some c → CellR w ι H a c
  tabs : AllTabs w.nm H
  tab : ∀ p ∈ w.tabs, ∃ ps, H p.2 = some (.tbl ps)
section
variable {w : Ws} {ι ι' ιk : List Addr} {st : SS} {H H' : Hp} {a : Addr}
theorem CellR.ext {c : Cell} (h : CellR w ι H a c) (k : Kp ιk H H') (p : ι <+: ι') (e : H' a = H a) : CellR w ι' H' a c := by
  cases c with
  | lst ds =>
    obtain ⟨vs, h1, l, h2⟩ := h
    exact ⟨vs, e.trans h1, l, h2.mono k p⟩
  | frz ds =>
    obtain ⟨o, vs, h1, l, h2⟩ := h
    exact ⟨o, vs, e.trans h1, l, h2.mono k p⟩
  | dic ds =>
    obtain ⟨vs, h1, l, h2⟩ := h
    exact ⟨vs, e.trans h1, l, h2.mono k p⟩
  | obj x ds =>
    obtain ⟨C, dx, vs, h1, l, h2⟩ := h
    exact ⟨C, dx, vs, e.trans h1, l, h2.mono k p⟩
  | dicN ds =>
    obtain ⟨vs, h1, l, h2⟩ := h
    exact ⟨vs, h1.keeps (fun b ys eb => k.fix eb True.intro) e, l, h2.mono k p⟩
/-- new things are tracked -/
theorem SR.ext (s : SR w ι st H) (k : ∀ b o, H b = some o → H' b = some o) (n : ∀ b, b ∈ ι → H' b = H b) (t : ∀ P ps, H' P = some (.tbl ps) → H P = some (.tbl ps)) : SR w ι st H' := by
  refine ⟨s.len, s.nd, fun n' a c h1 h2 => (s.cell n' a c h1 h2).ext (ιk := ι) (.of k) (List.prefix_refl _) (n a (List.mem_of_getElem? h1)), fun P ps e => ?_, fun P hP => ?_⟩
  · obtain ⟨q1, q2⟩ := s.tabs P ps (t P ps e)
    refine ⟨q1, fun pos cv hcv => ?_⟩
    obtain ⟨c, e1, e2⟩ := q2 pos cv hcv
    exact ⟨c, e1, (Grown.entry (H := H) (H' := H') ⟨fun b o e _ => k b o e, fun b ps e => ⟨ps, k b _ e⟩⟩ e2)⟩
  · obtain ⟨ps, e⟩ := s.tab P hP
    exact ⟨ps, k _ _ e⟩
theorem SR.new (s : SR w ι st H) {p : Addr} {o : HO} (hp : H p = none) (ho : ∀ ps, o ≠ .tbl ps) (hi : p ∉ ι) : SR w ι st (upd H p o) := by
  refine s.ext (fun b u e => by rw [upd_ne (ne_of_none e hp)]; exact e) (fun b hb => upd_ne fun z => hi (z ▸ hb)) fun P ps e => ?_
  by_cases hP : P = p
  · rw [hP, upd_same] at e
    exact absurd (Option.some.inj e) (ho ps)
  · rw [upd_ne hP] at e
    exact e
/-- where only code tables have grown -/
theorem SR.grown (s : SR w ι st H) (g : Grown H H') (T : AllTabs w.nm H') (n : ∀ b, b ∈ ι → H' b = H b) : SR w ι st H' :=
  ⟨s.len, s.nd, fun n' a c h1 h2 => (s.cell n' a c h1 h2).ext (ιk := ι) (.grown g) (List.prefix_refl _) (n a (List.mem_of_getElem? h1)), T, fun P hP => let ⟨ps, e⟩ := s.tab P hP; g.tab _ _ e⟩
end
theorem allTabs_kp {nm : Nat → Nat → Option Str} {ι : List Addr} {H H' : Hp} (T : AllTabs nm H) (k : Kp ι H H') (t : ∀ P ps, H' P = some (.tbl ps) → H P = some (.tbl ps)) : AllTabs nm H' := by
  intro P ps e
  obtain ⟨q1, q2⟩ := T P ps (t P ps e)
  refine ⟨q1, fun pos cv hcv => ?_⟩
  obtain ⟨c, e1, e2⟩ := q2 pos cv hcv
  refine ⟨c, e1, ?_⟩
  unfold EntryOk at e2 ⊢
  split
  · rename_i e
    rw [e] at e2
    obtain ⟨P', h1, ps', h2⟩ := e2
    exact ⟨P', k.code h1, k.tab _ _ h2⟩
  · rename_i q e
    rw [e] at e2
    exact k.fix e2 (by unfold LamX.CodeO; exact fun _ ⟨oc, vs, _, e1, e2, _⟩ => ⟨_, oc, vs, e1, e2⟩)
section
variable {w : Ws} {ι : List Addr} {st : SS} {H : Hp} {p : Addr}
/-- a list that the store does not hold is written -/
theorem SR.put (s : SR w ι st H) {xs ys : List V} (hp : H p = some (.lst xs)) (hi : p ∉ ι) : SR w ι st (upd H p (.lst ys)) := by
  have k : Kp [p] H (upd H p (.lst ys)) := Kp.wr hp (List.mem_singleton.mpr rfl)
  refine ⟨s.len, s.nd, fun n' a c h1 h2 => (s.cell n' a c h1 h2).ext k (List.prefix_refl _) (upd_ne fun z => hi (z ▸ List.mem_of_getElem? h1)), allTabs_kp s.tabs k fun P ps e => ?_, fun q hq => let ⟨ps, e⟩ := s.tab q hq; k.tab _ _ e⟩
  by_cases hP : P = p
  · rw [hP, upd_same] at e
    cases e
  · rw [upd_ne hP] at e
    exact e
theorem Reps.put {ds : List D} {vs xs ys : List V} (r : Reps ι H vs ds) (hp : H p = some (.lst xs)) : Reps ι (upd H p (.lst ys)) vs ds := r.mono (Kp.wr (ι := [p]) hp (List.mem_singleton.mpr rfl)) (List.prefix_refl _)
theorem Rep.put {d : D} {v : V} {xs ys : List V} (r : Rep ι H v d) (hp : H p = some (.lst xs)) : Rep ι (upd H p (.lst ys)) v d := r.mono (Kp.wr (ι := [p]) hp (List.mem_singleton.mpr rfl)) (List.prefix_refl _)
/-- what was new is written -/
theorem Kp.put {H1 : Hp} {o : HO} (k : Kp ι H H1) (hp : H p = none) : Kp ι H (upd H1 p o) := by
  refine ⟨fun b u e n f => ?_, fun b ps e => ?_⟩
  · rw [upd_ne (ne_of_none e hp)]
    exact k.keep b u e n f
  · obtain ⟨ps', e'⟩ := k.tab b ps e
    exact ⟨ps', by rw [upd_ne (ne_of_none e hp)]; exact e'⟩
theorem nodup_ix : ∀ {l : List Addr} {i j : Nat} {a : Addr}, l.Nodup → l[i]? = some a → l[j]? = some a → i = j
  | [], _, _, _, _, h, _ => by simp at h
  | x :: xs, 0, 0, _, _, _, _ => rfl
  | x :: xs, 0, j + 1, a, hn, h1, h2 => by
    simp at h1 h2 hn
    subst h1
    exact absurd (List.mem_of_getElem? h2) hn.1
  | x :: xs, i + 1, 0, a, hn, h1, h2 => by
    simp at h1 h2 hn
    subst h2
    exact absurd (List.mem_of_getElem? h1) hn.1
  | x :: xs, i + 1, j + 1, a, hn, h1, h2 => by
    simp at h1 h2 hn
    rw [nodup_ix hn.2 h1 h2]
/-- a list of the store is written -/
theorem SR.wr (s : SR w ι st H) {n : Nat} {ds : List D} {vs : List V} (hn : ι[n]? = some p) (hx : ∃ xs, H p = some (.lst xs)) (hl : ds.length ≤ sizeLine) (r : Reps ι H vs ds) : SR w ι (st.set n (.lst ds)) (upd H p (.lst vs)) := by
  obtain ⟨xs, hp⟩ := hx
  have k : Kp [p] H (upd H p (.lst vs)) := Kp.wr hp (List.mem_singleton.mpr rfl)
  refine ⟨by rw [List.length_set]; exact s.len, s.nd, fun m a c h1 h2 => ?_, allTabs_kp s.tabs k fun P ps e => ?_, fun q hq => let ⟨ps, e⟩ := s.tab q hq; k.tab _ _ e⟩
  · by_cases hm : n = m
    · subst hm
      rw [hn] at h1
      cases h1
      have hlt : n < st.length := by rw [← s.len]; exact (List.getElem?_eq_some_iff.mp hn).1
      rw [List.getElem?_set_self hlt] at h2
      cases h2
      exact ⟨vs, upd_same, hl, r.put hp⟩
    · rw [List.getElem?_set_ne hm] at h2
      refine (s.cell m a c h1 h2).ext k (List.prefix_refl _) (upd_ne fun z => hm ?_)
      subst z
      exact nodup_ix s.nd hn h1
  · by_cases hP : P = p
    · rw [hP, upd_same] at e
      cases e
    · rw [upd_ne hP] at e
      exact e
/-- a list goes into the store -/
theorem SR.add (s : SR w ι st H) {ds : List D} {vs : List V} (hp : H p = some (.lst vs)) (hi : p ∉ ι) (hl : ds.length ≤ sizeLine) (r : Reps ι H vs ds) : SR w (ι ++ [p]) (st ++ [.lst ds]) H := by
  refine ⟨by rw [List.length_append, List.length_append, s.len]; rfl, ?_, fun m a c h1 h2 => ?_, s.tabs, s.tab⟩
  · rw [List.nodup_append]
    exact ⟨s.nd, by simp, fun a ha b hb => by rw [List.mem_singleton.mp hb]; exact fun z => hi (z ▸ ha)⟩
  · have k : Kp ι H H := Kp.refl H
    have hpre : ι <+: ι ++ [p] := List.prefix_append _ _
    by_cases hm : m < ι.length
    · rw [List.getElem?_append_left hm] at h1
      rw [List.getElem?_append_left (by rw [← s.len]; exact hm)] at h2
      exact (s.cell m a c h1 h2).ext k hpre rfl
    · have hlt := (List.getElem?_eq_some_iff.mp h1).1
      rw [List.length_append, List.length_singleton] at hlt
      have e : m = ι.length := by omega
      subst e
      rw [List.getElem?_append_right (Nat.le_refl _), Nat.sub_self] at h1
      rw [s.len, List.getElem?_append_right (Nat.le_refl _), Nat.sub_self] at h2
      cases h1; cases h2
      exact ⟨vs, hp, hl, r.mono k hpre⟩
end
/-- the code object that runs has its table -/
def Cod (w : Wd) (H : Hp) : Prop := w.gn = true → ∃ P, CodeAt w.s.base H w.c P ∧ ∃ ps, H P = some (.tbl ps)
theorem Cod.kp {w : Wd} {ι : List Addr} {H H' : Hp} (h : Cod w H) (k : Kp ι H H') : Cod w H' := by
  intro hg
  obtain ⟨P, h1, ps, h2⟩ := h hg
  refine ⟨P, ?_, k.tab _ _ h2⟩
  rcases h1 with h1 | h1
  · exact .inl h1
  · exact .inr (k.code h1)
/-! ## 3. lambdas that are at hand -/
/-- the object at a is just o -/
def PinO (a : Addr) (o : Obj) : HO := .frz o (.own a)
/-- the captured names of a lambda, in its scope's order -/
def freeN (scope : Scope) : List Str := (scope.names.filter fun y => decide (y.2 = .free)).map (·.1)
inductive CapsAt (H : Hp) (cl : List (Str × Addr)) : List Str → List V → Prop
  | nil : CapsAt H cl [] []
  | cons {y : Str} {ys : List Str} {c : Addr} {o : Obj} {u : Value} {v : V} {vs : List V} : cl.lookup y = some c → H c = some (PinO c o) → o.data = .cell (some u) → RelV v u → CapsAt H cl ys vs → CapsAt H cl (y :: ys) (v :: vs)
/-- the function object at f is that of the lambda l, with what it captured -/
structure LamAt (H : Hp) (f : Addr) (l : Expr) (vs : List V) : Prop where
  ex : ∃ (params : Arguments) (body : Expr) (scope : Scope) (pos : Pos) (qual : Str) (cl : List (Str × Addr)) (pm ctv : Value) (c' : Addr), l = .Lambda params body scope pos ∧ H f = some (PinO f (PySem.W.kla_obj "<lambda>" qual params body scope cl pm c' ctv)) ∧ H c' = some (LamX.CodeO c' qual) ∧
    CapsAt H cl (freeN scope) vs ∧ (∀ x c, cl.lookup x = some c → x ∈ freeN scope) ∧ ∀ x y c, cl.lookup x = some c → cl.lookup y = some c → x = y
theorem Kp.pin {ι : List Addr} {H H' : Hp} (k : Kp ι H H') {a b : Addr} {o : Obj} (h : H a = some (PinO b o)) : H' a = some (PinO b o) := k.fix h trivial
theorem CapsAt.kp {ι : List Addr} {H H' : Hp} {cl : List (Str × Addr)} (k : Kp ι H H') : ∀ {ys : List Str} {vs : List V}, CapsAt H cl ys vs → CapsAt H' cl ys vs
  | _, _, .nil => .nil
  | _, _, .cons h1 h2 h3 h4 t => .cons h1 (k.pin h2) h3 h4 (CapsAt.kp k t)
theorem LamAt.kp {ι : List Addr} {H H' : Hp} {f : Addr} {l : Expr} {vs : List V} (h : LamAt H f l vs) (k : Kp ι H H') : LamAt H' f l vs := by
  obtain ⟨params, body, scope, pos, qual, cl, pm, ctv, c', h1, h2, h3, h4, h5⟩ := h.ex
  exact ⟨params, body, scope, pos, qual, cl, pm, ctv, c', h1, k.pin h2, k.fix h3 (by unfold LamX.CodeO; exact fun _ ⟨oc, vs, _, e1, e2, _⟩ => ⟨_, oc, vs, e1, e2⟩), h4.kp k, h5⟩
structure LamR (ι : List Addr) (H : Hp) (f : Addr) (l : Expr) (caps : List D) : Prop where
  ex : ∃ vs, LamAt H f l vs ∧ Reps ι H vs caps
theorem LamR.mono {ι ι' ιk : List Addr} {H H' : Hp} {f : Addr} {l : Expr} {caps : List D} (h : LamR ι H f l caps) (k : Kp ιk H H') (p : ι <+: ι') : LamR ι' H' f l caps := let ⟨vs, h1, h2⟩ := h.ex; ⟨vs, h1.kp k, h2.mono k p⟩
end GD

set_option Elab.async false
set_option linter.all false
set_option maxRecDepth 100000
set_option maxHeartbeats 2000000
namespace GD
open PySem PySem.Spec PyProof.Rows L2 GX

/-! ## 3. readings over data -/
structure Fit (X : Cx) (w : Wd) : Prop where
  k : X.K = w.s.K
  b : X.base = w.s.base
  c : X.env.code = .ref w.c
/-- a list of ints that nobody writes -/
def Scr (K : PySem.W.Frag) (H : Hp) (a : Addr) (ns : List Int) : Prop := (∃ o, H a = some (.frz o (.lst (ns.map V.int)))) ∨ ∀ H', SqL K H' a (ns.map V.int)
theorem Scr.sql {K : PySem.W.Frag} {H : Hp} {a : Addr} {ns : List Int} (h : Scr K H a ns) : SqL K H a (ns.map V.int) := h.elim (fun ⟨o, e⟩ => .inl (.inr ⟨o, e⟩)) fun h => h H
theorem Scr.kp {K : PySem.W.Frag} {ι : List Addr} {H H' : Hp} {a : Addr} {ns : List Int} (k : Kp ι H H') (h : Scr K H a ns) : Scr K H' a ns := h.elim (fun ⟨o, e⟩ => .inl ⟨o, k.fix e trivial⟩) .inr
structure EnvR (w : Wd) (ι : List Addr) (env : EV) (σ : L2.St) (H : Hp) : Prop where
  len : env.length = σ.length
  at_ : ∀ (i : Nat) (d : D), env[i]? = some (some d) → ∃ v, σ[i]? = some (some v) ∧ Rep ι H v d
  cod : Cod w H
  fx : ∀ p ∈ w.fx, σ[p.1]? = some (some p.2)
  sq : ∀ p ∈ w.sq, Scr w.s.K H p.1 p.2
  lm : ∀ p ∈ w.lm, LamR ι H p.1 p.2.1 p.2.2
theorem EnvR.mono {w : Wd} {ι ι' ιk : List Addr} {env : EV} {σ : L2.St} {H H' : Hp} (e : EnvR w ι env σ H) (k : Kp ιk H H') (p : ι <+: ι') : EnvR w ι' env σ H' :=
  ⟨e.len, fun i d h => let ⟨v, h1, h2⟩ := e.at_ i d h; ⟨v, h1, h2.mono k p⟩, e.cod.kp k, e.fx, fun p h => (e.sq p h).kp k, fun q h => (e.lm q h).mono k p⟩
theorem EnvR.kp {w : Wd} {ι : List Addr} {env : EV} {σ : L2.St} {H H' : Hp} (e : EnvR w ι env σ H) (k : Kp ι H H') : EnvR w ι env σ H' := e.mono k (List.prefix_refl _)
theorem EnvR.set {w : Wd} {ι : List Addr} {env : EV} {σ : L2.St} {H : Hp} {v : V} {d : D} (e : EnvR w ι env σ H) (i : Nat) (r : Rep ι H v d) (hfx : ∀ p ∈ w.fx, p.1 ≠ i) : EnvR w ι (env.set i (some d)) (σ.set i (some v)) H := by
  refine ⟨by rw [List.length_set, List.length_set]; exact e.len, fun j x h => ?_, e.cod, fun p hp => by rw [List.getElem?_set_ne (Ne.symm (hfx p hp))]; exact e.fx p hp, e.sq, e.lm⟩
  by_cases hj : i = j
  · subst hj
    by_cases hl : i < env.length
    · rw [List.getElem?_set_self hl] at h
      cases h
      exact ⟨v, List.getElem?_set_self (by rw [← e.len]; exact hl), r⟩
    · rw [List.getElem?_eq_none (by rw [List.length_set]; omega)] at h
      cases h
  · rw [List.getElem?_set_ne hj] at h ⊢
    exact e.at_ j x h

abbrev MP := EV → SS → Option D
abbrev MB := EV → SS → Option Bool
abbrev ML := EV → SS → Option (List D)
def tP (w : Wd) (m : MP) : TE := fun σ H Q => ∃ ι env st d, EnvR w ι env σ H ∧ SR w.s ι st H ∧ m env st = some d ∧ ∀ v H', Kp ι H H' → Rep ι H' v d → SR w.s ι st H' → Q v H'
def tBo (w : Wd) (m : MB) : TT := fun σ H Q => ∃ ι env st b, EnvR w ι env σ H ∧ SR w.s ι st H ∧ m env st = some b ∧ ∀ H', Kp ι H H' → SR w.s ι st H' → Q b H'
def tAs (w : Wd) (m : ML) : TA := fun σ H Q => ∃ ι env st ds, EnvR w ι env σ H ∧ SR w.s ι st H ∧ m env st = some ds ∧ ∀ vs H', Kp ι H H' → Reps ι H' vs ds → SR w.s ι st H' → Q vs H'
/-- a new list that nobody holds -/
def tLs (w : Wd) (m : ML) : TE := fun σ H Q => ∃ ι env st ds, EnvR w ι env σ H ∧ SR w.s ι st H ∧ m env st = some ds ∧
  ∀ p vs H', Kp ι H H' → H' p = some (.lst vs) → H p = none → ds.length ≤ sizeLine → Reps ι H' vs ds → SR w.s ι st H' → Q (.ref p) H'
theorem PE.mo {X : Cx} {e : Expr} {t t' : TE} (h : PE X e t) (q : ∀ σ H Q, t' σ H Q → t σ H Q) : PE X e t' := ⟨fun pins s σ H Q I h' => h.run pins s σ H Q I (q σ H Q h')⟩
theorem PT.mo {X : Cx} {e : Expr} {t t' : TT} (h : PT X e t) (q : ∀ σ H Q, t' σ H Q → t σ H Q) : PT X e t' := ⟨fun pins s σ H Q I h' => h.run pins s σ H Q I (q σ H Q h')⟩
theorem PW.mo {X : Cx} {e : Expr} {t t' : TT} (h : PW X e t) (q : ∀ σ H Q, t' σ H Q → t σ H Q) : PW X e t' := ⟨fun whole pins s σ H Q I h' => h.run whole pins s σ H Q I (q σ H Q h')⟩
theorem PA.mo {X : Cx} {es : List Expr} {t t' : TA} (h : PA X es t) (q : ∀ σ H Q, t' σ H Q → t σ H Q) : PA X es t' := ⟨fun pos pins s σ H Q I h' => h.run pos pins s σ H Q I (q σ H Q h')⟩
theorem nin_of {w : Ws} {ι : List Addr} {st : SS} {H : Hp} (s : SR w ι st H) {p : Addr} (h : H p = none) : p ∉ ι := fun hm => by
  obtain ⟨n, hn, e⟩ := List.getElem_of_mem hm
  have e1 : ι[n]? = some p := by rw [List.getElem?_eq_getElem hn, e]
  have hl : n < st.length := by rw [← s.len]; exact hn
  have q := s.cell n p st[n] e1 (List.getElem?_eq_getElem hl)
  cases hc : st[n] with
  | lst ds =>
    rw [hc] at q
    obtain ⟨vs, h1, _⟩ := q
    rw [h] at h1
    cases h1
  | frz ds =>
    rw [hc] at q
    obtain ⟨o, vs, h1, _⟩ := q
    rw [h] at h1
    cases h1
  | dic ds =>
    rw [hc] at q
    obtain ⟨vs, h1, _⟩ := q
    rw [h] at h1
    cases h1
  | obj x ds =>
    rw [hc] at q
    obtain ⟨C, dx, vs, h1, _⟩ := q
    rw [h] at h1
    cases h1
  | dicN ds =>
    rw [hc] at q
    obtain ⟨vs, h1, _⟩ := q
    rcases h1 with ⟨h1, _⟩ | ⟨xs, h1, _⟩ <;> rw [h] at h1 <;> cases h1

section
variable {X : Cx} {w : Wd} {pos : Pos}
/-! ### names, constants, displays -/
def mVar (i : Nat) : MP := fun env _ => match env[i]? with | some (some d) => some d | _ => none
theorem dp_var (i : Nat) {x : Str} (hN : X.N[i]? = some x := by rfl) (hv : Vis X.env.scope x := by first | exact Or.inl rfl | exact Or.inr (Or.inl rfl) | exact Or.inr (Or.inr rfl)) (hd : (x == ("__debug__" : Str)) = false := by decide)
    (hcd : (x == ("__classdict__" : Str)) = false := by decide) : PE X (.Name x pos) (tP w (mVar i)) := by
  refine PE.mo (pe_var hN hv hd hcd) fun σ H Q ⟨ι, env, st, d, he, hs, hm, q⟩ => ?_
  unfold mVar at hm
  split at hm
  · rename_i d' e
    cases hm
    obtain ⟨v, e1, r⟩ := he.at_ i _ e
    exact ⟨v, e1, q v H (Kp.refl H) r hs⟩
  · cases hm
def mC (d : D) : MP := fun _ _ => some d
theorem dp_int {i : Int} {j : Nat} : PE X (.Constant (.int i) j pos) (tP w (mC (.int i))) :=
  PE.mo pe_int fun σ H Q ⟨ι, env, st, d, he, hs, hm, q⟩ => by cases hm; exact q _ H (Kp.refl H) (.int i) hs
theorem dp_bl {i : Bool} {j : Nat} : PE X (.Constant (.bool i) j pos) (tP w (mC (.bl i))) :=
  PE.mo pe_bl fun σ H Q ⟨ι, env, st, d, he, hs, hm, q⟩ => by cases hm; exact q _ H (Kp.refl H) (.bl i) hs
theorem dp_str {x : Str} {j : Nat} : PE X (.Constant (.str x) j pos) (tP w (mC (.str x))) :=
  PE.mo pe_str fun σ H Q ⟨ι, env, st, d, he, hs, hm, q⟩ => by cases hm; exact q _ H (Kp.refl H) (.str x) hs
theorem dp_non {j : Nat} : PE X (.Constant .none j pos) (tP w (mC .non)) :=
  PE.mo pe_non fun σ H Q ⟨ι, env, st, d, he, hs, hm, q⟩ => by cases hm; exact q _ H (Kp.refl H) .non hs
def mNil : ML := fun _ _ => some []
def mCons (m : MP) (r : ML) : ML := fun env st => match m env st, r env st with | some d, some ds => some (d :: ds) | _, _ => none
theorem da_nil : PA X [] (tAs w mNil) := PA.mo pa_nil fun σ H Q ⟨ι, env, st, d, he, hs, hm, q⟩ => by cases hm; exact q _ H (Kp.refl H) .nil hs
theorem da_cons {e : Expr} {es : List Expr} {m : MP} {r : ML} (ha : PE X e (tP w m)) (hr : PA X es (tAs w r)) (hs : starEach (e :: es) X.env = (false, eval e X.env) :: starEach es X.env := by rfl) : PA X (e :: es) (tAs w (mCons m r)) := by
  refine PA.mo (pa_cons ha hr hs) fun σ H Q ⟨ι, env, st, ds, he, hst, hm, q⟩ => ?_
  unfold mCons at hm
  split at hm
  · rename_i d ds' e1 e2
    cases hm
    exact ⟨ι, env, st, d, he, hst, e1, fun x H1 k1 r1 s1 => ⟨ι, env, st, ds', he.kp k1, s1, e2, fun xs H2 k2 r2 s2 => q _ _ (k1.trans k2) (.cons (r1.kp k2) r2) s2⟩⟩
  · cases hm
def mTup (r : ML) : MP := fun env st => match r env st with | some ds => if ds.length ≤ 1000 then some (.tup ds) else none | none => none
theorem small_size {n : Nat} (h : n ≤ 1000) : n ≤ sizeLine := Nat.le_trans h (by decide)
theorem dp_tup {es : List Expr} {r : ML} {x1 : Nat} (h : PA X es (tAs w r)) : PE X (.Tuple es x1 pos) (tP w (mTup r)) := by
  refine PE.mo (pe_tup h) fun σ H Q ⟨ι, env, st, d, he, hst, hm, q⟩ => ?_
  unfold mTup at hm
  split at hm
  · rename_i ds e1
    split at hm
    · rename_i hl
      cases hm
      refine ⟨ι, env, st, ds, he, hst, e1, fun xs H1 k1 r1 s1 => ⟨by rw [r1.length]; exact small_size hl, fun p hp => ?_⟩⟩
      exact q _ _ (k1.trans (Kp.new hp)) (.tup upd_same (small_size hl) (r1.kp (Kp.new hp))) (s1.new hp (fun _ z => by cases z) (nin_of s1 hp))
    · cases hm
  · cases hm
def mLst (r : ML) : ML := fun env st => match r env st with | some ds => if ds.length ≤ 1000 then some ds else none | none => none
theorem dl_lst {es : List Expr} {r : ML} (h : PA X es (tAs w r)) : PE X (.List es pos) (tLs w (mLst r)) := by
  refine PE.mo (pe_lst h) fun σ H Q ⟨ι, env, st, ds, he, hst, hm, q⟩ => ?_
  unfold mLst at hm
  split at hm
  · rename_i ds' e1
    split at hm
    · rename_i hl
      cases hm
      refine ⟨ι, env, st, _, he, hst, e1, fun xs H1 k1 r1 s1 => ⟨by rw [r1.length]; exact small_size hl, fun p hp => ?_⟩⟩
      exact q p xs _ (k1.trans (Kp.new hp)) upd_same (k1.fresh (nin_of s1 hp) hp) (small_size hl) (r1.kp (Kp.new hp)) (s1.new hp (fun _ z => by cases z) (nin_of s1 hp))
    · cases hm
  · cases hm

/-! ### operators -/
abbrev F2 := SS → D → D → Option D
def mOp (f : F2) (a b : MP) : MP := fun env st => match a env st, b env st with | some x, some y => f st x y | _, _ => none
/-- an operator's rule over data -/
def OpP (w : Wd) (f : F2) (r : R2) : Prop := ∀ (ι : List Addr) (st : SS) (H : Hp) (x y : V) (dx dy d : D) (Q : VK), SR w.s ι st H → Rep ι H x dx → Rep ι H y dy → f st dx dy = some d → (∀ v H', Kp ι H H' → Rep ι H' v d → SR w.s ι st H' → Q v H') → r x y H Q
theorem OpR.or2 {f : Value → Value → Sem Value} {r r' : R2} (h : OpR X f r) (h' : OpR X f r') : OpR X f (fun x y H Q => r x y H Q ∨ r' x y H Q) := by
  intro pins s σ H x y v u Q I rx ry hr
  rcases hr with hr | hr
  · exact h pins s σ H x y v u Q I rx ry hr
  · exact h' pins s σ H x y v u Q I rx ry hr
theorem op_read {f : F2} {r : R2} {ma mb : MP} (hr : OpP w f r) (σ : L2.St) (H : Hp) (Q : VK) : tP w (mOp f ma mb) σ H Q → tOp r (tP w ma) (tP w mb) σ H Q := by
  rintro ⟨ι, env, st, d, he, hst, hm, q⟩
  unfold mOp at hm
  split at hm
  · rename_i dx dy e1 e2
    exact ⟨ι, env, st, dx, he, hst, e1, fun x H1 k1 r1 s1 => ⟨ι, env, st, dy, he.kp k1, s1, e2, fun y H2 k2 r2 s2 => hr ι st H2 x y dx dy d Q s2 (r1.kp k2) r2 hm fun v H3 k3 r3 s3 => q v H3 ((k1.trans k2).trans k3) r3 s3⟩⟩
  · cases hm
theorem dp_bin {op : Operator} {f : F2} {r : R2} {a b : Expr} {ma mb : MP} (ho : OpR X (binaryOp op) r) (hr : OpP w f r) (ha : PE X a (tP w ma)) (hb : PE X b (tP w mb)) : PE X (.BinOp a op b pos) (tP w (mOp f ma mb)) :=
  PE.mo (pe_op ho ha hb) (op_read hr)
theorem dp_cmp {op : CmpOp} {f : F2} {r : R2} {a b : Expr} {ma mb : MP} (ho : OpR X (compareOp op) r) (hr : OpP w f r) (ha : PE X a (tP w ma)) (hb : PE X b (tP w mb)) (hm : behindInMarks op b = false := by rfl) : PE X (.Compare a [op] [b] pos) (tP w (mOp f ma mb)) :=
  PE.mo (pe_cmpR ho ha hb hm) (op_read hr)
theorem sqt_of {K : PySem.W.Frag} {H : Hp} {a : Addr} {vs : List V} (h : H a = some (.tup vs)) : SqT K H a vs := .inl (.inl h)
theorem sql_of {K : PySem.W.Frag} {H : Hp} {a : Addr} {vs : List V} (h : H a = some (.lst vs)) : SqL K H a vs := .inl (.inl h)
/-- + -/
def fAdd : F2 := fun _ x y => match x, y with
  | .int i, .int j => some (.int (i + j))
  | .tup a, .tup b => if a.length + b.length ≤ 1000000 then some (.tup (a ++ b)) else none
  | .str a, .str b => if a.length + b.length ≤ 1000000 then some (.str (a ++ b)) else none
  | _, _ => none
def rAddU (K : PySem.W.Frag) : R2 := fun x y H Q => (rI0 fun i j => .int (i + j)) x y H Q ∨ (rCatA K x y H Q ∨ ∃ i j, x = .str i ∧ y = .str j ∧ i.length + j.length ≤ sizeLine ∧ Q (.str (i ++ j)) H)
theorem big_size {n : Nat} (h : n ≤ 1000000) : n ≤ sizeLine := Nat.le_trans h (by decide)
theorem oAdd : OpR X (binaryOp .Add) (rAddU X.K) := OpR.or2 op_add (OpR.or2 op_catA op_add_str)
theorem qAdd {K : PySem.W.Frag} : OpP w fAdd (rAddU K) := by
  intro ι st H x y dx dy d Q s rx ry hf q
  unfold fAdd at hf
  split at hf
  · cases hf; cases rx; cases ry
    exact .inl ⟨_, _, rfl, rfl, q _ H (Kp.refl H) (.int _) s⟩
  · split at hf
    · rename_i a b hl
      cases hf
      cases rx with
      | tup h1 l1 r1 =>
        cases ry with
        | tup h2 l2 r2 =>
          have e1 := r1.length
          have e2 := r2.length
          refine .inr (.inl ⟨_, _, _, _, rfl, rfl, sqt_of h1, sqt_of h2, by rw [e1, e2]; exact big_size hl, fun z => ?_, fun z1 z2 => ?_, fun z1 z2 p hp => ?_⟩)
          · subst z
            cases r1
            exact q _ H (Kp.refl H) (.tup h2 l2 r2) s
          · subst z2
            cases r2
            rw [List.append_nil] at q
            exact q _ H (Kp.refl H) (.tup h1 l1 r1) s
          · exact q _ _ (Kp.new hp) (.tup upd_same (by rw [List.length_append]; exact big_size hl) ((r1.append r2).kp (Kp.new hp))) (s.new hp (fun _ z => by cases z) (nin_of s hp))
    · cases hf
  · split at hf
    · rename_i a b hl
      cases hf; cases rx; cases ry
      exact .inr (.inr ⟨_, _, rfl, rfl, big_size hl, q _ H (Kp.refl H) (.str _) s⟩)
    · cases hf
  · cases hf
def fI (g : Int → Int → Option D) : F2 := fun _ x y => match x, y with | .int i, .int j => g i j | _, _ => none
theorem qI {C : Int → Int → Prop} {g : Int → Int → V} {k : Int → Int → Option D} (hk : ∀ i j d, k i j = some d → C i j ∧ (∀ ι H, Rep ι H (g i j) d)) : OpP w (fI k) (rI C g) := by
  intro ι st H x y dx dy d Q s rx ry hf q
  unfold fI at hf
  split at hf
  · cases rx; cases ry
    obtain ⟨h1, h2⟩ := hk _ _ _ hf
    exact ⟨_, _, rfl, rfl, h1, q _ H (Kp.refl H) (h2 _ _) s⟩
  · cases hf
theorem qI0 {g : Int → Int → V} {k : Int → Int → Option D} (hk : ∀ i j d, k i j = some d → (∀ ι H, Rep ι H (g i j) d)) : OpP w (fI k) (rI0 g) := by
  intro ι st H x y dx dy d Q s rx ry hf q
  unfold fI at hf
  split at hf
  · cases rx; cases ry
    exact ⟨_, _, rfl, rfl, q _ H (Kp.refl H) (hk _ _ _ hf _ _) s⟩
  · cases hf
def fSub : F2 := fI fun i j => some (.int (i - j))
theorem qSub : OpP w fSub (rI0 fun i j => .int (i - j)) := qI0 fun i j d h ι H => by cases h; exact .int _
def fMul : F2 := fI fun i j => if i.natAbs < 2 ^ 60 ∨ j.natAbs < 2 ^ 60 then some (.int (i * j)) else none
theorem qMul : OpP w fMul (rI CMul fun i j => .int (i * j)) := qI fun i j d h => by
  split at h
  · rename_i hc
    cases h
    refine ⟨?_, fun ι H => .int _⟩
    rcases hc with hc | hc
    · exact .inl (by omega)
    · exact .inr (by omega)
  · cases h
def fMod : F2 := fI fun i j => if 0 < j then some (.int (i % j)) else none
theorem qMod : OpP w fMod (rI (fun _ j => 0 < j) fun i j => .int (i % j)) := qI fun i j d h => by
  split at h
  · rename_i hc
    cases h
    exact ⟨hc, fun ι H => .int _⟩
  · cases h
def fDiv : F2 := fI fun i j => if 0 < j ∧ j < 1073741824 then some (.int (i / j)) else none
theorem qDiv : OpP w fDiv (rI CDiv fun i j => .int (i / j)) := qI fun i j d h => by
  split at h
  · rename_i hc
    cases h
    exact ⟨hc, fun ι H => .int _⟩
  · cases h
def fLt : F2 := fI fun i j => some (.bl (decide (i < j)))
def fLe : F2 := fI fun i j => some (.bl (decide (i ≤ j)))
def fGt : F2 := fI fun i j => some (.bl (decide (i > j)))
def fGe : F2 := fI fun i j => some (.bl (decide (i ≥ j)))
end
end GD

set_option Elab.async false
set_option linter.all false
set_option maxRecDepth 100000
set_option maxHeartbeats 2000000
namespace GD
open PySem PySem.Spec PyProof.Rows L2 GX

/-! ### comparing -/
mutual
def D.py : D → PyData
  | .non => .none
  | .bl b => .bool b
  | .int i => .int i
  | .str x => .str x
  | .tup l => .tuple (D.pys l)
  | .ref _ => .none
def D.pys : List D → List PyData
  | [] => []
  | d :: ds => D.py d :: D.pys ds
end
mutual
def D.imm : D → Bool
  | .tup l => D.imms l
  | .ref _ => false
  | _ => true
def D.imms : List D → Bool
  | [] => true
  | d :: ds => D.imm d && D.imms ds
end
theorem D.pys_eq (l : List D) : D.pys l = l.map D.py := by
  induction l with
  | nil => rfl
  | cons d ds ih => rw [D.pys, ih]; rfl
mutual
theorem dp_py {K : PySem.W.Frag} {ι : List Addr} {H : Hp} : ∀ {v : V} {d : D}, Rep ι H v d → D.imm d = true → Dp K H v (D.py d)
  | _, _, .non, _ => .non
  | _, _, .bl b, _ => .bl b
  | _, _, .int i, _ => .int i
  | _, _, .str x, _ => .str x
  | _, _, .tup h l r, q => by
    unfold D.py
    exact .tup (sqt_of h) (dp_pys r (by unfold D.imm at q; exact q))
  | _, _, .ref h, q => by unfold D.imm at q; cases q
theorem dp_pys {K : PySem.W.Frag} {ι : List Addr} {H : Hp} : ∀ {vs : List V} {ds : List D}, Reps ι H vs ds → D.imms ds = true → DpAll K H vs (D.pys ds)
  | _, _, .nil, _ => by unfold D.pys; exact .nil
  | _, _, .cons r t, q => by
    unfold D.imms at q
    rw [Bool.and_eq_true] at q
    unfold D.pys
    exact .cons (dp_py r q.1) (dp_pys t q.2)
end
def D.good (d : D) : Bool := D.imm d && SeqAt.shaped (D.py d)
section
variable {X : Cx} {w : Wd} {pos : Pos}
def fEq : F2 := fun _ x y => if x.good = true ∧ y.good = true then some (.bl (PyData.eqv x.py y.py)) else none
def fNe : F2 := fun _ x y => if x.good = true ∧ y.good = true then some (.bl (!PyData.eqv x.py y.py)) else none
theorem good_and {d : D} (h : d.good = true) : D.imm d = true ∧ SeqAt.shaped (D.py d) = true := by
  unfold D.good at h
  rw [Bool.and_eq_true] at h
  exact h
theorem qEq {K : PySem.W.Frag} : OpP w fEq (rEqD K) := by
  intro ι st H x y dx dy d Q s rx ry hf q
  unfold fEq at hf
  split at hf
  · rename_i hg
    cases hf
    obtain ⟨a1, a2⟩ := good_and hg.1
    obtain ⟨b1, b2⟩ := good_and hg.2
    exact ⟨_, _, dp_py rx a1, dp_py ry b1, a2, b2, q _ H (Kp.refl H) (.bl _) s⟩
  · cases hf
theorem qNe {K : PySem.W.Frag} : OpP w fNe (rNeD K) := by
  intro ι st H x y dx dy d Q s rx ry hf q
  unfold fNe at hf
  split at hf
  · rename_i hg
    cases hf
    obtain ⟨a1, a2⟩ := good_and hg.1
    obtain ⟨b1, b2⟩ := good_and hg.2
    exact ⟨_, _, dp_py rx a1, dp_py ry b1, a2, b2, q _ H (Kp.refl H) (.bl _) s⟩
  · cases hf
/-- x in t, t a tuple of data of any depth -/
def rInT (K : PySem.W.Frag) : R2 := fun x y H Q => ∃ d ds, Dp K H x d ∧ Dp K H y (.tuple ds) ∧ SeqAt.shaped d = true ∧ SeqAt.shaped (.tuple ds) = true ∧ Q (.bl (ds.any fun z => PyData.eqv z d)) H
theorem op_inT (hu : X.A.units + 65 < cLine) : OpR X (compareOp .In) (rInT X.K) := by
  intro pins s σ H x y v u Q I rx ry h
  obtain ⟨d, ds, hd, he, sd, se, q⟩ := h
  obtain ⟨as, r1⟩ := Dp.reads I d x v hd rx
  obtain ⟨bs, r2⟩ := Dp.reads I (.tuple ds) y u he ry
  exact SeqAt.in_tuple_reads r2 r1 (SeqAt.canLay_of_shaped se) (SeqAt.canLay_of_shaped sd) (room_in_shaped sd hu) ⟨.bl _, H, I, rfl, q⟩
def inD (x : D) (ds : List D) : Bool := (D.pys ds).any fun z => PyData.eqv z x.py
/-- the items of a tuple, or of a list in the store -/
def seqOf (st : SS) : D → Option (List D)
  | .tup ds => some ds
  | .ref n => match st[n]? with
    | some (.lst ds) => some ds
    | some (.frz ds) => some ds
    | _ => none
  | _ => none
def fIn : F2 := fun st x y => match seqOf st y with
  | some ds => if x.good = true ∧ (D.tup ds).good = true then some (.bl (inD x ds)) else none
  | none => none
theorem shaped_list {ds : List PyData} (h : SeqAt.shaped (.tuple ds) = true) : SeqAt.shaped (.list ds) = true := by
  unfold SeqAt.shaped at h ⊢
  simpa [PyData.canLay0, PyData.depth] using h
theorem seq_cases {ι : List Addr} {st : SS} {H : Hp} {y : V} {dy : D} {ds : List D} {K : PySem.W.Frag} (s : SR w.s ι st H) (ry : Rep ι H y dy) (h : seqOf st dy = some ds) :
    ∃ a vs, y = .ref a ∧ Reps ι H vs ds ∧ ds.length ≤ sizeLine ∧ (SqL K H a vs ∨ (dy = .tup ds ∧ H a = some (.tup vs))) := by
  unfold seqOf at h
  split at h
  · cases h
    cases ry with
    | tup h1 l1 r1 => exact ⟨_, _, rfl, r1, l1, .inr ⟨rfl, h1⟩⟩
  · split at h
    · rename_i n _ _ e
      cases h
      cases ry with
      | ref hn =>
        obtain ⟨vs, h1, l, h2⟩ := s.cell n _ _ hn e
        exact ⟨_, vs, rfl, h2, l, .inl (.inl (.inl h1))⟩
    · rename_i n _ _ e
      cases h
      cases ry with
      | ref hn =>
        obtain ⟨o, vs, h1, l, h2⟩ := s.cell n _ _ hn e
        exact ⟨_, vs, rfl, h2, l, .inl (.inl (.inr ⟨o, h1⟩))⟩
    · cases h
  · cases h
theorem qIn {K : PySem.W.Frag} : OpP w fIn (fun x y H Q => rInD K x y H Q ∨ rInT K x y H Q) := by
  intro ι st H x y dx dy d Q s rx ry hf q
  unfold fIn at hf
  split at hf
  · rename_i ds e
    split at hf
    · rename_i hg
      cases hf
      obtain ⟨a1, a2⟩ := good_and hg.1
      obtain ⟨b1, b2⟩ := good_and hg.2
      unfold D.imm at b1
      unfold D.py at b2
      obtain ⟨a, vs, rfl, rs, _, hh⟩ := seq_cases (K := K) s ry e
      rcases hh with h1 | ⟨rfl, h1⟩
      · exact .inl ⟨_, _, dp_py rx a1, .lst h1 (dp_pys rs b1), a2, shaped_list b2, q _ H (Kp.refl H) (.bl _) s⟩
      · exact .inr ⟨_, _, dp_py rx a1, .tup (sqt_of h1) (dp_pys rs b1), a2, b2, q _ H (Kp.refl H) (.bl _) s⟩
    · cases hf
  · cases hf
def D.isN : D → Bool
  | .non => true
  | _ => false
def fIsN : F2 := fun _ x y => match y with | .non => some (.bl x.isN) | _ => none
def fNotN : F2 := fun _ x y => match y with | .non => some (.bl (!x.isN)) | _ => none
theorem isN_dec {ι : List Addr} {H : Hp} {x : V} {d : D} (r : Rep ι H x d) : decide (x = .non) = d.isN := by
  cases r <;> simp [D.isN]
theorem qIsN : OpP w fIsN (fun x y H Q => y = .non ∧ Q (.bl (decide (x = .non))) H) := by
  intro ι st H x y dx dy d Q s rx ry hf q
  unfold fIsN at hf
  split at hf
  · cases hf; cases ry
    rw [isN_dec rx]
    exact ⟨rfl, q _ H (Kp.refl H) (.bl _) s⟩
  · cases hf
theorem qNotN : OpP w fNotN (fun x y H Q => y = .non ∧ Q (.bl (!decide (x = .non))) H) := by
  intro ι st H x y dx dy d Q s rx ry hf q
  unfold fNotN at hf
  split at hf
  · cases hf; cases ry
    rw [isN_dec rx]
    exact ⟨rfl, q _ H (Kp.refl H) (.bl _) s⟩
  · cases hf
section
variable {a b : Expr} {ma mb : MP}
theorem dp_add (ha : PE X a (tP w ma)) (hb : PE X b (tP w mb)) : PE X (.BinOp a .Add b pos) (tP w (mOp fAdd ma mb)) := dp_bin oAdd qAdd ha hb
theorem dp_sub (ha : PE X a (tP w ma)) (hb : PE X b (tP w mb)) : PE X (.BinOp a .Sub b pos) (tP w (mOp fSub ma mb)) := dp_bin op_sub qSub ha hb
theorem dp_mul (ha : PE X a (tP w ma)) (hb : PE X b (tP w mb)) : PE X (.BinOp a .Mult b pos) (tP w (mOp fMul ma mb)) := dp_bin op_mul qMul ha hb
theorem dp_mod (ha : PE X a (tP w ma)) (hb : PE X b (tP w mb)) : PE X (.BinOp a .Mod b pos) (tP w (mOp fMod ma mb)) := dp_bin op_mod qMod ha hb
theorem dp_div (ha : PE X a (tP w ma)) (hb : PE X b (tP w mb)) : PE X (.BinOp a .FloorDiv b pos) (tP w (mOp fDiv ma mb)) := dp_bin op_fdiv qDiv ha hb
theorem dp_eq (hu : Room 0 X.A) (ha : PE X a (tP w ma)) (hb : PE X b (tP w mb)) : PE X (.Compare a [.Eq] [b] pos) (tP w (mOp fEq ma mb)) := dp_cmp (op_eqD hu.units) qEq ha hb (nomark _)
theorem units65 {A : Around} {k : Nat} (h : Room k A) : A.units + 65 < cLine := by have := h.un; omega
theorem dp_in (hu : Room 0 X.A) (ha : PE X a (tP w ma)) (hb : PE X b (tP w mb)) (hm : behindInMarks .In b = false := by rfl) : PE X (.Compare a [.In] [b] pos) (tP w (mOp fIn ma mb)) := dp_cmp (OpR.or2 (op_inD (units65 hu)) (op_inT (units65 hu))) qIn ha hb hm
theorem dp_isN (ha : PE X a (tP w ma)) (hb : PE X b (tP w mb)) : PE X (.Compare a [.Is] [b] pos) (tP w (mOp fIsN ma mb)) := dp_cmp op_isN qIsN ha hb (nomark _)
end
/-! ### and, or, not, tests -/
section
variable {a b c : Expr} {rest : List Expr} {ma mb : MP} {ba bb : MB}
def mAnd (a b : MP) : MP := fun env st => match a env st with | some (.bl true) => b env st | some (.bl false) => some (.bl false) | _ => none
def mNot (a : MP) : MP := fun env st => match a env st with | some (.bl b) => some (.bl (!b)) | _ => none
theorem dp_and (ha : PE X a (tP w ma)) (hb : PE X (.BoolOp .And (b :: rest) pos) (tP w mb)) : PE X (.BoolOp .And (a :: b :: rest) pos) (tP w (mAnd ma mb)) := by
  refine PE.mo (pe_and ha hb) fun σ H Q ⟨ι, env, st, d, he, hs, hm, q⟩ => ?_
  unfold mAnd at hm
  split at hm
  · rename_i e
    refine ⟨ι, env, st, _, he, hs, e, fun x H1 k1 r1 s1 => ?_⟩
    cases r1
    exact ⟨true, rfl, iteT ⟨ι, env, st, d, he.kp k1, s1, hm, fun v H2 k2 r2 s2 => q v H2 (k1.trans k2) r2 s2⟩⟩
  · rename_i e
    cases hm
    refine ⟨ι, env, st, _, he, hs, e, fun x H1 k1 r1 s1 => ?_⟩
    cases r1
    exact ⟨false, rfl, iteF (q _ H1 k1 (.bl _) s1)⟩
  · cases hm
theorem dp_one {op : BoolOp} (h : PE X a (tP w ma)) : PE X (.BoolOp op [a] pos) (tP w ma) := pe_one h
theorem dp_not (ha : PE X a (tP w ma)) : PE X (.UnaryOp .Not a pos) (tP w (mNot ma)) := by
  refine PE.mo (pe_not ha) fun σ H Q ⟨ι, env, st, d, he, hs, hm, q⟩ => ?_
  unfold mNot at hm
  split at hm
  · rename_i b e
    cases hm
    refine ⟨ι, env, st, _, he, hs, e, fun x H1 k1 r1 s1 => ?_⟩
    cases r1
    exact ⟨b, rfl, q _ H1 k1 (.bl _) s1⟩
  · cases hm
def bV (m : MP) : MB := fun env st => match m env st with | some (.bl b) => some b | _ => none
def bAnd (a b : MB) : MB := fun env st => match a env st with | some true => b env st | some false => some false | none => none
def bOr (a b : MB) : MB := fun env st => match a env st with | some true => some true | some false => b env st | none => none
def bNot (a : MB) : MB := fun env st => match a env st with | some b => some (!b) | none => none
theorem db_val (h : PE X a (tP w ma)) (he : ∀ whole, isTrue a X.env whole = (do let v ← whole; standAt a.pos; holding [v] (truthy v)) := by intro _; rfl) : PT X a (tBo w (bV ma)) := by
  refine PT.mo (pt_val h he) fun σ H Q ⟨ι, env, st, b, hen, hs, hm, q⟩ => ?_
  unfold bV at hm
  split at hm
  · rename_i b' e
    cases hm
    refine ⟨ι, env, st, _, hen, hs, e, fun x H1 k1 r1 s1 => ?_⟩
    cases r1
    exact ⟨_, rfl, q H1 k1 s1⟩
  · cases hm
theorem db_and1 (ha : PT X a (tBo w ba)) : PW X (.BoolOp .And [a] pos) (tBo w ba) := pw_and1 ha
theorem db_or1 (ha : PT X a (tBo w ba)) : PW X (.BoolOp .Or [a] pos) (tBo w ba) := pw_or1 ha
theorem db_and (ha : PT X a (tBo w ba)) (hb : PW X (.BoolOp .And (b :: rest) pos) (tBo w bb)) : PW X (.BoolOp .And (a :: b :: rest) pos) (tBo w (bAnd ba bb)) := by
  refine PW.mo (pw_and ha hb) fun σ H Q ⟨ι, env, st, d, he, hs, hm, q⟩ => ?_
  unfold bAnd at hm
  split at hm
  · rename_i e
    exact ⟨ι, env, st, _, he, hs, e, fun H1 k1 s1 => iteT ⟨ι, env, st, d, he.kp k1, s1, hm, fun H2 k2 s2 => q H2 (k1.trans k2) s2⟩⟩
  · rename_i e
    cases hm
    exact ⟨ι, env, st, _, he, hs, e, fun H1 k1 s1 => iteF (q H1 k1 s1)⟩
  · cases hm
theorem db_or (ha : PT X a (tBo w ba)) (hb : PW X (.BoolOp .Or (b :: rest) pos) (tBo w bb)) : PW X (.BoolOp .Or (a :: b :: rest) pos) (tBo w (bOr ba bb)) := by
  refine PW.mo (pw_or ha hb) fun σ H Q ⟨ι, env, st, d, he, hs, hm, q⟩ => ?_
  unfold bOr at hm
  split at hm
  · rename_i e
    cases hm
    exact ⟨ι, env, st, _, he, hs, e, fun H1 k1 s1 => iteT (q H1 k1 s1)⟩
  · rename_i e
    exact ⟨ι, env, st, _, he, hs, e, fun H1 k1 s1 => iteF ⟨ι, env, st, d, he.kp k1, s1, hm, fun H2 k2 s2 => q H2 (k1.trans k2) s2⟩⟩
  · cases hm
theorem db_not (ha : PT X a (tBo w ba)) : PT X (.UnaryOp .Not a pos) (tBo w (bNot ba)) := by
  refine PT.mo (pt_not ha) fun σ H Q ⟨ι, env, st, d, he, hs, hm, q⟩ => ?_
  unfold bNot at hm
  split at hm
  · rename_i b e
    cases hm
    exact ⟨ι, env, st, _, he, hs, e, fun H1 k1 s1 => q H1 k1 s1⟩
  · cases hm
end
/-! ### items, lengths, calls -/
section
variable {a b e : Expr} {es : List Expr} {ma mb : MP} {x : Str} {p : Pos}
def fIx : F2 := fun st x y => match seqOf st x, y with
  | some ds, .int i => atI ds i
  | _, _ => none
theorem atI_map {ι : List Addr} {H : Hp} {vs : List V} {ds : List D} {i : Int} {d : D} (r : Reps ι H vs ds) (h : atI ds i = some d) : ∃ v, atI vs i = some v ∧ Rep ι H v d := by
  unfold atI at h ⊢
  rw [r.length]
  cases hi : ixN ds.length i with
  | none => rw [hi] at h; cases h
  | some j =>
    rw [hi] at h
    exact r.get' h
theorem qIx {K : PySem.W.Frag} : OpP w fIx (rIx K) := by
  intro ι st H x y dx dy d Q s rx ry hf q
  unfold fIx at hf
  split at hf
  · rename_i ds i e
    cases ry
    obtain ⟨a, vs, rfl, rs, _, hh⟩ := seq_cases (K := K) s rx e
    obtain ⟨v, hv, rv⟩ := atI_map rs hf
    rcases hh with h1 | ⟨rfl, h1⟩
    · exact .inl ⟨_, _, _, _, rfl, rfl, h1, hv, q _ H (Kp.refl H) rv s⟩
    · exact .inr (.inl ⟨_, _, _, _, rfl, rfl, sqt_of h1, hv, q _ H (Kp.refl H) rv s⟩)
  · cases hf
theorem dp_ix (ha : PE X a (tP w ma)) (hb : PE X b (tP w mb)) (hs : PlainIx b := by intro _ _; rfl) : PE X (.Subscript a b pos) (tP w (mOp fIx ma mb)) := PE.mo (pe_ix ix_seq ha hb hs) (op_read qIx)
/-- a built-in of one argument, by values -/
abbrev F1 := SS → D → Option D
def mF1 (f : F1) (m : MP) : MP := fun env st => match m env st with | some d => f st d | none => none
def fLen : F1 := fun st d => match seqOf st d with
  | some ds => some (.int ds.length)
  | none => none
theorem dp_len (hg : Gl X "len") (hm : X.mg "len" = none) (ha : PE X a (tP w ma)) (hs : starEach [a] X.env = (false, eval a X.env) :: starEach [] X.env := by rfl) : PE X (.Call (.Name "len" p) [a] [] pos) (tP w (mF1 fLen ma)) := by
  refine PE.mo (pe_callB call_len_seq hg hm PySem.boot_len (pa_cons ha pa_nil hs) (he := hs)) fun σ H Q ⟨ι, env, st, d, he, hst, hmm, q⟩ => ?_
  unfold mF1 at hmm
  split at hmm
  · rename_i dx e
    unfold fLen at hmm
    split at hmm
    · rename_i ds e2
      cases hmm
      refine ⟨ι, env, st, dx, he, hst, e, fun v H1 k1 r1 s1 => ?_⟩
      obtain ⟨a, vs, rfl, rs, _, hh⟩ := seq_cases (K := X.K) s1 r1 e2
      have el := rs.length
      rcases hh with h1 | ⟨rfl, h1⟩
      · exact ⟨a, vs, rfl, .inl h1, by rw [el]; exact q _ H1 k1 (.int _) s1⟩
      · exact ⟨a, vs, rfl, .inr (sqt_of h1), by rw [el]; exact q _ H1 k1 (.int _) s1⟩
    · cases hmm
  · cases hmm
/-- what a def over data promises -/
def spP (w : Ws) (F : List D → SS → Option D) : Sp := fun vs H Q _ => ∃ ι st ds d, Reps ι H vs ds ∧ SR w ι st H ∧ F ds st = some d ∧ ∀ v H', Kp ι H H' → Rep ι H' v d → SR w ι st H' → Q v H'
structure DefP (P : Program) (wl : World) (w : Ws) (mg : Str → Option Value) (k : Nat) (x : Str) (F : List D → SS → Option D) : Prop where
  ex : ∃ (f : Addr) (fd : FuncData) (ps : List Str), FnOk P wl w.K mg w.base CX0 k f fd ps (spP w F) ∧ mg x = some (.ref f) ∧ PySem.W.keepIn w.K (.ref f) = true ∧ Binds w.K fd ps []
def mCall (F : List D → SS → Option D) (r : ML) : MP := fun env st => match r env st with | some ds => F ds st | none => none
theorem dp_call {k : Nat} {F : List D → SS → Option D} {r : ML} (hf : Fit X w) (c : DefP X.prog X.w w.s X.mg k x F) (hr : Room k X.A) (hg : Gl X x) (ha : PA X (e :: es) (tAs w r))
    (hdb : (x == ("__debug__" : Str)) = false := by decide) (he : starEach (e :: es) X.env = (false, eval e X.env) :: starEach es X.env := by rfl) (hpl : (backTo pos (starEach es X.env)).any (·.1) = false := by rfl) :
    PE X (.Call (.Name x p) (e :: es) [] pos) (tP w (mCall F r)) := by
  obtain ⟨f, fd, ps, hF, hm, hk, hb⟩ := c.ex
  rw [← hf.k, ← hf.b] at hF
  rw [← hf.k] at hk hb
  refine PE.mo (pe_call (E := E0) hF hr hg hm hk hb .nil pass0 ha hdb he hpl) fun σ H Q ⟨ι, env, st, d, hen, hst, hmm, q⟩ => ?_
  unfold mCall at hmm
  split at hmm
  · rename_i ds e
    refine ⟨ι, env, st, ds, hen, hst, e, fun vs H1 k1 r1 s1 => ?_⟩
    show spP w.s F (vs ++ []) H1 Q E0
    rw [List.append_nil]
    exact ⟨ι, st, ds, d, r1, s1, hmm, fun v H2 k2 r2 s2 => q v H2 (k1.trans k2) r2 s2⟩
  · cases hmm
end
end
end GD

set_option Elab.async false
set_option linter.all false
set_option maxRecDepth 100000
set_option maxHeartbeats 2000000
namespace GD
open PySem PySem.Spec PyProof.Rows L2 GX

/-! ## 4. what is walked, by its data -/
def Hold (st : SS) (ro : Option Nat) (st' : SS) : Prop := match ro with | none => True | some n => st'[n]? = st[n]?
theorem Hold.refl {st : SS} {ro : Option Nat} : Hold st ro st := by cases ro <;> simp [Hold]
/-- the iterator J hands out ds, while what it walks stands -/
structure ItD (w : Wd) (ι : List Addr) (st : SS) (J : It) (ds : List D) (ro : Option Nat) (H0 : Hp) : Prop where
  run : ∀ (ι' : List Addr) (st' : SS) (H : Hp), Kp ι H0 H → ι <+: ι' → Hold st ro st' → SR w.s ι' st' H →
    (∀ i, i < ds.length → J.go i H) ∧ (∀ i x H', i < ds.length → J.yld i H x H' → ∃ d, ds[i]? = some d ∧ Rep ι' H' x d ∧ (∀ b o, H b = some o → H' b = some o) ∧ SR w.s ι' st' H') ∧ (∀ i, ds.length ≤ i → J.stop i H)
  len : ds.length ≤ sizeLine
abbrev MI := EV → SS → Option (List D × Option Nat)
def tI (w : Wd) (m : MI) : TI := fun σ H R => ∃ ι env st ds ro, EnvR w ι env σ H ∧ SR w.s ι st H ∧ m env st = some (ds, ro) ∧ ∀ J H', Kp ι H H' → SR w.s ι st H' → ItD w ι st J ds ro H' → R J H'
theorem PI.mo {X : Cx} {tg iter : Expr} {t t' : TI} (h : PI X tg iter t) (q : ∀ σ H R, t' σ H R → t σ H R) : PI X tg iter t' := ⟨fun pins s σ H R I h' => h.run pins s σ H R I (q σ H R h')⟩
section
variable {X : Cx} {w : Wd} {tg : Expr} {ι : List Addr} {st : SS} {H0 : Hp} {a : Addr} {K : PySem.W.Frag}
theorem itd_tup {vs : List V} {ds : List D} (h : H0 a = some (.tup vs)) (r : Reps ι H0 vs ds) (hl : ds.length ≤ sizeLine) : ItD w ι st (Itt K a) ds none H0 := by
  refine ⟨fun ι' st' H k p _ s => ⟨fun i hi => ?_, fun i x H' hi hy => ?_, fun i hi => ?_⟩, hl⟩
  · have q : i < vs.length := by rw [r.length]; exact hi
    exact ⟨vs, vs[i], sqt_of (k.fix h trivial), List.getElem?_eq_getElem q⟩
  · obtain ⟨e, hx⟩ := hy
    subst e
    obtain ⟨d, h1, h2⟩ := (r.mono k p).get (hx vs (sqt_of (k.fix h trivial)))
    exact ⟨d, h1, h2, fun _ _ e => e, s⟩
  · exact ⟨vs, sqt_of (k.fix h trivial), by rw [r.length]; exact hi⟩
theorem hold_cell {n : Nat} {ds : List D} {ι' : List Addr} {st' : SS} {H : Hp} (hn : ι[n]? = some a) (hc : st[n]? = some (.lst ds)) (p : ι <+: ι') (ho : Hold st (some n) st') (s : SR w.s ι' st' H) : ∃ vs, H a = some (.lst vs) ∧ Reps ι' H vs ds := by
  have e : st'[n]? = some (.lst ds) := by
    have q : st'[n]? = st[n]? := ho
    rw [q, hc]
  obtain ⟨vs, h1, _, h2⟩ := s.cell n a _ (pre_get p hn) e
  exact ⟨vs, h1, h2⟩
theorem itd_lst {n : Nat} {ds : List D} (hn : ι[n]? = some a) (hc : st[n]? = some (.lst ds)) (hl : ds.length ≤ sizeLine) : ItD w ι st (Itl K a) ds (some n) H0 := by
  refine ⟨fun ι' st' H k p ho s => ⟨fun i hi => ?_, fun i x H' hi hy => ?_, fun i hi => ?_⟩, hl⟩
  all_goals obtain ⟨vs, h1, r⟩ := hold_cell hn hc p ho s
  · have q : i < vs.length := by rw [r.length]; exact hi
    exact ⟨vs, vs[i], sql_of h1, List.getElem?_eq_getElem q⟩
  · obtain ⟨e, hx⟩ := hy
    subst e
    obtain ⟨d, h2, h3⟩ := r.get (hx vs (sql_of h1))
    exact ⟨d, h2, h3, fun _ _ e => e, s⟩
  · exact ⟨vs, sql_of h1, by rw [r.length]; exact hi⟩
def intsD (lo : Int) (n : Nat) : List D := (List.range n).map fun (k : Nat) => .int (lo + (k : Int))
theorem intsD_len (lo : Int) (n : Nat) : (intsD lo n).length = n := by simp [intsD]
theorem itd_rng {lo : Int} {n : Nat} (hl : n ≤ sizeLine) : ItD w ι st (Itr lo n) (intsD lo n) none H0 := by
  refine ⟨fun ι' st' H k p _ s => ⟨fun i hi => by rw [intsD_len] at hi; exact hi, fun i x H' hi hy => ?_, fun i hi => by rw [intsD_len] at hi; exact hi⟩, by rw [intsD_len]; exact hl⟩
  obtain ⟨e, hx⟩ := hy
  subst e hx
  rw [intsD_len] at hi
  exact ⟨.int (lo + i), by simp [intsD, hi], .int _, fun _ _ e => e, s⟩
/-- i, item -/
def enumD (ds : List D) : List D := ds.zipIdx.map fun (p : D × Nat) => .tup [.int (p.2 : Int), p.1]
theorem enumD_len (ds : List D) : (enumD ds).length = ds.length := by simp [enumD]
theorem enumD_get {ds : List D} {i : Nat} {d : D} (h : ds[i]? = some d) : (enumD ds)[i]? = some (.tup [.int (i : Int), d]) := by
  simp [enumD, h]
theorem new_pair {ι' : List Addr} {st' : SS} {H : Hp} {T : Addr} {x y : V} {dx dy : D} (s : SR w.s ι' st' H) (hT : H T = none) (r1 : Rep ι' H x dx) (r2 : Rep ι' H y dy) :
    Rep ι' (upd H T (.tup [x, y])) (.ref T) (.tup [dx, dy]) ∧ (∀ b o, H b = some o → upd H T (.tup [x, y]) b = some o) ∧ SR w.s ι' st' (upd H T (.tup [x, y])) :=
  ⟨.tup upd_same (by show 2 ≤ sizeLine; decide) (.cons (r1.kp (Kp.new hT)) (.cons (r2.kp (Kp.new hT)) .nil)), fun b o e => by rw [upd_ne (ne_of_none e hT)]; exact e, s.new hT (fun _ z => by cases z) (nin_of s hT)⟩
theorem itd_enumT {vs : List V} {ds : List D} (h : H0 a = some (.tup vs)) (r : Reps ι H0 vs ds) (hl : ds.length ≤ sizeLine) : ItD w ι st (IteT K a) (enumD ds) none H0 := by
  refine ⟨fun ι' st' H k p _ s => ⟨fun i hi => ?_, fun i x H' hi hy => ?_, fun i hi => ?_⟩, by rw [enumD_len]; exact hl⟩
  · rw [enumD_len] at hi
    have q : i < vs.length := by rw [r.length]; exact hi
    exact ⟨vs, vs[i], sqt_of (k.fix h trivial), List.getElem?_eq_getElem q⟩
  · obtain ⟨T, y, rfl, hT, rfl, hx⟩ := hy
    obtain ⟨d, h1, h2⟩ := (r.mono k p).get (hx vs (sqt_of (k.fix h trivial)))
    obtain ⟨q1, q2, q3⟩ := new_pair s hT (.int (i : Int)) h2
    exact ⟨_, enumD_get h1, q1, q2, q3⟩
  · rw [enumD_len] at hi
    exact ⟨vs, sqt_of (k.fix h trivial), by rw [r.length]; exact hi⟩
theorem itd_enumL {n : Nat} {ds : List D} (hn : ι[n]? = some a) (hc : st[n]? = some (.lst ds)) (hl : ds.length ≤ sizeLine) : ItD w ι st (Ite K a) (enumD ds) (some n) H0 := by
  refine ⟨fun ι' st' H k p ho s => ⟨fun i hi => ?_, fun i x H' hi hy => ?_, fun i hi => ?_⟩, by rw [enumD_len]; exact hl⟩
  all_goals obtain ⟨vs, h1, r⟩ := hold_cell hn hc p ho s
  · rw [enumD_len] at hi
    have q : i < vs.length := by rw [r.length]; exact hi
    exact ⟨vs, vs[i], sql_of h1, List.getElem?_eq_getElem q⟩
  · obtain ⟨T, y, rfl, hT, rfl, hx⟩ := hy
    obtain ⟨d, h2, h3⟩ := r.get (hx vs (sql_of h1))
    obtain ⟨q1, q2, q3⟩ := new_pair s hT (.int (i : Int)) h3
    exact ⟨_, enumD_get h2, q1, q2, q3⟩
  · rw [enumD_len] at hi
    exact ⟨vs, sql_of h1, by rw [r.length]; exact hi⟩
/-- over a list or a tuple -/
def iSeqU (K : PySem.W.Frag) (tl : TE) : TI := fun σ H R => tl σ H fun x H1 => ∃ a, x = .ref a ∧ (((∃ xs, SqL K H1 a xs) ∧ R (Itl K a) H1) ∨ ((∃ xs, SqT K H1 a xs) ∧ R (Itt K a) H1))
theorem pi_seqU {l : Expr} {tl : TE} (hl : PE X l tl) : PI X tg l (iSeqU X.K tl) := by
  refine ⟨fun pins s σ H R I h => ?_⟩
  refine thn (hl.run pins s σ H _ I h) fun v s1 ⟨x, H1, I1, r1, q1⟩ => ?_
  obtain ⟨a, e, q1⟩ := q1
  subst e
  cases r1
  rcases q1 with ⟨⟨xs, hq⟩, q⟩ | ⟨⟨xs, hq⟩, q⟩
  · obtain ⟨its, rv, p, hz⟩ := I1.list hq
    refine wpAny_pyIter_list p.isList ?_
    refine ⟨s1.heap.objs.size, [s1.heap.objs.size], _, _, H1, rfl, I1.kept (t' := s1.toks) fun b o e => Heap.get?_push_of_some _ e, turn_list a _, ⟨_, Heap.get?_push_size _ rfl, rfl, rfl⟩, fun b hb => ?_, q⟩
    have e : b = s1.heap.objs.size := by simpa using hb
    subst e
    exact I1.fpOk (Nat.le_refl _) (I1.hok.fresh (Nat.le_refl _))
  · obtain ⟨its, rv, p, hz⟩ := I1.tuple hq
    refine wpAny_pyIter_tuple (show s1.heap.IsTuple a its.toArray from p) ?_
    refine ⟨s1.heap.objs.size, [s1.heap.objs.size], _, _, H1, rfl, I1.kept (t' := s1.toks) fun b o e => Heap.get?_push_of_some _ e, turn_tuple a _, ⟨_, Heap.get?_push_size _ rfl, rfl, rfl⟩, fun b hb => ?_, q⟩
    have e : b = s1.heap.objs.size := by simpa using hb
    subst e
    exact I1.fpOk (Nat.le_refl _) (I1.hok.fresh (Nat.le_refl _))
/-- the items of a tuple, or of a list and its place -/
def seqI (st : SS) : D → Option (List D × Option Nat)
  | .tup ds => some (ds, none)
  | .ref n => match st[n]? with
    | some (.lst ds) => some (ds, some n)
    | _ => none
  | _ => none
theorem seqI_cases {y : V} {dy : D} {ds : List D} {ro : Option Nat} {H : Hp} (s : SR w.s ι st H) (ry : Rep ι H y dy) (h : seqI st dy = some (ds, ro)) :
    ∃ a vs, y = .ref a ∧ Reps ι H vs ds ∧ ds.length ≤ sizeLine ∧ ((∃ n, ro = some n ∧ ι[n]? = some a ∧ st[n]? = some (.lst ds) ∧ H a = some (.lst vs)) ∨ (ro = none ∧ H a = some (.tup vs))) := by
  unfold seqI at h
  split at h
  · cases h
    cases ry with
    | tup h1 l1 r1 => exact ⟨_, _, rfl, r1, l1, .inr ⟨rfl, h1⟩⟩
  · split at h
    · rename_i n _ _ e
      cases h
      cases ry with
      | ref hn =>
        obtain ⟨vs, h1, l, h2⟩ := s.cell n _ _ hn e
        exact ⟨_, vs, rfl, h2, l, .inl ⟨n, rfl, hn, e, h1⟩⟩
    · cases h
  · cases h
def iSeq (m : MP) : MI := fun env st => match m env st with | some d => seqI st d | none => none
theorem di_seq {l : Expr} {m : MP} (hl : PE X l (tP w m)) : PI X tg l (tI w (iSeq m)) := by
  refine PI.mo (pi_seqU hl) fun σ H R ⟨ι, env, st, ds, ro, he, hs, hm, q⟩ => ?_
  unfold iSeq at hm
  split at hm
  · rename_i d e
    refine ⟨ι, env, st, d, he, hs, e, fun v H1 k1 r1 s1 => ?_⟩
    obtain ⟨a, vs, rfl, rs, hl, hh⟩ := seqI_cases s1 r1 hm
    refine ⟨a, rfl, ?_⟩
    rcases hh with ⟨n, rfl, hn, hc, h1⟩ | ⟨rfl, h1⟩
    · exact .inl ⟨⟨vs, sql_of h1⟩, q _ H1 k1 s1 (itd_lst hn hc hl)⟩
    · exact .inr ⟨⟨vs, sqt_of h1⟩, q _ H1 k1 s1 (itd_tup h1 rs hl)⟩
  · cases hm
def iRng (m : MP) : MI := fun env st => match m env st with | some (.int n) => if n ≤ 1000000 ∧ -1000000 ≤ n then some (intsD 0 n.toNat, none) else none | _ => none
theorem di_rng {e : Expr} {m : MP} {p pos : Pos} (hg : Gl X "range") (hm : X.mg "range" = none) (ha : PE X e (tP w m)) (hs : starEach [e] X.env = [(false, eval e X.env)] := by rfl) : PI X tg (.Call (.Name "range" p) [e] [] pos) (tI w (iRng m)) := by
  refine PI.mo (pi_range1 hg hm (pa_cons ha pa_nil (by rw [hs]; rfl)) hs) fun σ H R ⟨ι, env, st, ds, ro, he, hst, hmm, q⟩ => ?_
  unfold iRng at hmm
  split at hmm
  · rename_i n e1
    split at hmm
    · rename_i hn
      cases hmm
      refine ⟨ι, env, st, _, he, hst, e1, fun v H1 k1 r1 s1 => ?_⟩
      cases r1
      refine ⟨n, rfl, by omega, by omega, q _ H1 k1 s1 (itd_rng (big_size (by omega)))⟩
    · cases hmm
  · cases hmm
def iRng2 (a b : MP) : MI := fun env st => match a env st, b env st with | some (.int m), some (.int n) => if (n ≤ 1000000 ∧ -1000000 ≤ n) ∧ m ≤ 1000000 ∧ 0 ≤ m then some (intsD m (n - m).toNat, none) else none | _, _ => none
theorem di_rng2 {e e2 : Expr} {m m2 : MP} {p pos : Pos} (hg : Gl X "range") (hm : X.mg "range" = none) (ha : PE X e (tP w m)) (hb : PE X e2 (tP w m2)) (hs : starEach [e, e2] X.env = [(false, eval e X.env), (false, eval e2 X.env)] := by rfl) (hs2 : starEach [e2] X.env = [(false, eval e2 X.env)] := by rfl) :
    PI X tg (.Call (.Name "range" p) [e, e2] [] pos) (tI w (iRng2 m m2)) := by
  refine PI.mo (pi_range2 hg hm (pa_cons ha (pa_cons hb pa_nil (by rw [hs2]; rfl)) (by rw [hs, hs2])) hs hs2) fun σ H R ⟨ι, env, st, ds, ro, he, hst, hmm, q⟩ => ?_
  unfold iRng2 at hmm
  split at hmm
  · rename_i i j e1 e2
    split at hmm
    · rename_i hn
      cases hmm
      refine ⟨ι, env, st, _, he, hst, e1, fun v H1 k1 r1 s1 => ?_⟩
      refine ⟨ι, env, st, _, he.kp k1, s1, e2, fun v2 H2 k2 r2 s2 => ?_⟩
      cases r1
      cases r2
      exact ⟨i, j, rfl, ⟨by omega, by omega, by omega, by omega⟩, q _ H2 (k1.trans k2) s2 (itd_rng (big_size (by omega)))⟩
    · cases hmm
  · cases hmm
/-! ### targets -/
abbrev MT := D → EV → Option EV
def GT (w : Wd) (own : List Nat) (g : TG) (t : MT) : Prop := ∀ (ι : List Addr) (st : SS) (H : Hp) (σ : L2.St) (env : EV) (x : V) (d : D) (env' : EV) (Q : L2.St → Hp → Prop), EnvR w ι env σ H → SR w.s ι st H → Rep ι H x d → t d env = some env' →
  (∀ σ', EnvR w ι env' σ' H → wipe σ' own = wipe σ own → Q σ' H) → g x σ H Q
def tgN (i : Nat) : MT := fun d env => some (env.set i (some d))
theorem wipe_set {σ : L2.St} {x : Option V} : ∀ {own : List Nat} {i : Nat}, i ∈ own → wipe (σ.set i x) own = wipe σ own
  | o :: os, i, h => by
    unfold wipe
    by_cases hi : i ∈ os
    · rw [wipe_set hi]
    · have e : i = o := by
        rcases List.mem_cons.mp h with h | h
        · exact h
        · exact absurd h hi
      subst e
      have key : ∀ (os : List Nat), i ∉ os → (wipe (σ.set i x) os).set i none = (wipe σ os).set i none := by
        intro os
        induction os with
        | nil => intro _; unfold wipe; rw [List.set_set]
        | cons p ps ih =>
          intro hp
          unfold wipe
          have h1 : i ≠ p := fun z => hp (by rw [z]; exact List.mem_cons_self)
          have h2 : i ∉ ps := fun z => hp (List.mem_cons_of_mem _ z)
          rw [List.set_comm _ _ (Ne.symm h1), ih h2, List.set_comm _ _ h1]
      exact key os hi
theorem wipe_idem {σ : L2.St} : ∀ {own : List Nat} {os : List Nat}, (∀ i ∈ os, i ∈ own) → wipe (wipe σ os) own = wipe σ own
  | own, [], _ => rfl
  | own, o :: os, h => by
    show wipe ((wipe σ os).set o none) own = wipe σ own
    rw [wipe_set (h o List.mem_cons_self), wipe_idem fun i hi => h i (List.mem_cons_of_mem _ hi)]
theorem gt_name {own : List Nat} {i : Nat} (h : i ∈ own) (hfx : ∀ p ∈ w.fx, p.1 ≠ i := by intro _ h; cases h) : GT w own (gName i) (tgN i) := by
  intro ι st H σ env x d env' Q he hs r ht q
  cases ht
  exact q _ (he.set i r hfx) (wipe_set h)
/-- several targets -/
abbrev MTs := List D → EV → Option EV
def GTs (w : Wd) (own : List Nat) (g : TGs) (t : MTs) : Prop := ∀ (ι : List Addr) (st : SS) (H : Hp) (σ : L2.St) (env : EV) (xs : List V) (ds : List D) (env' : EV) (Q : L2.St → Hp → Prop), EnvR w ι env σ H → SR w.s ι st H → Reps ι H xs ds → t ds env = some env' →
  (∀ σ', EnvR w ι env' σ' H → wipe σ' own = wipe σ own → Q σ' H) → g xs σ H Q
def tgNil : MTs := fun ds env => match ds with | [] => some env | _ => none
def tgCons (t : MT) (u : MTs) : MTs := fun ds env => match ds with | d :: ds => (match t d env with | some env1 => u ds env1 | none => none) | [] => none
theorem gts_nil {own : List Nat} : GTs w own gNil tgNil := by
  intro ι st H σ env xs ds env' Q he hs r ht q
  unfold tgNil at ht
  split at ht
  · cases ht; cases r
    exact ⟨rfl, q _ he rfl⟩
  · cases ht
theorem gts_cons {own : List Nat} {g : TG} {t : MT} {gs : TGs} {u : MTs} (h1 : GT w own g t) (h2 : GTs w own gs u) : GTs w own (gCons g gs) (tgCons t u) := by
  intro ι st H σ env xs ds env' Q he hs r ht q
  unfold tgCons at ht
  split at ht
  · rename_i d ds'
    split at ht
    · rename_i env1 e1
      cases r with
      | cons r rr =>
        refine ⟨_, _, rfl, h1 ι st H σ env _ d env1 _ he hs r e1 fun σ1 he1 hw1 => ?_⟩
        exact h2 ι st H σ1 env1 _ ds' env' Q he1 hs rr ht fun σ2 he2 hw2 => q σ2 he2 (hw2.trans hw1)
    · cases ht
  · cases ht
def tgTup (n : Nat) (u : MTs) : MT := fun d env => match d with | .tup ds => if ds.length = n then u ds env else none | _ => none
theorem gt_tup {own : List Nat} {n : Nat} {gs : TGs} {u : MTs} (h : GTs w own gs u) : GT w own (gTup K n gs) (tgTup n u) := by
  intro ι st H σ env x d env' Q he hs r ht q
  unfold tgTup at ht
  split at ht
  · split at ht
    · rename_i hn
      cases r with
      | tup h1 l1 r1 => exact ⟨_, _, rfl, sqt_of h1, by rw [r1.length]; exact hn, h ι st H σ env _ _ env' Q he hs r1 ht q⟩
    · cases ht
  · cases ht
end
end GD

set_option Elab.async false
set_option linter.all false
set_option maxRecDepth 100000
set_option maxHeartbeats 2000000
namespace GD
open PySem PySem.Spec PyProof.Rows L2 GX

/-! ## 5. comprehensions -/
def ewipe (env : EV) : List Nat → EV
  | [] => env
  | v :: vs => (ewipe env vs).set v none
theorem EnvR.unset {w : Wd} {ι : List Addr} {env : EV} {σ : L2.St} {H : Hp} (e : EnvR w ι env σ H) (i : Nat) (hfx : ∀ p ∈ w.fx, p.1 ≠ i) : EnvR w ι (env.set i none) (σ.set i none) H := by
  refine ⟨by rw [List.length_set, List.length_set]; exact e.len, fun j x h => ?_, e.cod, fun p hp => by rw [List.getElem?_set_ne (Ne.symm (hfx p hp))]; exact e.fx p hp, e.sq, e.lm⟩
  by_cases hj : i = j
  · subst hj
    by_cases hl : i < env.length
    · rw [List.getElem?_set_self hl] at h
      cases h
    · rw [List.getElem?_eq_none (by rw [List.length_set]; omega)] at h
      cases h
  · rw [List.getElem?_set_ne hj] at h ⊢
    exact e.at_ j x h
theorem EnvR.wipe {w : Wd} {ι : List Addr} {env : EV} {σ : L2.St} {H : Hp} (e : EnvR w ι env σ H) : ∀ own : List Nat, (∀ v ∈ own, ∀ p ∈ w.fx, p.1 ≠ v) → EnvR w ι (ewipe env own) (L2.wipe σ own) H
  | [], _ => e
  | v :: vs, h => (EnvR.wipe e vs fun v hv => h v (List.mem_cons_of_mem _ hv)).unset v (h v List.mem_cons_self)
abbrev Wd.at (w : Wd) (c : Addr) : Wd := ⟨w.s, c, w.fx, w.sq, w.lm, true⟩
theorem EnvR.code {w : Wd} {ι : List Addr} {env : EV} {σ : L2.St} {H : Hp} {c P : Addr} (e : EnvR w ι env σ H) (h : H c = some (CodeG c P)) (t : ∃ ps, H P = some (.tbl ps)) : EnvR (w.at c) ι env σ H :=
  ⟨e.len, e.at_, fun _ => ⟨P, .inr h, t⟩, e.fx, e.sq, e.lm⟩
theorem EnvR.back {w : Wd} {ι : List Addr} {env : EV} {σ : L2.St} {H H' : Hp} {c : Addr} (e : EnvR (w.at c) ι env σ H) (h : Cod w H) : EnvR w ι env σ H := ⟨e.len, e.at_, h, e.fx, e.sq, e.lm⟩
def fGo (t : MT) (b : MB) (m : MP) (env : EV) (st : SS) : List D → Option (List D)
  | [] => some []
  | d :: ds => match t d env with
    | some env1 => (match b env1 st with
      | some true => (match m env1 st with
        | some y => (match fGo t b m env st ds with | some ys => some (y :: ys) | none => none)
        | none => none)
      | some false => fGo t b m env st ds
      | none => none)
    | none => none
def mComp (mi : MI) (t : MT) (b : MB) (m : MP) (own : List Nat) : ML := fun env st => match mi env st with | some (ds, _) => fGo t b m (ewipe env own) st ds | none => none
def bYes : MB := fun _ _ => some true
section
variable {X : Cx} {w : Wd} {pos : Pos} {tg iter elt c : Expr} {ifs : List Expr}
theorem PTs.mo {t t' : TT} (h : PTs X ifs t) (q : ∀ σ H Q, t' σ H Q → t σ H Q) : PTs X ifs t' := ⟨fun pins s σ H Q I h' => h.run pins s σ H Q I (q σ H Q h')⟩
theorem dts_nil : PTs X [] (tBo w bYes) := PTs.mo pts_nil fun σ H Q ⟨ι, env, st, b, he, hs, hm, q⟩ => by cases hm; exact q H (Kp.refl H) hs
theorem dts_one {b : MB} (h : PT X c (tBo w b)) : PTs X [c] (tBo w b) := pts_one h
theorem go_cons {t : MT} {b : MB} {m : MP} {env : EV} {st : SS} {d : D} {ds r : List D} (h : fGo t b m env st (d :: ds) = some r) :
    ∃ env1, t d env = some env1 ∧ ((b env1 st = some false ∧ fGo t b m env st ds = some r) ∨ (b env1 st = some true ∧ ∃ y ys, m env1 st = some y ∧ fGo t b m env st ds = some ys ∧ r = y :: ys)) := by
  unfold fGo at h
  split at h
  · rename_i env1 e1
    refine ⟨env1, e1, ?_⟩
    split at h
    · rename_i e2
      split at h
      · rename_i y e3
        split at h
        · rename_i ys e4
          cases h
          exact .inr ⟨e2, y, ys, e3, e4, rfl⟩
        · cases h
      · cases h
    · rename_i e2
      exact .inl ⟨e2, h⟩
    · cases h
  · cases h
theorem drop_cons' {ds : List D} {i : Nat} (h : i < ds.length) : ∃ d, ds[i]? = some d ∧ ds.drop i = d :: ds.drop (i + 1) := ⟨ds[i], List.getElem?_eq_getElem h, List.drop_eq_getElem_cons h⟩
theorem lc_read {mi : MI} {t : MT} {b : MB} {m : MP} {own : List Nat} {g : TG} (hfx : ∀ v ∈ own, ∀ p ∈ w.fx, p.1 ≠ v) (hg : GT w own g t) (σ : L2.St) (H : Hp) (Q : VK) :
    tLs w (mComp mi t b m own) σ H Q → tLc (tI w mi) g (tBo w b) (tP w m) own σ H Q := by
  rintro ⟨ι, env, st, es, he, hs, hm, q⟩
  unfold mComp at hm
  split at hm
  · rename_i ds ro hmi
    refine ⟨ι, env, st, ds, ro, he, hs, hmi, fun J H1 k1 s1 hJ D hD => ?_⟩
    have hDi : D ∉ ι := nin_of s1 hD
    have he1 := he.kp k1
    refine ⟨fun i mm H' => mm = ds.length - i ∧ i ≤ ds.length ∧ Kp ι H1 H' ∧ SR w.s ι st H' ∧ ∃ acc es1 es2, H' D = some (.lst acc) ∧ acc.length ≤ i ∧ Reps ι H' acc es1 ∧ fGo t b m (ewipe env own) st (ds.drop i) = some es2 ∧ es1 ++ es2 = es,
      ⟨ds.length, rfl, Nat.zero_le _, Kp.new hD, s1.new hD (fun _ z => by cases z) hDi, [], [], es, upd_same, Nat.zero_le _, .nil, hm, rfl⟩, ?_⟩
    rintro i mm H' ⟨rfl, hi, k2, s2, acc, es1, es2, hacc, hal, hr, hgo, rfl⟩
    obtain ⟨j1, j2, j3⟩ := hJ.run ι st H' k2 (List.prefix_refl _) Hold.refl s2
    by_cases hlt : i < ds.length
    · refine .inr ⟨j1 i hlt, fun H'' => i + 1 ≤ ds.length ∧ Kp ι H1 H'' ∧ SR w.s ι st H'' ∧ ∃ acc es1' es2', H'' D = some (.lst acc) ∧ acc.length ≤ i + 1 ∧ Reps ι H'' acc es1' ∧ fGo t b m (ewipe env own) st (ds.drop (i + 1)) = some es2' ∧ es1' ++ es2' = es1 ++ es2, fun H'' hn => ⟨_, by omega, rfl, hn⟩, fun x H2 hy => ?_⟩
      obtain ⟨d, hd, rd, kk, s3⟩ := j2 i x H2 hlt hy
      obtain ⟨d', hd', hdr⟩ := drop_cons' hlt
      rw [hd] at hd'
      cases hd'
      rw [hdr] at hgo
      obtain ⟨env1, ht, hcase⟩ := go_cons hgo
      have k3 : Kp ι H' H2 := .of kk
      refine hg ι st H2 _ _ x d env1 _ ((he1.kp (k2.trans k3)).wipe own hfx) s3 rd ht fun σ2 he2 hw2 => ⟨hw2.trans (wipe_idem fun _ h => h), ?_⟩
      rcases hcase with ⟨hb, hrest⟩ | ⟨hb, y, ys, hy1, hrest, rfl⟩
      · refine ⟨ι, env1, st, false, he2, s3, hb, fun H3 k4 s4 => iteF ⟨hlt, (k2.trans k3).trans k4, s4, acc, es1, _, k4.keep _ _ (kk _ _ hacc) (fun _ z => by cases z) (fun z => absurd z hDi), Nat.le_succ_of_le hal, (hr.kp k3).kp k4, hrest, rfl⟩⟩
      · refine ⟨ι, env1, st, true, he2, s3, hb, fun H3 k4 s4 => iteT ⟨ι, env1, st, y, he2.kp k4, s4, hy1, fun v H4 k5 r5 s5 => ?_⟩⟩
        have hD4 : H4 D = some (.lst acc) := k5.keep _ _ (k4.keep _ _ (kk _ _ hacc) (fun _ z => by cases z) (fun z => absurd z hDi)) (fun _ z => by cases z) (fun z => absurd z hDi)
        refine ⟨acc, hD4, Nat.lt_of_le_of_lt hal (Nat.lt_of_lt_of_le hlt hJ.len), hlt, (((k2.trans k3).trans k4).trans k5).put hD, s5.put hD4 hDi, acc ++ [v], es1 ++ [y], ys, upd_same, by rw [List.length_append]; simpa using hal, ?_, hrest, by simp⟩
        exact ((((hr.kp k3).kp k4).kp k5).append (.one r5)).put hD4
    · have e : i = ds.length := by omega
      subst e
      rw [List.drop_length] at hgo
      cases hgo
      rw [List.append_nil] at q
      exact .inl ⟨j3 _ (Nat.le_refl _), q D acc H' (k1.trans k2) hacc (k1.fresh hDi hD) (by rw [← hr.length]; exact Nat.le_trans hal hJ.len) hr s2⟩
  · cases hm
theorem dl_lc {scope : Scope} {own : List (Str × Nat)} {mi : MI} {t : MT} {b : MB} {m : MP} {g : TG} (hc : X.calm = true) (hN : X.N.Nodup) (hi : PI X tg iter (tI w mi)) (ok : BlkOk X.N X.env.scope scope own) (ht : GT w (own.map (·.2)) g t)
    (hg : ∀ (s : Shared) (H : Hp) (C : Addr) (cl : List (Str × Addr)) (fp : List Addr), PG (X.blk s H scope (compEnvC scope cl C X.env) fp) tg g) (hb : ∀ (s : Shared) (H : Hp) (C : Addr) (cl : List (Str × Addr)) (fp : List Addr), PTs (X.blk s H scope (compEnvC scope cl C X.env) fp) ifs (tBo w b))
    (he : ∀ (s : Shared) (H : Hp) (C : Addr) (cl : List (Str × Addr)) (fp : List Addr), PE (X.blk s H scope (compEnvC scope cl C X.env) fp) elt (tP w m)) (hs : ∀ x, foldedSetIterable iter X.env x = pure x := by intro _; rfl) (hfx : ∀ v ∈ own.map (·.2), ∀ p ∈ w.fx, p.1 ≠ v := by intro _ _ _ h; cases h) :
    PE X (.ListComp elt [⟨tg, iter, ifs, 0⟩] scope pos) (tLs w (mComp mi t b m (own.map (·.2)))) :=
  PE.mo (pe_lc hc hN hi ok hg hb he hs) (lc_read hfx ht)
/-! ### generator expressions -/
/-- all items hold: short of the first that does not -/
def allGo (t : MT) (b : MB) (m : MP) (env : EV) (st : SS) (stopAt : Bool) : List D → Option Bool
  | [] => some (!stopAt)
  | d :: ds => match t d env with
    | some env1 => (match b env1 st with
      | some true => (match m env1 st with
        | some (.bl x) => if x = stopAt then some stopAt else allGo t b m env st stopAt ds
        | _ => none)
      | some false => allGo t b m env st stopAt ds
      | none => none)
    | none => none
def mAll (stopAt : Bool) (mi : MI) (t : MT) (b : MB) (m : MP) (own : List Nat) : MP := fun env st => match mi env st with | some (ds, _) => (match allGo t b m (ewipe env own) st stopAt ds with | some x => some (.bl x) | none => none) | none => none
theorem all_cons {t : MT} {b : MB} {m : MP} {env : EV} {st : SS} {d : D} {ds : List D} {sa r : Bool} (h : allGo t b m env st sa (d :: ds) = some r) :
    ∃ env1, t d env = some env1 ∧ ((b env1 st = some false ∧ allGo t b m env st sa ds = some r) ∨ (b env1 st = some true ∧ ((m env1 st = some (.bl sa) ∧ r = sa) ∨ (m env1 st = some (.bl (!sa)) ∧ allGo t b m env st sa ds = some r)))) := by
  unfold allGo at h
  split at h
  · rename_i env1 e1
    refine ⟨env1, e1, ?_⟩
    split at h
    · rename_i e2
      refine .inr ⟨e2, ?_⟩
      split at h
      · rename_i x e3
        split at h
        · rename_i hx
          cases h
          subst hx
          exact .inl ⟨e3, rfl⟩
        · rename_i hx
          refine .inr ⟨?_, h⟩
          rw [e3]
          cases x <;> cases sa <;> simp_all
      · cases h
    · rename_i e2
      exact .inl ⟨e2, h⟩
    · cases h
  · cases h
theorem SR.grown' {w : Ws} {ι : List Addr} {st : SS} {H H' : Hp} (s : SR w ι st H) (g : Grown H H') (T : AllTabs w.nm H') : SR w ι st H' := s.grown g T fun b hb => by
  obtain ⟨n, hn, e⟩ := List.getElem_of_mem hb
  have e1 : ι[n]? = some b := by rw [List.getElem?_eq_getElem hn, e]
  have hl : n < st.length := by rw [← s.len]; exact hn
  have q := s.cell n b st[n] e1 (List.getElem?_eq_getElem hl)
  cases hc : st[n] with
  | lst ds =>
    rw [hc] at q
    obtain ⟨vs, h1, _⟩ := q
    rw [h1]
    exact g.keep _ _ h1 fun _ z => by cases z
  | frz ds =>
    rw [hc] at q
    obtain ⟨o, vs, h1, _⟩ := q
    rw [h1]
    exact g.keep _ _ h1 fun _ z => by cases z
  | dic ds =>
    rw [hc] at q
    obtain ⟨vs, h1, _⟩ := q
    rw [h1]
    exact g.keep _ _ h1 fun _ z => by cases z
  | obj x ds =>
    rw [hc] at q
    obtain ⟨C, dx, vs, h1, _⟩ := q
    rw [h1]
    exact g.keep _ _ h1 fun _ z => by cases z
  | dicN ds =>
    rw [hc] at q
    obtain ⟨vs, h1, _⟩ := q
    rcases h1 with ⟨h1, _⟩ | ⟨xs, h1, _⟩ <;> rw [h1] <;> exact g.keep _ _ h1 fun _ z => by cases z
def mGenT (mi : MI) (t : MT) (b : MB) (m : MP) (own : List Nat) : MP := fun env st => match mComp mi t b m own env st with | some es => some (.tup es) | none => none
theorem tup_read {mi : MI} {t : MT} {b : MB} {m : MP} {own : List Nat} {g : TG} {B : Heap} {nm : Nat → Nat → Option Str} {c : Addr} (eB : B = w.s.base) (en : nm = w.s.nm) (ec : c = w.c) (hgn : w.gn = true) (hfx : ∀ v ∈ own, ∀ p ∈ w.fx, p.1 ≠ v) (hg : ∀ c', GT (w.at c') own g t) (σ : L2.St) (H : Hp) (Q : VK) :
    tP w (mGenT mi t b m own) σ H Q → tTupX (tGen B nm c (tI w mi) g (fun c' => tBo (w.at c') b) (fun c' => tP (w.at c') m) own) σ H Q := by
  subst eB en ec
  rintro ⟨ι, env, st, dres, he, hs, hm, q⟩
  unfold mGenT at hm
  split at hm
  · rename_i es hm'
    cases hm
    have hm := hm'
    unfold mComp at hm
    split at hm
    · rename_i ds ro hmi
      refine ⟨ι, env, st, ds, ro, he, hs, hmi, fun J H1 k1 s1 hJ => ⟨(he.kp k1).cod hgn, s1.tabs, fun H2 c' P' g2 T2 hc' hp' => ?_⟩⟩
      have kg : Kp ι H1 H2 := Kp.grown g2
      have s2 := s1.grown' g2 T2
      have he2 : EnvR (w.at c') ι env σ H2 := ((he.kp k1).kp kg).code hc' hp'
      refine ⟨⟨fun ys i mm H' => mm = ds.length - i ∧ i ≤ ds.length ∧ ys.length ≤ i ∧ Kp ι H2 H' ∧ SR w.s ι st H' ∧ ∃ es1 es2, Reps ι H' ys es1 ∧ fGo t b m (ewipe env own) st (ds.drop i) = some es2 ∧ es1 ++ es2 = es, fun _ => True, fun ys H' => Kp ι H2 H' ∧ SR w.s ι st H' ∧ Reps ι H' ys es ∧ ys.length ≤ ds.length⟩,
        trivial, ⟨ds.length, rfl, Nat.zero_le _, Nat.zero_le _, Kp.refl _, s2, [], es, .nil, hm, rfl⟩, ?_, fun _ => trivial, fun ys H' ⟨k3, s3, r3, l3⟩ hl p hp => ?_⟩
      · rintro ys i mm H' _ ⟨rfl, hi, hyl, k2, s2', es1, es2, hr, hgo, rfl⟩
        obtain ⟨j1, j2, j3⟩ := hJ.run ι st H' (kg.trans k2) (List.prefix_refl _) Hold.refl s2'
        by_cases hlt : i < ds.length
        · refine .inr ⟨j1 i hlt, fun H'' => i + 1 ≤ ds.length ∧ ys.length ≤ i + 1 ∧ Kp ι H2 H'' ∧ SR w.s ι st H'' ∧ ∃ es1' es2', Reps ι H'' ys es1' ∧ fGo t b m (ewipe env own) st (ds.drop (i + 1)) = some es2' ∧ es1' ++ es2' = es1 ++ es2,
            fun y H'' => i + 1 ≤ ds.length ∧ (ys ++ [y]).length ≤ i + 1 ∧ Kp ι H2 H'' ∧ SR w.s ι st H'' ∧ ∃ es1' es2', Reps ι H'' (ys ++ [y]) es1' ∧ fGo t b m (ewipe env own) st (ds.drop (i + 1)) = some es2' ∧ es1' ++ es2' = es1 ++ es2,
            fun H'' hn => ⟨_, by omega, rfl, hn⟩, fun y H'' hn => ⟨_, by omega, rfl, hn⟩, fun x H3 hy => ?_⟩
          obtain ⟨d, hd, rd, kk, s3⟩ := j2 i x H3 hlt hy
          obtain ⟨d', hd', hdr⟩ := drop_cons' hlt
          rw [hd] at hd'
          cases hd'
          rw [hdr] at hgo
          obtain ⟨env1, ht, hcase⟩ := go_cons hgo
          have k3 : Kp ι H' H3 := .of kk
          refine hg c' ι st H3 _ _ x d env1 _ ((he2.kp (k2.trans k3)).wipe own hfx) s3 rd ht fun σ2 he3 hw2 => ⟨hw2.trans (wipe_idem fun _ h => h), ?_⟩
          rcases hcase with ⟨hb, hrest⟩ | ⟨hb, y, yss, hy1, hrest, rfl⟩
          · refine ⟨ι, env1, st, false, he3, s3, hb, fun H4 k4 s4 => iteF ⟨hlt, Nat.le_succ_of_le hyl, (k2.trans k3).trans k4, s4, es1, _, (hr.kp k3).kp k4, hrest, rfl⟩⟩
          · refine ⟨ι, env1, st, true, he3, s3, hb, fun H4 k4 s4 => iteT ⟨ι, env1, st, y, he3.kp k4, s4, hy1, fun v H5 k5 r5 s5 => ?_⟩⟩
            exact ⟨Nat.lt_of_le_of_lt hyl (Nat.lt_of_lt_of_le hlt hJ.len), hlt, by rw [List.length_append]; simpa using hyl, ((k2.trans k3).trans k4).trans k5, s5, es1 ++ [y], yss, (((hr.kp k3).kp k4).kp k5).append (.one r5), hrest, by simp⟩
        · have e : i = ds.length := by omega
          subst e
          rw [List.drop_length] at hgo
          cases hgo
          rw [List.append_nil]
          exact .inl ⟨j3 _ (Nat.le_refl _), k2, s2', hr, hyl⟩
      · refine q _ _ (((k1.trans kg).trans k3).trans (Kp.new hp)) (.tup upd_same (by rw [← r3.length]; exact hl) (r3.kp (Kp.new hp))) (s3.new hp (fun _ z => by cases z) (nin_of s3 hp))
    · cases hm
  · cases hm
theorem all_read {sa : Bool} {mi : MI} {t : MT} {b : MB} {m : MP} {own : List Nat} {g : TG} {B : Heap} {nm : Nat → Nat → Option Str} {c : Addr} (eB : B = w.s.base) (en : nm = w.s.nm) (ec : c = w.c) (hgn : w.gn = true) (hfx : ∀ v ∈ own, ∀ p ∈ w.fx, p.1 ≠ v) (hg : ∀ c', GT (w.at c') own g t) (σ : L2.St) (H : Hp) (Q : VK) :
    tP w (mAll sa mi t b m own) σ H Q → tGen B nm c (tI w mi) g (fun c' => tBo (w.at c') b) (fun c' => tP (w.at c') m) own σ H fun G _ =>
      (∀ ys y i k H', G.alive ys → G.W (ys ++ [y]) i k H' → ∃ c : Bool, y = .bl c ∧ (c = (!sa) → G.alive (ys ++ [y])) ∧ (c = sa → Q (.bl sa) H')) ∧ ∀ ys H', G.alive ys → G.fin ys H' → Q (.bl (!sa)) H' := by
  subst eB en ec
  rintro ⟨ι, env, st, dres, he, hs, hm, q⟩
  unfold mAll at hm
  split at hm
  · rename_i ds ro hmi
    split at hm
    · rename_i r hm'
      cases hm
      have hm := hm'
      refine ⟨ι, env, st, ds, ro, he, hs, hmi, fun J H1 k1 s1 hJ => ⟨(he.kp k1).cod hgn, s1.tabs, fun H2 c' P' g2 T2 hc' hp' => ?_⟩⟩
      have kg : Kp ι H1 H2 := Kp.grown g2
      have s2 := s1.grown' g2 T2
      have he2 : EnvR (w.at c') ι env σ H2 := ((he.kp k1).kp kg).code hc' hp'
      refine ⟨⟨fun ys i mm H' => mm = ds.length - i ∧ i ≤ ds.length ∧ ys.length ≤ i ∧ Kp ι H2 H' ∧ SR w.s ι st H' ∧ (∀ y, ys.getLast? = some y → ∃ x, y = .bl x) ∧ ((ys.getLast? = some (.bl sa) ∧ r = sa) ∨ (ys.getLast? ≠ some (.bl sa) ∧ allGo t b m (ewipe env own) st sa (ds.drop i) = some r)),
          fun ys => ys.getLast? ≠ some (.bl sa), fun ys H' => Kp ι H2 H' ∧ SR w.s ι st H' ∧ r = (!sa)⟩,
        by simp, ⟨ds.length, rfl, Nat.zero_le _, Nat.zero_le _, Kp.refl _, s2, by simp, .inr ⟨by simp, hm⟩⟩, ?_, ?_, ?_⟩
      · rintro ys i mm H' hal ⟨rfl, hi, hyl, k2, s2', hbl, hcase⟩
        have hgo : allGo t b m (ewipe env own) st sa (ds.drop i) = some r := hcase.elim (fun z => absurd z.1 hal) (·.2)
        obtain ⟨j1, j2, j3⟩ := hJ.run ι st H' (kg.trans k2) (List.prefix_refl _) Hold.refl s2'
        by_cases hlt : i < ds.length
        · refine .inr ⟨j1 i hlt, fun H'' => i + 1 ≤ ds.length ∧ ys.length ≤ i + 1 ∧ Kp ι H2 H'' ∧ SR w.s ι st H'' ∧ allGo t b m (ewipe env own) st sa (ds.drop (i + 1)) = some r,
            fun y H'' => i + 1 ≤ ds.length ∧ (ys ++ [y]).length ≤ i + 1 ∧ Kp ι H2 H'' ∧ SR w.s ι st H'' ∧ ∃ x, y = .bl x ∧ ((x = sa ∧ r = sa) ∨ (x = (!sa) ∧ allGo t b m (ewipe env own) st sa (ds.drop (i + 1)) = some r)),
            fun H'' hn => ⟨_, by omega, rfl, hn.1, hn.2.1, hn.2.2.1, hn.2.2.2.1, hbl, .inr ⟨hal, hn.2.2.2.2⟩⟩, fun y H'' hn => ⟨_, by omega, rfl, hn.1, hn.2.1, hn.2.2.1, hn.2.2.2.1, ?_⟩, fun x H3 hy => ?_⟩
          · obtain ⟨_, _, _, _, x, rfl, hx⟩ := hn
            refine ⟨fun y hy => ⟨x, by simpa using hy.symm⟩, ?_⟩
            rcases hx with ⟨rfl, hr⟩ | ⟨rfl, hr⟩
            · exact .inl ⟨by simp, hr⟩
            · exact .inr ⟨by simp, hr⟩
          · obtain ⟨d, hd, rd, kk, s3⟩ := j2 i x H3 hlt hy
            obtain ⟨d', hd', hdr⟩ := drop_cons' hlt
            rw [hd] at hd'
            cases hd'
            rw [hdr] at hgo
            obtain ⟨env1, ht, hcase⟩ := all_cons hgo
            have k3 : Kp ι H' H3 := .of kk
            refine hg c' ι st H3 _ _ x d env1 _ ((he2.kp (k2.trans k3)).wipe own hfx) s3 rd ht fun σ2 he3 hw2 => ⟨hw2.trans (wipe_idem fun _ h => h), ?_⟩
            rcases hcase with ⟨hb, hrest⟩ | ⟨hb, hy2⟩
            · refine ⟨ι, env1, st, false, he3, s3, hb, fun H4 k4 s4 => iteF ⟨hlt, Nat.le_succ_of_le hyl, (k2.trans k3).trans k4, s4, hrest⟩⟩
            · have done : ∀ (y : Bool) (hy1 : m env1 st = some (.bl y)), ((y = sa ∧ r = sa) ∨ (y = (!sa) ∧ allGo t b m (ewipe env own) st sa (ds.drop (i + 1)) = some r)) → _ := fun y hy1 hy3 =>
                (⟨ι, env1, st, true, he3, s3, hb, fun H4 k4 s4 => iteT ⟨ι, env1, st, .bl y, he3.kp k4, s4, hy1, fun v H5 k5 r5 s5 => by
                  cases r5
                  exact ⟨Nat.lt_of_le_of_lt hyl (Nat.lt_of_lt_of_le hlt hJ.len), hlt, by rw [List.length_append]; simpa using hyl, ((k2.trans k3).trans k4).trans k5, s5, y, rfl, hy3⟩⟩⟩ : tBo (w.at c') b σ2 H3 fun b' H4 => if b' = true then tP (w.at c') m σ2 H4 fun y H5 => ys.length < sizeLine ∧ (i + 1 ≤ ds.length ∧ (ys ++ [y]).length ≤ i + 1 ∧ Kp ι H2 H5 ∧ SR w.s ι st H5 ∧ ∃ x, y = .bl x ∧ ((x = sa ∧ r = sa) ∨ (x = (!sa) ∧ allGo t b m (ewipe env own) st sa (ds.drop (i + 1)) = some r))) else (i + 1 ≤ ds.length ∧ ys.length ≤ i + 1 ∧ Kp ι H2 H4 ∧ SR w.s ι st H4 ∧ allGo t b m (ewipe env own) st sa (ds.drop (i + 1)) = some r))
              rcases hy2 with ⟨hy1, hr⟩ | ⟨hy1, hr⟩
              · exact done _ hy1 (.inl ⟨rfl, hr⟩)
              · exact done _ hy1 (.inr ⟨rfl, hr⟩)
        · have e : i = ds.length := by omega
          subst e
          rw [List.drop_length] at hgo
          cases hgo
          exact .inl ⟨j3 _ (Nat.le_refl _), k2, s2', rfl⟩
      · rintro ys y i k H' hal ⟨_, _, _, k2, s2', hbl, hcase⟩
        obtain ⟨x, rfl⟩ := hbl y (by simp)
        refine ⟨x, rfl, fun hx => by subst hx; simp, fun hx => ?_⟩
        subst hx
        rcases hcase with ⟨_, rfl⟩ | ⟨hn, _⟩
        · exact q _ H' ((k1.trans kg).trans k2) (.bl _) s2'
        · exact absurd (by simp) hn
      · rintro ys H' hal ⟨k2, s2', rfl⟩
        exact q _ H' ((k1.trans kg).trans k2) (.bl _) s2'
    · cases hm
  · cases hm
/-- what a generator expression asks for -/
structure GenA (X : Cx) (w : Wd) (mi : MI) (t : MT) (b : MB) (m : MP) (own : List Nat) (k : Nat) (e : Expr) : Prop where
  ex : ∃ (g : TG), PGx X k e (tGen X.base w.s.nm w.c (tI w mi) g (fun c' => tBo (w.at c') b) (fun c' => tP (w.at c') m) own) ∧ (∀ c', GT (w.at c') own g t) ∧ ∀ v ∈ own, ∀ p ∈ w.fx, p.1 ≠ v
  gn : w.gn = true
theorem dg_gen {scope : Scope} {own : List (Str × Nat)} {mi : MI} {t : MT} {b : MB} {m : MP} {g : TG} {k : Nat}
    (hc : X.calm = true) (hN : X.N.Nodup) (hr : Room 0 X.A) (hf : Fit X w) (hbm : Bm X.base X.mg) (hn : w.s.nm pos.line pos.col = none) (hi : PI X tg iter (tI w mi)) (ok : GenOk X.N X.env.scope scope own) (ht : ∀ c', GT (w.at c') (own.map (·.2)) g t)
    (hg : ∀ (s : Shared) (H : Hp) (cells : List (Str × Addr)) (L c' : Addr) (fp : List Addr) (A : Around) (pn : List (Addr × Obj)), PG (gcx X s H (genv X scope cells L (.ref c')) fp A pn) tg g)
    (hb : ∀ (s : Shared) (H : Hp) (cells : List (Str × Addr)) (L c' : Addr) (fp : List Addr) (A : Around) (pn : List (Addr × Obj)), Room k (A.deeper (genv X scope cells L (.ref c'))) → Fit (gcx X s H (genv X scope cells L (.ref c')) fp A pn) (w.at c') → PTs (gcx X s H (genv X scope cells L (.ref c')) fp A pn) ifs (tBo (w.at c') b))
    (he : ∀ (s : Shared) (H : Hp) (cells : List (Str × Addr)) (L c' : Addr) (fp : List Addr) (A : Around) (pn : List (Addr × Obj)), Room k (A.deeper (genv X scope cells L (.ref c'))) → Fit (gcx X s H (genv X scope cells L (.ref c')) fp A pn) (w.at c') → PE (gcx X s H (genv X scope cells L (.ref c')) fp A pn) elt (tP (w.at c') m))
    (hs : ∀ x, genFold iter X.env x = pure x := by intro _; rfl) (hfx : ∀ v ∈ own.map (·.2), ∀ p ∈ w.fx, p.1 ≠ v := by intro _ _ _ h; cases h) (hgn : w.gn = true := by rfl) : GenA X w mi t b m (own.map (·.2)) k (.GeneratorExp elt [⟨tg, iter, ifs, 0⟩] scope pos) :=
  ⟨⟨g, pgx_gen hc hN hr hf.c hbm hn hi ok hg (fun s H cells L c' fp A pn hr => hb s H cells L c' fp A pn hr ⟨hf.k, hf.b, rfl⟩) (fun s H cells L c' fp A pn hr => he s H cells L c' fp A pn hr ⟨hf.k, hf.b, rfl⟩) hs, ht, hfx⟩, hgn⟩
section
variable {mi : MI} {t : MT} {b : MB} {m : MP} {own : List Nat} {k : Nat} {e : Expr} {p : Pos}
theorem dp_anyG (hf : Fit X w) (hG : GenA X w mi t b m own k e) (hr : Room (k + 3) X.A) (hg : Gl X "any") (hm : X.mg "any" = none) (he : starEach [e] X.env = (false, eval e X.env) :: starEach [] X.env := by rfl) : PE X (.Call (.Name "any" p) [e] [] pos) (tP w (mAll true mi t b m own)) := by
  obtain ⟨g, hp, ht, hfx⟩ := hG.ex
  exact PE.mo (pe_anyX hp hr hg hm (he := he)) fun σ H Q h => all_read (sa := true) hf.b rfl rfl hG.gn hfx ht σ H Q h
theorem dp_tupG (hf : Fit X w) (hG : GenA X w mi t b m own k e) (hr : Room (k + 5) X.A) (hg : Gl X "tuple") (hm : X.mg "tuple" = none) (he : starEach [e] X.env = (false, eval e X.env) :: starEach [] X.env := by rfl) : PE X (.Call (.Name "tuple" p) [e] [] pos) (tP w (mGenT mi t b m own)) := by
  obtain ⟨g, hp, ht, hfx⟩ := hG.ex
  exact PE.mo (pe_tupX hp hr hg hm (he := he)) fun σ H Q h => tup_read hf.b rfl rfl hG.gn hfx ht σ H Q h
end
end
end GD

set_option Elab.async false
set_option linter.all false
set_option maxRecDepth 100000
set_option maxHeartbeats 2000000
namespace GD
open PySem PySem.Spec PyProof.Rows L2 GX

/-! ## 6. readings with effects: what holds behind, by the store -/
structure Gr (ι : List Addr) (H : Hp) (ι' : List Addr) (H' : Hp) : Prop where
  pre : ι <+: ι'
  kp : Kp ι H H'
  new : ∀ c ∈ ι', c ∈ ι ∨ H c = none
theorem Gr.of {ι : List Addr} {H H' : Hp} (k : Kp ι H H') : Gr ι H ι H' := ⟨List.prefix_refl _, k, fun _ h => .inl h⟩
theorem Gr.refl {ι : List Addr} (H : Hp) : Gr ι H ι H := .of (Kp.refl H)
theorem Gr.trans {ι ι1 ι2 : List Addr} {H H1 H2 : Hp} (a : Gr ι H ι1 H1) (b : Gr ι1 H1 ι2 H2) : Gr ι H ι2 H2 := by
  refine ⟨a.pre.trans b.pre, a.kp.trans2 b.kp a.new, fun c hc => ?_⟩
  rcases b.new c hc with h | h
  · exact a.new c h
  · by_cases hi : c ∈ ι
    · exact .inl hi
    · exact .inr (a.kp.fresh hi h)
section
variable {w : Wd} {ι ι' : List Addr} {H H' : Hp}
theorem Rep.gr (g : Gr ι H ι' H') {v : V} {d : D} (r : Rep ι H v d) : Rep ι' H' v d := r.mono g.kp g.pre
theorem Reps.gr (g : Gr ι H ι' H') {vs : List V} {ds : List D} (r : Reps ι H vs ds) : Reps ι' H' vs ds := r.mono g.kp g.pre
theorem EnvR.gr (g : Gr ι H ι' H') {env : EV} {σ : L2.St} (e : EnvR w ι env σ H) : EnvR w ι' env σ H' := e.mono g.kp g.pre
end
abbrev XP := EV → SS → (D → SS → Prop) → Prop
abbrev XB := EV → SS → (Bool → SS → Prop) → Prop
abbrev XA := EV → SS → (List D → SS → Prop) → Prop
abbrev XI := EV → SS → (List D → Option Nat → SS → Prop) → Prop
def tX (w : Wd) (t : XP) : TE := fun σ H Q => ∃ ι env st R, EnvR w ι env σ H ∧ SR w.s ι st H ∧ t env st R ∧ ∀ d st' ι' v H', R d st' → Gr ι H ι' H' → Rep ι' H' v d → SR w.s ι' st' H' → Q v H'
def tXB (w : Wd) (t : XB) : TT := fun σ H Q => ∃ ι env st R, EnvR w ι env σ H ∧ SR w.s ι st H ∧ t env st R ∧ ∀ b st' ι' H', R b st' → Gr ι H ι' H' → SR w.s ι' st' H' → Q b H'
def tXA (w : Wd) (t : XA) : TA := fun σ H Q => ∃ ι env st R, EnvR w ι env σ H ∧ SR w.s ι st H ∧ t env st R ∧ ∀ ds st' ι' vs H', R ds st' → Gr ι H ι' H' → Reps ι' H' vs ds → SR w.s ι' st' H' → Q vs H'
/-- a new list -/
def tXL (w : Wd) (t : XA) : TE := fun σ H Q => ∃ ι env st R, EnvR w ι env σ H ∧ SR w.s ι st H ∧ t env st R ∧ ∀ ds st' ι' p vs H', R ds st' → Gr ι H ι' H' → H' p = some (.lst vs) → H p = none → p ∉ ι' → ds.length ≤ sizeLine → Reps ι' H' vs ds → SR w.s ι' st' H' → Q (.ref p) H'
def tXI (w : Wd) (t : XI) : TI := fun σ H Q => ∃ ι env st R, EnvR w ι env σ H ∧ SR w.s ι st H ∧ t env st R ∧ ∀ ds ro st' ι' J H', R ds ro st' → Gr ι H ι' H' → SR w.s ι' st' H' → ItD w ι' st' J ds ro H' → Q J H'
def xOf (m : MP) : XP := fun env st R => ∃ d, m env st = some d ∧ R d st
def xbOf (m : MB) : XB := fun env st R => ∃ d, m env st = some d ∧ R d st
def xaOf (m : ML) : XA := fun env st R => ∃ d, m env st = some d ∧ R d st
def xiOf (m : MI) : XI := fun env st R => ∃ ds ro, m env st = some (ds, ro) ∧ R ds ro st
section
variable {X : Cx} {w : Wd} {pos p : Pos} {e a b c : Expr} {es : List Expr} {tg iter : Expr}
theorem dx_of {m : MP} (h : PE X e (tP w m)) : PE X e (tX w (xOf m)) := PE.mo h fun σ H Q ⟨ι, env, st, R, he, hs, ⟨d, hm, hR⟩, q⟩ => ⟨ι, env, st, d, he, hs, hm, fun v H' k r s => q d st ι v H' hR (.of k) r s⟩
theorem dxb_of {m : MB} (h : PT X e (tBo w m)) : PT X e (tXB w (xbOf m)) := PT.mo h fun σ H Q ⟨ι, env, st, R, he, hs, ⟨d, hm, hR⟩, q⟩ => ⟨ι, env, st, d, he, hs, hm, fun H' k s => q d st ι H' hR (.of k) s⟩
theorem dxl_of {m : ML} (h : PE X e (tLs w m)) : PE X e (tXL w (xaOf m)) := PE.mo h fun σ H Q ⟨ι, env, st, R, he, hs, ⟨d, hm, hR⟩, q⟩ => ⟨ι, env, st, d, he, hs, hm, fun p vs H' k h1 h2 l r s => q d st ι p vs H' hR (.of k) h1 h2 (nin_of hs h2) l r s⟩
theorem dxi_of {m : MI} (h : PI X tg iter (tI w m)) : PI X tg iter (tXI w (xiOf m)) := PI.mo h fun σ H Q ⟨ι, env, st, R, he, hs, ⟨ds, ro, hm, hR⟩, q⟩ => ⟨ι, env, st, ds, ro, he, hs, hm, fun J H' k s hJ => q ds ro st ι J H' hR (.of k) s hJ⟩
/-! ### operators -/
def xOp (f : F2) (a b : XP) : XP := fun env st R => a env st fun x st1 => b env st1 fun y st2 => ∃ d, f st2 x y = some d ∧ R d st2
theorem xop_read {f : F2} {r : R2} {ma mb : XP} (hr : OpP w f r) (σ : L2.St) (H : Hp) (Q : VK) : tX w (xOp f ma mb) σ H Q → tOp r (tX w ma) (tX w mb) σ H Q := by
  rintro ⟨ι, env, st, R, he, hs, hm, q⟩
  refine ⟨ι, env, st, _, he, hs, hm, fun x st1 ι1 vx H1 hb g1 r1 s1 => ⟨ι1, env, st1, _, he.gr g1, s1, hb, fun y st2 ι2 vy H2 hd g2 r2 s2 => ?_⟩⟩
  obtain ⟨d, hf, hR⟩ := hd
  exact hr ι2 st2 H2 vx vy x y d Q s2 (r1.gr g2) r2 hf fun v H3 k3 r3 s3 => q d st2 ι2 v H3 hR ((g1.trans g2).trans (.of k3)) r3 s3
theorem dx_bin {op : Operator} {f : F2} {r : R2} {ma mb : XP} (ho : OpR X (binaryOp op) r) (hr : OpP w f r) (ha : PE X a (tX w ma)) (hb : PE X b (tX w mb)) : PE X (.BinOp a op b pos) (tX w (xOp f ma mb)) := PE.mo (pe_op ho ha hb) (xop_read hr)
theorem dx_cmp {op : CmpOp} {f : F2} {r : R2} {ma mb : XP} (ho : OpR X (compareOp op) r) (hr : OpP w f r) (ha : PE X a (tX w ma)) (hb : PE X b (tX w mb)) (hm : behindInMarks op b = false := by rfl) : PE X (.Compare a [op] [b] pos) (tX w (xOp f ma mb)) :=
  PE.mo (pe_cmpR ho ha hb hm) (xop_read hr)
section
variable {ma mb : XP}
theorem dx_add (ha : PE X a (tX w ma)) (hb : PE X b (tX w mb)) : PE X (.BinOp a .Add b pos) (tX w (xOp fAdd ma mb)) := dx_bin oAdd qAdd ha hb
theorem dx_gt (ha : PE X a (tX w ma)) (hb : PE X b (tX w mb)) : PE X (.Compare a [.Gt] [b] pos) (tX w (xOp fGt ma mb)) := dx_cmp op_gt (qI0 fun i j d h ι H => by cases h; exact .bl _) ha hb (nomark _)
theorem dx_ix (ha : PE X a (tX w ma)) (hb : PE X b (tX w mb)) (hs : PlainIx b := by intro _ _; rfl) : PE X (.Subscript a b pos) (tX w (xOp fIx ma mb)) := PE.mo (pe_ix ix_seq ha hb hs) (xop_read qIx)
end
/-! ### arguments, displays -/
def xNil : XA := fun env st R => R [] st
def xCons (m : XP) (r : XA) : XA := fun env st R => m env st fun d st1 => r env st1 fun ds st2 => R (d :: ds) st2
theorem dxa_nil : PA X [] (tXA w xNil) := PA.mo pa_nil fun σ H Q ⟨ι, env, st, R, he, hs, hm, q⟩ => q [] st ι [] H hm (Gr.refl H) .nil hs
theorem dxa_cons {m : XP} {r : XA} (ha : PE X e (tX w m)) (hr : PA X es (tXA w r)) (hs : starEach (e :: es) X.env = (false, eval e X.env) :: starEach es X.env := by rfl) : PA X (e :: es) (tXA w (xCons m r)) :=
  PA.mo (pa_cons ha hr hs) fun σ H Q ⟨ι, env, st, R, he, hst, hm, q⟩ => ⟨ι, env, st, _, he, hst, hm, fun d st1 ι1 v H1 h1 g1 r1 s1 => ⟨ι1, env, st1, _, he.gr g1, s1, h1, fun ds st2 ι2 vs H2 h2 g2 r2 s2 => q (d :: ds) st2 ι2 (v :: vs) H2 h2 (g1.trans g2) (.cons (r1.gr g2) r2) s2⟩⟩
def xTup (r : XA) : XP := fun env st R => r env st fun ds st1 => ds.length ≤ 1000 ∧ R (.tup ds) st1
theorem dx_tup {r : XA} {x1 : Nat} (h : PA X es (tXA w r)) : PE X (.Tuple es x1 pos) (tX w (xTup r)) := by
  refine PE.mo (pe_tup h) fun σ H Q ⟨ι, env, st, R, he, hst, hm, q⟩ => ⟨ι, env, st, _, he, hst, hm, fun ds st1 ι1 vs H1 h1 g1 r1 s1 => ⟨by rw [r1.length]; exact small_size h1.1, fun p hp => ?_⟩⟩
  exact q _ st1 ι1 _ _ h1.2 (g1.trans (.of (Kp.new hp))) (.tup upd_same (small_size h1.1) (r1.kp (Kp.new hp))) (s1.new hp (fun _ z => by cases z) (nin_of s1 hp))
def xLst (r : XA) : XA := fun env st R => r env st fun ds st1 => ds.length ≤ 1000 ∧ R ds st1
theorem Gr.fresh {ι ι' : List Addr} {H H' : Hp} (g : Gr ι H ι' H') {st : SS} {w : Ws} (s : SR w ι' st H') {p : Addr} (h : H' p = none) : H p = none := g.kp.fresh (fun z => nin_of s h (g.pre.subset z)) h
theorem dxl_lst {r : XA} (h : PA X es (tXA w r)) : PE X (.List es pos) (tXL w (xLst r)) := by
  refine PE.mo (pe_lst h) fun σ H Q ⟨ι, env, st, R, he, hst, hm, q⟩ => ⟨ι, env, st, _, he, hst, hm, fun ds st1 ι1 vs H1 h1 g1 r1 s1 => ⟨by rw [r1.length]; exact small_size h1.1, fun p hp => ?_⟩⟩
  exact q _ st1 ι1 p vs _ h1.2 (g1.trans (.of (Kp.new hp))) upd_same (g1.fresh s1 hp) (nin_of s1 hp) (small_size h1.1) (r1.kp (Kp.new hp)) (s1.new hp (fun _ z => by cases z) (nin_of s1 hp))
/-! ### tests, choices -/
def xV (m : XP) : XB := fun env st R => m env st fun d st1 => ∃ b, d = .bl b ∧ R b st1
def xIf (c : XB) (a b : XP) : XP := fun env st R => c env st fun x st1 => if x = true then a env st1 R else b env st1 R
variable {ba bb : XB} {rest : List Expr}
theorem dx_if {ma mb : XP} (hc : PT X c (tXB w ba)) (ha : PE X a (tX w ma)) (hb : PE X b (tX w mb)) : PE X (.IfExp c a b pos) (tX w (xIf ba ma mb)) :=
  PE.mo (pe_ifExp hc ha hb) fun σ H Q ⟨ι, env, st, R, he, hs, hm, q⟩ => ⟨ι, env, st, _, he, hs, hm, fun x st1 ι1 H1 h1 g1 s1 => by
    cases x with
    | true => exact iteT ⟨ι1, env, st1, R, he.gr g1, s1, by simpa using h1, fun d st2 ι2 v H2 h2 g2 r2 s2 => q d st2 ι2 v H2 h2 (g1.trans g2) r2 s2⟩
    | false => exact iteF ⟨ι1, env, st1, R, he.gr g1, s1, by simpa using h1, fun d st2 ι2 v H2 h2 g2 r2 s2 => q d st2 ι2 v H2 h2 (g1.trans g2) r2 s2⟩⟩
/-! ### calls -/
abbrev XT := List D → SS → (D → SS → Prop) → Prop
/-- what a def over data promises -/
def spX (w : Ws) (T : XT) : Sp := fun vs H Q _ => ∃ ι st ds R, Reps ι H vs ds ∧ SR w ι st H ∧ T ds st R ∧ ∀ d st' ι' v H', R d st' → Gr ι H ι' H' → Rep ι' H' v d → SR w ι' st' H' → Q v H'
structure DefX (P : Program) (wl : World) (w : Ws) (mg : Str → Option Value) (k : Nat) (x : Str) (T : XT) : Prop where
  ex : ∃ (f : Addr) (fd : FuncData) (ps : List Str), FnOk P wl w.K mg w.base CX0 k f fd ps (spX w T) ∧ mg x = some (.ref f) ∧ PySem.W.keepIn w.K (.ref f) = true ∧ Binds w.K fd ps []
def xCall (T : XT) (r : XA) : XP := fun env st R => r env st fun ds st1 => T ds st1 R
theorem dx_call {k : Nat} {T : XT} {r : XA} (hf : Fit X w) (c : DefX X.prog X.w w.s X.mg k x T) (hr : Room k X.A) (hg : Gl X x) (ha : PA X (e :: es) (tXA w r))
    (hdb : (x == ("__debug__" : Str)) = false := by decide) (he : starEach (e :: es) X.env = (false, eval e X.env) :: starEach es X.env := by rfl) (hpl : (backTo pos (starEach es X.env)).any (·.1) = false := by rfl) :
    PE X (.Call (.Name x p) (e :: es) [] pos) (tX w (xCall T r)) := by
  obtain ⟨f, fd, ps, hF, hm, hk, hb⟩ := c.ex
  rw [← hf.k, ← hf.b] at hF
  rw [← hf.k] at hk hb
  refine PE.mo (pe_call (E := E0) hF hr hg hm hk hb .nil pass0 ha hdb he hpl) fun σ H Q ⟨ι, env, st, R, hen, hst, hmm, q⟩ => ?_
  refine ⟨ι, env, st, _, hen, hst, hmm, fun ds st1 ι1 vs H1 h1 g1 r1 s1 => ?_⟩
  show spX w.s T (vs ++ []) H1 Q E0
  rw [List.append_nil]
  exact ⟨ι1, st1, ds, R, r1, s1, h1, fun d st' ι' v H' h2 g2 r2 s2 => q d st' ι' v H' h2 (g1.trans g2) r2 s2⟩
/-- a def without effects -/
def xF (F : List D → SS → Option D) : XT := fun ds st R => ∃ d, F ds st = some d ∧ R d st
theorem DefP.x {P : Program} {wl : World} {w : Ws} {mg : Str → Option Value} {k : Nat} {x : Str} {F : List D → SS → Option D} (c : DefP P wl w mg k x F) : DefX P wl w mg k x (xF F) := by
  obtain ⟨f, fd, ps, hF, hm, hk, hb⟩ := c.ex
  exact ⟨f, fd, ps, hF.imp fun vs H Q E ⟨ι, st, ds, R, r, s, ⟨d, hd, hR⟩, q⟩ => ⟨ι, st, ds, d, r, s, hd, fun v H' k r' s' => q d st ι v H' hR (.of k) r' s'⟩, hm, hk, hb⟩
/-- from the body's reading to the pure promise: nothing of the store is written, no new place is handed out -/
theorem DefX.toP {P : Program} {wl : World} {w : Ws} {mg : Str → Option Value} {k : Nat} {x : Str} {T : XT} {F : List D → SS → Option D} (c : DefX P wl w mg k x T)
    (h : ∀ ds st d, F ds st = some d → D.loAll st.length ds = true → D.lo st.length d = true ∧ T ds st fun d' st' => d' = d ∧ st'.take st.length = st) : DefP P wl w mg k x F := by
  obtain ⟨f, fd, ps, hF, hm, hk, hb⟩ := c.ex
  refine ⟨f, fd, ps, hF.imp fun vs H Q E ⟨ι, st, ds, d, r, s, hd, q⟩ => ?_, hm, hk, hb⟩
  obtain ⟨hlo, hT⟩ := h ds st d hd (s.len ▸ r.low)
  refine ⟨ι, st, ds, _, r, s, hT, fun d' st' ι' v H' ⟨e1, e2⟩ g r' s' => ?_⟩
  subst e1
  refine q v H' g.kp (r'.cut g.pre (by rw [s.len]; exact hlo)) ⟨s.len, s.nd, fun n a cl h1 h2 => ?_, s'.tabs, s'.tab⟩
  have hn : n < st.length := (List.getElem?_eq_some_iff.mp h2).1
  have h2' : st'[n]? = some cl := by
    rw [← e2, List.getElem?_take, if_pos hn] at h2
    exact h2
  have q1 := s'.cell n a cl (pre_get g.pre h1) h2'
  have q0 := s.cell n a cl h1 h2
  cases cl with
  | lst ds =>
    obtain ⟨vs0, _, _, r0⟩ := q0
    obtain ⟨vs1, e1, l1, r1⟩ := q1
    exact ⟨vs1, e1, l1, r1.cut g.pre r0.low⟩
  | frz ds =>
    obtain ⟨_, vs0, _, _, r0⟩ := q0
    obtain ⟨o1, vs1, e1, l1, r1⟩ := q1
    exact ⟨o1, vs1, e1, l1, r1.cut g.pre r0.low⟩
  | dic ds =>
    obtain ⟨vs0, _, _, r0⟩ := q0
    obtain ⟨vs1, e1, l1, r1⟩ := q1
    exact ⟨vs1, e1, l1, r1.keys, r1.vals.cut g.pre r0.vals.low⟩
  | obj x ds =>
    obtain ⟨_, _, vs0, _, _, r0⟩ := q0
    obtain ⟨C1, dx1, vs1, e1, l1, r1⟩ := q1
    exact ⟨C1, dx1, vs1, e1, l1, r1.keys, r1.vals.cut g.pre r0.vals.low⟩
  | dicN ds =>
    obtain ⟨vs0, _, _, r0⟩ := q0
    obtain ⟨vs1, e1, l1, r1⟩ := q1
    exact ⟨vs1, e1, l1, r1.keys, r1.vals.cut g.pre r0.vals.low⟩
end
end GD

set_option Elab.async false
set_option linter.all false
set_option maxRecDepth 100000
set_option maxHeartbeats 2000000
namespace GD
open PySem PySem.Spec PyProof.Rows L2 GX

/-! ## 7. new lists, their uses; built-ins -/
section
variable {X : Cx} {w : Wd} {pos p : Pos} {e a b c : Expr} {es : List Expr} {tg iter : Expr}
/-- a new list is kept: it goes into the store -/
def xNew (t : XA) : XP := fun env st R => t env st fun ds st1 => R (.ref st1.length) (st1 ++ [.lst ds])
theorem dx_new {t : XA} (h : PE X e (tXL w t)) : PE X e (tX w (xNew t)) :=
  PE.mo h fun σ H Q ⟨ι, env, st, R, he, hs, hm, q⟩ => ⟨ι, env, st, _, he, hs, hm, fun ds st1 ι1 p vs H1 h1 g1 hp hn hi hl r1 s1 =>
    q (.ref st1.length) (st1 ++ [.lst ds]) (ι1 ++ [p]) (.ref p) H1 h1 ⟨g1.pre.trans (List.prefix_append _ _), g1.kp, fun c hc => by
      rcases List.mem_append.mp hc with hc | hc
      · exact g1.new c hc
      · rw [List.mem_singleton.mp hc]; exact .inr hn⟩ (.ref (by rw [← s1.len, List.getElem?_append_right (Nat.le_refl _), Nat.sub_self]; rfl)) (s1.add hp hi hl r1)⟩
/-- tuple(new list) -/
def xTupL (t : XA) : XP := fun env st R => t env st fun ds st1 => R (.tup ds) st1
theorem dx_tupL {t : XA} (hg : Gl X "tuple") (hm : X.mg "tuple" = none) (h : PE X e (tXL w t)) (hs : starEach [e] X.env = (false, eval e X.env) :: starEach [] X.env := by rfl) : PE X (.Call (.Name "tuple" p) [e] [] pos) (tX w (xTupL t)) :=
  PE.mo (pe_callTy call_tuple_of hg hm (by decide +kernel) (pa_cons h pa_nil hs) (he := hs)) fun σ H Q ⟨ι, env, st, R, he, hst, hmm, q⟩ => ⟨ι, env, st, _, he, hst, hmm, fun ds st1 ι1 p vs H1 h1 g1 hp hn hi hl r1 s1 =>
    ⟨p, vs, rfl, .inl ⟨sql_of hp, fun l hl' => q _ st1 ι1 _ _ h1 (g1.trans (.of (Kp.new hl'))) (.tup upd_same hl (r1.kp (Kp.new hl'))) (s1.new hl' (fun _ z => by cases z) (nin_of s1 hl'))⟩⟩⟩
/-- .. without effects -/
def mTupL (r : ML) : MP := fun env st => match r env st with | some ds => some (.tup ds) | none => none
theorem dp_tupL {r : ML} (hg : Gl X "tuple") (hm : X.mg "tuple" = none) (h : PE X e (tLs w r)) (hs : starEach [e] X.env = (false, eval e X.env) :: starEach [] X.env := by rfl) : PE X (.Call (.Name "tuple" p) [e] [] pos) (tP w (mTupL r)) :=
  PE.mo (pe_callTy call_tuple_of hg hm (by decide +kernel) (pa_cons h pa_nil hs) (he := hs)) fun σ H Q ⟨ι, env, st, d, he, hst, hmm, q⟩ => by
    unfold mTupL at hmm
    split at hmm
    · rename_i ds e1
      cases hmm
      exact ⟨ι, env, st, ds, he, hst, e1, fun p vs H1 k1 hp hn hl r1 s1 =>
        ⟨p, vs, rfl, .inl ⟨sql_of hp, fun l hl' => q _ _ (k1.trans (Kp.new hl')) (.tup upd_same hl (r1.kp (Kp.new hl'))) (s1.new hl' (fun _ z => by cases z) (nin_of s1 hl'))⟩⟩⟩
    · cases hmm
/-! ### built-ins of one argument -/
abbrev RC := List V → Hp → VK → Prop
def Op1P (w : Wd) (f : F1) (r : RC) : Prop := ∀ (ι : List Addr) (st : SS) (H : Hp) (x : V) (dx d : D) (Q : VK), SR w.s ι st H → Rep ι H x dx → f st dx = some d → (∀ v H', Kp ι H H' → Rep ι H' v d → SR w.s ι st H' → Q v H') → r [x] H Q
theorem op1_p {f : F1} {r : RC} {m : MP} (hr : Op1P w f r) (σ : L2.St) (H : Hp) (Q : VK) : tP w (mF1 f m) σ H Q → tP w m σ H fun x H1 => r [x] H1 Q := by
  rintro ⟨ι, env, st, d, he, hs, hm, q⟩
  unfold mF1 at hm
  split at hm
  · rename_i dx e1
    exact ⟨ι, env, st, dx, he, hs, e1, fun v H1 k1 r1 s1 => hr ι st H1 v dx d Q s1 r1 hm fun v2 H2 k2 r2 s2 => q v2 H2 (k1.trans k2) r2 s2⟩
  · cases hm
def fInt : F1 := fun _ d => match d with | .int i => some (.int i) | .bl b => some (.int (if b then 1 else 0)) | _ => none
theorem qInt : Op1P w fInt (fun xs H Q => (∃ i, xs = [.int i] ∧ Q (.int i) H) ∨ ∃ k, xs = [.bl k] ∧ Q (.int (if k then 1 else 0)) H) := by
  intro ι st H x dx d Q s rx hf q
  unfold fInt at hf
  split at hf
  · cases hf; cases rx
    exact .inl ⟨_, rfl, q _ H (Kp.refl H) (.int _) s⟩
  · cases hf; cases rx
    exact .inr ⟨_, rfl, q _ H (Kp.refl H) (.int _) s⟩
  · cases hf
theorem dp_intc {m : MP} (hg : Gl X "int") (hm : X.mg "int" = none) (ha : PE X a (tP w m)) (hs : starEach [a] X.env = (false, eval a X.env) :: starEach [] X.env := by rfl) : PE X (.Call (.Name "int" p) [a] [] pos) (tP w (mF1 fInt m)) :=
  PE.mo (pe_callTy call_int1 hg hm (by decide +kernel) (pa_cons ha pa_nil hs) (he := hs)) fun σ H Q h => op1_p qInt σ H Q h
/-- isinstance(x, T), T a built-in type -/
def D.kind (st : SS) : D → Option String
  | .non => some "NoneType"
  | .bl _ => some "bool"
  | .int _ => some "int"
  | .str _ => some "str"
  | .tup _ => some "tuple"
  | .ref n => match st[n]? with
    | some (.lst _) => some "list"
    | some (.frz _) => some "list"
    | _ => none
def fIs (T : String) : F1 := fun st d => match d.kind st with
  | some s => (match kitB s T with | some b => some (.bl b) | none => none)
  | none => none
theorem qIs {K : PySem.W.Frag} {T : String} : ∀ (ι : List Addr) (st : SS) (H : Hp) (x : V) (dx d : D) (Q : VK), SR w.s ι st H → Rep ι H x dx → fIs T st dx = some d → (∀ v H', Kp ι H H' → Rep ι H' v d → SR w.s ι st H' → Q v H') → rIsi K [x, .ty T] H Q := by
  intro ι st H x dx d Q s rx hf q
  unfold fIs at hf
  split at hf
  · rename_i S e1
    split at hf
    · rename_i b e2
      cases hf
      have fin : TyX K H x (.type S) := by
        cases rx with
        | non => cases e1; exact .base .non
        | bl b => cases e1; exact .base (.bl b)
        | int b => cases e1; exact .base (.int b)
        | str b => cases e1; exact .base (.str b)
        | tup h l r => cases e1; exact .base (.tup h)
        | ref hn =>
          simp only [D.kind] at e1
          split at e1
          · rename_i hc
            cases e1
            obtain ⟨vs, h1, _⟩ := s.cell _ _ _ hn hc
            exact .base (.lst h1)
          · rename_i hc
            cases e1
            obtain ⟨o, vs, h1, _⟩ := s.cell _ _ _ hn hc
            exact .base (.frz h1)
          · cases e1
      exact ⟨x, .ty T, .type S, .type T, b, rfl, .ty T, fin, kit_ty e2, q _ H (Kp.refl H) (.bl b) s⟩
    · cases hf
  · cases hf
theorem pe_ty {T : String} {nm : Str} (hg : Gl X nm) (hm : X.mg nm = none) (hv : bootBuiltins nm = some (.type T)) (hn : nm ≠ "__name__" := by decide) (hdb : (nm == ("__debug__" : Str)) = false := by decide) : PE X (.Name nm p) (fun _ H Q => Q (.ty T) H) :=
  ⟨fun pins s σ H Q I h => ld_blt I hg hm hv ⟨.ty T, H, I, rfl, h⟩ hn hdb⟩
end
/-! ### list comprehensions with effects -/
def xGo (t : MT) (b : XB) (m : XP) (env : EV) (st0 : SS) (ro : Option Nat) : List D → SS → (List D → SS → Prop) → Prop
  | [], st, R => Hold st0 ro st ∧ R [] st
  | d :: ds, st, R => Hold st0 ro st ∧ ∃ env1, t d env = some env1 ∧ b env1 st fun x st1 => if x = true then m env1 st1 fun y st2 => xGo t b m env st0 ro ds st2 fun ys st3 => R (y :: ys) st3 else xGo t b m env st0 ro ds st1 R
def xComp (mi : XI) (t : MT) (b : XB) (m : XP) (own : List Nat) : XA := fun env st R => mi env st fun ds ro st1 => xGo t b m (ewipe env own) st1 ro ds st1 R
section
variable {X : Cx} {w : Wd} {pos p : Pos} {tg iter elt c : Expr} {ifs : List Expr}
theorem dxts_nil : PTs X [] (tXB w (xbOf bYes)) := PTs.mo pts_nil fun σ H Q ⟨ι, env, st, R, he, hs, ⟨d, hm, hR⟩, q⟩ => by cases hm; exact q true st ι H hR (.refl H) hs
theorem dxts_one {b : XB} (h : PT X c (tXB w b)) : PTs X [c] (tXB w b) := pts_one h
theorem lcx_read {mi : XI} {t : MT} {b : XB} {m : XP} {own : List Nat} {g : TG} (hfx : ∀ v ∈ own, ∀ p ∈ w.fx, p.1 ≠ v) (hg : GT w own g t) (σ : L2.St) (H : Hp) (Q : VK) :
    tXL w (xComp mi t b m own) σ H Q → tLc (tXI w mi) g (tXB w b) (tX w m) own σ H Q := by
  rintro ⟨ι, env, st, R, he, hs, hm, q⟩
  refine ⟨ι, env, st, _, he, hs, hm, fun ds ro st1 ι1 J H1 hgo1 g1 s1 hJ D hD => ?_⟩
  have hDi : D ∉ ι1 := nin_of s1 hD
  have he1 := he.gr g1
  refine ⟨fun i mm H' => mm = ds.length - i ∧ i ≤ ds.length ∧ ∃ ι2 st2, Gr ι1 H1 ι2 H' ∧ D ∉ ι2 ∧ SR w.s ι2 st2 H' ∧ ∃ acc es1, H' D = some (.lst acc) ∧ acc.length ≤ i ∧ Reps ι2 H' acc es1 ∧ xGo t b m (ewipe env own) st1 ro (ds.drop i) st2 (fun es2 st3 => R (es1 ++ es2) st3),
    ⟨ds.length, rfl, Nat.zero_le _, ι1, st1, .of (Kp.new hD), hDi, s1.new hD (fun _ z => by cases z) hDi, [], [], upd_same, Nat.zero_le _, .nil, hgo1⟩, ?_⟩
  rintro i mm H' ⟨rfl, hi, ι2, st2, g2, hD2, s2, acc, es1, hacc, hal, hr, hgo⟩
  have hH : Hold st1 ro st2 := by
    cases hh : ds.drop i with
    | nil => rw [hh] at hgo; exact hgo.1
    | cons d ds => rw [hh] at hgo; exact hgo.1
  obtain ⟨j1, j2, j3⟩ := hJ.run ι2 st2 H' g2.kp g2.pre hH s2
  have keepD : ∀ {ιa ιb : List Addr} {Ha Hb : Hp}, Gr ιa Ha ιb Hb → D ∉ ιa → (∃ u, Ha D = some (.lst u)) → D ∉ ιb ∧ Hb D = Ha D := fun {ιa ιb Ha Hb} ga hn ⟨u, hu⟩ => ⟨fun hb => (ga.new D hb).elim hn fun z => (by rw [hu] at z; cases z), by rw [hu]; exact ga.kp.keep _ _ hu (fun _ z => by cases z) fun z => absurd z hn⟩
  by_cases hlt : i < ds.length
  · refine .inr ⟨j1 i hlt, fun H'' => i + 1 ≤ ds.length ∧ ∃ ι2 st2, Gr ι1 H1 ι2 H'' ∧ D ∉ ι2 ∧ SR w.s ι2 st2 H'' ∧ ∃ acc es1, H'' D = some (.lst acc) ∧ acc.length ≤ i + 1 ∧ Reps ι2 H'' acc es1 ∧ xGo t b m (ewipe env own) st1 ro (ds.drop (i + 1)) st2 (fun es2 st3 => R (es1 ++ es2) st3), fun H'' hn => ⟨_, by omega, rfl, hn⟩, fun x H2 hy => ?_⟩
    obtain ⟨d, hd, rd, kk, s3⟩ := j2 i x H2 hlt hy
    obtain ⟨d', hd', hdr⟩ := drop_cons' hlt
    rw [hd] at hd'
    cases hd'
    rw [hdr] at hgo
    obtain ⟨_, env1, ht, hb⟩ := hgo
    have k3 : Kp ι2 H' H2 := .of kk
    have g3 : Gr ι2 H' ι2 H2 := .of k3
    refine hg ι2 st2 H2 _ _ x d env1 _ ((he1.gr (g2.trans g3)).wipe own hfx) s3 rd ht fun σ2 he2 hw2 => ⟨hw2.trans (wipe_idem fun _ h => h), ?_⟩
    have hD3 : H2 D = some (.lst acc) := kk _ _ hacc
    refine ⟨ι2, env1, st2, _, he2, s3, hb, fun bv st4 ι4 H4 h4 g4 s4 => ?_⟩
    obtain ⟨hD4, hD4'⟩ := keepD g4 hD2 ⟨_, hD3⟩
    rw [hD3] at hD4'
    cases bv with
    | false =>
      exact iteF ⟨hlt, ι4, st4, (g2.trans g3).trans g4, hD4, s4, acc, es1, hD4', Nat.le_succ_of_le hal, (hr.gr g3).gr g4, by simpa using h4⟩
    | true =>
      refine iteT ⟨ι4, env1, st4, _, he2.gr g4, s4, by simpa using h4, fun y st5 ι5 v H5 h5 g5 r5 s5 => ?_⟩
      obtain ⟨hD5, hD5'⟩ := keepD g5 hD4 ⟨_, hD4'⟩
      rw [hD4'] at hD5'
      have gg := ((g2.trans g3).trans g4).trans g5
      refine ⟨acc, hD5', Nat.lt_of_le_of_lt hal (Nat.lt_of_lt_of_le hlt hJ.len), hlt, ι5, st5, ⟨gg.pre, gg.kp.put hD, gg.new⟩, hD5, s5.put hD5' hD5, acc ++ [v], es1 ++ [y], upd_same, by rw [List.length_append]; simpa using hal, ?_, ?_⟩
      · exact ((((hr.gr g3).gr g4).gr g5).append (.one r5)).put hD5'
      · simpa using h5
  · have e : i = ds.length := by omega
    subst e
    rw [List.drop_length] at hgo
    obtain ⟨_, hR⟩ := hgo
    rw [List.append_nil] at hR
    refine .inl ⟨j3 _ (Nat.le_refl _), q es1 st2 ι2 D acc H' hR (g1.trans g2) hacc (g1.fresh s1 hD) hD2 (by rw [← hr.length]; exact Nat.le_trans hal hJ.len) hr s2⟩
theorem dxl_lc {scope : Scope} {own : List (Str × Nat)} {mi : XI} {t : MT} {b : XB} {m : XP} {g : TG} (hc : X.calm = true) (hN : X.N.Nodup) (hi : PI X tg iter (tXI w mi)) (ok : BlkOk X.N X.env.scope scope own) (ht : GT w (own.map (·.2)) g t)
    (hg : ∀ (s : Shared) (H : Hp) (C : Addr) (cl : List (Str × Addr)) (fp : List Addr), PG (X.blk s H scope (compEnvC scope cl C X.env) fp) tg g) (hb : ∀ (s : Shared) (H : Hp) (C : Addr) (cl : List (Str × Addr)) (fp : List Addr), PTs (X.blk s H scope (compEnvC scope cl C X.env) fp) ifs (tXB w b))
    (he : ∀ (s : Shared) (H : Hp) (C : Addr) (cl : List (Str × Addr)) (fp : List Addr), PE (X.blk s H scope (compEnvC scope cl C X.env) fp) elt (tX w m)) (hs : ∀ x, foldedSetIterable iter X.env x = pure x := by intro _; rfl) (hfx : ∀ v ∈ own.map (·.2), ∀ p ∈ w.fx, p.1 ≠ v := by intro _ _ _ h; cases h) :
    PE X (.ListComp elt [⟨tg, iter, ifs, 0⟩] scope pos) (tXL w (xComp mi t b m (own.map (·.2)))) :=
  PE.mo (pe_lc hc hN hi ok hg hb he hs) (lcx_read hfx ht)
/-! ### what is walked -/
def xRng (m : XP) : XI := fun env st R => m env st fun d st1 => ∃ n : Int, d = .int n ∧ n ≤ 1000000 ∧ -1000000 ≤ n ∧ R (intsD 0 n.toNat) none st1
theorem dxi_rng {e : Expr} {m : XP} (hg : Gl X "range") (hm : X.mg "range" = none) (ha : PE X e (tX w m)) (hs : starEach [e] X.env = [(false, eval e X.env)] := by rfl) : PI X tg (.Call (.Name "range" p) [e] [] pos) (tXI w (xRng m)) := by
  refine PI.mo (pi_range1 hg hm (pa_cons ha pa_nil (by rw [hs]; rfl)) hs) fun σ H R ⟨ι, env, st, R', he, hst, hmm, q⟩ => ⟨ι, env, st, _, he, hst, hmm, fun d st1 ι1 v H1 h1 g1 r1 s1 => ?_⟩
  obtain ⟨n, rfl, h2, h3, h4⟩ := h1
  cases r1
  exact ⟨n, rfl, by omega, by omega, q _ _ st1 ι1 _ H1 h4 g1 s1 (itd_rng (big_size (by omega)))⟩
/-! ### sorted(set(ints)) -/
end
end GD

set_option Elab.async false
set_option linter.all false
set_option maxRecDepth 100000
set_option maxHeartbeats 2000000
namespace GD
open PySem PySem.Spec PyProof.Rows L2 GX

/-! ## 8. statements over data -/
structure DE where
  nx : EV → SS → Prop
  rt : D → SS → Prop
  bk : EV → SS → Prop := fun _ _ => False
  ct : EV → SS → Prop := fun _ _ => False
abbrev XS := DE → EV → SS → Prop
structure EndOk (w : Wd) (ι : List Addr) (H : Hp) (D0 : DE) (E : Ends) : Prop where
  nx : ∀ env st ι' σ H', D0.nx env st → Gr ι H ι' H' → EnvR w ι' env σ H' → SR w.s ι' st H' → E.nx σ H'
  rt : ∀ d st ι' v H', D0.rt d st → Gr ι H ι' H' → Rep ι' H' v d → SR w.s ι' st H' → E.rt v H'
  bk : ∀ env st ι' σ H', D0.bk env st → Gr ι H ι' H' → EnvR w ι' env σ H' → SR w.s ι' st H' → E.bk σ H'
  ct : ∀ env st ι' σ H', D0.ct env st → Gr ι H ι' H' → EnvR w ι' env σ H' → SR w.s ι' st H' → E.ct σ H'
theorem EndOk.gr {w : Wd} {ι ι1 : List Addr} {H H1 : Hp} {D0 : DE} {E : Ends} (e : EndOk w ι H D0 E) (g : Gr ι H ι1 H1) : EndOk w ι1 H1 D0 E :=
  ⟨fun env st ι' σ H' h k r s => e.nx env st ι' σ H' h (g.trans k) r s, fun d st ι' v H' h k r s => e.rt d st ι' v H' h (g.trans k) r s, fun env st ι' σ H' h k r s => e.bk env st ι' σ H' h (g.trans k) r s, fun env st ι' σ H' h k r s => e.ct env st ι' σ H' h (g.trans k) r s⟩
def tS (w : Wd) (t : XS) : TS := fun E σ H => ∃ ι env st D0, EnvR w ι env σ H ∧ SR w.s ι st H ∧ t D0 env st ∧ EndOk w ι H D0 E
theorem PS.mo {X : Cx} {st : Stmt} {t t' : TS} (h : PS X st t) (q : ∀ E σ H, t' E σ H → t E σ H) : PS X st t' := ⟨fun pins s σ H E I h' => h.run pins s σ H E I (q E σ H h')⟩
theorem PSs.mo {X : Cx} {st : List Stmt} {t t' : TS} (h : PSs X st t) (q : ∀ E σ H, t' E σ H → t E σ H) : PSs X st t' := ⟨fun pins s σ H E I h' => h.run pins s σ H E I (q E σ H h')⟩
def sNext : XS := fun D0 env st => D0.nx env st
def sSeq (t u : XS) : XS := fun D0 env st => t { D0 with nx := fun env st => u D0 env st } env st
def sRet (m : XP) : XS := fun D0 env st => m env st D0.rt
def sIf (c : XB) (t u : XS) : XS := fun D0 env st => c env st fun b st1 => if b = true then t D0 env st1 else u D0 env st1
def sAsg (m : XP) (tg : MT) : XS := fun D0 env st => m env st fun d st1 => ∃ env1, tg d env = some env1 ∧ D0.nx env1 st1
def sDrop (m : XP) : XS := fun D0 env st => m env st fun _ st1 => D0.nx env st1
section
variable {X : Cx} {w : Wd} {pos p : Pos} {e a b c o : Expr} {es : List Expr} {tg iter : Expr} {st : Stmt} {rest : List Stmt} {t u : XS}
theorem ds_nil : PSs X [] (tS w sNext) := PSs.mo pss_nil fun E σ H ⟨ι, env, st, D0, he, hs, ht, hE⟩ => hE.nx env st ι σ H ht (.refl H) he hs
theorem ds_cons (h1 : PS X st (tS w t)) (h2 : PSs X rest (tS w u)) : PSs X (st :: rest) (tS w (sSeq t u)) :=
  PSs.mo (pss_cons h1 h2) fun E σ H ⟨ι, env, st, D0, he, hs, ht, hE⟩ => ⟨ι, env, st, _, he, hs, ht, fun env1 st1 ι1 σ1 H1 h g r s => ⟨ι1, env1, st1, D0, r, s, h, hE.gr g⟩, hE.rt, hE.bk, hE.ct⟩
theorem ds_one (h1 : PS X st (tS w t)) : PSs X [st] (tS w t) := pss_one h1
theorem ds_ret {m : XP} (he : PE X e (tX w m)) : PS X (.Return (some e) pos) (tS w (sRet m)) := PS.mo (ps_ret he) fun E σ H ⟨ι, env, st, D0, he, hs, ht, hE⟩ => ⟨ι, env, st, D0.rt, he, hs, ht, hE.rt⟩
theorem ds_if {m : XB} {sa sb : List Stmt} (hc : PT X c (tXB w m)) (ha : PSs X sa (tS w t)) (hb : PSs X sb (tS w u)) : PS X (.If c sa sb pos) (tS w (sIf m t u)) :=
  PS.mo (ps_if hc ha hb) fun E σ H ⟨ι, env, st, D0, he, hs, ht, hE⟩ => ⟨ι, env, st, _, he, hs, ht, fun b st1 ι1 H1 h g s => by
    cases b with
    | true => exact iteT ⟨ι1, env, st1, D0, he.gr g, s, by simpa using h, hE.gr g⟩
    | false => exact iteF ⟨ι1, env, st1, D0, he.gr g, s, by simpa using h, hE.gr g⟩⟩
theorem ds_set {m : XP} {i : Nat} {x : Str} {pos' : Pos} (hN : X.N.Nodup) (hi : X.N[i]? = some x) (hx : Loc X.env.scope x) (he : PE X e (tX w m)) (hs : swapsWith e (some (.Name x pos')) pos.line X.env = pure false := by rfl) (hf : X.fn x = true ∨ X.env.scope.names.lookup x = some .local := by first | exact .inl rfl | exact .inr rfl | assumption) (hfx : ∀ p ∈ w.fx, p.1 ≠ i := by intro _ h; cases h) :
    PS X (.Assign [.Name x pos'] e pos) (tS w (sAsg m (tgN i))) :=
  PS.mo (ps_set hN hi hx he hs hf) fun E σ H ⟨ι, env, st, D0, he, hs, hm, hE⟩ => ⟨ι, env, st, _, he, hs, hm, fun d st1 ι1 v H1 ⟨env1, h1, h2⟩ g1 r1 s1 => by
    cases h1
    exact hE.nx _ st1 ι1 _ H1 h2 g1 ((he.gr g1).set i r1 hfx) s1⟩
theorem ds_drop {m : XP} (he : PE X e (tX w m)) (hs : swapsWith e none pos.line X.env = pure false := by rfl) : PS X (.Expr e pos) (tS w (sDrop m)) :=
  PS.mo (ps_expr he hs) fun E σ H ⟨ι, env, st, D0, he, hs, hm, hE⟩ => ⟨ι, env, st, _, he, hs, hm, fun d st1 ι1 v H1 h g1 r1 s1 => hE.nx env st1 ι1 σ H1 h g1 (he.gr g1) s1⟩
/-- o[i] = e -/
def sSub (mv : XP) (mo mi : MP) : XS := fun D0 env st => mv env st fun d st1 => ∃ n i ds j, mo env st1 = some (.ref n) ∧ mi env st1 = some (.int i) ∧ st1[n]? = some (.lst ds) ∧ ixN ds.length i = some j ∧ D0.nx env (st1.set n (.lst (ds.set j d)))
theorem ds_sub {i : Expr} {mv : XP} {mo mi : MP} {tpos : Pos} (he : PE X e (tX w mv)) (ho : PE X o (tP w mo)) (hi : PE X i (tP w mi)) (hs : swapsWithSole [.Subscript o i tpos] e pos.line X.env = pure false := by rfl) (hw : swappedStores [.Subscript o i tpos] e X.env = pure none := by rfl)
    (h1 : (assignEach [.Subscript o i tpos] X.env).map (·.2) = [assign (.Subscript o i tpos) X.env] := by rfl)
    (ha : ∀ v, assign (.Subscript o i tpos) X.env v = (do
      let ov ← holding [v] (eval o X.env)
      let iv ← holding [v, ov] (eval i X.env)
      standAt tpos
      holding [v, ov, iv] (setItem ov iv v)
      release [v, ov, iv] []) := by intro _; rfl) : PS X (.Assign [.Subscript o i tpos] e pos) (tS w (sSub mv mo mi)) := by
  refine PS.mo (ps_asg he (pg_sub ho hi set_list ha) hs hw h1) fun E σ H ⟨ι, env, st, D0, he, hs, hm, hE⟩ => ⟨ι, env, st, _, he, hs, hm, fun d st1 ι1 v H1 h g1 r1 s1 => ?_⟩
  obtain ⟨n, i, ds, j, e1, e2, e3, e4, hn⟩ := h
  refine ⟨ι1, env, st1, _, he.gr g1, s1, e1, fun vo H2 k2 r2 s2 => ⟨ι1, env, st1, _, (he.gr g1).kp k2, s2, e2, fun vi H3 k3 r3 s3 => ?_⟩⟩
  cases r2 with
  | ref hn2 =>
    cases r3
    obtain ⟨vs, hv, hl, rs⟩ := s3.cell n _ _ hn2 e3
    have hmem := List.mem_of_getElem? hn2
    have kw := Kp.wr (o := .lst (vs.set j v)) hv hmem
    refine ⟨_, vs, i, j, rfl, rfl, hv, by rw [rs.length]; exact e4, ?_⟩
    have gg : Gr ι1 H1 ι1 (upd H3 _ (.lst (vs.set j v))) := .of ((k2.trans k3).trans kw)
    exact hE.nx env _ ι1 σ _ hn (g1.trans gg) ((he.gr g1).gr gg) (s3.wr hn2 ⟨vs, hv⟩ (by rw [List.length_set]; exact hl) (Reps.set (((r1.kp k2).kp k3)) j rs))
def sAppP (mo : MP) (mv : XP) : XS := fun D0 env st => ∃ n ds0, mo env st = some (.ref n) ∧ st[n]? = some (.lst ds0) ∧ mv env st fun d st1 => ∃ ds, st1[n]? = some (.lst ds) ∧ ds.length < 1000000 ∧ D0.nx env (st1.set n (.lst (ds ++ [d])))
theorem ds_app {mo : MP} {mv : XP} {apos cpos : Pos} (ho : PE X o (tP w mo)) (he : PE X e (tX w mv))
    (hbase : attributeBase o "append" X.env (eval o X.env) = eval o X.env := by rfl)
    (hfew : ((backTo cpos (starEach (e :: []) X.env)).all (fun x => !x.1) && (backToKw cpos (keywordEach [] X.env)).all (fun x => x.1.isSome)
      && decide ((e :: ([] : List Expr)).length + ([] : List Keyword).length + (if ([] : List Keyword).isEmpty then 0 else 1) < 30)) = true := by rfl)
    (hline : (apos.endLine == cpos.line) = true := by rfl) (hs : starEach (e :: []) X.env = (false, eval e X.env) :: starEach [] X.env := by rfl) (hplain : (backTo cpos (starEach [] X.env)).any (·.1) = false := by rfl)
    (hsw : swapsWith (.Call (.Attribute o "append" apos) [e] [] cpos) none pos.line X.env = pure false := by rfl) : PS X (.Expr (.Call (.Attribute o "append" apos) [e] [] cpos) pos) (tS w (sAppP mo mv)) := by
  refine PS.mo (ps_expr (pe_bm PySem.F.plainAttrs_list PySem.F.slot_list_append PySem.F.type_list_append mt_append ho (pa_cons he pa_nil hs) hbase hfew hline hs hplain) hsw) fun E σ H ⟨ι, env, st, D0, hen, hst, ⟨n, ds0, h1, h0, h2⟩, hE⟩ => ?_
  refine ⟨ι, env, st, _, hen, hst, h1, fun vo H1 k1 r1 s1 => ?_⟩
  cases r1 with
  | ref hn =>
    rename_i pa
    obtain ⟨vs0, hv0, _⟩ := s1.cell n pa _ hn h0
    refine ⟨.inl ⟨rfl, vs0, SqL.of hv0⟩, ?_⟩
    refine ⟨ι, env, st, _, hen.kp k1, s1, h2, fun d st1 ι1 v H2 ⟨ds, h3, h4, h5⟩ g2 r2 s2 => ?_⟩
    have hn2 := pre_get g2.pre hn
    obtain ⟨vs, hv, hl, rs⟩ := s2.cell n _ _ hn2 h3
    have kw := Kp.wr (o := .lst (vs ++ [v])) hv (List.mem_of_getElem? hn2)
    have hlen : ds.length < sizeLine := Nat.lt_of_lt_of_le h4 (by decide)
    refine ⟨_, vs, v, rfl, rfl, hv, by rw [rs.length]; exact hlen, ?_⟩
    have gg : Gr ι H ι1 (upd H2 _ (.lst (vs ++ [v]))) := ((Gr.of k1).trans g2).trans (.of kw)
    exact hE.nx env _ ι1 σ _ h5 gg (hen.gr gg) (s2.wr hn2 ⟨vs, hv⟩ (by rw [List.length_append]; exact hlen) (rs.append (.one r2)))
/-! ### loops -/
def sForGo (t : MT) (body : XS) (st0 : SS) (ro : Option Nat) (D0 : DE) : List D → EV → SS → Prop
  | [], env, st => Hold st0 ro st ∧ D0.nx env st
  | d :: ds, env, st => Hold st0 ro st ∧ ∃ env1, t d env = some env1 ∧ body { nx := fun env st => sForGo t body st0 ro D0 ds env st, ct := fun env st => sForGo t body st0 ro D0 ds env st, bk := D0.nx, rt := D0.rt } env1 st
def sFor (mi : XI) (t : MT) (body : XS) : XS := fun D0 env st => mi env st fun ds ro st1 => sForGo t body st1 ro D0 ds env st1
theorem ds_for {mi : XI} {tgt : MT} {g : TG} {own : List Nat} {body : List Stmt} (hp : PassesOwn (model X.prog X.w) X.A X.env X.xe) (hc : X.calm = true) (ht : GT w own g tgt) (hi : PI X tg iter (tXI w mi)) (hg : PG X tg g) (hb : PSs X body (tS w t))
    (hs : ∀ x, foldedSetIterable iter X.env x = pure x := by intro _; rfl) : PS X (.For tg iter body [] pos) (tS w (sFor mi tgt t)) := by
  refine PS.mo (ps_for hp hc hi hg hb hs) fun E σ H ⟨ι, env, st, D0, he, hs, hm, hE⟩ => ⟨ι, env, st, _, he, hs, hm, fun ds ro st1 ι1 J H1 hgo1 g1 s1 hJ => ?_⟩
  refine ⟨fun i m σ' H' => m = ds.length - i ∧ i ≤ ds.length ∧ ∃ ι2 env2 st2, Gr ι1 H1 ι2 H' ∧ EnvR w ι2 env2 σ' H' ∧ SR w.s ι2 st2 H' ∧ sForGo tgt t st1 ro D0 (ds.drop i) env2 st2, ⟨ds.length, rfl, Nat.zero_le _, ι1, env, st1, .refl _, he.gr g1, s1, hgo1⟩, ?_⟩
  rintro i m σ' H' ⟨rfl, hi, ι2, env2, st2, g2, he2, s2, hgo⟩
  have hH : Hold st1 ro st2 := by
    cases hh : ds.drop i with
    | nil => rw [hh] at hgo; exact hgo.1
    | cons d ds => rw [hh] at hgo; exact hgo.1
  obtain ⟨j1, j2, j3⟩ := hJ.run ι2 st2 H' g2.kp g2.pre hH s2
  by_cases hlt : i < ds.length
  · refine .inr ⟨j1 i hlt, fun σ'' H'' => i + 1 ≤ ds.length ∧ ∃ ι2 env2 st2, Gr ι1 H1 ι2 H'' ∧ EnvR w ι2 env2 σ'' H'' ∧ SR w.s ι2 st2 H'' ∧ sForGo tgt t st1 ro D0 (ds.drop (i + 1)) env2 st2, fun σ'' H'' hn => ⟨_, by omega, rfl, hn⟩, fun x H2 hy => ?_⟩
    obtain ⟨d, hd, rd, kk, s3⟩ := j2 i x H2 hlt hy
    obtain ⟨d', hd', hdr⟩ := drop_cons' hlt
    rw [hd] at hd'
    cases hd'
    rw [hdr] at hgo
    obtain ⟨_, env1, ht1, hb1⟩ := hgo
    have g3 : Gr ι2 H' ι2 H2 := .of (.of kk)
    refine ht ι2 st2 H2 σ' env2 x d env1 _ (he2.gr g3) s3 rd ht1 fun σ3 he3 _ => ⟨ι2, env1, st2, _, he3, s3, hb1, ?_⟩
    have g23 := g2.trans g3
    have hE3 := hE.gr (g1.trans g23)
    exact ⟨fun env4 st4 ι4 σ4 H4 h g r s => ⟨hlt, ι4, env4, st4, g23.trans g, r, s, h⟩, hE3.rt, hE3.nx, fun env4 st4 ι4 σ4 H4 h g r s => ⟨hlt, ι4, env4, st4, g23.trans g, r, s, h⟩⟩
  · have e : i = ds.length := by omega
    subst e
    rw [List.drop_length] at hgo
    exact .inl ⟨j3 _ (Nat.le_refl _), hE.nx env2 st2 ι2 σ' H' hgo.2 (g1.trans g2) he2 s2⟩
end
/-! ### defs -/
def startE (N : List Str) (ds : List D) : EV := ds.map some ++ List.replicate (N.length - ds.length) none
theorem start_env {w : Wd} {ι : List Addr} {H : Hp} {vs : List V} {ds : List D} (r : Reps ι H vs ds) (N : List Str) (c : Cod w H) (h1 : ∀ p ∈ w.fx, (L2.start N vs)[p.1]? = some (some p.2) := by intro _ h; cases h) (h2 : ∀ p ∈ w.sq, Scr w.s.K H p.1 p.2 := by intro _ h; cases h) (h3 : ∀ p ∈ w.lm, LamR ι H p.1 p.2.1 p.2.2 := by intro _ h; cases h) : EnvR w ι (startE N ds) (L2.start N vs) H := by
  have hl := r.length
  refine ⟨by unfold startE L2.start; simp [hl], fun i d h => ?_, c, h1, h2, h3⟩
  unfold startE at h
  unfold L2.start
  by_cases hi : i < ds.length
  · rw [List.getElem?_append_left (by simpa using hi)] at h
    rw [List.getElem?_append_left (by simpa [hl] using hi)]
    rw [List.getElem?_map] at h
    cases hd : ds[i]? with
    | none => rw [hd] at h; cases h
    | some d' =>
      rw [hd] at h
      simp at h
      subst h
      obtain ⟨v, h1, h2⟩ := r.get' hd
      exact ⟨v, by rw [List.getElem?_map, h1]; rfl, h2⟩
  · rw [List.getElem?_append_right (by simpa using Nat.le_of_not_lt hi)] at h
    rw [List.getElem?_replicate] at h
    split at h <;> cases h
/-- a def's own promise: its body, read over data -/
def fnT (N : List Str) (n : Nat) (t : XS) : XT := fun ds st R => ds.length = n ∧ t { nx := fun _ st' => R .non st', rt := R } (startE N ds) st
/-- a def of the text whose code object stands at c -/
structure FunC (K : PySem.W.Frag) (x : Str) (st : Stmt) (f c : Addr) (fd : FuncData) : Prop where
  ex : ∃ (oc : Value) (od : Option Addr) (kV doc pm : Value) (an : Option Addr) (ct : Value) (osl : Array (Option Value)),
    fd = PySem.W.fnOf x x (defArgs st) (defBody st) (defScope st) .none kV doc pm an (.ref c) ct ∧ K.lookup f = some ⟨oc, od, .func fd, osl⟩ ∧ PySem.W.codeIn K (.ref c) x = true
/-- .. that may be called by its name, and whose table is tracked -/
structure DefC (w : Ws) (mg : Str → Option Value) (x : Str) (st : Stmt) : Prop where
  ex : ∃ (f c P : Addr) (fd : FuncData), FunC w.K x st f c fd ∧ mg x = some (.ref f) ∧ PySem.W.keepIn w.K (.ref f) = true ∧ (c, P) ∈ w.tabs ∧ PySem.W.CodeHd w.base c P
theorem DefC.x {P : Program} {wl : World} {w : Ws} {mg : Str → Option Value} {x : Str} {st : Stmt} {N ps : List Str} {k : Nat} {t : XS} (F : DefC w mg x st) (S : FnScope N ps (defScope st))
    (hb : ∀ (kV doc pm : Value) (an : Option Addr) (cdv ct : Value) (us : List Value), us.length = ps.length → bindArgs (PySem.W.fnOf x x (defArgs st) (defBody st) (defScope st) .none kV doc pm an cdv ct) ⟨us, []⟩ = pure (ps.zip us))
    (hbody : ∀ (f c : Addr) (A : Around) (outer : List Env) (s : Shared) (H : Hp) (E : XK), Room k (A.deeper (envOfC x (defScope st) s.heap.objs.size f (.ref c))) → Fit (cxOf CX0 P wl w.K mg w.base N x (defScope st) f (.ref c) A outer s H E).nox ⟨w, c, [], [], [], true⟩ →
      PSs (cxOf CX0 P wl w.K mg w.base N x (defScope st) f (.ref c) A outer s H E).nox (defBody st) (tS ⟨w, c, [], [], [], true⟩ t)) : DefX P wl w mg (k + 1) x (fnT N ps.length t) := by
  obtain ⟨f, c, Pt, fd, ⟨oc, od, kV, doc, pm, an, ct, osl, rfl, lk, hcd⟩, hm, hk, ht, hh⟩ := F.ex
  refine ⟨f, _, ps, fn_of lk hcd S (fun vs H Q E ⟨ι, st, ds, R, r, s, h, q⟩ => by rw [r.length]; exact h.1) fun A outer s H vs Q E hr ⟨ι, st, ds, R, r, s', h, q⟩ => ⟨_, (hbody f c A outer s H E hr ⟨rfl, rfl, rfl⟩).nox, ?_⟩, hm, hk, .all (hb kV doc pm an (.ref c) ct)⟩
  refine ⟨ι, startE N ds, st, _, start_env r N (fun _ => ⟨Pt, .inl hh, s'.tab _ ht⟩), s', h.2, fun env st' ι' σ H' h g r s => q .non st' ι' .non H' h g .non s, fun d st' ι' v H' h g r s => q d st' ι' v H' h g r s, fun _ _ _ _ _ h _ _ _ => h.elim, fun _ _ _ _ _ h _ _ _ => h.elim⟩
end GD

set_option Elab.async false
set_option linter.all false
set_option maxRecDepth 100000
set_option maxHeartbeats 2000000
namespace GD
open PySem PySem.Spec PyProof.Rows L2 GX

/-! ## 9. defs that take the script; isinstance; the end -/
abbrev XTS := List Int → List D → SS → (D → SS → Prop) → Prop
def spS (w : Ws) (T : XTS) : Sp := fun vs H Q _ => ∃ ι st a ns us ds R, vs = .ref a :: us ∧ Scr w.K H a ns ∧ Reps ι H us ds ∧ SR w ι st H ∧ T ns ds st R ∧ ∀ d st' ι' v H', R d st' → Gr ι H ι' H' → Rep ι' H' v d → SR w ι' st' H' → Q v H'
structure DefS (P : Program) (wl : World) (w : Ws) (mg : Str → Option Value) (k : Nat) (x : Str) (T : XTS) : Prop where
  ex : ∃ (f : Addr) (fd : FuncData) (ps : List Str), FnOk P wl w.K mg w.base CX0 k f fd ps (spS w T) ∧ mg x = some (.ref f) ∧ PySem.W.keepIn w.K (.ref f) = true ∧ Binds w.K fd ps []
theorem DefS.imp {P : Program} {wl : World} {w : Ws} {mg : Str → Option Value} {k : Nat} {x : Str} {T T' : XTS} (c : DefS P wl w mg k x T) (h : ∀ ns ds st R, T' ns ds st R → T ns ds st R) : DefS P wl w mg k x T' := by
  obtain ⟨f, fd, ps, hF, r⟩ := c.ex
  exact ⟨f, fd, ps, hF.imp fun vs H Q E ⟨ι, st, a, ns, us, ds, R, e, hs, r, s, ht, q⟩ => ⟨ι, st, a, ns, us, ds, R, e, hs, r, s, h _ _ _ _ ht, q⟩, r⟩
theorem DefX.imp {P : Program} {wl : World} {w : Ws} {mg : Str → Option Value} {k : Nat} {x : Str} {T T' : XT} (c : DefX P wl w mg k x T) (h : ∀ ds st R, T' ds st R → T ds st R) : DefX P wl w mg k x T' := by
  obtain ⟨f, fd, ps, hF, r⟩ := c.ex
  exact ⟨f, fd, ps, hF.imp fun vs H Q E ⟨ι, st, ds, R, r, s, ht, q⟩ => ⟨ι, st, ds, R, r, s, h _ _ _ ht, q⟩, r⟩
theorem DefX.mono {P : Program} {wl : World} {w : Ws} {mg : Str → Option Value} {j k : Nat} {x : Str} {T : XT} (c : DefX P wl w mg j x T) (h : j ≤ k) : DefX P wl w mg k x T := by
  obtain ⟨f, fd, ps, hF, r⟩ := c.ex
  exact ⟨f, fd, ps, hF.mono h, r⟩
theorem DefP.mono {P : Program} {wl : World} {w : Ws} {mg : Str → Option Value} {j k : Nat} {x : Str} {F : List D → SS → Option D} (c : DefP P wl w mg j x F) (h : j ≤ k) : DefP P wl w mg k x F := by
  obtain ⟨f, fd, ps, hF, r⟩ := c.ex
  exact ⟨f, fd, ps, hF.mono h, r⟩
theorem DefS.mono {P : Program} {wl : World} {w : Ws} {mg : Str → Option Value} {j k : Nat} {x : Str} {T : XTS} (c : DefS P wl w mg j x T) (h : j ≤ k) : DefS P wl w mg k x T := by
  obtain ⟨f, fd, ps, hF, r⟩ := c.ex
  exact ⟨f, fd, ps, hF.mono h, r⟩
def startS (N : List Str) (ds : List D) : EV := none :: (ds.map some ++ List.replicate (N.length - (ds.length + 1)) none)
def fnS (N : List Str) (n : Nat) (t : List Int → XS) : XTS := fun ns ds st R => ds.length + 1 = n ∧ t ns { nx := fun _ st' => R .non st', rt := R } (startS N ds) st
abbrev WdS (w : Ws) (c a : Addr) (ns : List Int) : Wd := ⟨w, c, [(0, .ref a)], [(a, ns)], [], true⟩
theorem DefC.s {P : Program} {wl : World} {w : Ws} {mg : Str → Option Value} {x : Str} {st : Stmt} {N ps : List Str} {k : Nat} {t : List Int → XS} (F : DefC w mg x st) (S : FnScope N ps (defScope st))
    (hb : ∀ (kV doc pm : Value) (an : Option Addr) (cdv ct : Value) (us : List Value), us.length = ps.length → bindArgs (PySem.W.fnOf x x (defArgs st) (defBody st) (defScope st) .none kV doc pm an cdv ct) ⟨us, []⟩ = pure (ps.zip us))
    (hbody : ∀ (f c a : Addr) (ns : List Int) (A : Around) (outer : List Env) (s : Shared) (H : Hp) (E : XK), Room k (A.deeper (envOfC x (defScope st) s.heap.objs.size f (.ref c))) → Fit (cxOf CX0 P wl w.K mg w.base N x (defScope st) f (.ref c) A outer s H E).nox (WdS w c a ns) →
      PSs (cxOf CX0 P wl w.K mg w.base N x (defScope st) f (.ref c) A outer s H E).nox (defBody st) (tS (WdS w c a ns) (t ns))) : DefS P wl w mg (k + 1) x (fnS N ps.length t) := by
  obtain ⟨f, c, Pt, fd, ⟨oc, od, kV, doc, pm, an, ct, osl, rfl, lk, hcd⟩, hm, hk, ht, hh⟩ := F.ex
  refine ⟨f, _, ps, fn_of lk hcd S (fun vs H Q E ⟨ι, st, a, ns, us, ds, R, e, _, r, s, h, q⟩ => by subst e; rw [List.length_cons, r.length]; exact h.1) fun A outer s H vs Q E hr ⟨ι, st, a, ns, us, ds, R, e, hsc, r, s', h, q⟩ => ⟨_, (hbody f c a ns A outer s H E hr ⟨rfl, rfl, rfl⟩).nox, ?_⟩, hm, hk, .all (hb kV doc pm an (.ref c) ct)⟩
  subst e
  have hl := r.length
  refine ⟨ι, startS N ds, st, _, ⟨?_, ?_, fun _ => ⟨Pt, .inl hh, s'.tab _ ht⟩, ?_, ?_, fun _ z => by cases z⟩, s', h.2, fun env st' ι' σ H' h g r s => q .non st' ι' .non H' h g .non s, fun d st' ι' v H' h g r s => q d st' ι' v H' h g r s, fun _ _ _ _ _ h _ _ _ => h.elim, fun _ _ _ _ _ h _ _ _ => h.elim⟩
  · unfold startS L2.start
    simp [hl]
  · intro i d hd
    unfold startS at hd
    unfold L2.start
    cases i with
    | zero => simp at hd
    | succ i =>
      simp only [List.getElem?_cons_succ] at hd
      simp only [List.map_cons, List.cons_append, List.getElem?_cons_succ]
      by_cases hi : i < ds.length
      · rw [List.getElem?_append_left (by simpa using hi)] at hd
        rw [List.getElem?_append_left (by simpa [hl] using hi)]
        rw [List.getElem?_map] at hd
        cases hd' : ds[i]? with
        | none => rw [hd'] at hd; cases hd
        | some d' =>
          rw [hd'] at hd
          simp at hd
          subst hd
          obtain ⟨v, h1, h2⟩ := r.get' hd'
          exact ⟨v, by rw [List.getElem?_map, h1]; rfl, h2⟩
      · rw [List.getElem?_append_right (by simpa using Nat.le_of_not_lt hi)] at hd
        rw [List.getElem?_replicate] at hd
        split at hd <;> cases hd
  · intro p hp
    rw [List.mem_singleton.mp hp]
    rfl
  · intro p hp
    rw [List.mem_singleton.mp hp]
    exact hsc
section
variable {X : Cx} {w : Ws} {c a : Addr} {ns : List Int} {pos p p1 p2 : Pos} {e e1 : Expr} {es : List Expr} {x y : Str}
/-- the script itself -/
theorem pe_scr (hN : X.N[0]? = some y := by rfl) (hv : Vis X.env.scope y := by first | exact Or.inl rfl | exact Or.inr (Or.inl rfl) | exact Or.inr (Or.inr rfl)) (hd : (y == ("__debug__" : Str)) = false := by decide)
    (hcd : (y == ("__classdict__" : Str)) = false := by decide) : PE X (.Name y pos) (fun σ H Q => ∃ ι env, EnvR (WdS w c a ns) ι env σ H ∧ Q (.ref a) H) :=
  PE.mo (pe_var hN hv hd hcd) fun σ H Q ⟨ι, env, he, q⟩ => ⟨.ref a, he.fx (0, .ref a) (List.mem_singleton.mpr rfl), q⟩
theorem scr_at {ι : List Addr} {env : EV} {σ : L2.St} {H : Hp} (he : EnvR (WdS w c a ns) ι env σ H) : Scr w.K H a ns := he.sq (a, ns) (List.mem_singleton.mpr rfl)
def mLenS (ns : List Int) : MP := fun _ _ => some (.int ns.length)
theorem dp_lenS (hf : Fit X (WdS w c a ns)) (hg : Gl X "len") (hm : X.mg "len" = none) (hp : PE X (.Name y p1) (fun σ H Q => ∃ ι env, EnvR (WdS w c a ns) ι env σ H ∧ Q (.ref a) H)) (hs : starEach [.Name y p1] X.env = (false, eval (.Name y p1) X.env) :: starEach [] X.env := by rfl) :
    PE X (.Call (.Name "len" p) [.Name y p1] [] pos) (tP (WdS w c a ns) (mLenS ns)) :=
  PE.mo (pe_callB call_len_seq hg hm PySem.boot_len (pa_cons hp pa_nil hs) (he := hs)) fun σ H Q ⟨ι, env, st, d, he, hst, hmm, q⟩ => by
    cases hmm
    refine ⟨ι, env, he, a, ns.map V.int, rfl, .inl ?_, by rw [List.length_map]; exact q _ H (Kp.refl H) (.int _) hst⟩
    rw [hf.k]
    exact (scr_at he).sql
def mIxS (ns : List Int) (m : MP) : MP := fun env st => match m env st with | some (.int i) => (match atI ns i with | some k => some (.int k) | none => none) | _ => none
theorem atI_mapI {ns : List Int} {i k : Int} (h : atI ns i = some k) : atI (ns.map V.int) i = some (.int k) := by
  unfold atI at h ⊢
  rw [List.length_map]
  cases hi : ixN ns.length i with
  | none => rw [hi] at h; cases h
  | some j =>
    rw [hi] at h
    have h : ns[j]? = some k := h
    show (ns.map V.int)[j]? = _
    rw [List.getElem?_map, h]
    rfl
theorem dp_ixS {m : MP} (hf : Fit X (WdS w c a ns)) (hp : PE X (.Name y p1) (fun σ H Q => ∃ ι env, EnvR (WdS w c a ns) ι env σ H ∧ Q (.ref a) H)) (hb : PE X e (tP (WdS w c a ns) m)) (hs : PlainIx e := by intro _ _; rfl) :
    PE X (.Subscript (.Name y p1) e pos) (tP (WdS w c a ns) (mIxS ns m)) :=
  PE.mo (pe_ix ix_seq hp hb hs) fun σ H Q ⟨ι, env, st, d, he, hst, hm, q⟩ => by
    unfold mIxS at hm
    split at hm
    · rename_i i e1
      split at hm
      · rename_i k e2
        cases hm
        refine ⟨ι, env, he, ι, env, st, .int i, he, hst, e1, fun v H1 k1 r1 s1 => ?_⟩
        cases r1
        refine .inl ⟨a, _, i, .int k, rfl, rfl, ?_, atI_mapI e2, q _ H1 k1 (.int _) s1⟩
        rw [hf.k]
        exact ((scr_at he).kp k1).sql
      · cases hm
    · cases hm
def xCallS (T : XTS) (ns : List Int) (r : XA) : XP := fun env st R => r env st fun ds st1 => T ns ds st1 R
theorem dx_callS {k : Nat} {T : XTS} {r : XA} (hf : Fit X (WdS w c a ns)) (cc : DefS X.prog X.w w X.mg k x T) (hr : Room k X.A) (hg : Gl X x) (hp : PE X (.Name y p1) (fun σ H Q => ∃ ι env, EnvR (WdS w c a ns) ι env σ H ∧ Q (.ref a) H)) (ha : PA X es (tXA (WdS w c a ns) r))
    (hdb : (x == ("__debug__" : Str)) = false := by decide) (he : starEach (.Name y p1 :: es) X.env = (false, eval (.Name y p1) X.env) :: starEach es X.env := by rfl) (hpl : (backTo pos (starEach es X.env)).any (·.1) = false := by rfl) :
    PE X (.Call (.Name x p) (.Name y p1 :: es) [] pos) (tX (WdS w c a ns) (xCallS T ns r)) := by
  obtain ⟨f, fd, ps, hF, hm, hk, hb⟩ := cc.ex
  have hK : X.K = w.K := hf.k
  have hB : X.base = w.base := hf.b
  have hF' := hF
  rw [← hB] at hF'
  have hF2 : FnOk X.prog X.w X.K X.mg X.base CX0 k f fd ps (spS w T) := by rw [hK]; exact hF'
  rw [← hK] at hk hb
  refine PE.mo (pe_call (E := E0) hF2 hr hg hm hk hb .nil pass0 (pa_cons hp ha he) hdb he hpl) fun σ H Q ⟨ι, env, st, R, hen, hst, hmm, q⟩ => ?_
  refine ⟨ι, env, hen, ι, env, st, _, hen, hst, hmm, fun ds st1 ι1 vs H1 h1 g1 r1 s1 => ?_⟩
  show spS w T (.ref a :: vs ++ []) H1 Q E0
  rw [List.append_nil]
  exact ⟨ι1, st1, a, ns, vs, ds, R, rfl, (scr_at hen).kp g1.kp, r1, s1, h1, fun d st' ι' v H' h2 g2 r2 s2 => q d st' ι' v H' h2 (g1.trans g2) r2 s2⟩
end
/-! ### isinstance -/
section
variable {X : Cx} {w : Wd} {pos p p2 : Pos} {e : Expr} {m : MP} {nm : Str} {T : String}
theorem dp_isi (hg : Gl X "isinstance") (hm : X.mg "isinstance" = none) (hg2 : Gl X nm) (hm2 : X.mg nm = none) (hv : bootBuiltins nm = some (.type T)) (ha : PE X e (tP w m)) (hn : nm ≠ "__name__" := by decide) (hdb : (nm == ("__debug__" : Str)) = false := by decide)
    (hs : starEach [e, .Name nm p2] X.env = (false, eval e X.env) :: starEach [.Name nm p2] X.env := by rfl) (hs2 : starEach [.Name nm p2] X.env = (false, eval (.Name nm p2) X.env) :: starEach [] X.env := by rfl) (hpl : (backTo pos (starEach [.Name nm p2] X.env)).any (·.1) = false := by rfl) :
    PE X (.Call (.Name "isinstance" p) [e, .Name nm p2] [] pos) (tP w (mF1 (fIs T) m)) :=
  PE.mo (pe_callB call_isi hg hm (by decide +kernel) (pa_cons ha (pa_cons (pe_ty (p := p2) hg2 hm2 hv hn hdb) pa_nil hs2) hs) (he := hs) (hpl := hpl)) fun σ H Q ⟨ι, env, st, d, he, hst, hmm, q⟩ => by
    unfold mF1 at hmm
    split at hmm
    · rename_i dx e1
      exact ⟨ι, env, st, dx, he, hst, e1, fun v H1 k1 r1 s1 => qIs ι st H1 v dx d Q s1 r1 hmm fun v2 H2 k2 r2 s2 => q v2 H2 (k1.trans k2) r2 s2⟩
    · cases hmm
end
/-! ### the end of a law -/
/-- what the machine has laid of each def: its code object, and a table that is empty -/
def Laid (q : Program) (mg : Str → Option Value) (h : Heap) : Prop := ∀ d ∈ recsOf q, ∃ (a : Addr) (o : Obj) (fd : FuncData) (c P : Addr), mg d.name = some (.ref a) ∧ h.get? a = some o ∧ o.data = .func fd ∧ fd.code = .ref c ∧ PySem.W.CodeHd h c P ∧ h.get? P = some { cls := .none, data := .fields #[] }
/-- the object of a table -/
def tblO : Obj := { cls := .none, data := .fields #[] }
/-- a def's promise at one place of the calls -/
structure FnAt (A : Around) (P : Program) (w : World) (K : PySem.W.Frag) (mg : Str → Option Value) (base : Heap) (k : Nat) (f : Addr) (fd : FuncData) (ps : List Str) (sp : Sp) : Prop where
  len : ∀ vs H Q E, sp vs H Q E → vs.length = ps.length
  run : ∀ (outer : List Env) (s : Shared) (H : Hp) (args : Args) (us : List Value) (vs : List V) (Q : VK) (E : XK), Room k A → Env0 P w K mg base A outer s H → BindsTo s fd args (ps.zip us) → Vals vs us → sp vs H Q E →
    codeAny (model P w) A (.call (.ref f) args) (CR CX0 outer P w H s Q E) s
theorem fnAt_of {A : Around} {P : Program} {w : World} {K : PySem.W.Frag} {mg : Str → Option Value} {base : Heap} {k : Nat} {f : Addr} {fd : FuncData} {ps : List Str} {sp : Sp} (F : FnOk P w K mg base CX0 k f fd ps sp) : FnAt A P w K mg base k f fd ps sp := ⟨F.len, F.run A⟩
theorem law_callG {P : Program} {w : World} {K : PySem.W.Frag} {mg mb : Str → Option Value} {k : Nat} {fa a : Addr} {cs : List (Addr × Addr)} {sp : Sp} {s₁ : Shared} {vs : List Value} {ns : List Int}
    (KX : K.In s₁.heap) (hns : s₁.heap.Ns mainGlobals mg) (hb : s₁.heap.Ns builtinsNs mb) (hbb : ∀ x : Str, x ≠ "__name__" → mb x = bootBuiltins x) (hlim : s₁.heap.NoLimit) (hg : s₁.gens = #[])
    (hT : ∀ p ∈ cs, s₁.heap.get? p.2 = some tblO) (nT : ∀ p ∈ cs, K.lookup p.2 = none) (C : ∀ p ∈ cs, PySem.W.CodeHd s₁.heap p.1 p.2)
    (hbm : ∃ (bm : Addr) (ob : Obj), mg "__builtins__" = some (.ref bm) ∧ bm ≠ builtinsNs ∧ s₁.heap.get? bm = some ob ∧ ob.cls = .type "module" ∧ ob.dict = some builtinsNs ∧ ob.data = .plain)
    (ha : s₁.heap.get? a = some { cls := .type "list", data := .seq vs.toArray }) (hi : IntsAre vs ns) (hl : ns.length ≤ sizeLine) (hr : Room k callerA)
    (F : ∀ base : Heap, K.In base → base.Ns mainGlobals mg → Bm base mg → (∀ p ∈ cs, PySem.W.CodeHd base p.1 p.2) → ∃ (fd : FuncData) (ps : List Str), FnAt callerA P w K mg base k fa fd ps sp ∧ Binds K fd ps [])
    (hsp : ∀ H : Hp, (∀ p ∈ cs, H p.2 = some (.tbl #[])) → (∀ b ps, H b = some (.tbl ps) → ps = #[]) → Scr K H a ns → sp [.ref a] H (fun v _ => v = .bl true) fun _ _ _ => False) :
    codeAny (model P w) callerA (.call (.ref fa) ⟨[.ref a], []⟩) (fun r s' => r = .ok (.ret (.bool true)) ∧ OldK s₁.heap s'.heap ∧ s'.os = s₁.os ∧ AllBare s'.gens) s₁ := by
  have rv := vals_ints hi
  have T := fun b => b ∈ cs.map (·.2)
  have isT : ∀ b : Addr, b ∈ cs.map (·.2) → s₁.heap.get? b = some tblO := fun b hb => by
    obtain ⟨p, hp, rfl⟩ := List.mem_map.mp hb
    exact hT p hp
  have memT : ∀ p ∈ cs, p.2 ∈ cs.map (·.2) := fun p hp => List.mem_map.mpr ⟨p, hp, rfl⟩
  have aT : a ∉ cs.map (·.2) := fun z => by
    have q := isT a z
    rw [ha] at q
    cases congrArg Obj.data (Option.some.inj q)
  -- the script is tracked, unless the head has laid it
  let H : Hp := fun b => if b ∈ cs.map (·.2) then some (.tbl #[]) else if b = a ∧ K.lookup a = none then some (.frz { cls := .type "list", data := .seq vs.toArray } (.lst (ns.map V.int))) else none
  have HT : ∀ b, b ∈ cs.map (·.2) → H b = some (.tbl #[]) := fun b hb => if_pos hb
  have HN : ∀ b, b ∉ cs.map (·.2) → b ≠ a → H b = none := fun b hb hba => (if_neg hb).trans (if_neg fun z => hba z.1)
  have Hs : ∀ b u, H b = some u → (b ∈ cs.map (·.2) ∧ u = .tbl #[]) ∨ (b = a ∧ K.lookup a = none ∧ u = .frz { cls := .type "list", data := .seq vs.toArray } (.lst (ns.map V.int))) := fun b u e => by
    by_cases hb : b ∈ cs.map (·.2)
    · rw [HT b hb] at e
      exact .inl ⟨hb, (Option.some.inj e).symm⟩
    · by_cases hba : b = a ∧ K.lookup a = none
      · have e' := ((if_neg hb).trans (if_pos hba)).symm.trans e
        exact .inr ⟨hba.1, hba.2, (Option.some.inj e').symm⟩
      · have e' := ((if_neg hb).trans (if_neg hba)).symm.trans e
        cases e'
  have scr : Scr K H a ns := by
    cases hk : K.lookup a with
    | none => exact .inl ⟨_, (if_neg aT).trans (if_pos ⟨rfl, hk⟩)⟩
    | some o =>
      have e := KX a o hk
      rw [ha] at e
      cases e
      exact .inr fun H' => .inr ⟨_, vs.toArray, _, hk, rfl, rfl, rfl, by rw [List.size_toArray, hi.length]; exact hl, by simpa using rv⟩
  have hok : HOk P w H s₁.heap := fun b u e => by
    rcases Hs b u e with ⟨hb, rfl⟩ | ⟨rfl, _, rfl⟩
    · exact isT b hb
    · exact ⟨ha, by rw [List.length_map]; exact hl, vs, _, rv, ha⟩
  have free : ∀ {b : Addr} {o : Obj}, s₁.heap.get? b = some o → (∀ l n, o.data ≠ .seq l n) → o.data ≠ .fields #[] → H b = none := fun {b o} e h1 h2 => HN b (fun z => by
    rw [isT b z] at e
    cases e
    exact h2 rfl) fun z => by
    rw [z, ha] at e
    cases e
    exact h1 _ _ rfl
  have nsK : ∀ {b : Addr} {m : Str → Option Value}, s₁.heap.Ns b m → (hidT s₁.heap H).Ns b m := fun {b m} ⟨o, es, ep, e, d, r⟩ => ⟨o, es, ep, hidT_get e (free e (fun l n z => by rw [d] at z; cases z) fun z => by rw [d] at z; cases z), d, r⟩
  have hKb : K.In (hidT s₁.heap H) := fun b o e => hidT_get (KX b o e) (by
    cases q : H b with
    | none => rfl
    | some u =>
      rcases Hs b u q with ⟨hb, _⟩ | ⟨rfl, hk, _⟩
      · obtain ⟨p, hp, rfl⟩ := List.mem_map.mp hb
        rw [nT p hp] at e
        cases e
      · rw [hk] at e
        cases e)
  have hM : L2.Mod K mg (hidT s₁.heap H) := ⟨hKb, nsK hns, ⟨mb, nsK hb, hbb⟩, let ⟨mc, h1, h2⟩ := hlim; ⟨mc, nsK h1, h2⟩⟩
  have CB : ∀ p ∈ cs, PySem.W.CodeHd (hidT s₁.heap H) p.1 p.2 := fun p hp => by
    obtain ⟨o, us, file, tf, flags, tg, inF, text, tt, e1, r1, r2, r3, r⟩ := C p hp
    refine ⟨o, us, file, tf, flags, tg, inF, text, tt, hidT_get e1 (free e1 (fun l n z => ?_) fun z => ?_), r1, r2, r3, r⟩
    · rw [r2] at z
      cases z
    · rw [r2] at z
      cases z
      simp at r3
  have BM : Bm (hidT s₁.heap H) mg := by
    obtain ⟨bm, ob, b1, b2, b3, b4, b5, b6⟩ := hbm
    exact ⟨bm, ob, b1, b2, hidT_get b3 (free b3 (fun l n z => by rw [b6] at z; cases z) fun z => by rw [b6] at z; cases z), b4, b5, b6⟩
  have e0 : Env0 P w K mg (hidT s₁.heap H) callerA [] s₁ H := ⟨rfl, hM, fun b o e => of_hidT e, Nat.le_of_eq (hidT_size _ _), trivial, fun b hb => absurd (show b ∈ ([] : List Addr) from hb) (by simp), hok, .of_eq hg⟩
  obtain ⟨fd, ps, hF, hB⟩ := F _ hKb (nsK hns) BM CB
  have hs := hsp H (fun p hp => HT _ (memT p hp)) (fun b ps e => by
    rcases Hs b _ e with ⟨_, z⟩ | ⟨_, _, z⟩
    · cases z
      rfl
    · cases z) scr
  have hlen := hF.len _ _ _ _ hs
  refine codeAny_mono (hF.run [] s₁ H ⟨[.ref a], []⟩ [.ref a] [.ref a] _ _ hr e0 (hB s₁ [.ref a] KX hlen) (.cons rfl .nil) hs) fun r s' h => ?_
  cases r with
  | error e => exact (show False from h).elim
  | ok fl =>
    cases fl with
    | next => exact False.elim h
    | brk => exact False.elim h
    | cont => exact False.elim h
    | ret u =>
      obtain ⟨v, H', os, bare, un, hok', r', q⟩ := h
      have q' : v = .bl true := q
      subst q'
      obtain rfl : u = Value.bool true := r'
      have key : ∀ b o, b ∉ cs.map (·.2) → s₁.heap.get? b = some o → s'.heap.get? b = some o := fun b o nb e => by
        cases q : H b with
        | none => exact un.keep b o e q (by intro z; exact absurd (show b ∈ ([] : List Addr) from z) (by simp)) (by simp)
        | some u =>
          rcases Hs b u q with ⟨hb, _⟩ | ⟨_, _, rfl⟩
          · exact absurd hb nb
          · obtain ⟨e1, _⟩ := hok b _ q
            obtain ⟨e2, _⟩ := hok' b _ (un.frzs b _ _ q)
            rw [e] at e1
            cases e1
            exact e2
      have grown : ∀ b, b ∈ cs.map (·.2) → ∃ more : Array Value, s'.heap.get? b = some { cls := .none, data := .fields more } := fun b hb => by
        obtain ⟨more, z⟩ := un.tbls b #[] (HT b hb)
        exact ⟨_, hok' b _ z⟩
      refine ⟨rfl, ⟨fun b o e => ?_, fun b o e => ?_⟩, os, bare⟩
      · by_cases hb : b ∈ cs.map (·.2)
        · obtain ⟨more, hm⟩ := grown b hb
          obtain ⟨p, hp, rfl⟩ := List.mem_map.mp hb
          rw [hT p hp] at e
          cases e
          exact .inr (.inl ⟨((C p hp).tab (hT p hp)).isCodeTable, rfl, #[], more, rfl, by rw [Array.empty_append]; exact hm⟩)
        · exact .inl (key b o hb e)
      · by_cases hb : b ∈ cs.map (·.2)
        · obtain ⟨more, hm⟩ := grown b hb
          exact ⟨_, hm⟩
        · exact ⟨o, key b o hb e⟩
/-- what is asked at the head's heap -/
def LawG (l : PySem.W.OpenLaw) (w : World) (K : PySem.W.Frag) (k n : Nat) (mg : Str → Option Value) (fa : Addr) (h : Heap) : Prop :=
  ∃ (cs : List (Addr × Addr)) (sp : Sp), (∀ p ∈ cs, h.get? p.2 = some tblO) ∧ (∀ p ∈ cs, K.lookup p.2 = none) ∧ (∀ p ∈ cs, PySem.W.CodeHd h p.1 p.2) ∧
    (∀ (H : Hp) (a : Addr) (ns : List Int), ns.length ≤ n → (∀ z ∈ ns, Builtin.Int.intBits z ≤ 1048576) → (∀ p ∈ cs, H p.2 = some (.tbl #[])) → (∀ b ps, H b = some (.tbl ps) → ps = #[]) → Scr K H a ns → sp [.ref a] H (fun v _ => v = .bl true) fun _ _ _ => False) ∧
    ∀ base : Heap, K.In base → base.Ns mainGlobals mg → Bm base mg → (∀ p ∈ cs, PySem.W.CodeHd base p.1 p.2) → ∃ (fd : FuncData) (ps : List Str), FnAt callerA l.prog w K mg base k fa fd ps sp ∧ Binds K fd ps []
theorem walkG {l : PySem.W.OpenLaw} {n k : Nat} {q : Program} {loose : List Str} {XP : (Str → Option Value) → Heap → Prop} {YP : World → Heap → Prop} {d : DefRec} {K : Params → PySem.W.Frag}
    (hn : l.most = some n) (hn2 : n ≤ sizeLine) (hdf : d.params.defaults = []) (hr : Room k callerA) (hY : ∀ (w : World) (h : Heap), YP w h → (K w.params).In h)
    (F : ∀ (w : World) (mg : Str → Option Value) (fa : Addr) (h : Heap), YP w h → (K w.params).In h → h.Ns mainGlobals mg → mg d.name = some (.ref fa) → Laid q mg h → LawG l w (K w.params) k n mg fa h) :
    PySem.W.WalkO q loose XP YP l.row.toRowW d [] (fun f vs => PySem.call f vs) := by
  refine Att.attach_callB hn hdf fun w s₀ s₁ mg mb fa o pm cd doc a vs ns G Y ho hd hcd hmg hobj hints hlen hbits hg => ?_
  have KX := hY w _ Y
  have laid : Laid q mg s₁.heap := fun d hd => by
    obtain ⟨a, o, fd, c, P, h1, h2, h3, h4, h5, h6⟩ := G.T.tab d hd
    exact ⟨a, o, fd, c, P, h1, h2, h3, h4, PySem.W.CodeHd.of h5 h6, h6.2⟩
  obtain ⟨cs, sp, hT, nT, C, hsp, hF⟩ := F w mg fa _ Y KX G.T.g hmg laid
  exact law_callG KX G.T.g G.T.b G.T.builtins G.T.nolimit hg hT nT C G.T.bmain hobj hints (Nat.le_trans hlen hn2) hr hF fun H hH hc hS => hsp H a ns hlen hbits hH hc hS
/-- the classes by their names in the module -/
def clsOf (mg : Str → Option Value) (x : Str) : Option Addr := match mg x with | some (.ref a) => some a | _ => none
/-- a def of the text: its place, its code object, its table -/
structure DK (K : PySem.W.Frag) (mg : Str → Option Value) (h : Heap) (x : Str) (st : Stmt) (f c P : Addr) : Prop where
  mgf : mg x = some (.ref f)
  code : PySem.W.CodeHd h c P
  tab : h.get? P = some tblO
  free : K.lookup P = none
  dc : ∀ base nm tabs, (c, P) ∈ tabs → PySem.W.CodeHd base c P → DefC ⟨K, base, nm, tabs, clsOf mg⟩ mg x st
theorem DK.of {K : PySem.W.Frag} {mg : Str → Option Value} {h : Heap} {q : Program} {x : Str} {st : Stmt} {f c P : Addr} {oc kV dc pm ct e : Value} {od an dd : Option Addr} {sl sl2 : Array (Option Value)} {vs : Array Value} (KX : K.In h) (G : h.Ns mainGlobals mg) (L : Laid q mg h)
    (hrec : ((recsOf q).any fun e => e.name == x) = true) (a1 : PySem.W.nsIn K mainGlobals x = some (some (.ref f)))
    (l1 : K.lookup f = some ⟨oc, od, .func (PySem.W.fnOf x x (defArgs st) (defBody st) (defScope st) .none kV dc pm an (.ref c) ct), sl⟩) (c1 : PySem.W.codeIn K (.ref c) x = true) (k1 : PySem.W.keepIn K (.ref f) = true)
    (t1 : K.lookup c = some ⟨e, dd, .fields vs, sl2⟩) (p1 : vs[11]? = some (.ref P)) (n1 : K.lookup P = none) : DK K mg h x st f c P := by
  have hm := PySem.W.mg_of KX G a1
  obtain ⟨dL, hmem, hnm⟩ := List.any_eq_true.mp hrec
  have hnm : dL.name = x := beq_iff_eq.mp hnm
  obtain ⟨a', o', fd', c', P', h1, h2, h3, h4, h5, h6⟩ := L dL hmem
  rw [hnm, hm] at h1
  cases h1
  have g1 := KX _ _ l1
  rw [g1] at h2
  cases h2
  cases h3
  cases h4
  have g2 := KX _ _ t1
  obtain ⟨o, us, file, tf, flags, tg, inF, text, tt, e1, r1, r2, r3, r⟩ := id h5
  rw [g2] at e1
  cases e1
  cases r2
  rw [p1] at r3
  cases r3
  exact ⟨hm, h5, h6, n1, fun base nm tabs ht hh => ⟨f, c, _, _, ⟨oc, od, kV, dc, pm, an, ct, sl, rfl, l1, c1⟩, hm, k1, ht, hh⟩⟩
theorem law_of {nm : Nat → Nat → Option Str} {l : PySem.W.OpenLaw} {w : World} {K : PySem.W.Frag} {k n : Nat} {mg : Str → Option Value} {fa : Addr} {h : Heap} {T : XTS} {cs : List (Addr × Addr)} (hT : ∀ p ∈ cs, h.get? p.2 = some tblO) (nT : ∀ p ∈ cs, K.lookup p.2 = none) (C : ∀ p ∈ cs, PySem.W.CodeHd h p.1 p.2) (hfa : mg "law" = some (.ref fa))
    (hD : ∀ base : Heap, Bm base mg → (∀ p ∈ cs, PySem.W.CodeHd base p.1 p.2) → DefS l.prog w ⟨K, base, nm, cs, clsOf mg⟩ mg k "law" T) (hlaw : ∀ ns : List Int, ns.length ≤ n → T ns [] [] fun d _ => d = .bl true) : LawG l w K k n mg fa h := by
  refine ⟨cs, fun vs H Q E => ∀ base, spS ⟨K, base, nm, cs, clsOf mg⟩ T vs H Q E, hT, nT, C, fun H a ns hl _ hH hc hS base => ?_, fun base hK hN hB hC => ?_⟩
  · refine ⟨[], [], a, ns, [], [], _, rfl, hS, .nil, ⟨rfl, List.nodup_nil, fun m a c h1 h2 => by simp at h1, fun P ps e => ?_, fun p hp => ⟨#[], hH p hp⟩⟩, hlaw ns hl, fun d st' ι' v H' e g r s => ?_⟩
    · have e' := hc P ps e
      subst e'
      exact ⟨by unfold TriplesOk; trivial, fun pos cv z => by unfold codeAmong at z; cases z⟩
    · have e : d = .bl true := e
      subst e
      cases r
      rfl
  · obtain ⟨f, fd, ps, hF, hm, hk, hb⟩ := (hD base hB hC).ex
    rw [hfa] at hm
    cases hm
    exact ⟨fd, ps, fnAt_of (hF.imp fun vs H Q E q => q base), hb⟩
end GD

set_option Elab.async false
set_option linter.all false
set_option maxRecDepth 100000
set_option maxHeartbeats 2000000
namespace GD
open PySem PySem.Spec PyProof.Rows L2 GX

/-! ## 10. statements without effects, by computing -/
inductive Rs where
  | nx (e : EV) | rt (d : D) | bk (e : EV) | ct (e : EV)
abbrev RS := EV → SS → Option Rs
def xs (r : RS) : XS := fun D0 env st => match r env st with
  | some (.nx e) => D0.nx e st
  | some (.rt d) => D0.rt d st
  | some (.bk e) => D0.bk e st
  | some (.ct e) => D0.ct e st
  | none => False
def rNext : RS := fun env _ => some (.nx env)
def rRet (m : MP) : RS := fun env st => match m env st with | some d => some (.rt d) | none => none
def rSeq (r u : RS) : RS := fun env st => match r env st with
  | some (.nx e) => u e st
  | some (.rt d) => some (.rt d)
  | some (.bk e) => some (.bk e)
  | some (.ct e) => some (.ct e)
  | none => none
def rIf (c : MB) (r u : RS) : RS := fun env st => match c env st with
  | some true => r env st
  | some false => u env st
  | none => none
def rAsg (m : MP) (t : MT) : RS := fun env st => match m env st with
  | some d => (match t d env with | some e => some (.nx e) | none => none)
  | none => none
def rForGo (t : MT) (r : RS) (st : SS) : List D → EV → Option Rs
  | [], env => some (.nx env)
  | d :: ds, env => match t d env with
    | some env1 => (match r env1 st with
      | some (.nx e) => rForGo t r st ds e
      | some (.ct e) => rForGo t r st ds e
      | some (.bk e) => some (.nx e)
      | some (.rt d) => some (.rt d)
      | none => none)
    | none => none
def rFor (mi : MI) (t : MT) (r : RS) : RS := fun env st => match mi env st with | some (ds, _) => rForGo t r st ds env | none => none
section
variable {X : Cx} {w : Wd} {pos : Pos} {e c : Expr} {tg iter : Expr} {s : Stmt} {rest : List Stmt} {r u : RS}
theorem dr_mo {t : XS} (h : PS X s (tS w t)) (q : ∀ D0 env st, xs r D0 env st → t D0 env st) : PS X s (tS w (xs r)) := PS.mo h fun E σ H ⟨ι, env, st, D0, he, hs, ht, hE⟩ => ⟨ι, env, st, D0, he, hs, q _ _ _ ht, hE⟩
theorem drs_mo {ss : List Stmt} {t : XS} (h : PSs X ss (tS w t)) (q : ∀ D0 env st, xs r D0 env st → t D0 env st) : PSs X ss (tS w (xs r)) := PSs.mo h fun E σ H ⟨ι, env, st, D0, he, hs, ht, hE⟩ => ⟨ι, env, st, D0, he, hs, q _ _ _ ht, hE⟩
theorem dr_nil : PSs X [] (tS w (xs rNext)) := drs_mo ds_nil fun _ _ _ h => h
theorem dr_ret {m : MP} (he : PE X e (tP w m)) : PS X (.Return (some e) pos) (tS w (xs (rRet m))) := dr_mo (ds_ret (dx_of he)) fun D0 env st h => by
  unfold xs rRet at h
  cases hm : m env st with
  | none => rw [hm] at h; exact h.elim
  | some d =>
    rw [hm] at h
    exact ⟨d, hm, h⟩
theorem dr_one (h1 : PS X s (tS w (xs r))) : PSs X [s] (tS w (xs r)) := ds_one h1
theorem dr_cons (h1 : PS X s (tS w (xs r))) (h2 : PSs X rest (tS w (xs u))) : PSs X (s :: rest) (tS w (xs (rSeq r u))) := drs_mo (ds_cons h1 h2) fun D0 env st h => by
  unfold sSeq xs
  unfold xs rSeq at h
  cases hr : r env st with
  | none => rw [hr] at h; exact h.elim
  | some v =>
    rw [hr] at h
    cases v <;> exact h
theorem dr_if {m : MB} {sa sb : List Stmt} (hc : PT X c (tBo w m)) (ha : PSs X sa (tS w (xs r))) (hb : PSs X sb (tS w (xs u))) : PS X (.If c sa sb pos) (tS w (xs (rIf m r u))) := dr_mo (ds_if (dxb_of hc) ha hb) fun D0 env st h => by
  have h' : (match (match m env st with | some true => r env st | some false => u env st | none => none) with
    | some (.nx e) => D0.nx e st | some (.rt d) => D0.rt d st | some (.bk e) => D0.bk e st | some (.ct e) => D0.ct e st | none => False) := h
  cases hm : m env st with
  | none => rw [hm] at h'; exact h'.elim
  | some b =>
    rw [hm] at h'
    cases b with
    | true => exact ⟨true, hm, iteT h'⟩
    | false => exact ⟨false, hm, iteF h'⟩
theorem dr_set {m : MP} {i : Nat} {x : Str} {pos' : Pos} (hN : X.N.Nodup) (hi : X.N[i]? = some x) (hx : Loc X.env.scope x) (he : PE X e (tP w m)) (hs : swapsWith e (some (.Name x pos')) pos.line X.env = pure false := by rfl) (hf : X.fn x = true ∨ X.env.scope.names.lookup x = some .local := by first | exact .inl rfl | exact .inr rfl | assumption) (hfx : ∀ p ∈ w.fx, p.1 ≠ i := by intro _ h; cases h) :
    PS X (.Assign [.Name x pos'] e pos) (tS w (xs (rAsg m (tgN i)))) := dr_mo (ds_set hN hi hx (dx_of he) hs hf hfx) fun D0 env st h => by
  unfold xs rAsg at h
  cases hm : m env st with
  | none => rw [hm] at h; exact h.elim
  | some d =>
    rw [hm] at h
    exact ⟨d, hm, _, rfl, h⟩
theorem for_r {t : MT} {D0 : DE} {st : SS} {ro : Option Nat} : ∀ (ds : List D) (env : EV), (match rForGo t r st ds env with | some (.nx e) => D0.nx e st | some (.rt d) => D0.rt d st | some (.bk e) => D0.bk e st | some (.ct e) => D0.ct e st | none => False) → sForGo t (xs r) st ro D0 ds env st
  | [], env, h => ⟨Hold.refl, h⟩
  | d :: ds, env, h => by
    unfold rForGo at h
    cases ht : t d env with
    | none => rw [ht] at h; exact h.elim
    | some env1 =>
      rw [ht] at h
      refine ⟨Hold.refl, env1, ht, ?_⟩
      unfold xs
      cases hr : r env1 st with
      | none => simp only [hr] at h
      | some v =>
        simp only [hr] at h
        cases v with
        | nx e => exact for_r ds e h
        | ct e => exact for_r ds e h
        | bk e => exact h
        | rt d => exact h
theorem dr_for {mi : MI} {tgt : MT} {g : TG} {own : List Nat} {body : List Stmt} (hp : PassesOwn (model X.prog X.w) X.A X.env X.xe) (hc : X.calm = true) (ht : GT w own g tgt) (hi : PI X tg iter (tI w mi)) (hg : PG X tg g) (hb : PSs X body (tS w (xs r)))
    (hs : ∀ x, foldedSetIterable iter X.env x = pure x := by intro _; rfl) : PS X (.For tg iter body [] pos) (tS w (xs (rFor mi tgt r))) := dr_mo (ds_for hp hc ht (dxi_of hi) hg hb hs) fun D0 env st h => by
  unfold xs rFor at h
  cases hm : mi env st with
  | none => rw [hm] at h; exact h.elim
  | some v =>
    obtain ⟨ds, ro⟩ := v
    rw [hm] at h
    exact ⟨ds, ro, hm, for_r ds env h⟩
theorem Fit.blk {s : Shared} {H : Hp} {scope : Scope} {C : Addr} {cl : List (Str × Addr)} {fp : List Addr} (hf : Fit X w) : Fit (X.blk s H scope (compEnvC scope cl C X.env) fp) w := ⟨hf.k, hf.b, hf.c⟩
end
/-- a def's value, computed -/
def fnR (N : List Str) (n : Nat) (r : RS) : List D → SS → Option D := fun ds st => if ds.length = n then (match r (startE N ds) st with
  | some (.rt d) => if D.lo st.length d = true then some d else none
  | some (.nx _) => some .non
  | _ => none) else none
theorem DefC.p {P : Program} {wl : World} {w : Ws} {mg : Str → Option Value} {x : Str} {st : Stmt} {N ps : List Str} {k : Nat} {r : RS} (F : DefC w mg x st) (S : FnScope N ps (defScope st))
    (hb : ∀ (kV doc pm : Value) (an : Option Addr) (cdv ct : Value) (us : List Value), us.length = ps.length → bindArgs (PySem.W.fnOf x x (defArgs st) (defBody st) (defScope st) .none kV doc pm an cdv ct) ⟨us, []⟩ = pure (ps.zip us))
    (hbody : ∀ (f c : Addr) (A : Around) (outer : List Env) (s : Shared) (H : Hp) (E : XK), Room k (A.deeper (envOfC x (defScope st) s.heap.objs.size f (.ref c))) → Fit (cxOf CX0 P wl w.K mg w.base N x (defScope st) f (.ref c) A outer s H E).nox ⟨w, c, [], [], [], true⟩ →
      PSs (cxOf CX0 P wl w.K mg w.base N x (defScope st) f (.ref c) A outer s H E).nox (defBody st) (tS ⟨w, c, [], [], [], true⟩ (xs r))) : DefP P wl w mg (k + 1) x (fnR N ps.length r) := by
  refine (DefC.x F S hb hbody).toP fun ds st d h _ => ?_
  unfold fnR at h
  split at h
  · rename_i hl
    split at h
    · rename_i d' hr
      split at h
      · rename_i hlo
        cases h
        refine ⟨hlo, hl, ?_⟩
        unfold xs
        rw [hr]
        exact ⟨rfl, List.take_length⟩
      · cases h
    · rename_i e hr
      cases h
      refine ⟨rfl, hl, ?_⟩
      unfold xs
      rw [hr]
      exact ⟨rfl, List.take_length⟩
    · cases h
  · cases h
/-! ### comparisons as tests -/
section
variable {X : Cx} {w : Wd} {pos : Pos} {a b : Expr} {ma mb : MP} {xa xb : XP}
theorem dt_cmp {op : CmpOp} {f : F2} {r : R2} (ho : OpR X (compareOp op) r) (hr : OpP w f r) (ha : PE X a (tP w ma)) (hb : PE X b (tP w mb)) (hm : behindInMarks op b = false := by rfl) : PT X (.Compare a [op] [b] pos) (tBo w (bV (mOp f ma mb))) :=
  PT.mo (pt_cmpR ho ha hb hm) fun σ H Q ⟨ι, env, st, x, he, hs, hx, q⟩ => op_read (w := w) hr σ H _ (by
    unfold bV at hx
    split at hx
    · rename_i x' e
      cases hx
      exact ⟨ι, env, st, _, he, hs, e, fun v H1 k1 r1 s1 => by cases r1; exact ⟨_, rfl, q H1 k1 s1⟩⟩
    · cases hx)
theorem dxt_cmp {op : CmpOp} {f : F2} {r : R2} (ho : OpR X (compareOp op) r) (hr : OpP w f r) (ha : PE X a (tX w xa)) (hb : PE X b (tX w xb)) (hm : behindInMarks op b = false := by rfl) : PT X (.Compare a [op] [b] pos) (tXB w (xV (xOp f xa xb))) :=
  PT.mo (pt_cmpR ho ha hb hm) fun σ H Q ⟨ι, env, st, R, he, hs, hx, q⟩ => xop_read (w := w) hr σ H _ ⟨ι, env, st, _, he, hs, hx, fun d st1 ι1 v H1 ⟨b, e, hR⟩ g1 r1 s1 => by
    subst e
    cases r1
    exact ⟨b, rfl, q b st1 ι1 H1 hR g1 s1⟩⟩
theorem qLt : OpP w fLt (rI0 fun i j => .bl (decide (i < j))) := qI0 fun i j d h ι H => by cases h; exact .bl _
theorem qLe : OpP w fLe (rI0 fun i j => .bl (decide (i ≤ j))) := qI0 fun i j d h ι H => by cases h; exact .bl _
theorem qGt : OpP w fGt (rI0 fun i j => .bl (decide (i > j))) := qI0 fun i j d h ι H => by cases h; exact .bl _
theorem qGe : OpP w fGe (rI0 fun i j => .bl (decide (i ≥ j))) := qI0 fun i j d h ι H => by cases h; exact .bl _
theorem dt_lt (ha : PE X a (tP w ma)) (hb : PE X b (tP w mb)) : PT X (.Compare a [.Lt] [b] pos) (tBo w (bV (mOp fLt ma mb))) := dt_cmp op_lt qLt ha hb (nomark _)
theorem dt_gt (ha : PE X a (tP w ma)) (hb : PE X b (tP w mb)) : PT X (.Compare a [.Gt] [b] pos) (tBo w (bV (mOp fGt ma mb))) := dt_cmp op_gt qGt ha hb (nomark _)
theorem dt_ge (ha : PE X a (tP w ma)) (hb : PE X b (tP w mb)) : PT X (.Compare a [.GtE] [b] pos) (tBo w (bV (mOp fGe ma mb))) := dt_cmp op_ge qGe ha hb (nomark _)
theorem dt_eq (hu : Room 0 X.A) (ha : PE X a (tP w ma)) (hb : PE X b (tP w mb)) : PT X (.Compare a [.Eq] [b] pos) (tBo w (bV (mOp fEq ma mb))) := dt_cmp (op_eqD hu.units) qEq ha hb (nomark _)
theorem dt_ne (hu : Room 0 X.A) (ha : PE X a (tP w ma)) (hb : PE X b (tP w mb)) : PT X (.Compare a [.NotEq] [b] pos) (tBo w (bV (mOp fNe ma mb))) := dt_cmp (op_neD hu.units) qNe ha hb (nomark _)
theorem dt_isN (ha : PE X a (tP w ma)) (hb : PE X b (tP w mb)) : PT X (.Compare a [.Is] [b] pos) (tBo w (bV (mOp fIsN ma mb))) := dt_cmp op_isN qIsN ha hb (nomark _)
theorem dt_notN (ha : PE X a (tP w ma)) (hb : PE X b (tP w mb)) : PT X (.Compare a [.IsNot] [b] pos) (tBo w (bV (mOp fNotN ma mb))) := dt_cmp op_notN qNotN ha hb (nomark _)
theorem dxt_lt (ha : PE X a (tX w xa)) (hb : PE X b (tX w xb)) : PT X (.Compare a [.Lt] [b] pos) (tXB w (xV (xOp fLt xa xb))) := dxt_cmp op_lt qLt ha hb (nomark _)
theorem dxt_eq (hu : Room 0 X.A) (ha : PE X a (tX w xa)) (hb : PE X b (tX w xb)) : PT X (.Compare a [.Eq] [b] pos) (tXB w (xV (xOp fEq xa xb))) := dxt_cmp (op_eqD hu.units) qEq ha hb (nomark _)
end
/-! ### more operators -/
section
variable {X : Cx} {w : Wd} {pos : Pos} {a b : Expr}
def fPow : F2 := fI fun i j => if 0 ≤ j ∧ j ≤ 64 ∧ 0 ≤ i ∧ i ≤ 1000 then some (.int (i ^ j.toNat)) else none
theorem qPow : OpP w fPow (rI CPow fun i j => .int (i ^ j.toNat)) := qI fun i j d h => by
  split at h
  · rename_i hc
    cases h
    exact ⟨⟨hc.1, by omega, by omega⟩, fun ι H => .int _⟩
  · cases h
theorem dp_pow {ma mb : MP} (ha : PE X a (tP w ma)) (hb : PE X b (tP w mb)) : PE X (.BinOp a .Pow b pos) (tP w (mOp fPow ma mb)) := dp_bin op_pow qPow ha hb
end
end GD
namespace GD
open PySem PySem.Spec PyProof.Rows L2 GX
theorem fxS {w : Ws} {c a : Addr} {ns : List Int} {i : Nat} (h : 0 ≠ i) : ∀ p ∈ (WdS w c a ns).fx, p.1 ≠ i := fun p hp => by
  rw [List.mem_singleton.mp hp]
  exact h
theorem fxSl {w : Ws} {c a : Addr} {ns : List Int} {l : List Nat} (h : ∀ v ∈ l, 0 ≠ v) : ∀ v ∈ l, ∀ p ∈ (WdS w c a ns).fx, p.1 ≠ v := fun v hv => fxS (h v hv)
end GD

set_option Elab.async false
set_option linter.all false
set_option maxRecDepth 100000
set_option maxHeartbeats 4000000
namespace GD
open PySem PySem.Spec PyProof.Rows L2 GX

/-! ## 11. the words that all laws begin with -/
theorem for_inv {t : MT} {body : XS} {st0 : SS} {D0 : DE} (Iv : List D → EV → SS → Prop) (hs : ∀ d ds env st, Iv (d :: ds) env st → ∃ env1, t d env = some env1 ∧ ∀ K : DE, (∀ env st, Iv ds env st → K.nx env st) → (∀ env st, Iv ds env st → K.ct env st) → K.rt = D0.rt → K.bk = D0.nx → body K env1 st)
    (he : ∀ env st, Iv [] env st → D0.nx env st) : ∀ (ds : List D) (env : EV) (st : SS), Iv ds env st → sForGo t body st0 none D0 ds env st
  | [], env, st, h => ⟨trivial, he env st h⟩
  | d :: ds, env, st, h => by
    obtain ⟨env1, h1, h2⟩ := hs d ds env st h
    exact ⟨trivial, env1, h1, h2 _ (fun env st k => for_inv Iv hs he ds env st k) (fun env st k => for_inv Iv hs he ds env st k) rfl rfl⟩
def nI (k : Nat) : D := .int (k : Int)
def dN (l : List Nat) : D := .tup (l.map nI)
def tblD (many : Nat) (rows : List (List Nat)) : D := .tup [.str ("table" : Str), nI many, .tup (rows.map dN)]
theorem intsD0 (n : Nat) : intsD 0 n = (List.range n).map nI := by
  unfold intsD nI
  simp
structure Boxed (st : SS) (n : Nat) : Prop where
  ex : ∃ (dn : Nat) (i : Nat) (ms : List Int), st[n]? = some (.lst [.ref dn, .int (i : Int)]) ∧ dn < n ∧ st[dn]? = some (.lst (ms.map D.int))
structure Ev (n : Nat) (st st1 : SS) : Prop where
  len : st1.length = st.length
  at_ : ∀ m, m ≠ n → st1[m]? = st[m]?
theorem Ev.refl (n : Nat) (st : SS) : Ev n st st := ⟨rfl, fun _ _ => rfl⟩
theorem Ev.trans {n : Nat} {a b c : SS} (h : Ev n a b) (k : Ev n b c) : Ev n a c := ⟨k.len.trans h.len, fun m hm => (k.at_ m hm).trans (h.at_ m hm)⟩
def cellT : XTS := fun ns ds st R => ∃ k : Int, ds = [.int k] ∧ 0 ≤ k ∧ ∀ i : Int, R (.int i) st
def digitsT : XTS := fun ns ds st R => ∃ i j : Nat, ds = [.int i, .int j] ∧ i ≤ j ∧ j ≤ 1000 ∧ ∀ ms : List Int, R (.ref st.length) (st ++ [.lst (ms.map D.int)])
def boxT : XTS := fun ns ds st R => ∃ i j : Nat, ds = [.int i, .int j] ∧ i ≤ j ∧ j ≤ 1000 ∧ ∀ st1 n, st.length ≤ n → st.length ≤ st1.length → (∀ m, m < st.length → st1[m]? = st[m]?) → Boxed st1 n → R (.ref n) st1
def drawT : XT := fun ds st R => ∃ (n : Nat) (m : Int), ds = [.ref n, .int m] ∧ 0 < m ∧ Boxed st n ∧ ∀ (r : Nat) st1, (r : Int) < m → Boxed st1 n → Ev n st st1 → R (nI r) st1
def someT : XT := fun ds st R => ∃ (n many : Nat) (sparse : Int), ds = [.ref n, nI many, .int sparse] ∧ many ≤ 1000 ∧ Boxed st n ∧ ∀ (l : List Nat) st1, l.Pairwise (· < ·) → (∀ x ∈ l, x < many) → Boxed st1 n → Ev n st st1 → R (dN l) st1
def tableT : XT := fun ds st R => ∃ (n things marks : Nat), ds = [.ref n, nI things, nI marks] ∧ things ≤ 100 ∧ marks ≤ 100 ∧ Boxed st n ∧ ∀ (many : Nat) (rows : List (List Nat)) st1, many ≤ marks → rows.length ≤ things → (∀ r ∈ rows, r.Pairwise (· < ·) ∧ ∀ x ∈ r, x < many) → Boxed st1 n → Ev n st st1 → R (tblD many rows) st1
def N_law_cell : List Str := [("_law_script" : Str), ("_law_k" : Str)]
def X_law_cell (ns : List Int) : XS := (sSeq (sIf (xbOf (bV (mOp fLt (mVar 1) (mLenS ns)))) (sRet (xOf (mIxS ns (mVar 1)))) sNext) (sRet (xOf (mC (.int 0)))))
def N_law_digits : List Str := [("_law_script" : Str), ("_law_first" : Str), ("_law_last" : Str), ("_law_digits_here" : Str), ("_law_k" : Str), ("_law_cell_here" : Str), ("_law_turn" : Str), ("_law_seed" : Str)]
def X_law_digits (ns : List Int) : XS := (sSeq (sAsg (xNew (xaOf (mLst mNil))) (tgN 3)) (sSeq (sFor (xiOf (iRng2 (mVar 1) (mVar 2))) (tgN 4) (sSeq (sAsg (xCallS cellT ns (xCons (xOf (mVar 4)) xNil)) (tgN 5)) (sSeq (sIf (xbOf (bV (mOp fLt (mVar 5) (mC (.int 0))))) (sAsg (xOf (mOp fSub (mC (.int 1)) (mOp fMul (mC (.int 2)) (mVar 5)))) (tgN 5)) sNext) (sIf (xbOf (bV (mOp fGe (mVar 5) (mOp fPow (mC (.int 10)) (mC (.int 18)))))) (sFor (xiOf (iRng (mC (.int 60)))) (tgN 6) (sIf (xbOf (bV (mOp fGt (mVar 5) (mC (.int 0))))) (sSeq (sAppP (mVar 3) (xOf (mOp fMod (mF1 fInt (mVar 5)) (mC (.int 1000))))) (sAsg (xOf (mOp fDiv (mVar 5) (mC (.int 1000)))) (tgN 5))) sNext)) (sSeq (sAsg (xOf (mOp fMod (mF1 fInt (mOp fAdd (mOp fAdd (mOp fMul (mVar 5) (mC (.int 48271))) (mOp fMul (mVar 4) (mC (.int 69621)))) (mC (.int 11)))) (mC (.int 2147483647)))) (tgN 7)) (sFor (xiOf (iRng (mC (.int 12)))) (tgN 6) (sSeq (sAsg (xOf (mOp fMod (mF1 fInt (mOp fAdd (mOp fAdd (mOp fMul (mVar 7) (mC (.int 16807))) (mOp fMul (mC (.int 7)) (mVar 6))) (mC (.int 1)))) (mC (.int 2147483647)))) (tgN 7)) (sAppP (mVar 3) (xOf (mOp fMod (mF1 fInt (mOp fDiv (mVar 7) (mC (.int 997)))) (mC (.int 1000)))))))))))) (sRet (xOf (mVar 3)))))
def N_law_box : List Str := [("_law_script" : Str), ("_law_first" : Str), ("_law_last" : Str)]
def X_law_box (ns : List Int) : XS := (sRet (xNew (xLst (xCons (xCallS digitsT ns (xCons (xOf (mVar 1)) (xCons (xOf (mVar 2)) xNil))) (xCons (xOf (mC (.int 0))) xNil)))))
def N_law_draw : List Str := [("_law_box_here" : Str), ("_law_many" : Str), ("_law_at" : Str)]
def X_law_draw : XS := (sSeq (sAsg (xOf (mOp fIx (mVar 0) (mC (.int 1)))) (tgN 2)) (sSeq (sSub (xOf (mOp fAdd (mVar 2) (mC (.int 1)))) (mVar 0) (mC (.int 1))) (sSeq (sIf (xbOf (bV (mOp fLt (mVar 2) (mF1 fLen (mOp fIx (mVar 0) (mC (.int 0))))))) (sRet (xOf (mOp fMod (mF1 fInt (mOp fIx (mOp fIx (mVar 0) (mC (.int 0))) (mVar 2))) (mVar 1)))) sNext) (sRet (xOf (mC (.int 0)))))))
def N_law_some : List Str := [("_law_box_here" : Str), ("_law_many" : Str), ("_law_sparse" : Str), ("_law_k" : Str)]
def X_law_some : XS := (sRet (xTupL (xComp (xiOf (iRng (mVar 1))) (tgN 3) (xV (xOp fLt (xCall drawT (xCons (xOf (mVar 0)) (xCons (xOf (mC (.int 6))) xNil))) (xOf (mVar 2)))) (xOf (mVar 3)) [3])))
def N_law_table : List Str := [("_law_box_here" : Str), ("_law_things" : Str), ("_law_marks" : Str), ("_law_many" : Str), ("_law_sparse" : Str), ("_law_k" : Str), ("_law_rows" : Str)]
def X_law_table : XS := (sSeq (sAsg (xCall drawT (xCons (xOf (mVar 0)) (xCons (xOf (mOp fAdd (mVar 2) (mC (.int 1)))) xNil))) (tgN 3)) (sSeq (sAsg (xOp fAdd (xOf (mC (.int 2))) (xCall drawT (xCons (xOf (mVar 0)) (xCons (xOf (mC (.int 3))) xNil)))) (tgN 4)) (sSeq (sAsg (xTupL (xComp (xRng (xCall drawT (xCons (xOf (mVar 0)) (xCons (xOf (mOp fAdd (mVar 1) (mC (.int 1)))) xNil)))) (tgN 5) (xbOf bYes) (xCall someT (xCons (xOf (mVar 0)) (xCons (xOf (mVar 3)) (xCons (xOf (mVar 4)) xNil)))) [5])) (tgN 6)) (sRet (xOf (mTup (mCons (mC (.str ("table" : Str))) (mCons (mVar 3) (mCons (mVar 6) mNil)))))))))
def N_law_same : List Str := [("_law_actual" : Str), ("_law_expected" : Str), ("_law_k" : Str)]
def R_law_same (F_rec : List D → SS → Option D) : RS := (rSeq (rIf (bV (mF1 (fIs "tuple") (mVar 1))) (rSeq (rIf (bOr (bNot (bV (mF1 (fIs "tuple") (mVar 0)))) (bV (mOp fNe (mF1 fLen (mVar 0)) (mF1 fLen (mVar 1))))) (rRet (mC (.bl false))) rNext) (rSeq (rFor (iRng (mF1 fLen (mVar 1))) (tgN 2) (rIf (bNot (bV (mCall F_rec (mCons (mOp fIx (mVar 0) (mVar 2)) (mCons (mOp fIx (mVar 1) (mVar 2)) mNil))))) (rRet (mC (.bl false))) rNext)) (rRet (mC (.bl true))))) rNext) (rSeq (rIf (bV (mOp fIsN (mVar 1) (mC .non))) (rRet (mOp fIsN (mVar 0) (mC .non))) rNext) (rSeq (rIf (bV (mF1 (fIs "bool") (mVar 1))) (rRet (mAnd (mF1 (fIs "bool") (mVar 0)) (mOp fEq (mVar 0) (mVar 1)))) rNext) (rSeq (rIf (bV (mF1 (fIs "int") (mVar 1))) (rRet (mAnd (mF1 (fIs "int") (mVar 0)) (mAnd (mNot (mF1 (fIs "bool") (mVar 0))) (mOp fEq (mVar 0) (mVar 1))))) rNext) (rRet (mAnd (mF1 (fIs "str") (mVar 0)) (mOp fEq (mVar 0) (mVar 1))))))))
theorem cell_ok (ns : List Int) (ds : List D) (st : SS) (R : D → SS → Prop) (h : cellT ns ds st R) : fnS N_law_cell 2 X_law_cell ns ds st R := by
  obtain ⟨k, rfl, hk, hR⟩ := h
  refine ⟨rfl, ?_⟩
  show X_law_cell ns _ [none, some (.int k)] st
  refine ⟨decide (k < ns.length), rfl, ite2 (fun hb => ?_) fun hb => ⟨_, rfl, hR 0⟩⟩
  have hlt : k < ns.length := of_decide_eq_true hb
  have hkn : k.toNat < ns.length := by omega
  refine ⟨.int ns[k.toNat], ?_, hR _⟩
  have e1 : ixN ns.length k = some k.toNat := by
    unfold ixN
    rw [if_pos hk, if_pos hlt]
  show (match atI ns k with | some k => some (D.int k) | none => none) = _
  unfold atI
  rw [e1]
  show (match ns[k.toNat]? with | some k => some (D.int k) | none => none) = _
  rw [List.getElem?_eq_getElem hkn]
theorem ixN_nat {n i : Nat} (h : i < n) : ixN n (i : Int) = some i := by
  unfold ixN
  rw [if_pos (by omega), if_pos (by omega)]
  simp
theorem atI_nat {α : Type} (xs : List α) (i : Nat) : atI xs (i : Int) = xs[i]? := by
  unfold atI
  by_cases h : i < xs.length
  · rw [ixN_nat h]
    rfl
  · have e : ixN xs.length (i : Int) = none := by
      unfold ixN
      rw [if_pos (by omega), if_neg (by omega)]
    rw [e, List.getElem?_eq_none (by omega)]
    rfl
theorem draw_ok (ds : List D) (st : SS) (R : D → SS → Prop) (h : drawT ds st R) : fnT N_law_draw 2 X_law_draw ds st R := by
  obtain ⟨n, m, rfl, hm, ⟨dn, i, ms, h1, hne, h2⟩, hR⟩ := h
  have hn : n < st.length := (List.getElem?_eq_some_iff.mp h1).1
  refine ⟨rfl, ?_⟩
  show X_law_draw _ [some (.ref n), some (.int m), none] st
  have key : ∀ st' : SS, st'[n]? = some (.lst [.ref dn, .int ((i : Int) + 1)]) → st'[dn]? = some (.lst (ms.map D.int)) → st' = st.set n (.lst [.ref dn, .int ((i : Int) + 1)]) → ∀ r : Nat, (r : Int) < m → R (nI r) st' := fun st' e1 e2 e3 r hr => by
    refine hR r st' hr ⟨dn, i + 1, ms, by rw [e1]; simp, hne, e2⟩ ⟨by rw [e3, List.length_set], fun k hk => by rw [e3, List.getElem?_set_ne (Ne.symm hk)]⟩
  have s1 : (st.set n (.lst [.ref dn, .int ((i : Int) + 1)]))[n]? = some (.lst [.ref dn, .int ((i : Int) + 1)]) := List.getElem?_set_self hn
  have s2 : (st.set n (.lst [.ref dn, .int ((i : Int) + 1)]))[dn]? = some (.lst (ms.map D.int)) := by rw [List.getElem?_set_ne (by omega)]; exact h2
  refine ⟨.int i, by simp [mOp, mVar, mC, fIx, seqOf, h1, atI, ixN], _, rfl, ?_⟩
  refine ⟨.int (i + 1), by simp [mOp, mVar, mC, fAdd, List.set], n, 1, _, 1, rfl, rfl, h1, rfl, ?_⟩
  show sSeq _ _ _ [some (.ref n), some (.int m), some (.int i)] (st.set n (.lst [.ref dn, .int ((i : Int) + 1)]))
  refine ⟨decide ((i : Int) < (ms.map D.int).length), ?_, ite2 (fun hb => ?_) fun hb => ?_⟩
  · simp [bV, mOp, mVar, mF1, mC, fLt, fI, fLen, fIx, seqOf, s1, s2, atI, ixN]
  · have hlt : i < ms.length := by simpa using of_decide_eq_true hb
    refine ⟨nI (ms[i] % m).toNat, ?_, key _ s1 s2 rfl _ (by rw [Int.toNat_of_nonneg (Int.emod_nonneg _ (by omega))]; exact Int.emod_lt_of_pos _ hm)⟩
    have e2 : atI (ms.map D.int) (i : Int) = some (.int ms[i]) := by rw [atI_nat, List.getElem?_map, List.getElem?_eq_getElem hlt]; rfl
    have e3 : (((ms[i] % m).toNat : Nat) : Int) = ms[i] % m := Int.toNat_of_nonneg (Int.emod_nonneg _ (by omega))
    have e4 : atI [D.ref dn, D.int ((i : Int) + 1)] 0 = some (D.ref dn) := rfl
    simp only [mOp, mVar, mF1, mC, fIx, seqOf, s1, s2, e4, e2, List.getElem?_cons_succ, List.getElem?_cons_zero, fInt, fMod, fI, hm, if_true, nI, e3]
  · exact ⟨_, rfl, key _ s1 s2 rfl 0 (by simpa using hm)⟩
theorem some_go {n many : Nat} {sparse : Int} {R0 : D → SS → Prop} {st0 : SS} (hR : ∀ (l : List Nat) st1, l.Pairwise (· < ·) → (∀ x ∈ l, x < many) → Boxed st1 n → Ev n st0 st1 → R0 (dN l) st1) :
    ∀ (ks : List Nat) (st : SS) (done : List Nat), (∀ x ∈ done, x < many) → done.Pairwise (· < ·) → (∀ x ∈ ks, x < many ∧ ∀ y ∈ done, y < x) → ks.Pairwise (· < ·) → Boxed st n → Ev n st0 st →
      xGo (tgN 3) (xV (xOp fLt (xCall drawT (xCons (xOf (mVar 0)) (xCons (xOf (mC (.int 6))) xNil))) (xOf (mVar 2)))) (xOf (mVar 3)) [some (.ref n), some (nI many), some (.int sparse), none] st0 none (ks.map nI) st (fun ys st1 => R0 (.tup (done.map nI ++ ys)) st1)
  | [], st, done, h1, h2, _, _, hB, hE => ⟨trivial, by show R0 (.tup (done.map nI ++ [])) st; rw [List.append_nil]; exact hR done st h2 h1 hB hE⟩
  | k :: ks, st, done, h1, h2, h3, h4, hB, hE => by
    refine ⟨trivial, [some (.ref n), some (nI many), some (.int sparse), some (nI k)], rfl, ?_⟩
    refine ⟨.ref n, rfl, .int 6, rfl, n, 6, rfl, by decide, hB, fun r st1 hr hB1 hE1 => ?_⟩
    refine ⟨.int sparse, rfl, .bl (decide ((r : Int) < sparse)), rfl, _, rfl, ite2 (fun _ => ?_) fun _ => ?_⟩
    · refine ⟨nI k, rfl, ?_⟩
      have hk := List.pairwise_cons.mp h4
      have q := some_go (sparse := sparse) hR ks st1 (done ++ [k]) (fun x hx => ?_) ?_ (fun x hx => ⟨(h3 x (List.mem_cons_of_mem _ hx)).1, fun y hy => ?_⟩) hk.2 hB1 (hE.trans hE1)
      · have e : (fun ys st1 => R0 (.tup ((done ++ [k]).map nI ++ ys)) st1) = fun ys st1 => R0 (.tup (done.map nI ++ (nI k :: ys))) st1 := by
          funext ys st1
          simp
        rw [e] at q
        exact q
      · rcases List.mem_append.mp hx with hx | hx
        · exact h1 x hx
        · rw [List.mem_singleton.mp hx]; exact (h3 k List.mem_cons_self).1
      · rw [List.pairwise_append]
        exact ⟨h2, by simp, fun a ha b hb => by rw [List.mem_singleton.mp hb]; exact (h3 k List.mem_cons_self).2 a ha⟩
      · rcases List.mem_append.mp hy with hy | hy
        · exact (h3 x (List.mem_cons_of_mem _ hx)).2 y hy
        · rw [List.mem_singleton.mp hy]; exact hk.1 x hx
    · exact some_go hR ks st1 done h1 h2 (fun x hx => h3 x (List.mem_cons_of_mem _ hx)) (List.pairwise_cons.mp h4).2 hB1 (hE.trans hE1)
theorem some_ok (ds : List D) (st : SS) (R : D → SS → Prop) (h : someT ds st R) : fnT N_law_some 3 X_law_some ds st R := by
  obtain ⟨n, many, sparse, rfl, hm, hB, hR⟩ := h
  refine ⟨rfl, ?_⟩
  show X_law_some _ [some (.ref n), some (nI many), some (.int sparse), none] st
  refine ⟨intsD 0 many, none, ?_, ?_⟩
  · show iRng (mVar 1) _ st = _
    unfold iRng nI
    simp [mVar]
    omega
  · rw [intsD0]
    have q := some_go (sparse := sparse) (R0 := R) hR (List.range many) st [] (by simp) List.Pairwise.nil (fun x hx => ⟨List.mem_range.mp hx, by simp⟩) List.pairwise_lt_range hB (Ev.refl n st)
    exact q
theorem table_go {n many things marks : Nat} {sparse : Int} {R0 : D → SS → Prop} {st0 : SS} (hm : many ≤ 1000) :
    ∀ (ks : List D) (st : SS) (done : List (List Nat)), (∀ (rows : List (List Nat)) st1, rows.length = done.length + ks.length → (∀ r ∈ rows, r.Pairwise (· < ·) ∧ ∀ x ∈ r, x < many) → Boxed st1 n → Ev n st0 st1 → R0 (.tup (rows.map dN)) st1) → (∀ r ∈ done, r.Pairwise (· < ·) ∧ ∀ x ∈ r, x < many) → Boxed st n → Ev n st0 st →
      ∀ stx, xGo (tgN 5) (xbOf bYes) (xCall someT (xCons (xOf (mVar 0)) (xCons (xOf (mVar 3)) (xCons (xOf (mVar 4)) xNil)))) [some (.ref n), some (nI things), some (nI marks), some (nI many), some (.int sparse), none, none] stx none ks st (fun ys st1 => R0 (.tup (done.map dN ++ ys)) st1)
  | [], st, done, hR, h1, hB, hE, stx => ⟨trivial, by show R0 (.tup (done.map dN ++ [])) st; rw [List.append_nil]; exact hR done st rfl h1 hB hE⟩
  | k :: ks, st, done, hR, h1, hB, hE, stx => by
    refine ⟨trivial, [some (.ref n), some (nI things), some (nI marks), some (nI many), some (.int sparse), some k, none], rfl, true, rfl, iteT ?_⟩
    refine ⟨.ref n, rfl, nI many, rfl, .int sparse, rfl, n, many, sparse, rfl, hm, hB, fun l st1 hl1 hl2 hB1 hE1 => ?_⟩
    have q := table_go (things := things) (marks := marks) (sparse := sparse) (R0 := R0) hm ks st1 (done ++ [l]) (fun rows st2 hlen => hR rows st2 (by rw [hlen, List.length_append, List.length_cons]; simp; omega)) (fun r hr => ?_) hB1 (hE.trans hE1) stx
    · have e : (fun ys st1 => R0 (.tup ((done ++ [l]).map dN ++ ys)) st1) = fun ys st1 => R0 (.tup (done.map dN ++ (dN l :: ys))) st1 := by
        funext ys st1
        simp
      rw [e] at q
      exact q
    · rcases List.mem_append.mp hr with hr | hr
      · exact h1 r hr
      · rw [List.mem_singleton.mp hr]; exact ⟨hl1, hl2⟩
theorem table_ok (ds : List D) (st : SS) (R : D → SS → Prop) (h : tableT ds st R) : fnT N_law_table 3 X_law_table ds st R := by
  obtain ⟨n, things, marks, rfl, ht, hm, hB, hR⟩ := h
  refine ⟨rfl, ?_⟩
  show X_law_table _ [some (.ref n), some (nI things), some (nI marks), none, none, none, none] st
  refine ⟨.ref n, rfl, .int ((marks : Int) + 1), rfl, n, _, rfl, by omega, hB, fun many st1 hmany hB1 hE1 => ⟨_, rfl, ?_⟩⟩
  refine ⟨.int 2, rfl, .ref n, rfl, .int 3, rfl, n, 3, rfl, by decide, hB1, fun sp st2 hsp hB2 hE2 => ⟨.int (2 + (sp : Int)), rfl, _, rfl, ?_⟩⟩
  refine ⟨.ref n, rfl, .int ((things : Int) + 1), rfl, n, _, rfl, by omega, hB2, fun count st3 hcount hB3 hE3 => ⟨(count : Int), rfl, by omega, by omega, ?_⟩⟩
  refine table_go (n := n) (many := many) (things := things) (marks := marks) (sparse := 2 + (sp : Int)) (R0 := fun d st' => ∃ env1, tgN 6 d [some (.ref n), some (nI things), some (nI marks), some (nI many), some (.int (2 + (sp : Int))), none, none] = some env1 ∧ sRet (xOf (mTup (mCons (mC (.str ("table" : Str))) (mCons (mVar 3) (mCons (mVar 6) mNil))))) { nx := fun _ st' => R .non st', rt := R } env1 st') (st0 := st) (by omega) (intsD 0 ((count : Int)).toNat) st3 [] (fun rows st4 hlen hrows hB4 hE4 => ⟨_, rfl, ?_⟩) (by simp) hB3 ((hE1.trans hE2).trans hE3) st3
  refine ⟨tblD many rows, rfl, hR many rows st4 (by omega) ?_ hrows hB4 hE4⟩
  rw [hlen, intsD_len]
  simp
  omega
/-! ### the digits -/
def EnvD (n : Nat) (i j : Int) (env : EV) : Prop := ∃ a b c d, env = [none, some (.int i), some (.int j), some (.ref n), a, b, c, d]
theorem digits_ok (ns : List Int) (ds : List D) (st : SS) (R : D → SS → Prop) (h : digitsT ns ds st R) : fnS N_law_digits 3 X_law_digits ns ds st R := by
  obtain ⟨i, j, rfl, hij, hj, hR⟩ := h
  refine ⟨rfl, ?_⟩
  show X_law_digits ns _ [none, some (.int i), some (.int j), none, none, none, none, none] st
  refine ⟨[], rfl, _, rfl, ?_⟩
  refine ⟨intsD (i : Int) ((j : Int) - i).toNat, none, ?_, ?_⟩
  · show iRng2 (mVar 1) (mVar 2) _ _ = _
    unfold iRng2
    simp only [mVar, List.set, List.getElem?_cons_succ, List.getElem?_cons_zero]
    rw [if_pos ⟨⟨by omega, by omega⟩, by omega, by omega⟩]
  have app : ∀ ms : List Int, (st ++ [Cell.lst (ms.map D.int)])[st.length]? = some (.lst (ms.map D.int)) := fun ms => by simp
  have sets : ∀ (ms : List Int) (k : Int), (st ++ [Cell.lst (ms.map D.int)]).set st.length (.lst (ms.map D.int ++ [.int k])) = st ++ [Cell.lst ((ms ++ [k]).map D.int)] := fun ms k => by simp
  refine for_inv (fun rest env st1 => (∀ d ∈ rest, ∃ k : Nat, d = nI k) ∧ EnvD st.length i j env ∧ ∃ ms : List Int, st1 = st ++ [.lst (ms.map D.int)] ∧ ms.length + 60 * rest.length ≤ 60000) ?_ ?_ _ _ _ ⟨?_, ⟨_, _, _, _, rfl⟩, [], rfl, ?_⟩
  · rintro d rest env st1 ⟨hd, ⟨a, b, c, e, rfl⟩, ms, rfl, hlen⟩
    obtain ⟨k, rfl⟩ := hd d List.mem_cons_self
    have hrest : ∀ d ∈ rest, ∃ k : Nat, d = nI k := fun d h => hd d (List.mem_cons_of_mem _ h)
    rw [List.length_cons] at hlen
    refine ⟨[none, some (.int i), some (.int j), some (.ref st.length), some (nI k), b, c, e], rfl, fun K hnx hct hrt hbk => ?_⟩
    refine ⟨nI k, rfl, (k : Int), rfl, by omega, fun v => ⟨_, rfl, ?_⟩⟩
    have go : ∀ v : Int, sIf (xbOf (bV (mOp fGe (mVar 5) (mOp fPow (mC (.int 10)) (mC (.int 18)))))) (sFor (xiOf (iRng (mC (.int 60)))) (tgN 6) (sIf (xbOf (bV (mOp fGt (mVar 5) (mC (.int 0))))) (sSeq (sAppP (mVar 3) (xOf (mOp fMod (mF1 fInt (mVar 5)) (mC (.int 1000))))) (sAsg (xOf (mOp fDiv (mVar 5) (mC (.int 1000)))) (tgN 5))) sNext)) (sSeq (sAsg (xOf (mOp fMod (mF1 fInt (mOp fAdd (mOp fAdd (mOp fMul (mVar 5) (mC (.int 48271))) (mOp fMul (mVar 4) (mC (.int 69621)))) (mC (.int 11)))) (mC (.int 2147483647)))) (tgN 7)) (sFor (xiOf (iRng (mC (.int 12)))) (tgN 6) (sSeq (sAsg (xOf (mOp fMod (mF1 fInt (mOp fAdd (mOp fAdd (mOp fMul (mVar 7) (mC (.int 16807))) (mOp fMul (mC (.int 7)) (mVar 6))) (mC (.int 1)))) (mC (.int 2147483647)))) (tgN 7)) (sAppP (mVar 3) (xOf (mOp fMod (mF1 fInt (mOp fDiv (mVar 7) (mC (.int 997)))) (mC (.int 1000)))))))) K [none, some (.int i), some (.int j), some (.ref st.length), some (nI k), some (.int v), c, e] (st ++ [.lst (ms.map D.int)]) := by
      intro v
      refine ⟨decide (v ≥ 10 ^ 18), ?_, ite2 (fun _ => ?_) fun _ => ?_⟩
      · rfl
      · refine ⟨intsD 0 60, none, rfl, ?_⟩
        refine for_inv (fun r2 env st1 => (∃ v c e, env = [none, some (.int i), some (.int j), some (.ref st.length), some (nI k), some (.int v), c, e]) ∧ ∃ ms2 : List Int, st1 = st ++ [.lst (ms2.map D.int)] ∧ ms2.length + r2.length + 60 * rest.length ≤ 60000) ?_ ?_ _ _ _ ⟨⟨v, c, e, rfl⟩, ms, rfl, by rw [intsD_len]; omega⟩
        · rintro d2 r2 env st1 ⟨⟨v, c, e, rfl⟩, ms2, rfl, hl2⟩
          rw [List.length_cons] at hl2
          refine ⟨_, rfl, fun K2 hnx2 hct2 hrt2 hbk2 => ?_⟩
          refine ⟨decide (v > 0), rfl, ite2 (fun _ => ?_) fun _ => hnx2 _ _ ⟨⟨_, _, _, rfl⟩, ms2, rfl, by omega⟩⟩
          refine ⟨st.length, _, rfl, app ms2, .int (v % 1000), rfl, _, app ms2, by rw [List.length_map]; omega, ?_⟩
          refine ⟨.int (v / 1000), rfl, _, rfl, ?_⟩
          rw [sets]
          exact hnx2 _ _ ⟨⟨_, _, _, rfl⟩, _, rfl, by rw [List.length_append, List.length_singleton]; omega⟩
        · rintro env st1 ⟨⟨v, c, e, rfl⟩, ms2, rfl, hl2⟩
          exact hnx _ _ ⟨hrest, ⟨_, _, _, _, rfl⟩, ms2, rfl, by simpa using hl2⟩
      · refine ⟨.int ((v * 48271 + (k : Int) * 69621 + 11) % 2147483647), by simp [mOp, mVar, mC, mF1, fInt, fMod, fAdd, fMul, fI, nI], _, rfl, ?_⟩
        refine ⟨intsD 0 12, none, rfl, ?_⟩
        refine for_inv (fun r2 env st1 => (∀ d ∈ r2, ∃ k : Nat, d = nI k) ∧ (∃ s v c, env = [none, some (.int i), some (.int j), some (.ref st.length), some (nI k), some (.int v), c, some (.int s)]) ∧ ∃ ms2 : List Int, st1 = st ++ [.lst (ms2.map D.int)] ∧ ms2.length + r2.length + 60 * rest.length ≤ 60000) ?_ ?_ _ _ _ ⟨?_, ⟨_, v, c, rfl⟩, ms, rfl, by rw [intsD_len]; omega⟩
        · rintro d2 r2 env st1 ⟨hd2, ⟨s, v, c, rfl⟩, ms2, rfl, hl2⟩
          obtain ⟨k2, rfl⟩ := hd2 d2 List.mem_cons_self
          rw [List.length_cons] at hl2
          refine ⟨_, rfl, fun K2 hnx2 hct2 hrt2 hbk2 => ?_⟩
          refine ⟨.int ((s * 16807 + 7 * (k2 : Int) + 1) % 2147483647), by simp [mOp, mVar, mC, mF1, fInt, fMod, fAdd, fMul, fI, nI], _, rfl, ?_⟩
          refine ⟨st.length, _, rfl, app ms2, .int (((s * 16807 + 7 * (k2 : Int) + 1) % 2147483647) / 997 % 1000), rfl, _, app ms2, by rw [List.length_map]; omega, ?_⟩
          rw [sets]
          exact hnx2 _ _ ⟨fun d h => hd2 d (List.mem_cons_of_mem _ h), ⟨_, _, _, rfl⟩, _, rfl, by rw [List.length_append, List.length_singleton]; omega⟩
        · rintro env st1 ⟨_, ⟨s, v, c, rfl⟩, ms2, rfl, hl2⟩
          exact hnx _ _ ⟨hrest, ⟨_, _, _, _, rfl⟩, ms2, rfl, by simpa using hl2⟩
        · intro d hd
          have hd : d ∈ intsD 0 12 := hd
          rw [intsD0] at hd
          obtain ⟨k, _, e⟩ := List.mem_map.mp hd
          exact ⟨k, e.symm⟩
    refine ⟨decide (v < 0), rfl, ite2 (fun _ => ?_) fun _ => go v⟩
    exact ⟨.int (1 - 2 * v), rfl, _, rfl, go _⟩
  · rintro env st1 ⟨_, ⟨a, b, c, e, rfl⟩, ms, rfl, _⟩
    exact ⟨.ref st.length, rfl, hR ms⟩
  · intro d hd
    unfold intsD at hd
    obtain ⟨k, _, rfl⟩ := List.mem_map.mp hd
    exact ⟨i + k, by unfold nI; simp⟩
  · rw [intsD_len]
    simp
    omega
theorem box_ok (ns : List Int) (ds : List D) (st : SS) (R : D → SS → Prop) (h : boxT ns ds st R) : fnS N_law_box 3 X_law_box ns ds st R := by
  obtain ⟨i, j, rfl, hij, hj, hR⟩ := h
  refine ⟨rfl, ?_⟩
  show X_law_box ns _ [none, some (.int i), some (.int j)] st
  refine ⟨.int i, rfl, .int j, rfl, i, j, rfl, hij, hj, fun ms => ?_⟩
  refine ⟨.int 0, rfl, by show 2 ≤ 1000; decide, ?_⟩
  refine hR _ _ (by simp) (by simp) (fun m hm => ?_) ⟨st.length, 0, ms, ?_, ?_, ?_⟩
  · rw [List.append_assoc, List.getElem?_append_left hm]
  · rw [List.getElem?_append_right (Nat.le_refl _), Nat.sub_self]
    rfl
  · simp
  · simp
end GD

set_option Elab.async false
set_option linter.all false
set_option maxRecDepth 100000
set_option maxHeartbeats 4000000
namespace GD
open PySem PySem.Spec PyProof.Rows L2 GX

/-! ## 12. the word that compares -/
def D.fit : Nat → D → Bool
  | _, .non => true
  | _, .bl _ => true
  | _, .int _ => true
  | _, .str x => D.good (.str x)
  | 0, .tup _ => false
  | n + 1, .tup l => decide (l.length ≤ 1000000) && l.all (D.fit n)
  | _, .ref _ => false
def sameB : Nat → D → D → Bool
  | _, a, .non => match a with | .non => true | _ => false
  | _, a, .bl b => match a with | .bl c => c == b | _ => false
  | _, a, .int b => match a with | .int c => decide (c = b) | _ => false
  | _, a, .str b => match a with | .str c => c == b | _ => false
  | 0, _, .tup _ => false
  | n + 1, a, .tup l => match a with | .tup k => decide (k.length = l.length) && (k.zip l).all fun p => sameB n p.1 p.2 | _ => false
  | _, _, .ref _ => false
theorem zip_self {α : Type} : ∀ l : List α, l.zip l = l.map fun x => (x, x)
  | [] => rfl
  | x :: xs => by rw [List.zip_cons_cons, zip_self xs]; rfl
theorem same_refl : ∀ (n : Nat) (d : D), D.fit n d = true → sameB n d d = true
  | _, .non, _ => by unfold sameB; rfl
  | _, .bl b, _ => by unfold sameB; simp
  | _, .int i, _ => by unfold sameB; simp
  | _, .str x, _ => by unfold sameB; simp
  | 0, .tup l, h => by unfold D.fit at h; cases h
  | n + 1, .tup l, h => by
    unfold D.fit at h
    rw [Bool.and_eq_true] at h
    unfold sameB
    simp only [decide_true, Bool.true_and]
    rw [zip_self, List.all_map, List.all_eq_true]
    exact fun x hx => same_refl n x (List.all_eq_true.mp h.2 x hx)
  | _, .ref _, h => by unfold D.fit at h; cases h
def sameFn (n : Nat) : List D → SS → Option D := fun ds _ => match ds with
  | [a, e] => if D.fit n a = true ∧ D.fit n e = true then some (.bl (sameB n a e)) else none
  | _ => none
def sameF : List D → SS → Option D := sameFn 8
theorem sameF_refl {d : D} {st : SS} (h : D.fit 8 d = true) : sameF [d, d] st = some (.bl true) := by
  show (if D.fit 8 d = true ∧ D.fit 8 d = true then some (D.bl (sameB 8 d d)) else none) = _
  rw [if_pos ⟨h, h⟩, same_refl _ _ h]
-- the names: GD11
theorem kk (s T : String) (b : Bool) (h : kitB s T = some b) (st : SS) (d : D) (hd : d.kind st = some s) : fIs T st d = some (.bl b) := by
  unfold fIs
  rw [hd]
  simp only [h]
section
variable {r u : RS} {c : MB} {env e1 : EV} {st : SS} {d : D}
theorem rSeq_nx (h : r env st = some (.nx e1)) : rSeq r u env st = u e1 st := by unfold rSeq; rw [h]
theorem rSeq_rt (h : r env st = some (.rt d)) : rSeq r u env st = some (.rt d) := by unfold rSeq; rw [h]
theorem rIf_t (h : c env st = some true) : rIf c r u env st = r env st := by unfold rIf; rw [h]
theorem rIf_f (h : c env st = some false) : rIf c r u env st = u env st := by unfold rIf; rw [h]
theorem rRet_e {m : MP} (h : m env st = some d) : rRet m env st = some (.rt d) := by unfold rRet; rw [h]
theorem rAsg_e {m : MP} {t : MT} (h : m env st = some d) (ht : t d env = some e1) : rAsg m t env st = some (.nx e1) := by unfold rAsg; rw [h]; simp only [ht]
end
theorem eqI (i j : Int) (st : SS) : fEq st (.int i) (.int j) = some (.bl (decide (i = j))) := rfl
theorem neI (i j : Int) (st : SS) : fNe st (.int i) (.int j) = some (.bl (!decide (i = j))) := rfl
theorem eqB (i j : Bool) (st : SS) : fEq st (.bl i) (.bl j) = some (.bl (i == j)) := by cases i <;> cases j <;> rfl
theorem eqS (i j : Str) (st : SS) (hi : D.good (.str i) = true) (hj : D.good (.str j) = true) : fEq st (.str i) (.str j) = some (.bl (i == j)) := if_pos ⟨hi, hj⟩
theorem isV {s T : String} {b : Bool} (h : kitB s T = some b) {i : Nat} {env : EV} {st : SS} {d : D} (he : env[i]? = some (some d)) (hd : d.kind st = some s) : mF1 (fIs T) (mVar i) env st = some (.bl b) := by
  unfold mF1 mVar
  simp only [he]
  exact kk s T b h st d hd
theorem isVb {s T : String} {b : Bool} (h : kitB s T = some b) {i : Nat} {env : EV} {st : SS} {d : D} (he : env[i]? = some (some d)) (hd : d.kind st = some s) : bV (mF1 (fIs T) (mVar i)) env st = some b := by
  unfold bV
  rw [isV h he hd]
theorem k1 : kitB "NoneType" "tuple" = some false := by decide +kernel
theorem k2 : kitB "bool" "tuple" = some false := by decide +kernel
theorem k3 : kitB "int" "tuple" = some false := by decide +kernel
theorem k4 : kitB "str" "tuple" = some false := by decide +kernel
theorem k5 : kitB "tuple" "tuple" = some true := by decide +kernel
theorem k11 : kitB "NoneType" "bool" = some false := by decide +kernel
theorem k12 : kitB "bool" "bool" = some true := by decide +kernel
theorem k13 : kitB "int" "bool" = some false := by decide +kernel
theorem k14 : kitB "str" "bool" = some false := by decide +kernel
theorem k15 : kitB "tuple" "bool" = some false := by decide +kernel
theorem k21 : kitB "NoneType" "int" = some false := by decide +kernel
theorem k22 : kitB "bool" "int" = some true := by decide +kernel
theorem k23 : kitB "int" "int" = some true := by decide +kernel
theorem k24 : kitB "str" "int" = some false := by decide +kernel
theorem k25 : kitB "tuple" "int" = some false := by decide +kernel
theorem k31 : kitB "NoneType" "str" = some false := by decide +kernel
theorem k32 : kitB "bool" "str" = some false := by decide +kernel
theorem k33 : kitB "int" "str" = some false := by decide +kernel
theorem k34 : kitB "str" "str" = some true := by decide +kernel
theorem k35 : kitB "tuple" "str" = some false := by decide +kernel
theorem mAnd_t {a b : MP} {env : EV} {st : SS} (h : a env st = some (.bl true)) : mAnd a b env st = b env st := by unfold mAnd; rw [h]
theorem mAnd_f {a b : MP} {env : EV} {st : SS} (h : a env st = some (.bl false)) : mAnd a b env st = some (.bl false) := by unfold mAnd; rw [h]
theorem same_loop {n : Nat} {k l : List D} {st : SS} (hk : ∀ x ∈ k, D.fit n x = true) (hl : ∀ x ∈ l, D.fit n x = true) (hlen : k.length = l.length) :
    ∀ (m i : Nat) (x : Option D), i + m = l.length → rForGo (tgN 2) (rIf (bNot (bV (mCall (sameFn n) (mCons (mOp fIx (mVar 0) (mVar 2)) (mCons (mOp fIx (mVar 1) (mVar 2)) mNil))))) (rRet (mC (.bl false))) rNext) st ((List.range' i m).map nI) [some (.tup k), some (.tup l), x] =
      some (if ((k.drop i).zip (l.drop i)).all (fun p => sameB n p.1 p.2) = true then .nx [some (.tup k), some (.tup l), if m = 0 then x else some (nI (i + m - 1))] else .rt (.bl false))
  | 0, i, x, h => by
    have e : l.drop i = [] := List.drop_eq_nil_of_le (by omega)
    rw [e, List.zip_nil_right]
    rfl
  | m + 1, i, x, h => by
    have hi : i < l.length := by omega
    have hik : i < k.length := by omega
    have e1 : ∀ (ds : List D) (hd : i < ds.length), atI ds (i : Int) = some ds[i] := fun ds hd => by rw [atI_nat, List.getElem?_eq_getElem hd]
    have ev : bNot (bV (mCall (sameFn n) (mCons (mOp fIx (mVar 0) (mVar 2)) (mCons (mOp fIx (mVar 1) (mVar 2)) mNil)))) [some (.tup k), some (.tup l), some (nI i)] st = some (!sameB n k[i] l[i]) := by
      have f1 : D.fit n k[i] = true := hk _ (List.getElem_mem _)
      have f2 : D.fit n l[i] = true := hl _ (List.getElem_mem _)
      simp [bNot, bV, mCall, mCons, mNil, mOp, mVar, fIx, seqOf, nI, e1 k hik, e1 l hi, sameFn, f1, f2]
    rw [List.range'_succ, List.map_cons, rForGo]
    show (match (match rIf _ _ _ [some (.tup k), some (.tup l), some (nI i)] st with | some (.nx e) => _ | some (.ct e) => _ | some (.bk e) => _ | some (.rt d) => _ | none => _ : Option Rs) with | x => x) = _
    rw [List.drop_eq_getElem_cons hi, List.drop_eq_getElem_cons hik, List.zip_cons_cons, List.all_cons]
    cases hs : sameB n k[i] l[i] with
    | false =>
      rw [hs] at ev
      rw [rIf_t ev]
      rfl
    | true =>
      rw [hs] at ev
      rw [rIf_f ev]
      have q := same_loop (st := st) hk hl hlen m (i + 1) (some (nI i)) (by omega)
      simp only [rNext, Bool.true_and]
      rw [q]
      by_cases hm : m = 0
      · subst hm
        simp
      · simp [hm]
        try (have : i + 1 + m - 1 = i + (m + 1) - 1 := by omega)
        try rw [this]
        try rfl
theorem same_step {n : Nat} {F : List D → SS → Option D} (hF : ∀ m, n = m + 1 → F = sameFn m) (ds : List D) (st : SS) (d : D) (h : sameFn n ds st = some d) : fnR N_law_same 2 (R_law_same F) ds st = some d := by
  match ds, h with
  | [a, e], h =>
  have h : (if D.fit n a = true ∧ D.fit n e = true then some (D.bl (sameB n a e)) else none) = some d := h
  split at h
  · rename_i hf
    cases h
    obtain ⟨fa, fe⟩ := hf
    have key : R_law_same F [some a, some e, none] st = some (.rt (.bl (sameB n a e))) := by
      unfold R_law_same
      have isN : ∀ {x y : D}, fIsN st x .non = some (.bl x.isN) := rfl
      cases e with
      | tup l =>
       cases n with
       | zero => unfold D.fit at fe; cases fe
       | succ n =>
        rw [hF n rfl]
        have c1 := isVb (st := st) (i := 1) (env := [some a, some (.tup l), none]) k5 rfl rfl
        cases a with
        | tup k =>
          refine rSeq_rt ((rIf_t c1).trans ?_)
          have c2 := isVb (st := st) (i := 0) (env := [some (.tup k), some (.tup l), none]) k5 rfl rfl
          by_cases hlen : k.length = l.length
          · have c3 : bOr (bNot (bV (mF1 (fIs "tuple") (mVar 0)))) (bV (mOp fNe (mF1 fLen (mVar 0)) (mF1 fLen (mVar 1)))) [some (.tup k), some (.tup l), none] st = some false := by
              have c4 : bV (mOp fNe (mF1 fLen (mVar 0)) (mF1 fLen (mVar 1))) [some (.tup k), some (.tup l), none] st = some false := by
                simp [bV, mOp, mF1, mVar, fLen, seqOf, neI, hlen]
              unfold bOr bNot
              rw [c2]
              exact c4
            refine (rSeq_nx (rIf_f c3)).trans ?_
            unfold D.fit at fa fe
            rw [Bool.and_eq_true] at fa fe
            have hk := List.all_eq_true.mp fa.2
            have hl := List.all_eq_true.mp fe.2
            have hle : l.length ≤ 1000000 := of_decide_eq_true fe.1
            have loop := same_loop (st := st) hk hl hlen l.length 0 none (by simp)
            have it : iRng (mF1 fLen (mVar 1)) [some (.tup k), some (.tup l), none] st = some ((List.range' 0 l.length).map nI, none) := by
              have e : iRng (mF1 fLen (mVar 1)) [some (.tup k), some (.tup l), none] st = if (l.length : Int) ≤ 1000000 ∧ -1000000 ≤ (l.length : Int) then some (intsD 0 ((l.length : Int)).toNat, none) else none := rfl
              rw [e, if_pos ⟨by omega, by omega⟩, intsD0, ← List.range_eq_range']
              rfl
            have f : ∀ (r : RS), rFor (iRng (mF1 fLen (mVar 1))) (tgN 2) r [some (.tup k), some (.tup l), none] st = rForGo (tgN 2) r st ((List.range' 0 l.length).map nI) [some (.tup k), some (.tup l), none] := fun r => by
              unfold rFor
              rw [it]
            have sB : sameB (n + 1) (.tup k) (.tup l) = (k.zip l).all fun p => sameB n p.1 p.2 := by
              show (decide (k.length = l.length) && _) = _
              rw [decide_eq_true hlen, Bool.true_and]
            rw [sB]
            rw [List.drop_zero, List.drop_zero] at loop
            cases hz : (k.zip l).all fun p => sameB n p.1 p.2 with
            | true =>
              rw [hz] at loop
              exact (rSeq_nx ((f _).trans loop)).trans rfl
            | false =>
              rw [hz] at loop
              exact rSeq_rt ((f _).trans loop)
          · have c3 : bOr (bNot (bV (mF1 (fIs "tuple") (mVar 0)))) (bV (mOp fNe (mF1 fLen (mVar 0)) (mF1 fLen (mVar 1)))) [some (.tup k), some (.tup l), none] st = some true := by
              have c4 : bV (mOp fNe (mF1 fLen (mVar 0)) (mF1 fLen (mVar 1))) [some (.tup k), some (.tup l), none] st = some true := by
                have : ¬ ((k.length : Int) = (l.length : Int)) := by omega
                simp [bV, mOp, mF1, mVar, fLen, seqOf, neI, this, hlen]
              unfold bOr bNot
              rw [c2]
              exact c4
            refine (rSeq_rt ((rIf_t c3).trans (rRet_e rfl))).trans ?_
            show _ = some (Rs.rt (.bl (decide (k.length = l.length) && _)))
            rw [decide_eq_false hlen]
            rfl
        | ref m => cases n <;> simp [D.fit] at fa
        | non => exact rSeq_rt ((rIf_t c1).trans (rSeq_rt ((rIf_t (by unfold bOr bNot; rw [isVb (i := 0) k1 rfl rfl]; rfl)).trans (rRet_e rfl))))
        | bl b => exact rSeq_rt ((rIf_t c1).trans (rSeq_rt ((rIf_t (by unfold bOr bNot; rw [isVb (i := 0) k2 rfl rfl]; rfl)).trans (rRet_e rfl))))
        | int b => exact rSeq_rt ((rIf_t c1).trans (rSeq_rt ((rIf_t (by unfold bOr bNot; rw [isVb (i := 0) k3 rfl rfl]; rfl)).trans (rRet_e rfl))))
        | str b => exact rSeq_rt ((rIf_t c1).trans (rSeq_rt ((rIf_t (by unfold bOr bNot; rw [isVb (i := 0) k4 rfl rfl]; rfl)).trans (rRet_e rfl))))
      | ref m => cases n <;> simp [D.fit] at fe
      | non =>
        refine (rSeq_nx (rIf_f (isVb (i := 1) k1 rfl rfl))).trans ?_
        refine rSeq_rt ((rIf_t rfl).trans (rRet_e ?_))
        cases a <;> cases n <;> rfl
      | bl b =>
        refine (rSeq_nx (rIf_f (isVb (i := 1) k2 rfl rfl))).trans ?_
        refine (rSeq_nx (rIf_f rfl)).trans ?_
        refine rSeq_rt ((rIf_t (isVb (i := 1) k12 rfl rfl)).trans (rRet_e ?_))
        cases a with
        | bl c => exact ((mAnd_t (isV (i := 0) k12 rfl rfl)).trans (eqB c b st)).trans (by cases n <;> rfl)
        | non => exact (mAnd_f (isV (i := 0) k11 rfl rfl)).trans (by cases n <;> rfl)
        | int c => exact (mAnd_f (isV (i := 0) k13 rfl rfl)).trans (by cases n <;> rfl)
        | str c => exact (mAnd_f (isV (i := 0) k14 rfl rfl)).trans (by cases n <;> rfl)
        | tup c => exact (mAnd_f (isV (i := 0) k15 rfl rfl)).trans (by cases n <;> rfl)
        | ref m => cases n <;> simp [D.fit] at fa
      | int b =>
        refine (rSeq_nx (rIf_f (isVb (i := 1) k3 rfl rfl))).trans ?_
        refine (rSeq_nx (rIf_f rfl)).trans ?_
        refine (rSeq_nx (rIf_f (isVb (i := 1) k13 rfl rfl))).trans ?_
        refine rSeq_rt ((rIf_t (isVb (i := 1) k23 rfl rfl)).trans (rRet_e ?_))
        have nb : ∀ (x : D) (r : Bool), mF1 (fIs "bool") (mVar 0) [some x, some (.int b), none] st = some (.bl r) → mNot (mF1 (fIs "bool") (mVar 0)) [some x, some (.int b), none] st = some (.bl (!r)) := fun x r h => by unfold mNot; rw [h]
        cases a with
        | int c => exact ((mAnd_t (isV (i := 0) k23 rfl rfl)).trans ((mAnd_t (nb _ _ (isV (i := 0) k13 rfl rfl))).trans (eqI c b st))).trans (by cases n <;> rfl)
        | bl c => exact ((mAnd_t (isV (i := 0) k22 rfl rfl)).trans (mAnd_f (nb _ _ (isV (i := 0) k12 rfl rfl)))).trans (by cases n <;> rfl)
        | non => exact (mAnd_f (isV (i := 0) k21 rfl rfl)).trans (by cases n <;> rfl)
        | str c => exact (mAnd_f (isV (i := 0) k24 rfl rfl)).trans (by cases n <;> rfl)
        | tup c => exact (mAnd_f (isV (i := 0) k25 rfl rfl)).trans (by cases n <;> rfl)
        | ref m => cases n <;> simp [D.fit] at fa
      | str b =>
        refine (rSeq_nx (rIf_f (isVb (i := 1) k4 rfl rfl))).trans ?_
        refine (rSeq_nx (rIf_f rfl)).trans ?_
        refine (rSeq_nx (rIf_f (isVb (i := 1) k14 rfl rfl))).trans ?_
        refine (rSeq_nx (rIf_f (isVb (i := 1) k24 rfl rfl))).trans ?_
        refine rRet_e ?_
        cases a with
        | str c => exact ((mAnd_t (isV (i := 0) k34 rfl rfl)).trans (eqS c b st (by unfold D.fit at fa; exact fa) (by unfold D.fit at fe; exact fe))).trans (by cases n <;> rfl)
        | non => exact (mAnd_f (isV (i := 0) k31 rfl rfl)).trans (by cases n <;> rfl)
        | bl c => exact (mAnd_f (isV (i := 0) k32 rfl rfl)).trans (by cases n <;> rfl)
        | int c => exact (mAnd_f (isV (i := 0) k33 rfl rfl)).trans (by cases n <;> rfl)
        | tup c => exact (mAnd_f (isV (i := 0) k35 rfl rfl)).trans (by cases n <;> rfl)
        | ref m => cases n <;> simp [D.fit] at fa
    show (if 2 = 2 then (match R_law_same F [some a, some e, none] st with | some (.rt d) => if D.lo st.length d = true then some d else none | some (.nx _) => some .non | _ => none) else none) = _
    rw [key]
    rfl
  · cases h
theorem DefP.imp {P : Program} {wl : World} {w : Ws} {mg : Str → Option Value} {k : Nat} {x : Str} {F F' : List D → SS → Option D} (c : DefP P wl w mg k x F) (h : ∀ ds st d, F' ds st = some d → F ds st = some d) : DefP P wl w mg k x F' := by
  obtain ⟨f, fd, ps, hF, r⟩ := c.ex
  exact ⟨f, fd, ps, hF.imp fun vs H Q E ⟨ι, st, ds, d, r, s, hd, q⟩ => ⟨ι, st, ds, d, r, s, h _ _ _ hd, q⟩, r⟩
theorem DefC.none {P : Program} {wl : World} {w : Ws} {mg : Str → Option Value} {x : Str} {st : Stmt} {N ps : List Str} {k : Nat} (F : DefC w mg x st) (S : FnScope N ps (defScope st))
    (hb : ∀ (kV doc pm : Value) (an : Option Addr) (cdv ct : Value) (us : List Value), us.length = ps.length → bindArgs (PySem.W.fnOf x x (defArgs st) (defBody st) (defScope st) .none kV doc pm an cdv ct) ⟨us, []⟩ = pure (ps.zip us)) : DefP P wl w mg (k + 1) x (fun _ _ => Option.none) := by
  have q : DefX P wl w mg (k + 1) x (fnT N ps.length fun _ _ _ => False) := DefC.x F S hb fun f c A outer s H E hr hf => PSs.mo pss_never fun E σ H ⟨_, _, _, _, _, _, h, _⟩ => h.elim
  exact q.toP fun ds st d h => by cases h
/-- the comparing word, to the depth that all laws need; step: its walk -/
theorem same_def {P : Program} {wl : World} {w : Ws} {mg : Str → Option Value} (step : ∀ {k : Nat} {F : List D → SS → Option D}, DefP P wl w mg (k + 1) "_law_same" F → DefP P wl w mg (k + 2) "_law_same" (fnR N_law_same 2 (R_law_same F)))
    (base : DefP P wl w mg 1 "_law_same" fun _ _ => Option.none) : DefP P wl w mg 12 "_law_same" sameF := by
  have all : ∀ n, DefP P wl w mg (n + 2) "_law_same" (sameFn n) := by
    intro n
    induction n with
    | zero => exact DefP.imp (step base) fun ds st d h => same_step (n := 0) (fun m e => by cases e) ds st d h
    | succ n ih => exact DefP.imp (step (k := n + 1) ih) fun ds st d h => same_step (n := n + 1) (fun m e => by cases e; rfl) ds st d h
  exact (all 8).mono (by decide)
end GD

set_option Elab.async false
set_option linter.all false
set_option maxRecDepth 100000
set_option maxHeartbeats 4000000
namespace GD
open PySem PySem.Spec PyProof.Rows L2 GX
/-! ## 13. computing the mirrors -/
theorem fnR_rt {N : List Str} {n : Nat} {r : RS} {ds : List D} {st : SS} {d : D} (hl : ds.length = n) (h : r (startE N ds) st = some (.rt d)) (lo : D.lo st.length d = true) : fnR N n r ds st = some d := by
  unfold fnR
  rw [if_pos hl, h]
  show (if D.lo st.length d = true then some d else none) = _
  rw [if_pos lo]
theorem anyGo_map {α : Type} {t : MT} {b : MB} {m : MP} {env : EV} {st : SS} {f : α → D} {p : α → Bool} : ∀ (l : List α), (∀ a ∈ l, ∃ env1, t (f a) env = some env1 ∧ b env1 st = some true ∧ m env1 st = some (.bl (p a))) → allGo t b m env st true (l.map f) = some (l.any p)
  | [], _ => rfl
  | a :: l, h => by
    obtain ⟨env1, h1, h2, h3⟩ := h a List.mem_cons_self
    rw [List.map_cons, allGo, h1]
    simp only [h2, h3]
    rw [anyGo_map l fun a ha => h a (List.mem_cons_of_mem _ ha), List.any_cons]
    cases p a <;> rfl
theorem fGo_map {α : Type} {t : MT} {b : MB} {m : MP} {env : EV} {st : SS} {f : α → D} {p : α → Bool} {g : α → D} : ∀ (l : List α), (∀ a ∈ l, ∃ env1, t (f a) env = some env1 ∧ b env1 st = some (p a) ∧ (p a = true → m env1 st = some (g a))) → fGo t b m env st (l.map f) = some ((l.filter p).map g)
  | [], _ => rfl
  | a :: l, h => by
    obtain ⟨env1, h1, h2, h3⟩ := h a List.mem_cons_self
    rw [List.map_cons, fGo, h1]
    simp only [h2]
    have q := fGo_map l fun a ha => h a (List.mem_cons_of_mem _ ha)
    cases hp : p a with
    | true =>
      simp only [h3 hp]
      rw [q, List.filter_cons_of_pos hp]
      rfl
    | false =>
      simp only
      rw [q, List.filter_cons_of_neg (by rw [hp]; decide)]
theorem pys_nI : ∀ l : List Nat, D.pys (l.map nI) = l.map fun (k : Nat) => PyData.int (k : Int)
  | [] => rfl
  | a :: l => by rw [List.map_cons, D.pys, pys_nI l]; rfl
theorem imm_nI : ∀ l : List Nat, D.imms (l.map nI) = true
  | [] => rfl
  | a :: l => by rw [List.map_cons, D.imms, imm_nI l]; rfl
theorem lay_ints : ∀ l : List Nat, PyData.canLayAll0 (l.map fun (k : Nat) => PyData.int (k : Int)) = true
  | [] => rfl
  | a :: l => by rw [List.map_cons, PyData.canLayAll0, lay_ints l]; rfl
theorem dep_ints : ∀ l : List Nat, PyData.depthAll (l.map fun (k : Nat) => PyData.int (k : Int)) ≤ 1
  | [] => by unfold PyData.depthAll; decide
  | a :: l => by
    have q := dep_ints l
    rw [List.map_cons, PyData.depthAll]
    have e : PyData.depth (PyData.int (a : Int)) ≤ 1 := by unfold PyData.depth; decide
    omega
theorem good_dN (l : List Nat) : D.good (dN l) = true := by
  unfold D.good dN D.imm D.py SeqAt.shaped
  rw [imm_nI, pys_nI, Bool.true_and, Bool.and_eq_true]
  refine ⟨?_, decide_eq_true ?_⟩
  · unfold PyData.canLay0; exact lay_ints l
  · have := dep_ints l
    unfold PyData.depth
    omega
theorem good_nI (k : Nat) : D.good (nI k) = true := rfl
theorem inD_nI (k : Nat) (l : List Nat) : inD (nI k) (l.map nI) = l.contains k := by
  unfold inD
  rw [pys_nI, List.any_map]
  induction l with
  | nil => rfl
  | cons a l ih =>
    rw [List.any_cons, List.contains_cons, ih]
    congr 1
    show ((a : Int) == (k : Int)) = (k == a)
    rw [Bool.eq_iff_iff, beq_iff_eq, beq_iff_eq]
    constructor <;> intro h <;> omega
theorem fIn_nI (st : SS) (k : Nat) (l : List Nat) : fIn st (nI k) (dN l) = some (.bl (l.contains k)) := by
  have g : D.good (.tup (l.map nI)) = true := good_dN l
  show (if D.good (nI k) = true ∧ D.good (.tup (l.map nI)) = true then some (D.bl (inD (nI k) (l.map nI))) else none) = _
  rw [if_pos ⟨good_nI k, g⟩, inD_nI]
theorem rowD (rows : List (List Nat)) {i : Nat} (h : i < rows.length) : rows[i]? = some (rows.getD i []) := by
  rw [List.getD_eq_getElem?_getD, List.getElem?_eq_getElem h]
  rfl
theorem iRng_nat {m : MP} {env : EV} {st : SS} {n : Nat} (h : m env st = some (nI n)) (hn : n ≤ 1000000) : iRng m env st = some ((List.range n).map nI, none) := by
  unfold iRng
  rw [h]
  show (if (n : Int) ≤ 1000000 ∧ -1000000 ≤ (n : Int) then some (intsD 0 ((n : Int)).toNat, none) else none) = _
  rw [if_pos ⟨by omega, by omega⟩, intsD0]
  rfl
theorem fit_dN {l : List Nat} (h : l.length ≤ 1000000) (n : Nat) : D.fit (n + 1) (dN l) = true := by
  unfold dN D.fit
  rw [Bool.and_eq_true, List.length_map]
  refine ⟨decide_eq_true h, ?_⟩
  rw [List.all_map, List.all_eq_true]
  intro x _
  show D.fit n (nI x) = true
  cases n <;> rfl
theorem fit_rows {rows : List (List Nat)} (h : rows.length ≤ 1000000) (h2 : ∀ r ∈ rows, r.length ≤ 1000000) (n : Nat) : D.fit (n + 2) (.tup (rows.map dN)) = true := by
  unfold D.fit
  rw [Bool.and_eq_true, List.length_map]
  refine ⟨decide_eq_true h, ?_⟩
  rw [List.all_map, List.all_eq_true]
  exact fun x hx => fit_dN (h2 x hx) n
theorem fit_tbl {many : Nat} {rows : List (List Nat)} (h : rows.length ≤ 1000000) (h2 : ∀ r ∈ rows, r.length ≤ 1000000) (n : Nat) : D.fit (n + 3) (tblD many rows) = true := by
  unfold tblD D.fit
  rw [List.all_cons, List.all_cons, List.all_cons, fit_rows h h2 n]
  have : D.fit (n + 2) (.str ("table" : Str)) = true := by unfold D.fit; decide +kernel
  rw [this]
  rfl
section
variable {env : EV} {st : SS} {d x y : D} {ds : List D} {m : MP} {r : ML}
theorem mCons_e (h : m env st = some d) (k : r env st = some ds) : mCons m r env st = some (d :: ds) := by unfold mCons; rw [h, k]
theorem mCons1 (h : m env st = some d) : mCons m mNil env st = some [d] := mCons_e h rfl
theorem mCall_e {F : List D → SS → Option D} (h : r env st = some ds) : mCall F r env st = F ds st := by unfold mCall; rw [h]
theorem mCall1 {F : List D → SS → Option D} (h : m env st = some x) : mCall F (mCons m mNil) env st = F [x] st := mCall_e (mCons1 h)
theorem mCall2 {F : List D → SS → Option D} {m2 : MP} (h : m env st = some x) (k : m2 env st = some y) : mCall F (mCons m (mCons m2 mNil)) env st = F [x, y] st := mCall_e (mCons_e h (mCons1 k))
theorem mOp_e {f : F2} {a b : MP} (h : a env st = some x) (k : b env st = some y) : mOp f a b env st = f st x y := by unfold mOp; rw [h, k]
theorem bV_e {b : Bool} (h : m env st = some (.bl b)) : bV m env st = some b := by unfold bV; rw [h]
theorem bNot_e {c : MB} {b : Bool} (h : c env st = some b) : bNot c env st = some (!b) := by unfold bNot; rw [h]
theorem bOr_f {a b : MB} (h : a env st = some false) : bOr a b env st = b env st := by unfold bOr; rw [h]
theorem mComp_e {mi : MI} {t : MT} {b : MB} {own : List Nat} {ro : Option Nat} (h : mi env st = some (ds, ro)) : mComp mi t b m own env st = fGo t b m (ewipe env own) st ds := by unfold mComp; rw [h]
theorem mGenT_e {mi : MI} {t : MT} {b : MB} {own : List Nat} {es : List D} (h : mComp mi t b m own env st = some es) : mGenT mi t b m own env st = some (.tup es) := by unfold mGenT; rw [h]
theorem mAll_e {sa : Bool} {mi : MI} {t : MT} {b : MB} {own : List Nat} {ro : Option Nat} {c : Bool} (h : mi env st = some (ds, ro)) (k : allGo t b m (ewipe env own) st sa ds = some c) : mAll sa mi t b m own env st = some (.bl c) := by unfold mAll; rw [h]; simp only [k]
theorem mTupL_e (h : r env st = some ds) : mTupL r env st = some (.tup ds) := by unfold mTupL; rw [h]
theorem mTup_e (h : r env st = some ds) (hl : ds.length ≤ 1000) : mTup r env st = some (.tup ds) := by unfold mTup; rw [h]; exact if_pos hl
end
/-! ### the sets of a table -/
def isPart (a b : List Nat) : Bool := a.all fun k => b.contains k
def havingM (rows : List (List Nat)) (marks : List Nat) : List Nat := (List.range rows.length).filter fun g => isPart marks (rows.getD g [])
theorem isPart_iff {a b : List Nat} : isPart a b = true ↔ ∀ k ∈ a, k ∈ b := by
  unfold isPart
  rw [List.all_eq_true]
  simp
theorem sorted_ext : ∀ {a b : List Nat}, a.Pairwise (· < ·) → b.Pairwise (· < ·) → (∀ k, k ∈ a ↔ k ∈ b) → a = b
  | [], [], _, _, _ => rfl
  | [], y :: b, _, _, h => absurd ((h y).mpr List.mem_cons_self) (by simp)
  | x :: a, [], _, _, h => absurd ((h x).mp List.mem_cons_self) (by simp)
  | x :: a, y :: b, ha, hb, h => by
    have ha' := List.pairwise_cons.mp ha
    have hb' := List.pairwise_cons.mp hb
    have hxy : x = y := by
      rcases List.mem_cons.mp ((h x).mp List.mem_cons_self) with e | e
      · exact e
      · rcases List.mem_cons.mp ((h y).mpr List.mem_cons_self) with e2 | e2
        · exact e2.symm
        · have h1 := hb'.1 x e
          have h2 := ha'.1 y e2
          omega
    subst hxy
    congr 1
    refine sorted_ext ha'.2 hb'.2 fun k => ⟨fun hk => ?_, fun hk => ?_⟩
    · rcases List.mem_cons.mp ((h k).mp (List.mem_cons_of_mem _ hk)) with e | e
      · subst e; exact absurd (ha'.1 _ hk) (Nat.lt_irrefl _)
      · exact e
    · rcases List.mem_cons.mp ((h k).mpr (List.mem_cons_of_mem _ hk)) with e | e
      · subst e; exact absurd (hb'.1 _ hk) (Nat.lt_irrefl _)
      · exact e
theorem sorted_filter (n : Nat) (p : Nat → Bool) : ((List.range n).filter p).Pairwise (· < ·) := List.Pairwise.filter _ List.pairwise_lt_range
section
variable {many : Nat} {rows : List (List Nat)} {marks more things : List Nat}
end
end GD

set_option Elab.async false
set_option linter.all false
set_option maxRecDepth 100000
set_option maxHeartbeats 2000000
namespace GX
open PySem PySem.Spec PyProof.Rows L2 GenW SC
section
variable {P : Program} {w : World} {k : Nat} {outer : List Env} {H : Hp} {sc s : Shared} {ex : List Addr} {G : GWs} {u : Value}
end
section
variable {X : Cx} {k : Nat} {e o : Expr} {tg : TGx} {to : TE} {apos cpos : Pos}
end
end GX

set_option Elab.async false
set_option linter.all false
set_option maxRecDepth 100000
set_option maxHeartbeats 2000000
namespace GX
open PySem PySem.Spec PyProof.Rows L2 PySem.W ClX
/-! ## 12. the size of a displayed set of whole numbers -/
section
variable {prog : Program} {w : World} {A : Around} {E : Value → Shared → Prop} {D : Addr}
end
inductive PEsI (X : Cx) : List Expr → List TE → Prop
  | nil : PEsI X [] []
  | cons {e : Expr} {t : TE} {es : List Expr} {ts : List TE} : PE X e t → PEsI X es ts → PEsI X (e :: es) (t :: ts)
section
variable {X : Cx}
variable {p q pos : Pos} {elts : List Expr} {ts : List TE} {n : Nat}
end
end GX

set_option Elab.async false
set_option linter.all false
set_option maxRecDepth 100000
set_option maxHeartbeats 2000000
namespace GD
open PySem PySem.Spec PyProof.Rows L2 GX

/-! ## 14. joins, slices, conversions -/
section
variable {X : Cx} {w : Wd}
def strsOf : List D → Option (List Str)
  | [] => some []
  | .str x :: ds => (match strsOf ds with | some ws => some (x :: ws) | none => none)
  | _ :: _ => none
theorem strs_vs {ι : List Addr} {H : Hp} : ∀ {vs : List V} {ds : List D} {ws : List Str}, Reps ι H vs ds → strsOf ds = some ws → vs = ws.map V.str
  | _, [], _, h, e => by cases h; cases e; rfl
  | _, .str x :: ds, ws, h, e => by
    unfold strsOf at e
    split at e
    · rename_i ws' e'
      cases e
      cases h with
      | cons r t =>
        cases r
        rw [strs_vs t e']
        rfl
    · cases e
  | _, .non :: _, _, _, e => by cases e
  | _, .bl _ :: _, _, _, e => by cases e
  | _, .int _ :: _, _, _, e => by cases e
  | _, .tup _ :: _, _, _, e => by cases e
  | _, .ref _ :: _, _, _, e => by cases e
/-- sep.join(..) of what r gives -/
def joinD (sep : Str) (es : List D) : Option D := match strsOf es with
  | some ws => if JoinOk sep ws = true ∧ (ws.map (·.length)).sum + ws.length * sep.length ≤ 16777216 then some (.str (Txt.join sep ws)) else none
  | none => none
def mJoin (mo : MP) (r : ML) : MP := fun env st => match mo env st with
  | some (.str sep) => (match r env st with | some es => joinD sep es | none => none)
  | _ => none
theorem joinD_of {sep : Str} {es : List D} {d : D} (h : joinD sep es = some d) : ∃ ws, strsOf es = some ws ∧ JoinOk sep ws = true ∧ (ws.map (·.length)).sum + ws.length * sep.length ≤ 16777216 ∧ d = .str (Txt.join sep ws) := by
  unfold joinD at h
  split at h
  · rename_i ws e
    split at h
    · rename_i hc
      cases h
      exact ⟨ws, e, hc.1, hc.2, rfl⟩
    · cases h
  · cases h
theorem mJoin_of {mo : MP} {r : ML} {env : EV} {st : SS} {d : D} (h : mJoin mo r env st = some d) : ∃ sep es, mo env st = some (.str sep) ∧ r env st = some es ∧ joinD sep es = some d := by
  unfold mJoin at h
  split at h
  · rename_i sep e1
    split at h
    · rename_i es e2
      exact ⟨sep, es, e1, e2, h⟩
    · cases h
  · cases h
theorem dp_joinL {mo : MP} {r : ML} {o e : Expr} {apos pos : Pos} (ho : PE X o (tP w mo)) (he : PE X e (tLs w r)) (hs : starEach [e] X.env = [(false, eval e X.env)] := by rfl) (hbase : attributeBase o "join" X.env (eval o X.env) = eval o X.env := by rfl) (hline : (apos.endLine == pos.line) = true := by rfl) :
    PE X (.Call (.Attribute o "join" apos) [e] [] pos) (tP w (mJoin mo r)) := by
  refine PE.mo (pe_join ho he hs hbase hline) fun σ H Q ⟨ι, env, st, d, hen, hst, hm, q⟩ => ?_
  obtain ⟨sep, es, e1, e2, e3⟩ := mJoin_of hm
  obtain ⟨ws, w1, w2, w3, rfl⟩ := joinD_of e3
  refine ⟨ι, env, st, _, hen, hst, e1, fun v H1 k1 r1 s1 => ?_⟩
  cases r1
  refine ⟨⟨sep, rfl⟩, ι, env, st, es, hen.kp k1, s1, e2, fun p vs H2 k2 hp hn hl r2 s2 => ?_⟩
  refine ⟨sep, p, ws, rfl, rfl, .inl ?_, w3, q _ H2 (k1.trans k2) (.str _) s2⟩
  rw [← strs_vs r2 w1]
  exact sql_of hp
/-! ### tuple(x), list(x) -/
def fTup : F1 := fun st d => match seqOf st d with | some ds => some (.tup ds) | none => none
theorem qTup {K : PySem.W.Frag} : Op1P w fTup (fun xs H Q => ∃ p ys, xs = [.ref p] ∧ ((SqL K H p ys ∧ ∀ l, H l = none → Q (.ref l) (upd H l (.tup ys))) ∨ (SqT K H p ys ∧ Q (.ref p) H))) := by
  intro ι st H x dx d Q s rx hf q
  unfold fTup at hf
  split at hf
  · rename_i ds e
    cases hf
    obtain ⟨a, vs, rfl, rs, hl, hh⟩ := seq_cases (K := K) s rx e
    rcases hh with h1 | ⟨rfl, h1⟩
    · exact ⟨a, vs, rfl, .inl ⟨h1, fun l hn => q _ _ (Kp.new hn) (.tup upd_same hl (rs.kp (Kp.new hn))) (s.new hn (fun _ z => by cases z) (nin_of s hn))⟩⟩
    · exact ⟨a, vs, rfl, .inr ⟨sqt_of h1, q _ H (Kp.refl H) (.tup h1 hl rs) s⟩⟩
  · cases hf
variable {pos p : Pos} {a : Expr}
theorem dp_tupV {m : MP} (hg : Gl X "tuple") (hm : X.mg "tuple" = none) (ha : PE X a (tP w m)) (hs : starEach [a] X.env = (false, eval a X.env) :: starEach [] X.env := by rfl) : PE X (.Call (.Name "tuple" p) [a] [] pos) (tP w (mF1 fTup m)) :=
  PE.mo (pe_callTy call_tuple_of hg hm (by decide +kernel) (pa_cons ha pa_nil hs) (he := hs)) fun σ H Q h => op1_p qTup σ H Q h
def mLstOf (m : MP) : ML := fun env st => match m env st with | some d => seqOf st d | none => none
/-! ### slices -/
def cutG {α : Type} (xs : List α) (lo hi : Option Int) : List α := (xs.drop (HT.sIx xs.length 0 lo)).take (HT.sIx xs.length xs.length hi - HT.sIx xs.length 0 lo)
theorem Reps.cut2 {ι : List Addr} {H : Hp} {vs : List V} {ds : List D} (r : Reps ι H vs ds) (lo hi : Option Int) : Reps ι H (cutV vs lo hi) (cutG ds lo hi) := by
  unfold cutV cutG
  rw [r.length]
  exact (r.drop _).take _
def mPart (m : Option MP) : EV → SS → Option (Option Int) := fun env st => match m with
  | none => some none
  | some m => (match m env st with | some (.int i) => some (some i) | _ => none)
def POd (w : Wd) (t : TO) (m : Option MP) : Prop := ∀ (σ : L2.St) (H : Hp) (Q : Option Int → Hp → Prop) (ι : List Addr) (env : EV) (st : SS) (o : Option Int), EnvR w ι env σ H → SR w.s ι st H → mPart m env st = some o → (∀ H', Kp ι H H' → SR w.s ι st H' → Q o H') → t σ H Q
theorem pod_none : POd w tNoPart none := fun σ H Q ι env st o he hs hm q => by
  cases hm
  exact q H (Kp.refl H) hs
theorem pod_some {m : MP} : POd w (tPart (tP w m)) (some m) := fun σ H Q ι env st o he hs hm q => by
  unfold mPart at hm
  simp only at hm
  split at hm
  · rename_i i e
    cases hm
    refine ⟨ι, env, st, _, he, hs, e, fun v H1 k1 r1 s1 => ?_⟩
    cases r1
    exact ⟨i, rfl, q H1 k1 s1⟩
  · cases hm
def sliceD : D → Option Int → Option Int → Option D
  | .tup ds, lo, hi => some (.tup (cutG ds lo hi))
  | .str z, lo, hi => if z.length ≤ 1000000 then some (.str (cutS z lo hi)) else none
  | _, _, _ => none
def mSl (m : MP) (lo hi : Option MP) : MP := fun env st => match m env st, mPart lo env st, mPart hi env st with
  | some d, some l, some h => sliceD d l h
  | _, _, _ => none
theorem cutG_length {α : Type} (xs : List α) (lo hi : Option Int) : (cutG xs lo hi).length ≤ xs.length := by
  unfold cutG
  rw [List.length_take, List.length_drop]
  omega
theorem cutG_all {α : Type} {xs : List α} {lo hi : Option Int} (h : HT.sIx xs.length 0 lo = 0 ∧ HT.sIx xs.length xs.length hi = xs.length) : cutG xs lo hi = xs := by
  unfold cutG
  rw [h.1, h.2, List.drop_zero, Nat.sub_zero, List.take_length]
theorem dp_sl {e : Expr} {m : MP} {lo hi : Option Expr} {ml mh : Option MP} {tl th : TO} {p2 : Pos} (he : PE X e (tP w m)) (hl : PO X lo tl) (hu : PO X hi th) (dl : POd w tl ml) (dh : POd w th mh) : PE X (.Subscript e (.Slice lo hi none p2) pos) (tP w (mSl m ml mh)) := by
  refine PE.mo (pe_slice (SlR.or sl_tupA sl_str) he hl hu) fun σ H Q ⟨ι, env, st, d, hen, hst, hm, q⟩ => ?_
  unfold mSl at hm
  split at hm
  · rename_i dx l h e1 e2 e3
    refine ⟨ι, env, st, dx, hen, hst, e1, fun v H1 k1 r1 s1 => dl σ H1 _ ι env st l (hen.kp k1) s1 e2 fun H2 k2 s2 => dh σ H2 _ ι env st h ((hen.kp k1).kp k2) s2 e3 fun H3 k3 s3 => ?_⟩
    have kk := (k1.trans k2).trans k3
    have r3 := (r1.kp k2).kp k3
    unfold sliceD at hm
    split at hm
    · rename_i ds
      cases hm
      cases r3 with
      | tup h1 l1 rs =>
        refine .inl ⟨_, _, rfl, sqt_of h1, fun hw => ?_, fun _ p hp => ?_⟩
        · rw [rs.length] at hw
          rw [cutG_all hw] at q
          exact q _ H3 kk (.tup h1 l1 rs) s3
        · exact q _ _ (kk.trans (Kp.new hp)) (.tup upd_same (Nat.le_trans (cutG_length _ _ _) l1) ((rs.cut2 l h).kp (Kp.new hp))) (s3.new hp (fun _ z => by cases z) (nin_of s3 hp))
    · split at hm
      · rename_i z hz
        cases hm
        cases r3
        exact .inr ⟨_, rfl, big_size hz, q _ H3 kk (.str _) s3⟩
      · cases hm
    · cases hm
  · cases hm
/-! ### one sign in a text -/
def signIn (x z : Str) : Option Bool := match x.cps.toList with
  | [c] => some (decide (c ∈ z.cps.toList))
  | _ => none
theorem signIn_of {x z : Str} {r : Bool} (h : signIn x z = some r) : ∃ c, x = ⟨#[c]⟩ ∧ r = decide (c ∈ z.cps.toList) := by
  unfold signIn at h
  split at h
  · rename_i c e
    cases h
    refine ⟨c, ?_, rfl⟩
    obtain ⟨cps⟩ := x
    have e : cps.toList = [c] := e
    have e2 : cps = #[c] := Array.toList_inj.mp (by rw [e])
    rw [e2]
  · cases h
def fNotInS : F2 := fun _ x y => match x, y with
  | .str x, .str z => (match signIn x z with | some r => some (.bl (!r)) | none => none)
  | _, _ => none
theorem qNotInS : OpP w fNotInS rNotInS := by
  intro ι st H x y dx dy d Q s rx ry hf q
  unfold fNotInS at hf
  split at hf
  · split at hf
    · rename_i r e
      cases hf
      obtain ⟨c, rfl, rfl⟩ := signIn_of e
      cases rx; cases ry
      exact ⟨_, _, rfl, rfl, q _ H (Kp.refl H) (.bl _) s⟩
    · cases hf
  · cases hf
variable {b : Expr} {ma mb : MP}
theorem dp_ninS (ha : PE X a (tP w ma)) (hb : PE X b (tP w mb)) (hm : behindInMarks .NotIn b = false := by rfl) : PE X (.Compare a [.NotIn] [b] pos) (tP w (mOp fNotInS ma mb)) := dp_cmp op_notInS qNotInS ha hb hm
theorem dt_ninS (ha : PE X a (tP w ma)) (hb : PE X b (tP w mb)) (hm : behindInMarks .NotIn b = false := by rfl) : PT X (.Compare a [.NotIn] [b] pos) (tBo w (bV (mOp fNotInS ma mb))) := dt_cmp op_notInS qNotInS ha hb hm
end
end GD

set_option Elab.async false
set_option linter.all false
set_option maxRecDepth 100000
set_option maxHeartbeats 4000000
namespace GD
open PySem PySem.Spec PyProof.Rows L2 GX
/-! ## 15. comparing sets; lists of sets -/
/-! ### more than another -/
/-- the store has grown -/
theorem Boxed.ext {st st1 : SS} {n : Nat} (h : Boxed st n) (p : st <+: st1) : Boxed st1 n := by
  obtain ⟨dn, i, ms, h1, h2, h3⟩ := h.ex
  obtain ⟨t, rfl⟩ := p
  refine ⟨dn, i, ms, ?_, h2, ?_⟩
  · rw [List.getElem?_append_left (List.getElem?_eq_some_iff.mp h1).1]; exact h1
  · rw [List.getElem?_append_left (List.getElem?_eq_some_iff.mp h3).1]; exact h3
/-! ### arrows -/
/-! ### texts of single signs -/
def oneS (c : Nat) : Str := ⟨#[c]⟩
theorem join_one : ∀ l : List Nat, Txt.join (⟨#[]⟩ : Str) (l.map oneS) = ⟨l.toArray⟩ := by
  intro l
  unfold Txt.join
  rw [StrLaws.glued_eq_join]
  induction l with
  | nil => rfl
  | cons a l ih =>
    cases l with
    | nil => rfl
    | cons b l =>
      rw [List.map_cons, List.map_cons, Str.join, ← List.map_cons, ih]
      show (⟨_⟩ : Str) = _
      congr 1
      simp [oneS]
      show ((#[a] : Array Nat) ++ #[]).toList ++ b :: l = a :: b :: l
      simp
      all_goals (intro z; cases z)
theorem len_one : ∀ l : List Nat, ((l.map oneS).map (·.length)).sum = l.length
  | [] => rfl
  | a :: l => by
    rw [List.map_cons, List.map_cons, List.sum_cons, len_one l, List.length_cons]
    show 1 + _ = _
    omega
theorem strs_one : ∀ l : List Nat, strsOf (l.map fun c => D.str (oneS c)) = some (l.map oneS)
  | [] => rfl
  | a :: l => by
    rw [List.map_cons, strsOf, strs_one l]
    rfl
theorem joinD_one {l : List Nat} (h : l.length ≤ 1000) : joinD (⟨#[]⟩ : Str) (l.map fun c => D.str (oneS c)) = some (.str ⟨l.toArray⟩) := by
  unfold joinD
  rw [strs_one]
  simp only
  have e0 : (⟨#[]⟩ : Str).length = 0 := rfl
  have ok : JoinOk (⟨#[]⟩ : Str) (l.map oneS) = true := by
    unfold JoinOk
    rw [StrLaws.joinTotal, len_one, e0]
    show (!decide (l.length + _ > sizeLine)) = true
    have : ¬ (l.length + (l.map oneS).length * 0 > sizeLine) := by
      have : (1000 : Nat) ≤ sizeLine := by decide
      omega
    rw [decide_eq_false this]
    rfl
  rw [if_pos ⟨ok, by rw [len_one, e0]; omega⟩, join_one]
theorem good_str {l : List Nat} (h : ∀ c ∈ l, c < 200) : D.good (.str ⟨l.toArray⟩) = true := by
  unfold D.good D.imm D.py SeqAt.shaped PyData.canLay0 PyData.strOk
  rw [Bool.true_and, Bool.and_eq_true]
  refine ⟨?_, by unfold PyData.depth; decide⟩
  show (l.toArray.all fun c => decide (c < 0x110000)) = true
  rw [List.all_toArray, List.all_eq_true]
  intro c hc
  have := h c hc
  exact decide_eq_true (by omega)
end GD

set_option Elab.async false
set_option linter.all false
set_option maxRecDepth 100000
set_option maxHeartbeats 2000000
namespace GD
open PySem PySem.Spec PyProof.Rows L2 GX

/-! ## 16. lists that calls give -/
section
variable {X : Cx} {w : Wd} {pos p : Pos} {a b e : Expr} {tg : Expr}
def xSeq (m : XP) : XI := fun env st R => m env st fun d st1 => ∃ ds ro, seqI st1 d = some (ds, ro) ∧ R ds ro st1
theorem dxi_seq {m : XP} (hl : PE X e (tX w m)) : PI X tg e (tXI w (xSeq m)) := by
  refine PI.mo (pi_seqU hl) fun σ H Q ⟨ι, env, st, R, he, hs, hm, q⟩ => ⟨ι, env, st, _, he, hs, hm, fun d st1 ι1 v H1 h1 g1 r1 s1 => ?_⟩
  obtain ⟨ds, ro, e, hR⟩ := h1
  obtain ⟨a, vs, rfl, rs, hl, hh⟩ := seqI_cases s1 r1 e
  refine ⟨a, rfl, ?_⟩
  rcases hh with ⟨n, rfl, hn, hc, h1⟩ | ⟨rfl, h1⟩
  · exact .inl ⟨⟨vs, sql_of h1⟩, q _ _ st1 ι1 _ H1 hR g1 s1 (itd_lst hn hc hl)⟩
  · exact .inr ⟨⟨vs, sqt_of h1⟩, q _ _ st1 ι1 _ H1 hR g1 s1 (itd_tup h1 rs hl)⟩
def xCat (a b : XP) : XA := fun env st R => a env st fun x st1 => b env st1 fun y st2 => ∃ n m ds es, x = .ref n ∧ y = .ref m ∧ st2[n]? = some (.lst ds) ∧ st2[m]? = some (.lst es) ∧ ds.length + es.length ≤ 1000000 ∧ R (ds ++ es) st2
theorem dxl_cat {ma mb : XP} (ha : PE X a (tX w ma)) (hb : PE X b (tX w mb)) : PE X (.BinOp a .Add b pos) (tXL w (xCat ma mb)) := by
  refine PE.mo (pe_op op_cat ha hb) fun σ H Q ⟨ι, env, st, R, he, hs, hm, q⟩ => ⟨ι, env, st, _, he, hs, hm, fun x st1 ι1 vx H1 h1 g1 r1 s1 => ⟨ι1, env, st1, _, he.gr g1, s1, h1, fun y st2 ι2 vy H2 h2 g2 r2 s2 => ?_⟩⟩
  obtain ⟨n, m, ds, es, rfl, rfl, e1, e2, hl, hR⟩ := h2
  have r1' := r1.gr g2
  cases r1' with
  | ref hn =>
    cases r2 with
    | ref hm2 =>
      obtain ⟨vs, v1, l1, rs⟩ := s2.cell _ _ _ hn e1
      obtain ⟨us, v2, l2, ru⟩ := s2.cell _ _ _ hm2 e2
      have gg := g1.trans g2
      refine ⟨_, _, vs, us, rfl, rfl, v1, v2, by rw [rs.length, ru.length]; exact big_size hl, fun pp hp => ?_⟩
      exact q (ds ++ es) st2 ι2 pp (vs ++ us) _ hR (gg.trans (.of (Kp.new hp))) upd_same (gg.fresh s2 hp) (nin_of s2 hp) (by rw [List.length_append]; exact big_size hl) ((rs.append ru).kp (Kp.new hp)) (s2.new hp (fun _ z => by cases z) (nin_of s2 hp))
theorem reps_map {α : Type} {ι : List Addr} {H : Hp} {f : α → V} {g : α → D} (h : ∀ x, Rep ι H (f x) (g x)) : ∀ l : List α, Reps ι H (l.map f) (l.map g)
  | [] => .nil
  | x :: l => .cons (h x) (reps_map h l)
end
end GD

set_option Elab.async false
set_option linter.all false
set_option maxRecDepth 100000
set_option maxHeartbeats 4000000
namespace GS
open PySem PySem.Spec PyProof.Rows SrtO
/-! ## sorted of pairs of tuples of ints -/
abbrev K2 := List Int × List Int
/-- the tuple of ints at a -/
def TupAt (h : Heap) (a : Addr) (ns : List Int) : Prop := ∃ o items n, h.get? a = some o ∧ o.cls = .type "tuple" ∧ o.data = .seq items n ∧ IntsAre items.toList ns
def IsKP (h : Heap) (v : Value) (k : K2) : Prop := ∃ a o n f r, v = .ref a ∧ h.get? a = some o ∧ o.cls = .type "tuple" ∧ o.data = .seq #[.ref f, .ref r] n ∧ TupAt h f k.1 ∧ TupAt h r k.2
section
variable {prog : Program} {w : World} {A : Around} {E : Value → Shared → Prop} {s : Shared}
theorem items_of {P : Program} {w : World} : ∀ {us : List Value} {ns : List Int}, IntsAre us ns → ItemsAre (intKind P w) ns us
  | _, _, .nil => .nil
  | _, _, .cons n t h => .cons (intKind_is P w n t) (items_of h)
theorem TupAt.key {P : Program} {w : World} {h : Heap} {a : Addr} {ns : List Int} (x : TupAt h a ns) : IsTupleKey (intKind P w) h ns a := let ⟨o, items, n, h1, h2, h3, h4⟩ := x; ⟨o, items, n, h1, h2, h3, items_of h4⟩
theorem TupAt.keeps {h h' : Heap} {a : Addr} {ns : List Int} (x : TupAt h a ns) (k : ∀ b o, h.get? b = some o → o.cls = .type "tuple" → h'.get? b = some o) : TupAt h' a ns := let ⟨o, items, n, h1, h2, h3, h4⟩ := x; ⟨o, items, n, k _ _ h1 h2, h2, h3, h4⟩
theorem IsKP.keeps {h h' : Heap} {v : Value} {y : K2} (x : IsKP h v y) (k : ∀ b o, h.get? b = some o → o.cls = .type "tuple" → h'.get? b = some o) : IsKP h' v y := by
  obtain ⟨a, o, n, f, r, e, ho, hc, hd, hf, hr⟩ := x
  exact ⟨a, o, n, f, r, e, k _ _ ho hc, hc, hd, hf.keeps k, hr.keeps k⟩
end
end GS
namespace GS
open PySem PySem.Spec PyProof.Rows L2
section
variable {X : Cx}
end
end GS

set_option Elab.async false
set_option linter.all false
set_option maxRecDepth 100000
set_option maxHeartbeats 2000000
namespace GD
open PySem PySem.Spec PyProof.Rows L2 GX GS

/-! ## 17. sorted of pairs of sets -/
abbrev iN (l : List Nat) : List Int := l.map fun (k : Nat) => (k : Int)
/-- the value v stands for the pair p -/
def IsPr (H : Hp) (v : V) (p : List Nat × List Nat) : Prop := ∃ t f r, v = V.ref t ∧ H t = some (.tup [.ref f, .ref r]) ∧ H f = some (.tup ((iN p.1).map V.int)) ∧ H r = some (.tup ((iN p.2).map V.int))
theorem iN_inj : ∀ {a b : List Nat}, iN a = iN b → a = b
  | [], [], _ => rfl
  | [], _ :: _, h => by cases h
  | _ :: _, [], h => by cases h
  | x :: a, y :: b, h => by
    have h1 := List.cons.inj h
    have : x = y := Int.ofNat.inj h1.1
    rw [this, iN_inj h1.2]
theorem mapI_inj : ∀ {a b : List Int}, a.map V.int = b.map V.int → a = b
  | [], [], _ => rfl
  | [], _ :: _, h => by cases h
  | _ :: _, [], h => by cases h
  | x :: a, y :: b, h => by
    have h1 := List.cons.inj h
    cases h1.1
    rw [mapI_inj h1.2]
theorem IsPr.uniq {H : Hp} {v : V} {p q : List Nat × List Nat} (h : IsPr H v p) (k : IsPr H v q) : p = q := by
  obtain ⟨t, f, r, rfl, h1, h2, h3⟩ := h
  obtain ⟨t', f', r', e, k1, k2, k3⟩ := k
  cases e
  rw [h1] at k1
  cases k1
  rw [h2] at k2
  rw [h3] at k3
  have e1 : iN p.1 = iN q.1 := mapI_inj (HO.tup.inj (Option.some.inj k2))
  have e2 : iN p.2 = iN q.2 := mapI_inj (HO.tup.inj (Option.some.inj k3))
  exact Prod.ext (iN_inj e1) (iN_inj e2)
section
variable {X : Cx} {w : Wd} {pos p : Pos} {a : Expr}
end
end GD

set_option Elab.async false
set_option linter.all false
set_option maxRecDepth 100000
set_option maxHeartbeats 2000000
namespace GD
open PySem PySem.Spec PyProof.Rows L2 GX
/-! ## 20. name = [..], the name a plain local -/
section
variable {X : Cx} {w : Wd} {tg iter elt : Expr} {ifs : List Expr}
end
end GD

set_option Elab.async false
set_option linter.all false
set_option maxRecDepth 100000
set_option maxHeartbeats 2000000
namespace GL
open PySem PySem.Spec PyProof.Rows L2 GX GD
/-! ## 1. pins: objects that are known for a while -/
abbrev PL := List (Addr × Obj)
section
variable {P : Program} {w : World} {K : PySem.W.Frag} {mg : Str → Option Value} {base : Heap} {A : Around} {outer : List Env} {s : Shared} {H H' : Hp} {h h' : Heap} {L : PL} {a b : Addr} {o : Obj} {fr : List Addr}
end
/-! ## 2. a lambda is made -/
structure CloOk (cl : List (Str × Addr)) (scope : Scope) : Prop where
  mem : ∀ x c, cl.lookup x = some c → x ∈ freeN scope
  inj : ∀ x y c, cl.lookup x = some c → cl.lookup y = some c → x = y
section
variable {X : Cx}
end
end GL

set_option Elab.async false
set_option linter.all false
set_option maxRecDepth 100000
set_option maxHeartbeats 2000000
namespace GL
open PySem PySem.Spec PyProof.Rows L2 GX GD
/-! ## 3. a lambda of one parameter is called -/
structure LamSc (p : Str) (scope : Scope) : Prop where
  kind : scope.kind = .function
  co : scope.isCoroutine = false
  gen : scope.isGenerator = false
  nocell : ∀ y ∈ scope.names, y.2 ≠ .cell
  par : scope.names.lookup p = some .local
  nd : (p :: freeN scope).Nodup
  loc : ∀ y ∈ scope.names, y.2 = .local → y.1 = p
section
variable {P : Program} {w : World} {K : PySem.W.Frag} {mg : Str → Option Value} {base : Heap} {A : Around} {outer : List Env} {s : Shared} {H H' : Hp} {cl : List (Str × Addr)} {ys : List Str} {vs : List V}
end
/-- a lambda's promise: over what it captured, its argument -/
structure LamOk (P : Program) (wl : World) (K : PySem.W.Frag) (mg : Str → Option Value) (base : Heap) (k : Nat) (l : Expr) (sp : List V → V → Hp → VK → Prop) : Prop where
  run : ∀ (A : Around) (outer : List Env) (s : Shared) (H : Hp) (f : Addr) (u : Value) (v : V) (caps : List V) (Q : VK), Room k A → Env0 P wl K mg base A outer s H → LamAt H f l caps → RelV v u → sp caps v H Q →
    codeAny (model P wl) A (.call (.ref f) ⟨[u], []⟩) (CR CX0 outer P wl H s Q fun _ _ _ => False) s
/-! ## 4. calls -/
section
variable {X : Cx}
end
end GL

set_option Elab.async false
set_option linter.all false
set_option maxRecDepth 100000
set_option maxHeartbeats 2000000
namespace GL
open PySem PySem.Spec PyProof.Rows L2 GX GD
/-! ## 5. a def is called with a lambda: the cells are known meanwhile -/
section
variable {X : Cx} {pins : List (Addr × Obj)} {σ : L2.St} {H : Hp} {s : Shared}
end
/-! ## 6. over data -/
section
variable {ι ι' : List Addr} {H H' : Hp} {L : PL}
mutual
theorem rep_tr (h : ∀ b xs, H b = some (.tup xs) → H' b = some (.tup xs)) : ∀ {v : V} {d : D}, Rep ι H v d → Rep ι H' v d
  | _, _, .non => .non
  | _, _, .bl b => .bl b
  | _, _, .int i => .int i
  | _, _, .str x => .str x
  | _, _, .tup e l r => .tup (h _ _ e) l (reps_tr h r)
  | _, _, .ref e => .ref e
theorem reps_tr (h : ∀ b xs, H b = some (.tup xs) → H' b = some (.tup xs)) : ∀ {vs : List V} {ds : List D}, Reps ι H vs ds → Reps ι H' vs ds
  | _, _, .nil => .nil
  | _, _, .cons r t => .cons (rep_tr h r) (reps_tr h t)
end
end
section
variable {w : Ws} {ι ι' : List Addr} {st st' : SS} {H H' : Hp} {L : PL} {v : V} {d : D}
end
end GL

set_option Elab.async false
set_option linter.all false
set_option maxRecDepth 100000
set_option maxHeartbeats 2000000
namespace GD
open PySem PySem.Spec PyProof.Rows L2 GX GL
/-! ## 23. lambdas over data -/
def lamSp (w : Ws) (caps : List D) (U : XT) : List V → V → Hp → VK → Prop := fun vcaps v H Q => ∃ ι st d R, Reps ι H vcaps caps ∧ Rep ι H v d ∧ SR w ι st H ∧ U [d] st R ∧ ∀ d' st' ι' v' H', R d' st' → Gr ι H ι' H' → Rep ι' H' v' d' → SR w ι' st' H' → Q v' H'
structure LamD (P : Program) (wl : World) (w : Ws) (mg : Str → Option Value) (k : Nat) (l : Expr) (caps : List D) (U : XT) : Prop where
  ok : LamOk P wl w.K mg w.base k l (lamSp w caps U)
theorem LamD.imp {P : Program} {wl : World} {w : Ws} {mg : Str → Option Value} {k : Nat} {l : Expr} {caps : List D} {U U' : XT} (h : LamD P wl w mg k l caps U) (q : ∀ ds st R, U' ds st R → U ds st R) : LamD P wl w mg k l caps U' :=
  ⟨⟨fun A outer s H f u v cs Q hr e0 hl r ⟨ι, st, d, R, r1, r2, s1, hU, hQ⟩ => h.ok.run A outer s H f u v cs Q hr e0 hl r ⟨ι, st, d, R, r1, r2, s1, q _ _ _ hU, hQ⟩⟩⟩
theorem LamD.mono {P : Program} {wl : World} {w : Ws} {mg : Str → Option Value} {j k : Nat} {l : Expr} {caps : List D} {U : XT} (h : LamD P wl w mg j l caps U) (q : j ≤ k) : LamD P wl w mg k l caps U :=
  ⟨⟨fun A outer s H f u v cs Q hr => h.ok.run A outer s H f u v cs Q (hr.mono q)⟩⟩
/-! ### defs whose second argument is a lambda -/
def spL (P : Program) (wl : World) (w : Ws) (mg : Str → Option Value) (j : Nat) (T : XT → XT) : Sp := fun vs H Q _ => ∃ ι st f l caps U v0 us ds R, vs = v0 :: .ref f :: us ∧ LamR ι H f l caps ∧ LamD P wl w mg j l caps U ∧ Reps ι H (v0 :: us) ds ∧ SR w ι st H ∧ T U ds st R ∧
  ∀ d st' ι' v H', R d st' → Gr ι H ι' H' → Rep ι' H' v d → SR w ι' st' H' → Q v H'
structure DefL (P : Program) (wl : World) (w : Ws) (mg : Str → Option Value) (k j : Nat) (x : Str) (T : XT → XT) : Prop where
  ex : ∃ (f : Addr) (fd : FuncData) (ps : List Str), FnOk P wl w.K mg w.base CX0 k f fd ps (spL P wl w mg j T) ∧ mg x = some (.ref f) ∧ PySem.W.keepIn w.K (.ref f) = true ∧ Binds w.K fd ps []
theorem DefL.imp {P : Program} {wl : World} {w : Ws} {mg : Str → Option Value} {k j : Nat} {x : Str} {T T' : XT → XT} (c : DefL P wl w mg k j x T) (h : ∀ U ds st R, T' U ds st R → T U ds st R) : DefL P wl w mg k j x T' := by
  obtain ⟨f, fd, ps, hF, r⟩ := c.ex
  exact ⟨f, fd, ps, hF.imp fun vs H Q E ⟨ι, st, f, l, caps, U, v0, us, ds, R, e, h1, h2, h3, h4, h5, h6⟩ => ⟨ι, st, f, l, caps, U, v0, us, ds, R, e, h1, h2, h3, h4, h _ _ _ _ h5, h6⟩, r⟩
def startL (n : Nat) (ds : List D) : EV := match ds with
  | [] => []
  | d :: ds => some d :: none :: (ds.map some ++ List.replicate (n - (ds.length + 2)) none)
def fnL (k n : Nat) (t : XT → XS) : XT → XT := fun U ds st R => ds.length + 1 = n ∧ t U { nx := fun _ st' => R .non st', rt := R } (startL k ds) st
abbrev WdL (w : Ws) (c f : Addr) (l : Expr) (caps : List D) : Wd := ⟨w, c, [(1, .ref f)], [], [(f, l, caps)], true⟩
theorem DefC.l {P : Program} {wl : World} {w : Ws} {mg : Str → Option Value} {x : Str} {st : Stmt} {N ps : List Str} {k j : Nat} {t : XT → XS} (F : DefC w mg x st) (S : FnScope N ps (defScope st))
    (hb : ∀ (kV doc pm : Value) (an : Option Addr) (cdv ct : Value) (us : List Value), us.length = ps.length → bindArgs (PySem.W.fnOf x x (defArgs st) (defBody st) (defScope st) .none kV doc pm an cdv ct) ⟨us, []⟩ = pure (ps.zip us))
    (hbody : ∀ (f c fl : Addr) (l : Expr) (caps : List D) (U : XT) (A : Around) (outer : List Env) (s : Shared) (H : Hp) (E : XK), LamD P wl w mg j l caps U → Room k (A.deeper (envOfC x (defScope st) s.heap.objs.size f (.ref c))) → Fit (cxOf CX0 P wl w.K mg w.base N x (defScope st) f (.ref c) A outer s H E).nox (WdL w c fl l caps) →
      PSs (cxOf CX0 P wl w.K mg w.base N x (defScope st) f (.ref c) A outer s H E).nox (defBody st) (tS (WdL w c fl l caps) (t U))) : DefL P wl w mg (k + 1) j x (fnL N.length ps.length t) := by
  obtain ⟨f, c, Pt, fd, ⟨oc, od, kV, doc, pm, an, ct, osl, rfl, lk, hcd⟩, hm, hk, ht, hh⟩ := F.ex
  refine ⟨f, _, ps, fn_of lk hcd S (fun vs H Q E ⟨ι, st, fl, l, caps, U, v0, us, ds, R, e, h1, h2, h3, h4, h5, h6⟩ => by subst e; have hl := h3.length; rw [List.length_cons] at hl; rw [List.length_cons, List.length_cons, hl]; exact h5.1) fun A outer s H vs Q E hr ⟨ι, st, fl, l, caps, U, v0, us, ds, R, e, h1, h2, h3, s', h, q⟩ => ⟨_, (hbody f c fl l caps U A outer s H E h2 hr ⟨rfl, rfl, rfl⟩).nox, ?_⟩, hm, hk, .all (hb kV doc pm an (.ref c) ct)⟩
  subst e
  cases h3 with
  | @cons _ _ d0 ds r0 rs =>
  have hl := rs.length
  refine ⟨ι, startL N.length (d0 :: ds), st, _, ⟨?_, ?_, fun _ => ⟨Pt, .inl hh, s'.tab _ ht⟩, ?_, (fun _ z => by cases z), fun q hq => by rw [List.mem_singleton.mp hq]; exact h1⟩, s', h.2, fun env st' ι' σ H' h g r s => q .non st' ι' .non H' h g .non s, fun d st' ι' v H' h g r s => q d st' ι' v H' h g r s, fun _ _ _ _ _ h _ _ _ => h.elim, fun _ _ _ _ _ h _ _ _ => h.elim⟩
  · unfold startL L2.start
    simp [hl]
  · intro i d hd
    unfold startL at hd
    unfold L2.start
    cases i with
    | zero => simp at hd; subst hd; exact ⟨v0, by simp, r0⟩
    | succ i =>
      cases i with
      | zero => simp at hd
      | succ i =>
        simp only [List.getElem?_cons_succ] at hd
        simp only [List.map_cons, List.cons_append, List.getElem?_cons_succ]
        by_cases hi : i < ds.length
        · rw [List.getElem?_append_left (by simpa using hi)] at hd
          rw [List.getElem?_append_left (by simpa [hl] using hi)]
          rw [List.getElem?_map] at hd
          cases hd' : ds[i]? with
          | none => rw [hd'] at hd; cases hd
          | some d' =>
            rw [hd'] at hd
            simp at hd
            subst hd
            obtain ⟨v, e1, e2⟩ := rs.get' hd'
            exact ⟨v, by rw [List.getElem?_map, e1]; rfl, e2⟩
        · rw [List.getElem?_append_right (by simpa using Nat.le_of_not_lt hi)] at hd
          rw [List.getElem?_replicate] at hd
          split at hd <;> cases hd
  · intro q hq
    rw [List.mem_singleton.mp hq]
    unfold L2.start
    simp
/-! ### calls -/
section
variable {X : Cx} {w : Wd} {pos p pc : Pos} {e e0 e2 : Expr} {x cn : Str}
/-! ### a lambda written among the arguments -/
variable {params : Arguments} {body : Expr} {scope : Scope} {lp : Pos}
end
end GD
namespace GD
open PySem PySem.Spec PyProof.Rows L2 GX GL
/-- by the number of names alone -/
theorem DefL.n {P : Program} {wl : World} {w : Ws} {mg : Str → Option Value} {l j : Nat} {x : Str} {N : List Str} {k n : Nat} {t : XT → XS} (h : DefL P wl w mg l j x (fnL N.length n t)) (e : N.length = k) : DefL P wl w mg l j x (fnL k n t) := by
  subst e
  exact h
end GD

set_option Elab.async false
set_option linter.all false
set_option maxRecDepth 100000
set_option maxHeartbeats 2000000
namespace GBL
open PySem
open PySem.Sem (wp)
end GBL
namespace GD
open PySem PySem.Spec PyProof.Rows L2 GX
/-! ## 24. truth, ranges downwards, least items -/
def truD (st : SS) : D → Option Bool
  | .non => some false
  | .bl b => some b
  | .int i => some (i != 0)
  | .str y => if y.length ≤ 1000000 then some ((y.length : Int) != 0) else none
  | .tup l => some (!l.isEmpty)
  | .ref n => match st[n]? with
    | some (.lst l) => some (!l.isEmpty)
    | _ => none
def bT (m : MP) : MB := fun env st => match m env st with | some d => truD st d | none => none
theorem isEmpty_reps {ι : List Addr} {H : Hp} {vs : List V} {ds : List D} (r : Reps ι H vs ds) : (!vs.isEmpty) = !ds.isEmpty := by cases r <;> rfl
section
variable {X : Cx} {w : Wd} {pos p p1 p2 : Pos} {a b e : Expr} {tg : Expr}
theorem tru_v {ι : List Addr} {st : SS} {H : Hp} {v : V} {d : D} {k : Bool} (s : SR w.s ι st H) (r : Rep ι H v d) (h : truD st d = some k) : TruV X.K v H k := by
  cases r with
  | non => exact (Option.some.inj h).symm
  | bl b => exact (Option.some.inj h).symm
  | int i => exact (Option.some.inj h).symm
  | str x =>
    have h : (if x.length ≤ 1000000 then some ((x.length : Int) != 0) else none) = some k := h
    split at h
    · rename_i hl
      exact ⟨big_size hl, (Option.some.inj h).symm⟩
    · cases h
  | tup e l r =>
    have h : some (!_) = some k := h
    exact .inr (.inl ⟨_, sqt_of e, by rw [isEmpty_reps r]; exact (Option.some.inj h).symm⟩)
  | @ref n a hn =>
    have h : (match st[n]? with | some (.lst l) => some (!l.isEmpty) | _ => none) = some k := h
    split at h
    · rename_i hc
      obtain ⟨vs, h1, l, r⟩ := s.cell _ _ _ hn hc
      exact .inl ⟨vs, sql_of h1, by rw [isEmpty_reps r]; exact (Option.some.inj h).symm⟩
    · cases h
theorem db_tru {m : MP} (h : PE X a (tP w m)) (he : ∀ whole, isTrue a X.env whole = (do let v ← whole; standAt a.pos; holding [v] (truthy v)) := by intro _; rfl) : PT X a (tBo w (bT m)) :=
  PT.mo (pt_truth h he) fun σ H Q ⟨ι, env, st, k, hen, hs, hm, q⟩ => by
    unfold bT at hm
    split at hm
    · rename_i d e1
      exact ⟨ι, env, st, d, hen, hs, e1, fun v H1 k1 r1 s1 => ⟨k, tru_v s1 r1 hm, q H1 k1 s1⟩⟩
    · cases hm
/-- -n -/
def fNeg : F1 := fun _ d => match d with | .int i => some (.int (-i)) | _ => none
theorem dp_neg {m : MP} (h : PE X a (tP w m)) : PE X (.UnaryOp .USub a pos) (tP w (mF1 fNeg m)) :=
  PE.mo (pe_un un_neg h) fun σ H Q ⟨ι, env, st, d, hen, hs, hm, q⟩ => by
    unfold mF1 at hm
    split at hm
    · rename_i dx e1
      refine ⟨ι, env, st, dx, hen, hs, e1, fun v H1 k1 r1 s1 => ?_⟩
      unfold fNeg at hm
      split at hm
      · cases hm
        cases r1
        exact ⟨_, rfl, q _ H1 k1 (.int _) s1⟩
      · cases hm
    · cases hm
end
end GD

set_option Elab.async false
set_option linter.all false
set_option maxRecDepth 100000
set_option maxHeartbeats 2000000
namespace GD
open PySem PySem.Spec PyProof.Rows L2 GX
/-! ## 26. generator expressions over what a call gives -/
def xGenT (mi : XI) (t : MT) (b : MB) (m : MP) (own : List Nat) : XP := fun env st R => mi env st fun ds ro st1 => ∃ es, fGo t b m (ewipe env own) st1 ds = some es ∧ R (.tup es) st1
section
variable {X : Cx} {w : Wd} {pos : Pos} {tg iter elt c : Expr} {ifs : List Expr}
theorem tupX_read {mi : XI} {t : MT} {b : MB} {m : MP} {own : List Nat} {g : TG} {B : Heap} {nm : Nat → Nat → Option Str} {c : Addr} (eB : B = w.s.base) (en : nm = w.s.nm) (ec : c = w.c) (hgn : w.gn = true) (hfx : ∀ v ∈ own, ∀ p ∈ w.fx, p.1 ≠ v) (hg : ∀ c', GT (w.at c') own g t) (σ : L2.St) (H : Hp) (Q : VK) :
    tX w (xGenT mi t b m own) σ H Q → tTupX (tGen B nm c (tXI w mi) g (fun c' => tBo (w.at c') b) (fun c' => tP (w.at c') m) own) σ H Q := by
  subst eB en ec
  rintro ⟨ι0, env, st0, R0, he0, hs0, hm0, q0⟩
  refine ⟨ι0, env, st0, _, he0, hs0, hm0, fun ds ro st ι J H1 hR g1 s1 hJ => ?_⟩
  obtain ⟨es, hm, hRR⟩ := hR
  have he := he0.gr g1
  refine ⟨he.cod hgn, s1.tabs, fun H2 c' P' g2 T2 hc' hp' => ?_⟩
  have kg : Kp ι H1 H2 := Kp.grown g2
  have s2 := s1.grown' g2 T2
  have he2 : EnvR (w.at c') ι env σ H2 := (he.kp kg).code hc' hp'
  refine ⟨⟨fun ys i mm H' => mm = ds.length - i ∧ i ≤ ds.length ∧ ys.length ≤ i ∧ Kp ι H2 H' ∧ SR w.s ι st H' ∧ ∃ es1 es2, Reps ι H' ys es1 ∧ fGo t b m (ewipe env own) st (ds.drop i) = some es2 ∧ es1 ++ es2 = es, fun _ => True, fun ys H' => Kp ι H2 H' ∧ SR w.s ι st H' ∧ Reps ι H' ys es ∧ ys.length ≤ ds.length⟩,
    trivial, ⟨ds.length, rfl, Nat.zero_le _, Nat.zero_le _, Kp.refl _, s2, [], es, .nil, hm, rfl⟩, ?_, fun _ => trivial, fun ys H' ⟨k3, s3, r3, l3⟩ hl p hp => ?_⟩
  · rintro ys i mm H' _ ⟨rfl, hi, hyl, k2, s2', es1, es2, hr, hgo, rfl⟩
    obtain ⟨j1, j2, j3⟩ := hJ.run ι st H' (kg.trans k2) (List.prefix_refl _) Hold.refl s2'
    by_cases hlt : i < ds.length
    · refine .inr ⟨j1 i hlt, fun H'' => i + 1 ≤ ds.length ∧ ys.length ≤ i + 1 ∧ Kp ι H2 H'' ∧ SR w.s ι st H'' ∧ ∃ es1' es2', Reps ι H'' ys es1' ∧ fGo t b m (ewipe env own) st (ds.drop (i + 1)) = some es2' ∧ es1' ++ es2' = es1 ++ es2,
        fun y H'' => i + 1 ≤ ds.length ∧ (ys ++ [y]).length ≤ i + 1 ∧ Kp ι H2 H'' ∧ SR w.s ι st H'' ∧ ∃ es1' es2', Reps ι H'' (ys ++ [y]) es1' ∧ fGo t b m (ewipe env own) st (ds.drop (i + 1)) = some es2' ∧ es1' ++ es2' = es1 ++ es2,
        fun H'' hn => ⟨_, by omega, rfl, hn⟩, fun y H'' hn => ⟨_, by omega, rfl, hn⟩, fun x H3 hy => ?_⟩
      obtain ⟨d, hd, rd, kk, s3⟩ := j2 i x H3 hlt hy
      obtain ⟨d', hd', hdr⟩ := drop_cons' hlt
      rw [hd] at hd'
      cases hd'
      rw [hdr] at hgo
      obtain ⟨env1, ht, hcase⟩ := go_cons hgo
      have k3 : Kp ι H' H3 := .of kk
      refine hg c' ι st H3 _ _ x d env1 _ ((he2.kp (k2.trans k3)).wipe own hfx) s3 rd ht fun σ2 he3 hw2 => ⟨hw2.trans (wipe_idem fun _ h => h), ?_⟩
      rcases hcase with ⟨hb, hrest⟩ | ⟨hb, y, yss, hy1, hrest, rfl⟩
      · refine ⟨ι, env1, st, false, he3, s3, hb, fun H4 k4 s4 => iteF ⟨hlt, Nat.le_succ_of_le hyl, (k2.trans k3).trans k4, s4, es1, _, (hr.kp k3).kp k4, hrest, rfl⟩⟩
      · refine ⟨ι, env1, st, true, he3, s3, hb, fun H4 k4 s4 => iteT ⟨ι, env1, st, y, he3.kp k4, s4, hy1, fun v H5 k5 r5 s5 => ?_⟩⟩
        exact ⟨Nat.lt_of_le_of_lt hyl (Nat.lt_of_lt_of_le hlt hJ.len), hlt, by rw [List.length_append]; simpa using hyl, ((k2.trans k3).trans k4).trans k5, s5, es1 ++ [y], yss, (((hr.kp k3).kp k4).kp k5).append (.one r5), hrest, by simp⟩
    · have e : i = ds.length := by omega
      subst e
      rw [List.drop_length] at hgo
      cases hgo
      rw [List.append_nil]
      exact .inl ⟨j3 _ (Nat.le_refl _), k2, s2', hr, hyl⟩
  · refine q0 _ st ι _ _ hRR (g1.trans (.of ((kg.trans k3).trans (Kp.new hp)))) (.tup upd_same (by rw [← r3.length]; exact hl) (r3.kp (Kp.new hp))) (s3.new hp (fun _ z => by cases z) (nin_of s3 hp))
structure GenAX (X : Cx) (w : Wd) (mi : XI) (t : MT) (b : MB) (m : MP) (own : List Nat) (k : Nat) (e : Expr) : Prop where
  ex : ∃ (g : TG), PGx X k e (tGen X.base w.s.nm w.c (tXI w mi) g (fun c' => tBo (w.at c') b) (fun c' => tP (w.at c') m) own) ∧ (∀ c', GT (w.at c') own g t) ∧ ∀ v ∈ own, ∀ p ∈ w.fx, p.1 ≠ v
  gn : w.gn = true
theorem dxg_gen {scope : Scope} {own : List (Str × Nat)} {mi : XI} {t : MT} {b : MB} {m : MP} {g : TG} {k : Nat}
    (hc : X.calm = true) (hN : X.N.Nodup) (hr : Room 0 X.A) (hf : Fit X w) (hbm : Bm X.base X.mg) (hn : w.s.nm pos.line pos.col = none) (hi : PI X tg iter (tXI w mi)) (ok : GenOk X.N X.env.scope scope own) (ht : ∀ c', GT (w.at c') (own.map (·.2)) g t)
    (hg : ∀ (s : Shared) (H : Hp) (cells : List (Str × Addr)) (L c' : Addr) (fp : List Addr) (A : Around) (pn : List (Addr × Obj)), PG (gcx X s H (genv X scope cells L (.ref c')) fp A pn) tg g)
    (hb : ∀ (s : Shared) (H : Hp) (cells : List (Str × Addr)) (L c' : Addr) (fp : List Addr) (A : Around) (pn : List (Addr × Obj)), Room k (A.deeper (genv X scope cells L (.ref c'))) → Fit (gcx X s H (genv X scope cells L (.ref c')) fp A pn) (w.at c') → PTs (gcx X s H (genv X scope cells L (.ref c')) fp A pn) ifs (tBo (w.at c') b))
    (he : ∀ (s : Shared) (H : Hp) (cells : List (Str × Addr)) (L c' : Addr) (fp : List Addr) (A : Around) (pn : List (Addr × Obj)), Room k (A.deeper (genv X scope cells L (.ref c'))) → Fit (gcx X s H (genv X scope cells L (.ref c')) fp A pn) (w.at c') → PE (gcx X s H (genv X scope cells L (.ref c')) fp A pn) elt (tP (w.at c') m))
    (hs : ∀ x, genFold iter X.env x = pure x := by intro _; rfl) (hfx : ∀ v ∈ own.map (·.2), ∀ p ∈ w.fx, p.1 ≠ v := by intro _ _ _ h; cases h) (hgn : w.gn = true := by rfl) : GenAX X w mi t b m (own.map (·.2)) k (.GeneratorExp elt [⟨tg, iter, ifs, 0⟩] scope pos) :=
  ⟨⟨g, pgx_gen hc hN hr hf.c hbm hn hi ok hg (fun s H cells L c' fp A pn hr => hb s H cells L c' fp A pn hr ⟨hf.k, hf.b, rfl⟩) (fun s H cells L c' fp A pn hr => he s H cells L c' fp A pn hr ⟨hf.k, hf.b, rfl⟩) hs, ht, hfx⟩, hgn⟩
section
variable {mi : XI} {t : MT} {b : MB} {m : MP} {own : List Nat} {k : Nat} {e : Expr} {p : Pos}
theorem dx_tupG (hf : Fit X w) (hG : GenAX X w mi t b m own k e) (hr : Room (k + 5) X.A) (hg : Gl X "tuple") (hm : X.mg "tuple" = none) (he : starEach [e] X.env = (false, eval e X.env) :: starEach [] X.env := by rfl) : PE X (.Call (.Name "tuple" p) [e] [] pos) (tX w (xGenT mi t b m own)) := by
  obtain ⟨g, hp, ht, hfx⟩ := hG.ex
  exact PE.mo (pe_tupX hp hr hg hm (he := he)) fun σ H Q h => tupX_read hf.b rfl rfl hG.gn hfx ht σ H Q h
end
end
end GD

set_option Elab.async false
set_option linter.all false
set_option maxRecDepth 100000
set_option maxHeartbeats 2000000
namespace GD
open PySem PySem.Spec PyProof.Rows L2 GX
/-! ## 27. chained comparisons, zip of tuples, more comparisons with effects -/
section
variable {X : Cx} {w : Wd} {pos : Pos} {a b c : Expr} {ma mb mc : MP} {xa xb xc : XP}
def mChain (f f' : F2) (a b c : MP) : MP := fun env st => match a env st, b env st with
  | some x, some y => match f st x y with
    | some (.bl true) => (match c env st with | some z => (match f' st y z with | some (.bl r) => some (.bl r) | _ => none) | none => none)
    | some (.bl false) => some (.bl false)
    | _ => none
  | _, _ => none
theorem chain_read {f f' : F2} {r r' : R2} (hr : OpP w f r) (hr' : OpP w f' r') (σ : L2.St) (H : Hp) (Q : VK) : tP w (mChain f f' ma mb mc) σ H Q → tChain r r' (tP w ma) (tP w mb) (tP w mc) σ H Q := by
  rintro ⟨ι, env, st, d, he, hs, hm, q⟩
  unfold mChain at hm
  split at hm
  · rename_i x y ea eb
    refine ⟨ι, env, st, x, he, hs, ea, fun v H1 k1 r1 s1 => ⟨ι, env, st, y, he.kp k1, s1, eb, fun u H2 k2 r2 s2 => ?_⟩⟩
    split at hm
    · rename_i ef
      refine hr ι st H2 v u x y _ _ s2 (r1.kp k2) r2 ef fun z H3 k3 r3 s3 => ?_
      cases r3
      refine ⟨true, rfl, iteT ?_⟩
      split at hm
      · rename_i z ec
        refine ⟨ι, env, st, z, ((he.kp k1).kp k2).kp k3, s3, ec, fun v' H4 k4 r4 s4 => ?_⟩
        split at hm
        · rename_i r0 ef'
          cases hm
          exact hr' ι st H4 u v' y z _ _ s4 ((r2.kp k3).kp k4) r4 ef' fun z' H5 k5 r5 s5 => q z' H5 ((((k1.trans k2).trans k3).trans k4).trans k5) r5 s5
        · cases hm
      · cases hm
    · rename_i ef
      cases hm
      refine hr ι st H2 v u x y _ _ s2 (r1.kp k2) r2 ef fun z H3 k3 r3 s3 => ?_
      cases r3
      exact ⟨false, rfl, iteF (q _ H3 ((k1.trans k2).trans k3) (.bl _) s3)⟩
    · cases hm
  · cases hm
theorem dt_chain {op op' : CmpOp} {f f' : F2} {r r' : R2} (ho : OpR X (compareOp op) r) (hr : OpP w f r) (ho' : OpR X (compareOp op') r') (hr' : OpP w f' r') (ha : PE X a (tP w ma)) (hb : PE X b (tP w mb)) (hc : PE X c (tP w mc))
    (hm : lastMarks [op, op'] [b, c] = false := by with_unfolding_all rfl) : PT X (.Compare a [op, op'] [b, c] pos) (tBo w (bV (mChain f f' ma mb mc))) :=
  PT.mo (pt_chain ho ho' ha hb hc hm) fun σ H Q ⟨ι, env, st, x, he, hs, hx, q⟩ => chain_read (w := w) hr hr' σ H _ (by
    unfold bV at hx
    split at hx
    · rename_i x' e
      cases hx
      exact ⟨ι, env, st, _, he, hs, e, fun v H1 k1 r1 s1 => by cases r1; exact ⟨_, rfl, q H1 k1 s1⟩⟩
    · cases hx)
end
/-! ### zip of two tuples -/
section
variable {X : Cx} {w : Wd} {ι : List Addr} {st : SS} {H0 : Hp} {a b : Addr} {K : PySem.W.Frag}
end
end GD

set_option Elab.async false
set_option linter.all false
set_option maxRecDepth 100000
set_option maxHeartbeats 4000000
namespace GD
open PySem PySem.Spec PyProof.Rows L2 GX
/-! ## 18. mirrors by the number of names alone: shared by all laws -/
def startE' (k : Nat) (ds : List D) : EV := ds.map some ++ List.replicate (k - ds.length) none
def fnR' (k n : Nat) (r : RS) : List D → SS → Option D := fun ds st => if ds.length = n then (match r (startE' k ds) st with
  | some (.rt d) => if D.lo st.length d = true then some d else none
  | some (.nx _) => some .non
  | _ => none) else none
def fnT' (k n : Nat) (t : XS) : XT := fun ds st R => ds.length = n ∧ t { nx := fun _ st' => R .non st', rt := R } (startE' k ds) st
theorem DefP.n {P : Program} {wl : World} {w : Ws} {mg : Str → Option Value} {l : Nat} {x : Str} {N : List Str} {k n : Nat} {r : RS} (h : DefP P wl w mg l x (fnR N n r)) (e : N.length = k) : DefP P wl w mg l x (fnR' k n r) := by
  subst e
  exact h
theorem DefX.n {P : Program} {wl : World} {w : Ws} {mg : Str → Option Value} {l : Nat} {x : Str} {N : List Str} {k n : Nat} {t : XS} (h : DefX P wl w mg l x (fnT N n t)) (e : N.length = k) : DefX P wl w mg l x (fnT' k n t) := by
  subst e
  exact h
/-! ### sorted sets -/
/-! ### the store grows -/
def Up (st st1 : SS) : Prop := ∀ m, m < st.length → st1[m]? = st[m]?
theorem Up.refl (st : SS) : Up st st := fun _ _ => rfl
theorem Up.len {st st1 : SS} (u : Up st st1) : st.length ≤ st1.length := by
  cases h : st.length with
  | zero => omega
  | succ n =>
    have hn : n < st.length := by omega
    have e := u n hn
    rw [List.getElem?_eq_getElem hn] at e
    have := (List.getElem?_eq_some_iff.mp e).1
    omega
theorem Up.trans {a b c : SS} (u : Up a b) (v : Up b c) : Up a c := fun m hm => (v m (Nat.lt_of_lt_of_le hm u.len)).trans (u m hm)
theorem Up.app (st t : SS) : Up st (st ++ t) := fun m hm => List.getElem?_append_left hm
theorem Up.pre {st st1 : SS} (p : st <+: st1) : Up st st1 := by
  obtain ⟨t, rfl⟩ := p
  exact Up.app st t
theorem Up.set {st st1 : SS} (u : Up st st1) {n : Nat} (h : st.length ≤ n) (c : Cell) : Up st (st1.set n c) := fun m hm => by
  rw [List.getElem?_set_ne (by omega)]
  exact u m hm
theorem Up.get {st st1 : SS} (u : Up st st1) {n : Nat} {c : Cell} (h : st[n]? = some c) : st1[n]? = some c := (u n (List.getElem?_eq_some_iff.mp h).1).trans h
theorem Boxed.up {st st1 : SS} {n : Nat} (h : Boxed st n) (u : Up st st1) : Boxed st1 n := by
  obtain ⟨dn, i, ms, h1, h2, h3⟩ := h.ex
  exact ⟨dn, i, ms, u.get h1, h2, u.get h3⟩
theorem Boxed.lt {st : SS} {n : Nat} (h : Boxed st n) : n < st.length := by
  obtain ⟨dn, i, ms, h1, _⟩ := h.ex
  exact (List.getElem?_eq_some_iff.mp h1).1
/-- what stands behind the box is written -/
theorem Boxed.hi {st : SS} {n p : Nat} (h : Boxed st n) (hp : n < p) (c : Cell) : Boxed (st.set p c) n := by
  obtain ⟨dn, i, ms, h1, h2, h3⟩ := h.ex
  exact ⟨dn, i, ms, by rw [List.getElem?_set_ne (by omega)]; exact h1, h2, by rw [List.getElem?_set_ne (by omega)]; exact h3⟩
/-- the store has grown, but for the box at n, which was drawn from -/
structure Ub (n : Nat) (st st1 : SS) : Prop where
  at_ : ∀ m, m < st.length → m ≠ n → st1[m]? = st[m]?
  len : st.length ≤ st1.length
theorem Ub.refl (n : Nat) (st : SS) : Ub n st st := ⟨fun _ _ _ => rfl, Nat.le_refl _⟩
theorem Ub.trans {n : Nat} {a b c : SS} (u : Ub n a b) (v : Ub n b c) : Ub n a c := ⟨fun m hm h => (v.at_ m (Nat.lt_of_lt_of_le hm u.len) h).trans (u.at_ m hm h), Nat.le_trans u.len v.len⟩
theorem Ev.ub {n : Nat} {st st1 : SS} (e : Ev n st st1) : Ub n st st1 := ⟨fun m _ h => e.at_ m h, by rw [e.len]; exact Nat.le_refl _⟩
theorem Up.ub {st st1 : SS} (u : Up st st1) (n : Nat) : Ub n st st1 := ⟨fun m hm _ => u m hm, u.len⟩
theorem Ub.get {n : Nat} {st st1 : SS} (u : Ub n st st1) {m : Nat} {c : Cell} (h : st[m]? = some c) (hm : m ≠ n) : st1[m]? = some c := (u.at_ m (List.getElem?_eq_some_iff.mp h).1 hm).trans h
theorem Ub.set {n : Nat} {st st1 : SS} (u : Ub n st st1) {p : Nat} (hp : st.length ≤ p) (c : Cell) : Ub n st (st1.set p c) := ⟨fun m hm h => by
  rw [List.getElem?_set_ne (by omega)]
  exact u.at_ m hm h, by rw [List.length_set]; exact u.len⟩
/-- a new list is given -/
def NewL (st : SS) (l : List D) (R : D → SS → Prop) : Prop := ∀ st1 n, st.length ≤ n → Up st st1 → st1[n]? = some (.lst l) → R (.ref n) st1
theorem NewL.mo {st : SS} {l : List D} {R R' : D → SS → Prop} (h : NewL st l R) (q : ∀ d st1, R d st1 → R' d st1) : NewL st l R' := fun st1 n a b c => q _ _ (h st1 n a b c)
theorem seqI_lst {st : SS} {n : Nat} {ds : List D} (h : st[n]? = some (.lst ds)) : seqI st (.ref n) = some (ds, some n) := by
  unfold seqI
  simp only [h]
theorem getApp (st : SS) (c : Cell) : (st ++ [c])[st.length]? = some c := by simp
theorem setApp (st : SS) (c d : Cell) : (st ++ [c]).set st.length d = st ++ [d] := by simp
/-! ### computing, by comprehensions -/
section
variable {env : EV} {st : SS} {t : MT} {b : MB} {m mi : MP}
theorem comp_fi {α : Type} {f : α → D} {g : α → D} {p : α → Bool} {own : List Nat} {mit : MI} {l : List α} {ro : Option Nat} (h : mit env st = some (l.map f, ro)) (k : ∀ a ∈ l, ∃ env1, t (f a) (ewipe env own) = some env1 ∧ b env1 st = some (p a) ∧ (p a = true → m env1 st = some (g a))) : mComp mit t b m own env st = some ((l.filter p).map g) := by
  rw [mComp_e h, fGo_map (p := p) (g := g) l k]
end
end GD

set_option Elab.async false
set_option linter.all false
set_option maxRecDepth 100000
set_option maxHeartbeats 4000000
namespace GD
open PySem PySem.Spec PyProof.Rows L2 GX GS
/-! ## 19. all sets in lectic order -/
def LecLt (a b : List Nat) : Prop := ∃ m, m ∉ a ∧ m ∈ b ∧ ∀ k, k < m → (k ∈ a ↔ k ∈ b)
/-- a sorted set from lo on, below hi -/
def SetIn (lo hi : Nat) (s : List Nat) : Prop := s.Pairwise (· < ·) ∧ ∀ x ∈ s, lo ≤ x ∧ x < hi
theorem SetIn.nil (lo hi : Nat) : SetIn lo hi [] := ⟨List.Pairwise.nil, fun _ h => by cases h⟩
theorem LecLt.trans {a b c : List Nat} (h : LecLt a b) (k : LecLt b c) : LecLt a c := by
  obtain ⟨m, h1, h2, h3⟩ := h
  obtain ⟨n, k1, k2, k3⟩ := k
  rcases Nat.lt_trichotomy m n with h | h | h
  · exact ⟨m, h1, (k3 m h).mp h2, fun x hx => (h3 x hx).trans (k3 x (by omega))⟩
  · subst h; exact absurd h2 k1
  · exact ⟨n, fun z => k1 ((h3 n h).mp z), k2, fun x hx => (h3 x (by omega)).trans (k3 x hx)⟩
theorem least_apart {a b : List Nat} : ∀ n, (∀ k, k < n → (k ∈ a ↔ k ∈ b)) ∨ ∃ m, m < n ∧ ¬(m ∈ a ↔ m ∈ b) ∧ ∀ k, k < m → (k ∈ a ↔ k ∈ b)
  | 0 => .inl fun k h => by omega
  | n + 1 => by
    rcases least_apart n with h | ⟨m, h1, h2, h3⟩
    · by_cases e : (n ∈ a ↔ n ∈ b)
      · refine .inl fun k hk => ?_
        by_cases z : k = n
        · subst z; exact e
        · exact h k (by omega)
      · exact .inr ⟨n, by omega, e, h⟩
    · exact .inr ⟨m, by omega, h2, h3⟩
theorem LecLt.tot {a b : List Nat} {n : Nat} (ha : a.Pairwise (· < ·)) (hb : b.Pairwise (· < ·)) (la : ∀ x ∈ a, x < n) (lb : ∀ x ∈ b, x < n) (h : a ≠ b) : LecLt a b ∨ LecLt b a := by
  rcases least_apart (a := a) (b := b) n with z | ⟨m, h1, h2, h3⟩
  · exfalso
    apply h
    refine sorted_ext ha hb fun k => ?_
    by_cases hk : k < n
    · exact z k hk
    · exact ⟨fun q => absurd (la k q) hk, fun q => absurd (lb k q) hk⟩
  · by_cases hm : m ∈ a
    · refine .inr ⟨m, fun z => h2 ⟨fun _ => z, fun _ => hm⟩, hm, fun k hk => (h3 k hk).symm⟩
    · refine .inl ⟨m, hm, Classical.byContradiction fun z => h2 ⟨fun q => absurd q hm, fun q => absurd q z⟩, h3⟩
end GD

set_option Elab.async false
set_option linter.all false
set_option maxRecDepth 100000
set_option maxHeartbeats 4000000
namespace GF
open PySem PySem.Spec PyProof.Rows L2 GX GD GS
/-! the words that many laws share, computed -/
end GF

set_option Elab.async false
set_option linter.all false
set_option maxRecDepth 100000
set_option maxHeartbeats 4000000
namespace GF
open PySem PySem.Spec PyProof.Rows L2 GX GD GS
theorem bOr_e {a b : MB} {env : EV} {st : SS} {x y : Bool} (h : a env st = some x) (k : b env st = some y) : bOr a b env st = some (x || y) := by
  unfold bOr
  rw [h]
  cases x with
  | true => rfl
  | false => exact k
theorem bAnd_e {a b : MB} {env : EV} {st : SS} {x y : Bool} (h : a env st = some x) (k : x = true → b env st = some y) : bAnd a b env st = some (x && y) := by
  unfold bAnd
  rw [h]
  cases x with
  | true => exact (k rfl)
  | false => rfl
end GF

set_option Elab.async false
set_option linter.all false
set_option maxRecDepth 100000
set_option maxHeartbeats 4000000
namespace GD
open PySem PySem.Spec PyProof.Rows L2 GX GS
/-! ## 21. reduced tables -/
section
variable (I : Nat → Nat → Bool) (a b : Nat)
def fl (I : Nat → Nat → Bool) : Nat → Nat → Bool := fun m g => I g m
end
section
variable {I : Nat → Nat → Bool} {a b : Nat}
end
/-! ### of tables -/
section
variable {many : Nat} {rows : List (List Nat)}
def Tab (many : Nat) (rows : List (List Nat)) : Prop := ∀ r ∈ rows, r.Pairwise (· < ·) ∧ ∀ x ∈ r, x < many
theorem Tab.row (T : Tab many rows) (g : Nat) : (rows.getD g []).Pairwise (· < ·) ∧ ∀ x ∈ rows.getD g [], x < many := by
  by_cases h : g < rows.length
  · exact T _ (List.mem_of_getElem? (rowD rows h))
  · rw [List.getD_eq_getElem?_getD, List.getElem?_eq_none (by omega)]
    exact ⟨List.Pairwise.nil, fun _ z => by cases z⟩
open GF
end
end GD

set_option Elab.async false
set_option linter.all false
set_option maxRecDepth 100000
set_option maxHeartbeats 4000000
namespace GD
open PySem PySem.Spec PyProof.Rows L2 GX GS
/-! ## 22. loops over lists, by what is done -/
theorem for_ls {α : Type} {f : α → D} {items : List α} {t : MT} {body : XS} {st0 : SS} {ro : Option Nat} {D0 : DE} (Iv : List α → EV → SS → Prop)
    (hh : ∀ done env st, Iv done env st → Hold st0 ro st)
    (hs : ∀ done a todo env st, items = done ++ a :: todo → Iv done env st → ∃ env1, t (f a) env = some env1 ∧ ∀ K : DE, (∀ env st, Iv (done ++ [a]) env st → K.nx env st) → (∀ env st, Iv (done ++ [a]) env st → K.ct env st) → K.rt = D0.rt → K.bk = D0.nx → body K env1 st)
    (he : ∀ env st, Iv items env st → D0.nx env st) {env : EV} {st : SS} (h0 : Iv [] env st) : sForGo t body st0 ro D0 (items.map f) env st := by
  have go : ∀ (todo done : List α) (env : EV) (st : SS), items = done ++ todo → Iv done env st → sForGo t body st0 ro D0 (todo.map f) env st := by
    intro todo
    induction todo with
    | nil =>
      intro done env st e h
      rw [List.append_nil] at e
      subst e
      exact ⟨hh _ _ _ h, he _ _ h⟩
    | cons a todo ih =>
      intro done env st e h
      obtain ⟨env1, h1, h2⟩ := hs done a todo env st e h
      have e2 : items = (done ++ [a]) ++ todo := by rw [e, List.append_assoc]; rfl
      exact ⟨hh _ _ _ h, env1, h1, h2 _ (fun env st k => ih _ env st e2 k) (fun env st k => ih _ env st e2 k) rfl rfl⟩
  exact go items [] env st rfl h0
theorem range_split {n a : Nat} {done todo : List Nat} (h : List.range n = done ++ a :: todo) : done = List.range a ∧ a < n := by
  have hl : done.length < n := by
    have := congrArg List.length h
    rw [List.length_range, List.length_append, List.length_cons] at this
    omega
  have ha : (List.range n)[done.length]? = some a := by
    rw [h, List.getElem?_append_right (Nat.le_refl _), Nat.sub_self]
    rfl
  rw [List.getElem?_range hl] at ha
  have ha := Option.some.inj ha
  subst ha
  refine ⟨?_, hl⟩
  have e : done = (List.range n).take done.length := by rw [h, List.take_left']; rfl
  rw [List.take_range, Nat.min_eq_left (by omega)] at e
  exact e
/-- over a range -/
theorem for_rg {n : Nat} {t : MT} {body : XS} {st0 : SS} {D0 : DE} (Iv : Nat → EV → SS → Prop)
    (hs : ∀ i env st, i < n → Iv i env st → ∃ env1, t (nI i) env = some env1 ∧ ∀ K : DE, (∀ env st, Iv (i + 1) env st → K.nx env st) → (∀ env st, Iv (i + 1) env st → K.ct env st) → K.rt = D0.rt → K.bk = D0.nx → body K env1 st)
    (he : ∀ env st, Iv n env st → D0.nx env st) {env : EV} {st : SS} (h0 : Iv 0 env st) : sForGo t body st0 none D0 ((List.range n).map nI) env st := by
  refine for_ls (ro := none) (fun done env st => Iv done.length env st) (fun _ _ _ _ => trivial) (fun done a todo env st e h => ?_) (fun env st h => he env st (by rw [List.length_range] at h; exact h)) h0
  obtain ⟨e1, e2⟩ := range_split e
  have el : done.length = a := by rw [e1, List.length_range]
  rw [el] at h
  obtain ⟨env1, h1, h2⟩ := hs a env st e2 h
  refine ⟨env1, h1, fun K k1 k2 k3 k4 => h2 K (fun env st q => k1 env st ?_) (fun env st q => k2 env st ?_) k3 k4⟩ <;> (rw [List.length_append, el]; exact q)
/-! ### parts, as they are made -/
theorem lenR {st : SS} {α : Type} {f : α → D} {l : List α} {n : Nat} {m : MP} {env : EV} (h : m env st = some (.ref n)) (k : st[n]? = some (.lst (l.map f))) : mF1 fLen m env st = some (nI l.length) := by
  unfold mF1
  rw [h]
  show fLen st (.ref n) = _
  unfold fLen seqOf
  simp only [k, List.length_map]
  rfl
theorem getR {st : SS} {α : Type} {f : α → D} {l : List α} {n i : Nat} {a : α} (k : st[n]? = some (.lst (l.map f))) (h : l[i]? = some a) : fIx st (.ref n) (nI i) = some (f a) := by
  unfold fIx seqOf
  simp only [k]
  show atI (l.map f) (i : Int) = _
  rw [atI_nat, List.getElem?_map, h]
  rfl
theorem tupR {st : SS} {ds : List D} {n : Nat} {m : MP} {env : EV} (h : m env st = some (.ref n)) (k : st[n]? = some (.lst ds)) : mF1 fTup m env st = some (.tup ds) := by
  unfold mF1
  rw [h]
  show fTup st (.ref n) = _
  unfold fTup seqOf
  simp only [k]
theorem Tab.set {many : Nat} {rows : List (List Nat)} (T : Tab many rows) {s : List Nat} (h : s.Pairwise (· < ·) ∧ ∀ x ∈ s, x < many) (j : Nat) : Tab many (rows.set j s) := fun r hr => by
  rcases List.mem_or_eq_of_mem_set hr with h1 | h1
  · exact T r h1
  · rw [h1]; exact h
theorem Ev.keep {n : Nat} {st st1 : SS} (e : Ev n st st1) {p : Nat} {c : Cell} (h : st[p]? = some c) (hp : p ≠ n) : st1[p]? = some c := (e.at_ p hp).trans h
end GD

set_option Elab.async false
set_option linter.all false
set_option maxRecDepth 100000
set_option maxHeartbeats 4000000
namespace GD
open PySem PySem.Spec PyProof.Rows L2 GX GS
/-! ## 25. the next closed set -/
def unionM (a b : List Nat) : List Nat := (List.range ((a ++ b).foldr (fun x y => max (x + 1) y) 0)).filter fun k => a.contains k || b.contains k
theorem lt_bound : ∀ (l : List Nat) (x : Nat), x ∈ l → x < l.foldr (fun x y => max (x + 1) y) 0
  | a :: l, x, h => by
    rw [List.foldr_cons]
    rcases List.mem_cons.mp h with e | e
    · subst e; omega
    · have := lt_bound l x e; omega
theorem mem_unionM {a b : List Nat} {k : Nat} : k ∈ unionM a b ↔ k ∈ a ∨ k ∈ b := by
  unfold unionM
  rw [List.mem_filter, List.mem_range, Bool.or_eq_true, List.contains_iff_mem, List.contains_iff_mem]
  exact ⟨fun h => h.2, fun h => ⟨lt_bound _ _ (List.mem_append.mpr h), h⟩⟩
theorem unionM_sorted (a b : List Nat) : (unionM a b).Pairwise (· < ·) := sorted_filter _ _
/-- a closure operator on the sets below many -/
structure ClosOp (many : Nat) (cl : List Nat → List Nat) : Prop where
  inn : ∀ s, SetIn 0 many s → SetIn 0 many (cl s)
  ext : ∀ s, SetIn 0 many s → ∀ x ∈ s, x ∈ cl s
  mono : ∀ s t, SetIn 0 many s → SetIn 0 many t → (∀ x ∈ s, x ∈ t) → ∀ x ∈ cl s, x ∈ cl t
  idem : ∀ s, SetIn 0 many s → cl (cl s) = cl s
section
variable {many : Nat} {cl : List Nat → List Nat} {s : List Nat}
end
end GD

set_option Elab.async false
set_option linter.all false
set_option maxRecDepth 100000
set_option maxHeartbeats 4000000
namespace GF
open PySem PySem.Spec PyProof.Rows L2 GX GD GS
/-! the closed sets, walked -/
/-- what a lambda does that closes sets; the store that it leans on grows -/
def clU (many : Nat) (cl : List Nat → List Nat) (st0 : SS) : XT := fun ds st R => ∃ s, ds = [dN s] ∧ SetIn 0 many s ∧ Up st0 st ∧ ∀ st', Up st st' → R (dN (cl s)) st'
theorem clU.up {many : Nat} {cl : List Nat → List Nat} {st st1 : SS} (u : Up st st1) {ds : List D} {st' : SS} {R : D → SS → Prop} (h : clU many cl st1 ds st' R) : clU many cl st ds st' R := by
  obtain ⟨s, h1, h2, h3, h4⟩ := h
  exact ⟨s, h1, h2, u.trans h3, h4⟩
/-! ### the order -/
end GF

set_option Elab.async false
set_option linter.all false
set_option maxRecDepth 100000
set_option maxHeartbeats 4000000
namespace GF
open PySem PySem.Spec PyProof.Rows L2 GX GD GS
/-! counts, covers -/
def cntM (rows : List (List Nat)) (s : List Nat) : Nat := (havingM rows s).length
/-! ### pairs of neighbours, counted -/
abbrev Quad := List Nat × List Nat × Nat × Nat
end GF

set_option Elab.async false
set_option linter.all false
set_option maxRecDepth 100000
set_option maxHeartbeats 4000000
namespace GD
open PySem PySem.Spec PyProof.Rows L2 GX GS
/-! ## 28. kinds of data: what == and in say of them -/
/-- f names the things of a type by data of one shape -/
structure DF {α : Type} [DecidableEq α] (f : α → D) (d : Nat) : Prop where
  eqv : ∀ a b, PyData.eqv (f a).py (f b).py = decide (a = b)
  imm : ∀ a, (f a).imm = true
  lay : ∀ a, PyData.canLay0 (f a).py = true
  dep : ∀ a, PyData.depth (f a).py ≤ d
namespace DF
variable {α β : Type} [DecidableEq α] [DecidableEq β] {f : α → D} {g : β → D} {d e : Nat}
theorem good (h : DF f d) (hd : d ≤ 64 := by decide) (a : α) : (f a).good = true := by
  unfold D.good SeqAt.shaped
  rw [h.imm a, h.lay a, Bool.true_and, Bool.true_and]
  exact decide_eq_true (Nat.le_trans (h.dep a) hd)
theorem nI : DF nI 0 := by
  refine ⟨fun a b => ?_, fun _ => rfl, fun _ => rfl, fun _ => Nat.le_refl _⟩
  show PyData.eqv (.int (a : Int)) (.int (b : Int)) = _
  unfold PyData.eqv
  rw [Bool.eq_iff_iff, beq_iff_eq, decide_eq_true_iff]
  omega
theorem int : DF D.int 0 := by
  refine ⟨fun a b => ?_, fun _ => rfl, fun _ => rfl, fun _ => Nat.le_refl _⟩
  show PyData.eqv (.int a) (.int b) = _
  unfold PyData.eqv
  rw [Bool.eq_iff_iff, beq_iff_eq, decide_eq_true_iff]
theorem imms (h : DF f d) : ∀ l : List α, D.imms (l.map f) = true
  | [] => rfl
  | a :: l => by rw [List.map_cons, D.imms, h.imm a, h.imms l]; rfl
theorem lays (h : DF f d) : ∀ l : List α, PyData.canLayAll0 (D.pys (l.map f)) = true
  | [] => rfl
  | a :: l => by rw [List.map_cons, D.pys, PyData.canLayAll0, h.lay a, h.lays l]; rfl
theorem deps (h : DF f d) : ∀ l : List α, PyData.depthAll (D.pys (l.map f)) ≤ d
  | [] => by unfold List.map D.pys PyData.depthAll; exact Nat.zero_le _
  | a :: l => by
    rw [List.map_cons, D.pys, PyData.depthAll]
    have := h.dep a
    have := h.deps l
    omega
theorem eqvs (h : DF f d) : ∀ a b : List α, PyData.eqvAll (D.pys (a.map f)) (D.pys (b.map f)) = decide (a = b)
  | [], [] => by simp [D.pys, PyData.eqvAll]
  | [], y :: b => by simp [D.pys, PyData.eqvAll]
  | x :: a, [] => by simp [D.pys, PyData.eqvAll]
  | x :: a, y :: b => by
    rw [List.map_cons, List.map_cons, D.pys, D.pys, PyData.eqvAll, h.eqv, h.eqvs a b]
    rw [Bool.eq_iff_iff, Bool.and_eq_true, decide_eq_true_iff, decide_eq_true_iff, decide_eq_true_iff, List.cons.injEq]
theorem list (h : DF f d) : DF (fun l : List α => D.tup (l.map f)) (d + 1) := by
  refine ⟨fun a b => ?_, fun a => ?_, fun a => ?_, fun a => ?_⟩
  · show PyData.eqv (.tuple (D.pys (a.map f))) (.tuple (D.pys (b.map f))) = _
    unfold PyData.eqv
    exact h.eqvs a b
  · show D.imm (.tup (a.map f)) = true
    unfold D.imm
    exact h.imms a
  · show PyData.canLay0 (.tuple (D.pys (a.map f))) = true
    unfold PyData.canLay0
    exact h.lays a
  · show PyData.depth (.tuple (D.pys (a.map f))) ≤ d + 1
    unfold PyData.depth
    have := h.deps a
    omega
theorem pair (h : DF f d) (k : DF g e) (u : Nat) (hu : d ≤ u := by decide) (hu2 : e ≤ u := by decide) : DF (fun p : α × β => D.tup [f p.1, g p.2]) (u + 1) := by
  refine ⟨fun a b => ?_, fun a => ?_, fun a => ?_, fun a => ?_⟩
  · show PyData.eqv (.tuple [(f a.1).py, (g a.2).py]) (.tuple [(f b.1).py, (g b.2).py]) = _
    unfold PyData.eqv PyData.eqvAll PyData.eqvAll PyData.eqvAll
    rw [h.eqv, k.eqv, Bool.and_true, Bool.eq_iff_iff, Bool.and_eq_true, decide_eq_true_iff, decide_eq_true_iff, decide_eq_true_iff, Prod.ext_iff]
  · show D.imm (.tup [f a.1, g a.2]) = true
    unfold D.imm D.imms D.imms D.imms
    rw [h.imm, k.imm]
    rfl
  · show PyData.canLay0 (.tuple [(f a.1).py, (g a.2).py]) = true
    unfold PyData.canLay0 PyData.canLayAll0 PyData.canLayAll0 PyData.canLayAll0
    rw [h.lay, k.lay]
    rfl
  · show PyData.depth (.tuple [(f a.1).py, (g a.2).py]) ≤ u + 1
    unfold PyData.depth PyData.depthAll PyData.depthAll PyData.depthAll
    have := h.dep a.1
    have := k.dep a.2
    omega
theorem ne (h : DF f d) (st : SS) (a b : α) (hd : d ≤ 64 := by decide) : fNe st (f a) (f b) = some (.bl (!decide (a = b))) := by
  unfold fNe
  rw [if_pos ⟨h.good hd a, h.good hd b⟩, h.eqv]
theorem inD (h : DF f d) (a : α) (l : List α) : inD (f a) (l.map f) = decide (a ∈ l) := by
  unfold GD.inD
  rw [D.pys_eq, List.map_map, List.any_map]
  rw [Bool.eq_iff_iff, List.any_eq_true, decide_eq_true_iff]
  constructor
  · rintro ⟨x, hx, e⟩
    have e : PyData.eqv (f x).py (f a).py = true := e
    rw [h.eqv, decide_eq_true_iff] at e
    rw [← e]
    exact hx
  · intro hx
    refine ⟨a, hx, ?_⟩
    show PyData.eqv (f a).py (f a).py = true
    rw [h.eqv]
    exact decide_eq_true rfl
theorem dN : DF dN 1 := nI.list
theorem rows : DF (fun l : List (List Nat) => D.tup (l.map GD.dN)) 2 := dN.list
/-- pairs of sets -/
theorem two : DF (fun p : List Nat × List Nat => D.tup [GD.dN p.1, GD.dN p.2]) 2 := dN.pair dN 1
end DF
end GD

set_option Elab.async false
set_option linter.all false
set_option maxRecDepth 100000
set_option maxHeartbeats 4000000
namespace GF
open PySem PySem.Spec PyProof.Rows L2 GX GD GS
/-! the concepts of a table -/
theorem enumD_map {α : Type} (f : α → D) (l : List α) (z : α) : enumD (l.map f) = (List.range l.length).map fun i => D.tup [nI i, f (l.getD i z)] := by
  refine List.ext_getElem? fun i => ?_
  by_cases h : i < l.length
  · have h1 : (l.map f)[i]? = some (f (l.getD i z)) := by
      rw [List.getElem?_map, List.getElem?_eq_getElem h, Option.map_some, List.getD_eq_getElem?_getD, List.getElem?_eq_getElem h]
      rfl
    rw [enumD_get h1, List.getElem?_map, List.getElem?_range h]
    rfl
  · rw [List.getElem?_eq_none (by rw [enumD_len, List.length_map]; omega), List.getElem?_eq_none (by rw [List.length_map, List.length_range]; omega)]
theorem fit_two {a b : D} {k : Nat} (h1 : D.fit k a = true) (h2 : D.fit k b = true) : D.fit (k + 1) (.tup [a, b]) = true := by
  unfold D.fit
  rw [List.all_cons, List.all_cons, h1, h2]
  rfl
end GF

set_option Elab.async false
set_option linter.all false
set_option maxRecDepth 100000
set_option maxHeartbeats 2000000
/-! tuple[::-1] -/
namespace GS
open PySem PySem.Spec PyProof.Rows L2 HT
section
variable {prog : Program} {w : World} {A : Around} {E : Value → Shared → Prop} {s : Shared}
end
/-! ### t[::-1] -/
end GS
namespace GD
open PySem PySem.Spec PyProof.Rows L2 GX
section
variable {X : Cx} {w : Wd} {pos : Pos}
end
end GD

set_option Elab.async false
set_option linter.all false
set_option maxRecDepth 100000
set_option maxHeartbeats 2000000
/-! sorted(x) of a list or a tuple of data of one kind -/
namespace GS
open PySem PySem.Spec PyProof.Rows L2 HT PySem.W
section
variable {prog : Program} {w : World} {A : Around} {E : Value → Shared → Prop} {s : Shared} {β : Type} {R : Value → β → Prop} {enc : β → PyData} {vs : List Value} {bs : List β}
end
section
variable {X : Cx}
end
end GS
namespace GD
open PySem PySem.Spec PyProof.Rows L2 GX PySem.W
/-! ### as a rule of data -/
def leD : D → D → Bool := dataLe false D.py
/-- items that sorted() can put in order -/
structure SortOk (es : List D) : Prop where
  al : AllAlike (es.map D.py)
  so : Sortable (es.map D.py)
  imm : D.imms es = true
  dep : ∀ d ∈ es, (D.py d).depth ≤ 64
section
variable {X : Cx} {w : Wd} {pos : Pos} {p : Pos}
end
end GD

set_option Elab.async false
set_option linter.all false
set_option maxRecDepth 100000
set_option maxHeartbeats 4000000
/-! set(xs) of a list of ints, with its exact object -/
namespace GS
open PySem PySem.Spec PyProof.Rows L2 HT PySem.W
section
variable {P : Program} {w : World} {A : Around} {E : Value → Shared → Prop} {s : Shared}
end
section
variable {X : Cx}
end
end GS

set_option Elab.async false
set_option linter.all false
set_option maxRecDepth 100000
set_option maxHeartbeats 2000000
namespace GD
open PySem PySem.Spec PyProof.Rows L2 GX PySem.W GS
/-! sorted(set(x)), x a tuple or a list of ints -/
section
variable {X : Cx} {w : Wd} {pos p : Pos}
end
end GD

set_option Elab.async false
set_option linter.all false
set_option maxRecDepth 100000
set_option maxHeartbeats 4000000
namespace GF
open PySem PySem.Spec PyProof.Rows L2 GX GD
/-! ## implications: what follows -/
abbrev Imp := List Nat × List Nat
def noImp : Imp := ([], [])
def keepB (s : List Nat) (r : Imp) : Bool := !isPart r.1 s || isPart r.2 s
theorem keepB_iff {s : List Nat} {r : Imp} : keepB s r = true ↔ ((∀ k ∈ r.1, k ∈ s) → ∀ k ∈ r.2, k ∈ s) := by
  unfold keepB
  rw [Bool.or_eq_true, Bool.not_eq_true', ← isPart_iff, ← isPart_iff]
  cases isPart r.1 s <;> simp
theorem filter_lt {α : Type} {p q : α → Bool} {x : α} : ∀ {l : List α}, (∀ a ∈ l, q a = true → p a = true) → x ∈ l → p x = true → q x = false → (l.filter q).length < (l.filter p).length
  | [], _, h, _, _ => by cases h
  | a :: l, hs, hx, hp, hq => by
    have mono : ∀ {l : List α}, (∀ a ∈ l, q a = true → p a = true) → (l.filter q).length ≤ (l.filter p).length := by
      intro l
      induction l with
      | nil => intro _; exact Nat.le_refl _
      | cons b l ih =>
        intro h
        have h1 := ih fun a ha => h a (List.mem_cons_of_mem _ ha)
        cases hb : q b with
        | true => rw [List.filter_cons_of_pos hb, List.filter_cons_of_pos (h b List.mem_cons_self hb), List.length_cons, List.length_cons]; omega
        | false =>
          rw [List.filter_cons_of_neg (by rw [hb]; decide)]
          refine Nat.le_trans h1 ?_
          by_cases hpb : p b = true
          · rw [List.filter_cons_of_pos hpb, List.length_cons]; omega
          · rw [List.filter_cons_of_neg hpb]; exact Nat.le_refl _
    have hs' : ∀ a ∈ l, q a = true → p a = true := fun a ha => hs a (List.mem_cons_of_mem _ ha)
    rcases List.mem_cons.mp hx with rfl | hx
    · rw [List.filter_cons_of_pos hp, List.filter_cons_of_neg (by rw [hq]; decide), List.length_cons]
      have := mono hs'
      omega
    · have h1 := filter_lt hs' hx hp hq
      cases hb : q a with
      | true => rw [List.filter_cons_of_pos hb, List.filter_cons_of_pos (hs a List.mem_cons_self hb), List.length_cons, List.length_cons]; omega
      | false =>
        rw [List.filter_cons_of_neg (by rw [hb]; decide)]
        refine Nat.lt_of_lt_of_le h1 ?_
        by_cases hpb : p a = true
        · rw [List.filter_cons_of_pos hpb, List.length_cons]; omega
        · rw [List.filter_cons_of_neg hpb]; exact Nat.le_refl _
/-- how many conclusions are not within -/
def muM (imps : List Imp) (s : List Nat) : Nat := (imps.filter fun r => !isPart r.2 s).length
theorem muM_le (imps : List Imp) (s : List Nat) : muM imps s ≤ imps.length := List.length_filter_le _ _
theorem muM_lt {imps : List Imp} {s t : List Nat} (h : ∀ k ∈ s, k ∈ t) {r : Imp} (hr : r ∈ imps) (h1 : isPart r.2 s = false) (h2 : isPart r.2 t = true) : muM imps t < muM imps s := by
  refine filter_lt (x := r) (fun a _ ha => ?_) hr (by rw [h1]; rfl) (by rw [h2]; rfl)
  rw [Bool.not_eq_true'] at ha ⊢
  cases hq : isPart a.2 s with
  | false => rfl
  | true =>
    have : isPart a.2 t = true := isPart_iff.mpr fun k hk => h k (isPart_iff.mp hq k hk)
    rw [this] at ha
    exact ha
def badM (imps : List Imp) (s : List Nat) : List Nat := (List.range imps.length).filter fun i => !keepB s (imps.getD i noImp)
theorem impD_at (imps : List Imp) {i : Nat} (h : i < imps.length) : imps[i]? = some (imps.getD i noImp) := by
  rw [List.getD_eq_getElem?_getD, List.getElem?_eq_getElem h]
  rfl
theorem imp_mem (imps : List Imp) {i : Nat} (h : i < imps.length) : imps.getD i noImp ∈ imps := List.mem_of_getElem? (impD_at imps h)
theorem bad_nil {imps : List Imp} {s : List Nat} (h : badM imps s = []) : ∀ r ∈ imps, keepB s r = true := fun r hr => by
  obtain ⟨i, hi, e⟩ := List.getElem_of_mem hr
  have e2 : imps.getD i noImp = r := by rw [List.getD_eq_getElem?_getD, List.getElem?_eq_getElem hi, e]; rfl
  cases hk : keepB s r with
  | true => rfl
  | false =>
    have : i ∈ badM imps s := List.mem_filter.mpr ⟨List.mem_range.mpr hi, by rw [e2, hk]; rfl⟩
    rw [h] at this
    cases this
theorem bad_cons {imps : List Imp} {s : List Nat} {i : Nat} {t : List Nat} (h : badM imps s = i :: t) : i < imps.length ∧ isPart (imps.getD i noImp).1 s = true ∧ isPart (imps.getD i noImp).2 s = false := by
  have hi : i ∈ badM imps s := by rw [h]; exact List.mem_cons_self
  obtain ⟨h1, h2⟩ := List.mem_filter.mp hi
  unfold keepB at h2
  refine ⟨List.mem_range.mp h1, ?_, ?_⟩
  · cases q : isPart (imps.getD i noImp).1 s with
    | true => rfl
    | false => rw [q] at h2; simp at h2
  · cases q : isPart (imps.getD i noImp).2 s with
    | false => rfl
    | true => rw [q] at h2; simp at h2
theorem mu_step {imps : List Imp} {s : List Nat} {i : Nat} {t : List Nat} (h : badM imps s = i :: t) : muM imps (unionM s (imps.getD i noImp).2) < muM imps s := by
  obtain ⟨h1, h2, h3⟩ := bad_cons h
  exact muM_lt (fun k hk => mem_unionM.mpr (.inl hk)) (imp_mem imps h1) h3 (isPart_iff.mpr fun k hk => mem_unionM.mpr (.inr hk))
def usedGo (imps : List Imp) : Nat → List Nat → List Nat → List Nat × List Nat
  | 0, s, u => (s, u)
  | n + 1, s, u => match badM imps s with
    | [] => (s, u)
    | i :: _ => usedGo imps n (unionM s (imps.getD i noImp).2) (u ++ [i])
theorem used_nil {imps : List Imp} {s : List Nat} (h : badM imps s = []) : ∀ n u, usedGo imps n s u = (s, u)
  | 0, u => rfl
  | n + 1, u => by rw [usedGo, h]
theorem used_cons {imps : List Imp} {s : List Nat} {i : Nat} {t : List Nat} (h : badM imps s = i :: t) (n : Nat) (u : List Nat) : usedGo imps (n + 1) s u = usedGo imps n (unionM s (imps.getD i noImp).2) (u ++ [i]) := by rw [usedGo, h]
/-- induction over what is done -/
theorem used_ind {imps : List Imp} {P : List Nat → List Nat → Prop} (step : ∀ s u i t, P s u → badM imps s = i :: t → P (unionM s (imps.getD i noImp).2) (u ++ [i])) : ∀ (n : Nat) (s u : List Nat), muM imps s ≤ n → P s u → P (usedGo imps n s u).1 (usedGo imps n s u).2 ∧ badM imps (usedGo imps n s u).1 = []
  | 0, s, u, hm, h => by
    refine ⟨h, ?_⟩
    show badM imps s = []
    cases hb : badM imps s with
    | nil => rfl
    | cons i t => have := mu_step hb; omega
  | n + 1, s, u, hm, h => by
    cases hb : badM imps s with
    | nil => rw [used_nil hb]; exact ⟨h, hb⟩
    | cons i t =>
      rw [used_cons hb]
      have := mu_step hb
      exact used_ind step n _ _ (by omega) (step s u i t h hb)
def usedM (imps : List Imp) (s : List Nat) : List Nat × List Nat := usedGo imps imps.length s []
/-- what follows from s -/
def cuM (imps : List Imp) (s : List Nat) : List Nat := (usedM imps s).1
section
variable {imps : List Imp} {s : List Nat}
theorem cu_grows : ∀ k ∈ s, k ∈ cuM imps s := (used_ind (P := fun t _ => ∀ k ∈ s, k ∈ t) (fun t u i _ h _ k hk => mem_unionM.mpr (.inl (h k hk))) imps.length s [] (muM_le _ _) fun _ h => h).1
theorem cu_keeps : ∀ r ∈ imps, keepB (cuM imps s) r = true := bad_nil (used_ind (P := fun _ _ => True) (fun _ _ _ _ _ _ => trivial) imps.length s [] (muM_le _ _) trivial).2
theorem cu_least {t : List Nat} (hs : ∀ k ∈ s, k ∈ t) (hk : ∀ r ∈ imps, keepB t r = true) : ∀ k ∈ cuM imps s, k ∈ t := (used_ind (P := fun x _ => ∀ k ∈ x, k ∈ t) (fun x u i _ h hb k hk' => by
    obtain ⟨h1, h2, h3⟩ := bad_cons hb
    rcases mem_unionM.mp hk' with q | q
    · exact h k q
    · exact keepB_iff.mp (hk _ (imp_mem imps h1)) (fun j hj => h j (isPart_iff.mp h2 j hj)) k q) imps.length s [] (muM_le _ _) hs).1
theorem cu_sorted (hs : s.Pairwise (· < ·)) : (cuM imps s).Pairwise (· < ·) := (used_ind (P := fun x _ => x.Pairwise (· < ·)) (fun x u i _ h hb => unionM_sorted _ _) imps.length s [] (muM_le _ _) hs).1
theorem cu_mono {t : List Nat} (h : ∀ k ∈ s, k ∈ t) : ∀ k ∈ cuM imps s, k ∈ cuM imps t := cu_least (fun k hk => cu_grows k (h k hk)) cu_keeps
theorem cu_self (hs : s.Pairwise (· < ·)) (h : ∀ r ∈ imps, keepB s r = true) : cuM imps s = s := sorted_ext (cu_sorted hs) hs fun k => ⟨cu_least (fun _ h => h) h k, cu_grows k⟩
theorem cu_iff (hs : s.Pairwise (· < ·)) : cuM imps s = s ↔ ∀ r ∈ imps, keepB s r = true := ⟨fun h => by rw [← h]; exact cu_keeps, cu_self hs⟩
end
/-! ### by rounds, as the law does -/
/-! ### derivations -/
def numOf (n : Nat) : D → Option Nat
  | .int i => if 0 ≤ i ∧ i < (n : Int) then some i.toNat else none
  | _ => none
def derGo (imps : List Imp) (c : List Nat) : List D → List Nat → Bool
  | [], found => isPart c found
  | d :: ds, found => match numOf imps.length d with
    | none => false
    | some k => isPart (imps.getD k noImp).1 found && derGo imps c ds (found ++ (imps.getD k noImp).2)
def derB (imps : List Imp) (r : Imp) (ds : List D) : Bool := derGo imps r.2 ds r.1
end GF

set_option Elab.async false
set_option linter.all false
set_option maxRecDepth 100000
set_option maxHeartbeats 4000000
namespace GF
open PySem PySem.Spec PyProof.Rows L2 GX GD
/-! ## 30. implications -/
def impD (r : Imp) : D := .tup [dN r.1, dN r.2]
/-! ### a tuple or a list that is read -/
theorem seqI_up {st st1 : SS} (u : Up st st1) {x : D} {r : List D × Option Nat} (h : seqI st x = some r) : seqI st1 x = some r := by
  unfold seqI at h ⊢
  split at h
  · exact h
  · split at h
    · rename_i n _ ds e
      simp only [u.get e]
      exact h
    · cases h
  · cases h
theorem seqI_of {st : SS} {x : D} {ds : List D} {ro : Option Nat} (h : seqI st x = some (ds, ro)) : seqOf st x = some ds := by
  unfold seqI at h
  unfold seqOf
  split at h
  · cases h; rfl
  · split at h
    · rename_i n _ ds e
      cases h
      simp only [e]
    · cases h
  · cases h
theorem ix_seq {α : Type} {st : SS} {x : D} {f : α → D} {l : List α} {ro : Option Nat} (h : seqI st x = some (l.map f, ro)) {i : Nat} {a : α} (k : l[i]? = some a) : fIx st x (nI i) = some (f a) := by
  unfold fIx
  rw [seqI_of h]
  show atI (l.map f) (i : Int) = _
  rw [GD.atI_nat, List.getElem?_map, k]
  rfl
/-! ### a loop that returns at the first that holds -/
def optNI : Option Nat → D
  | some k => nI k
  | none => .non
def retO {α : Type} (g : α → D) : Option α → D
  | some a => g a
  | none => .non
/-! ### numbers -/
theorem q_tupt (st : SS) (l : List D) : fIs "tuple" st (.tup l) = some (.bl true) := kk _ _ _ k5 st _ rfl
theorem q_tupn (st : SS) : fIs "tuple" st .non = some (.bl false) := kk _ _ _ k1 st _ rfl
theorem q_tupi (st : SS) (i : Int) : fIs "tuple" st (.int i) = some (.bl false) := kk _ _ _ k3 st _ rfl
theorem k_lt : kitB "list" "tuple" = some false := by decide +kernel
theorem q_tupl {st : SS} {n : Nat} {l : List D} (h : st[n]? = some (.lst l)) : fIs "tuple" st (.ref n) = some (.bl false) := kk _ _ _ k_lt st _ (by unfold D.kind; simp only [h])
/-- an int, a truth value or a text -/
def isAtom : D → Bool
  | .int _ => true
  | .bl _ => true
  | .str _ => true
  | .non => true
  | _ => false
/-! ### what follows from a set -/
/-- a def over a tuple or a list of implications -/
structure ImpsAt (st : SS) (x : D) (imps : List Imp) : Prop where
  ex : ∃ ro, seqI st x = some (imps.map impD, ro)
theorem ImpsAt.up {st st1 : SS} {x : D} {imps : List Imp} (h : ImpsAt st x imps) (u : Up st st1) : ImpsAt st1 x imps := let ⟨ro, e⟩ := h.ex; ⟨ro, seqI_up u e⟩
theorem ImpsAt.tup (st : SS) (imps : List Imp) : ImpsAt st (.tup (imps.map impD)) imps := ⟨none, rfl⟩
/-- implications over so many marks -/
structure ImpIn (many : Nat) (imps : List Imp) : Prop where
  prem : ∀ r ∈ imps, SetIn 0 many r.1
  conc : ∀ r ∈ imps, SetIn 0 many r.2
theorem ImpIn.lt {many : Nat} {imps : List Imp} (h : ImpIn many imps) : ∀ r ∈ imps, ∀ x ∈ r.2, x < many := fun r hr x hx => ((h.conc r hr).2 x hx).2
end GF

set_option Elab.async false
set_option linter.all false
set_option maxRecDepth 100000
set_option maxHeartbeats 4000000
namespace GF
open PySem PySem.Spec PyProof.Rows L2 GX GD
/-! ## 31. what follows, by a promise without effects -/
theorem mapf_inj {α β : Type} {f : α → β} (hf : ∀ a b, f a = f b → a = b) : ∀ {a b : List α}, a.map f = b.map f → a = b
  | [], [], _ => rfl
  | [], _ :: _, h => by cases h
  | _ :: _, [], h => by cases h
  | x :: a, y :: b, h => by
    rw [List.map_cons, List.map_cons] at h
    injection h with h1 h2
    rw [hf _ _ h1, mapf_inj hf h2]
theorem nI_inj (a b : Nat) (h : nI a = nI b) : a = b := by
  unfold nI at h
  injection h with h
  omega
theorem dN_inj (a b : List Nat) (h : dN a = dN b) : a = b := by
  unfold dN at h
  injection h with h
  exact mapf_inj nI_inj h
theorem impD_inj (a b : Imp) (h : impD a = impD b) : a = b := by
  unfold impD at h
  injection h with h
  injection h with h1 h2
  injection h2 with h2 h3
  exact Prod.ext (dN_inj _ _ h1) (dN_inj _ _ h2)
theorem ImpsAt.uniq {st : SS} {x : D} {a b : List Imp} (h : ImpsAt st x a) (k : ImpsAt st x b) : a = b := by
  obtain ⟨r1, e1⟩ := h.ex
  obtain ⟨r2, e2⟩ := k.ex
  rw [e1] at e2
  injection e2 with e2
  injection e2 with e2 e3
  exact mapf_inj impD_inj e2
/-! ### derivations -/
/-- what may be told as a derivation -/
structure YOk (st : SS) (y : D) : Prop where
  ex : (∃ es, y = .tup es ∧ (∀ e ∈ es, isAtom e = true) ∧ es.length ≤ 2000) ∨ y = .non ∨ (∃ i, y = .int i) ∨ ∃ n l, y = .ref n ∧ st[n]? = some (.lst l)
def derV (imps : List Imp) (r : Imp) : D → Bool
  | .tup es => derB imps r es
  | _ => false
theorem YOk.up {st st1 : SS} {y : D} (h : YOk st y) (u : Up st st1) : YOk st1 y := by
  rcases h.ex with q | q | q | ⟨n, l, e, q⟩
  · exact ⟨.inl q⟩
  · exact ⟨.inr (.inl q)⟩
  · exact ⟨.inr (.inr (.inl q))⟩
  · exact ⟨.inr (.inr (.inr ⟨n, l, e, u.get q⟩))⟩
theorem YOk.cases {st : SS} {y : D} (h : YOk st y) : (∃ es, y = .tup es ∧ (∀ e ∈ es, isAtom e = true) ∧ es.length ≤ 2000 ∧ fIs "tuple" st y = some (.bl true)) ∨ (fIs "tuple" st y = some (.bl false) ∧ ∀ imps r, derV imps r y = false) := by
  rcases h.ex with ⟨es, rfl, h1, h2⟩ | rfl | ⟨i, rfl⟩ | ⟨n, l, rfl, q⟩
  · exact .inl ⟨es, rfl, h1, h2, q_tupt st es⟩
  · exact .inr ⟨q_tupn st, fun _ _ => rfl⟩
  · exact .inr ⟨q_tupi st i, fun _ _ => rfl⟩
  · exact .inr ⟨q_tupl q, fun _ _ => rfl⟩
end GF

set_option Elab.async false
set_option linter.all false
set_option maxRecDepth 100000
set_option maxHeartbeats 4000000
namespace GF
open PySem PySem.Spec PyProof.Rows L2 GX GD PySem.W
/-! ## 32. the law's own words on implications -/
/-! ### drawn implications, changed numbers -/
theorem mPart_e {m : MP} {env : EV} {st : SS} {i : Int} (h : m env st = some (.int i)) : mPart (some m) env st = some (some i) := by
  unfold mPart
  simp only [h]
end GF

set_option Elab.async false
set_option linter.all false
set_option maxRecDepth 100000
set_option maxHeartbeats 2000000
namespace GD
open PySem PySem.Spec PyProof.Rows L2 GX
/-! ## 28. dicts with tuples as keys -/
/-! ### keys -/
/-! ### what a table of pairs holds -/
section
variable {κ : Type} [DecidableEq κ]
def valD (kvs : List (κ × D)) (k : κ) : Option D := (kvs.find? fun p => decide (p.1 = k)).map (·.2)
variable {ι : List Addr} {H : Hp}
end
section
variable {X : Cx} {w : Wd} {pos p : Pos} {o e f : Expr}
end
end GD

set_option Elab.async false
set_option linter.all false
set_option maxRecDepth 100000
set_option maxHeartbeats 4000000
namespace GF
open PySem PySem.Spec PyProof.Rows L2 GX GD
/-! ## 33. what a dict holds; Luxenburger's base tells all -/
section
variable {κ : Type} [DecidableEq κ]
end
def keyN' (s : List Nat) : List L2.Key := s.map fun (k : Nat) => .inl (k : Int)
/-! ### closed sets right below -/
section
variable {many : Nat} {rows : List (List Nat)}
/-- what the dict holds behind some rows of the base -/
structure Told (rows : List (List Nat)) (done : List Quad) (kvs : List (List L2.Key × D)) : Prop where
  val : ∀ s d, valD kvs (keyN' s) = some d → d = nI (cntM rows s)
  has : ∀ q ∈ done, (valD kvs (keyN' q.1)).isSome = true ∧ (valD kvs (keyN' q.2.1)).isSome = true
end
end GF

set_option Elab.async false
set_option linter.all false
set_option maxRecDepth 100000
set_option maxHeartbeats 4000000
namespace GF
open PySem PySem.Spec PyProof.Rows L2 GX GD
/-! ## 34. trust by the base -/
end GF

set_option Elab.async false
set_option linter.all false
set_option maxRecDepth 100000
set_option maxHeartbeats 2000000
namespace GD
open PySem PySem.Spec PyProof.Rows L2 GX
/-! ## 29. more words -/
section
variable {X : Cx} {w : Wd} {pos p p1 p2 : Pos} {a b c e o : Expr} {ma mb : MP} {xa xb : XP}
/-! ### is True, is False -/
/-! ### and, or, not as values, with effects -/
def xOrV (a b : XP) : XP := fun env st R => a env st fun d st1 => ∃ c, d = .bl c ∧ if c = true then R (.bl true) st1 else b env st1 R
variable {rest : List Expr}
theorem dx_one {op : BoolOp} (h : PE X a (tX w xa)) : PE X (.BoolOp op [a] pos) (tX w xa) := pe_one h
theorem dx_orV (ha : PE X a (tX w xa)) (hb : PE X (.BoolOp .Or (b :: rest) pos) (tX w xb)) : PE X (.BoolOp .Or (a :: b :: rest) pos) (tX w (xOrV xa xb)) :=
  PE.mo (pe_or ha hb) fun σ H Q ⟨ι, env, st, R, he, hs, hm, q⟩ => ⟨ι, env, st, _, he, hs, hm, fun d st1 ι1 v H1 h1 g1 r1 s1 => by
    obtain ⟨c, rfl, hc⟩ := h1
    cases r1
    cases c with
    | true => exact ⟨true, rfl, iteT (q (.bl true) st1 ι1 _ H1 (by simpa using hc) g1 (.bl _) s1)⟩
    | false => exact ⟨false, rfl, iteF ⟨ι1, env, st1, R, he.gr g1, s1, by simpa using hc, fun d st2 ι2 v H2 h2 g2 r2 s2 => q d st2 ι2 v H2 h2 (g1.trans g2) r2 s2⟩⟩⟩
/-! ### the least, the greatest of two -/
/-! ### list(range(n)), tuple(range(a, b)) -/
/-! ### o.extend(new list), o.pop(), o.index(x), x += e -/
def xPop (mo : MP) : XP := fun env st R => ∃ n ds d, mo env st = some (.ref n) ∧ st[n]? = some (.lst (ds ++ [d])) ∧ R d (st.set n (.lst ds))
theorem dx_pop {mo : MP} {apos cpos : Pos} (ho : PE X o (tP w mo)) (hbase : attributeBase o "pop" X.env (eval o X.env) = eval o X.env := by rfl)
    (hline : (apos.endLine == cpos.line) = true := by rfl) : PE X (.Call (.Attribute o "pop" apos) [] [] cpos) (tX w (xPop mo)) := by
  refine PE.mo (pe_bm0 PySem.F.plainAttrs_list PySem.F.slot_list_pop PySem.F.type_list_pop mt_pop ho hbase hline) fun σ H Q ⟨ι, env, st, R, hen, hst, ⟨n, ds, d, h1, h0, h2⟩, q⟩ => ?_
  refine ⟨ι, env, st, _, hen, hst, h1, fun vo H1 k1 r1 s1 => ?_⟩
  cases r1 with
  | ref hn =>
    rename_i pa
    obtain ⟨vs0, hv0, hl0, rs0⟩ := s1.cell n pa _ hn h0
    refine ⟨.inl ⟨rfl, vs0, SqL.of hv0⟩, ?_⟩
    have hlen := rs0.length
    rw [List.length_append, List.length_singleton] at hlen
    obtain ⟨v, e1, r2⟩ := rs0.get' (i := ds.length) (d := d) (by rw [List.getElem?_append_right (Nat.le_refl _), Nat.sub_self]; rfl)
    have kw := Kp.wr (o := .lst vs0.dropLast) hv0 (List.mem_of_getElem? hn)
    refine ⟨pa, vs0, v, rfl, rfl, hv0, by rw [hlen]; exact e1, ?_⟩
    have rd : Reps ι H1 vs0.dropLast ds := by
      have := rs0.take ds.length
      rw [List.take_left'] at this
      · rw [List.dropLast_eq_take, hlen]
        exact this
      · rfl
    refine q d _ ι v _ h2 ((Gr.of k1).trans (.of kw)) (r2.kp kw) (s1.wr hn ⟨vs0, hv0⟩ ?_ rd)
    rw [List.length_append, List.length_singleton] at hl0
    omega
end
end GD

set_option Elab.async false
set_option linter.all false
set_option maxRecDepth 100000
set_option maxHeartbeats 2000000
namespace GD
open PySem PySem.Spec PyProof.Rows L2 GX PySem.W
/-! ## 30. the place of an item, name += e, max with a default -/
section
variable {X : Cx} {w : Wd} {pos p : Pos} {a b c e o : Expr} {ma mb : MP}
end
end GD

set_option Elab.async false
set_option linter.all false
set_option maxRecDepth 100000
set_option maxHeartbeats 2000000
namespace GD
open PySem PySem.Spec PyProof.Rows L2 GX PySem.W
/-! ## 31. o.pop(i), xs * n -/
section
variable {X : Cx} {w : Wd} {pos p : Pos} {a b c e o : Expr} {ma mb : MP}
end
end GD

set_option Elab.async false
set_option linter.all false
set_option maxRecDepth 100000
set_option maxHeartbeats 2000000
namespace GD
open PySem PySem.Spec PyProof.Rows L2 GX PySem.W
/-! ## 32. slices of lists -/
section
variable {X : Cx} {w : Wd} {pos p : Pos} {a b c e o : Expr}
def mSlL (m : MP) (lo hi : Option MP) : ML := fun env st => match m env st, mPart lo env st, mPart hi env st with
  | some (.ref n), some l, some h => (match st[n]? with | some (.lst ds) => some (cutG ds l h) | _ => none)
  | _, _, _ => none
theorem dl_sl {m : MP} {lo hi : Option Expr} {ml mh : Option MP} {tl th : TO} {p2 : Pos} (he : PE X e (tP w m)) (hl : PO X lo tl) (hu : PO X hi th) (dl : POd w tl ml) (dh : POd w th mh) : PE X (.Subscript e (.Slice lo hi none p2) pos) (tLs w (mSlL m ml mh)) := by
  refine PE.mo (pe_slice sl_list he hl hu) fun σ H Q ⟨ι, env, st, es, hen, hst, hm, q⟩ => ?_
  unfold mSlL at hm
  split at hm
  · rename_i n l h e1 e2 e3
    split at hm
    · rename_i ds c1
      cases hm
      refine ⟨ι, env, st, _, hen, hst, e1, fun v H1 k1 r1 s1 => dl σ H1 _ ι env st l (hen.kp k1) s1 e2 fun H2 k2 s2 => dh σ H2 _ ι env st h ((hen.kp k1).kp k2) s2 e3 fun H3 k3 s3 => ?_⟩
      have kk := (k1.trans k2).trans k3
      have r3 := (r1.kp k2).kp k3
      cases r3 with
      | ref hn =>
        obtain ⟨vs, h1, hlen, rs⟩ := s3.cell n _ _ hn c1
        refine ⟨_, vs, rfl, sql_of h1, fun p hp => ?_⟩
        exact q p _ _ (kk.trans (Kp.new hp)) upd_same (kk.fresh (nin_of s3 hp) hp) (Nat.le_trans (cutG_length _ _ _) hlen) ((rs.cut2 l h).kp (Kp.new hp)) (s3.new hp (fun _ z => by cases z) (nin_of s3 hp))
    · cases hm
  · cases hm
end
end GD

set_option Elab.async false
set_option linter.all false
set_option maxRecDepth 100000
set_option maxHeartbeats 4000000
namespace GF
open PySem PySem.Spec PyProof.Rows L2 GX GD
/-! ## 35. pseudo-closed sets, the stem base -/
section
variable {n : Nat} {cl : List Nat → List Nat}
/-! ### the next one -/
/-! ### no base has fewer -/
end
end GF

set_option Elab.async false
set_option linter.all false
set_option maxRecDepth 100000
set_option maxHeartbeats 4000000
namespace GF
open PySem PySem.Spec PyProof.Rows L2 GX GD
/-! ## 36. bases -/
section
variable {n : Nat} {cl : List Nat → List Nat} {imps : List Imp}
/-- each is kept by what is closed; what keeps all is closed -/
structure BaseOf (n : Nat) (cl : List Nat → List Nat) (imps : List Imp) : Prop where
  sound : ∀ X, SetIn 0 n X → cl X = X → ∀ r ∈ imps, keepB X r = true
  complete : ∀ X, SetIn 0 n X → (∀ r ∈ imps, keepB X r = true) → cl X = X
theorem ImpIn.sub {a b : List Imp} (h : ImpIn n b) (s : ∀ r ∈ a, r ∈ b) : ImpIn n a := ⟨fun r hr => h.prem r (s r hr), fun r hr => h.conc r (s r hr)⟩
/-- one that follows from the rest is left out -/
theorem BaseOf.drop {a b : List Imp} {r : Imp} (B : BaseOf n cl (a ++ r :: b)) (hr : isPart r.2 (cuM (a ++ b) r.1) = true) : BaseOf n cl (a ++ b) := by
  refine ⟨fun X hX hc q hq => B.sound X hX hc q ?_, fun X hX hk => B.complete X hX fun q hq => ?_⟩
  · rcases List.mem_append.mp hq with z | z
    · exact List.mem_append_left _ z
    · exact List.mem_append_right _ (List.mem_cons_of_mem _ z)
  · rcases List.mem_append.mp hq with z | z
    · exact hk q (List.mem_append_left _ z)
    · rcases List.mem_cons.mp z with rfl | z
      · rw [keepB_iff]
        intro hp k hk2
        have := cu_mono (imps := a ++ b) hp k (isPart_iff.mp hr k hk2)
        rwa [(cu_iff hX.1).mpr hk] at this
      · exact hk q (List.mem_append_right _ z)
end
/-! ### the first of the sets; lists cut -/
theorem cut_take {α : Type} (l : List α) (k : Nat) : cutG l none (some (k : Int)) = l.take k := by
  unfold cutG
  rw [HT.sIx_nat, HT.sIx_none, List.drop_zero, Nat.sub_zero]
  by_cases h : k ≤ l.length
  · rw [Nat.min_eq_left h]
  · rw [Nat.min_eq_right (by omega), List.take_of_length_le (Nat.le_refl _), List.take_of_length_le (by omega)]
theorem cut_drop {α : Type} (l : List α) (k : Nat) : cutG l (some (k : Int)) none = l.drop k := by
  unfold cutG
  rw [HT.sIx_nat, HT.sIx_none]
  by_cases h : k ≤ l.length
  · rw [Nat.min_eq_left h, List.take_of_length_le (by rw [List.length_drop]; omega)]
  · rw [Nat.min_eq_right (by omega), Nat.sub_self, List.take_zero, List.drop_eq_nil_of_le (by omega)]
end GF

set_option Elab.async false
set_option linter.all false
set_option maxRecDepth 100000
set_option maxHeartbeats 4000000
namespace GF
open PySem PySem.Spec PyProof.Rows L2 GX GD
/-! ## 37. bases -/
end GF

set_option Elab.async false
set_option linter.all false
set_option maxRecDepth 100000
set_option maxHeartbeats 4000000
namespace GF
open PySem PySem.Spec PyProof.Rows L2 GX GD
/-! ## 38. lists cut and joined -/
theorem cat2 {a b : ML} {env : EV} {st : SS} {R : D → SS → Prop} {ds es : List D} (ha : a env st = some ds) (hb : ∀ s, Up st s → b env s = some es) (hl : ds.length + es.length ≤ 1000000) (h : ∀ s q, Up st s → st.length ≤ q → s[q]? = some (.lst (ds ++ es)) → R (.ref q) s) :
    xNew (xCat (xNew (xaOf a)) (xNew (xaOf b))) env st R := by
  refine ⟨ds, ha, es, hb _ (Up.app _ _), _, _, ds, es, rfl, rfl, (Up.app _ _).get (getApp _ _), getApp _ _, hl, ?_⟩
  refine h _ _ (((Up.app _ _).trans (Up.app _ _)).trans (Up.app _ _)) ?_ (getApp _ _)
  rw [List.length_append, List.length_append]
  omega
theorem mod_step' {st : SS} {k n : Nat} (h : 0 < n) : fMod st (nI k) (nI n) = some (nI (k % n)) := if_pos (by show (0 : Int) < (n : Int); omega)
/-- what stands over what was drawn from -/
theorem Ub.lt {n : Nat} {st st1 : SS} {m : Nat} {c : Cell} (u : Ub n st st1) (h : st[m]? = some c) (hn : m ≠ n) : st1[m]? = some c := u.get h hn
end GF

set_option Elab.async false
set_option linter.all false
set_option maxRecDepth 100000
set_option maxHeartbeats 2000000
/-! sorted(x, key=f): f's calls may make code and generators of their own -/
namespace GS
open PySem PySem.Spec PyProof.Rows L2 HT PySem.W PySem.Calls
section
variable {prog : Program} {w : World} {A : Around} {E : Value → Shared → Prop} {s : Shared} {a kS : Addr} {b : Bool} {vs : List Value} {e1 : Nat} {P : PySem.Fin → Shared → Prop} {kz : List PyData}
end
/-! ### over the hand layer -/
section
variable {X : Cx} {pins : List (Addr × Obj)} {σ : L2.St} {H : Hp} {s : Shared}
end
end GS

set_option Elab.async false
set_option linter.all false
set_option maxRecDepth 100000
set_option maxHeartbeats 2000000
namespace GD
open PySem PySem.Spec PyProof.Rows L2 GX GL PySem.W
/-! ## 33. sorted by a key -/
section
variable {X : Cx} {w : Ws} {pins : List (Addr × Obj)} {σ : L2.St} {H : Hp} {s : Shared}
end
end GD
namespace GD
open PySem PySem.Spec PyProof.Rows L2 GX GL PySem.W
section
variable {X : Cx} {w : Wd} {pos p kpos lp : Pos} {e : Expr} {params : Arguments} {body : Expr} {scope : Scope}
end
end GD

set_option Elab.async false
set_option linter.all false
set_option maxRecDepth 100000
set_option maxHeartbeats 2000000
namespace GD
open PySem PySem.Spec PyProof.Rows L2 GX
/-! ## 34. a def at one place of the calls (no guard stands there) -/
theorem fn_at {A : Around} {P : Program} {w : World} {K : PySem.W.Frag} {mg : Str → Option Value} {base : Heap} {k : Nat} {f : Addr} {name qual : Str} {params : Arguments} {body : List Stmt} {scope : Scope} {dV kV doc pm cdv ct oc : Value} {an od : Option Addr}
    {osl : Array (Option Value)} {N ps : List Str} {sp : Sp} (lk : K.lookup f = some ⟨oc, od, .func (PySem.W.fnOf name qual params body scope dV kV doc pm an cdv ct), osl⟩) (hcd : PySem.W.codeIn K cdv qual = true) (S : FnScope N ps scope)
    (len : ∀ vs H Q E, sp vs H Q E → vs.length = ps.length)
    (hbody : ∀ (outer : List Env) (s : Shared) (H : Hp) (vs : List V) (Q : VK) (E : XK), Room k (A.deeper (envOfC qual scope s.heap.objs.size f cdv)) → sp vs H Q E →
      ∃ t, PSs (cxOf CX0 P w K mg base N qual scope f cdv A outer s H E) body t ∧ t { nx := fun _ H' => Q .non H', rt := Q } (start N vs) H) :
    FnAt A P w K mg base (k + 1) f (PySem.W.fnOf name qual params body scope dV kV doc pm an cdv ct) ps sp := by
  refine ⟨len, fun outer s H args us vs Q E hr e0 hb r hsp => ?_⟩
  have hl := len _ _ _ _ hsp
  have KX : K.In s.heap := e0.mod.kin.keeps fun b o e => (e0.bs b o e).1
  have lim : s.heap.NoLimit := e0.mod.nolimit.keeps fun b o e => (e0.bs b o e).1
  have hkind : ∀ y ∈ ps.zip us, scope.names.lookup y.1 = some .local ∨ (scope.names.lookup y.1 = some .cell ∧ ((cellsFrom (s.heap.objs.size + 1) scope.names []).lookup y.1).isSome = true) := fun ⟨n, v⟩ hy => by
    rcases S.par n (List.of_mem_zip hy).1 with q | q
    · exact .inl q
    · exact .inr ⟨q, PySem.W.cellsFrom_some _ _ _ (.inl q)⟩
  refine codeAny_call_function hr.depth (KX _ _ lk) rfl S.co S.gen rfl (PySem.W.codeRec_of KX hcd) (hb _ _ _ _ ?_)
  refine wpAny_newFunctionEnv_cells S.kind hkind fun env he s1 x => ?_
  subst he
  refine ⟨lim.keeps x.toInCall.keep, codeAny_func ?_⟩
  obtain ⟨t, ht, hq⟩ := hbody outer s H vs Q E (hr.deeper _) hsp
  have I : Inv (cxOf CX0 P w K mg base N qual scope f cdv A outer s H E) [] (start N vs) H s1 := inv_start S hr.hd e0 hl r x
  refine wpAny_mono (ht.run [] s1 (start N vs) H _ I hq) (fun fl s' hs => ?_) fun e s' hs => hs
  have fin : ∀ {σ' : L2.St} {H' : Hp} {v : V} {u : Value}, Inv (cxOf CX0 P w K mg base N qual scope f cdv A outer s H E) [] σ' H' s' → RelV v u → Q v H' → CE outer P w H s Q u s' :=
    fun {σ' H' v u} J rv q => ⟨v, H', J.os, J.bare, J.base, J.hok, rv, q⟩
  cases fl with
  | ret u =>
    obtain ⟨v, σ', H', J, rv, q⟩ := hs
    exact fin J rv q
  | next =>
    obtain ⟨σ', H', J, q⟩ := hs
    exact fin (v := V.non) (u := Value.none) J rfl q
  | brk =>
    obtain ⟨_, _, _, q⟩ := hs
    exact False.elim q
  | cont =>
    obtain ⟨_, _, _, q⟩ := hs
    exact False.elim q
structure DefA (A : Around) (P : Program) (wl : World) (w : Ws) (mg : Str → Option Value) (k : Nat) (x : Str) (T : XTS) : Prop where
  ex : ∃ (f : Addr) (fd : FuncData) (ps : List Str), FnAt A P wl w.K mg w.base k f fd ps (spS w T) ∧ mg x = some (.ref f) ∧ PySem.W.keepIn w.K (.ref f) = true ∧ Binds w.K fd ps []
theorem DefC.sA {A : Around} {P : Program} {wl : World} {w : Ws} {mg : Str → Option Value} {x : Str} {st : Stmt} {N ps : List Str} {k : Nat} {t : List Int → XS} (F : DefC w mg x st) (S : FnScope N ps (defScope st))
    (hb : ∀ (kV doc pm : Value) (an : Option Addr) (cdv ct : Value) (us : List Value), us.length = ps.length → bindArgs (PySem.W.fnOf x x (defArgs st) (defBody st) (defScope st) .none kV doc pm an cdv ct) ⟨us, []⟩ = pure (ps.zip us))
    (hbody : ∀ (f c a : Addr) (ns : List Int) (outer : List Env) (s : Shared) (H : Hp) (E : XK), Room k (A.deeper (envOfC x (defScope st) s.heap.objs.size f (.ref c))) → Fit (cxOf CX0 P wl w.K mg w.base N x (defScope st) f (.ref c) A outer s H E).nox (WdS w c a ns) →
      PSs (cxOf CX0 P wl w.K mg w.base N x (defScope st) f (.ref c) A outer s H E).nox (defBody st) (tS (WdS w c a ns) (t ns))) : DefA A P wl w mg (k + 1) x (fnS N ps.length t) := by
  obtain ⟨f, c, Pt, fd, ⟨oc, od, kV, doc, pm, an, ct, osl, rfl, lk, hcd⟩, hm, hk, ht, hh⟩ := F.ex
  refine ⟨f, _, ps, fn_at lk hcd S (fun vs H Q E ⟨ι, st, a, ns, us, ds, R, e, _, r, s, h, q⟩ => by subst e; rw [List.length_cons, r.length]; exact h.1) fun outer s H vs Q E hr ⟨ι, st, a, ns, us, ds, R, e, hsc, r, s', h, q⟩ => ⟨_, (hbody f c a ns outer s H E hr ⟨rfl, rfl, rfl⟩).nox, ?_⟩, hm, hk, .all (hb kV doc pm an (.ref c) ct)⟩
  subst e
  have hl := r.length
  refine ⟨ι, startS N ds, st, _, ⟨?_, ?_, fun _ => ⟨Pt, .inl hh, s'.tab _ ht⟩, ?_, ?_, fun _ z => by cases z⟩, s', h.2, fun env st' ι' σ H' h g r s => q .non st' ι' .non H' h g .non s, fun d st' ι' v H' h g r s => q d st' ι' v H' h g r s, fun _ _ _ _ _ h _ _ _ => h.elim, fun _ _ _ _ _ h _ _ _ => h.elim⟩
  · unfold startS L2.start
    simp [hl]
  · intro i d hd
    unfold startS at hd
    unfold L2.start
    cases i with
    | zero => simp at hd
    | succ i =>
      simp only [List.getElem?_cons_succ] at hd
      simp only [List.map_cons, List.cons_append, List.getElem?_cons_succ]
      by_cases hi : i < ds.length
      · rw [List.getElem?_append_left (by simpa using hi)] at hd
        rw [List.getElem?_append_left (by simpa [hl] using hi)]
        rw [List.getElem?_map] at hd
        cases hd' : ds[i]? with
        | none => rw [hd'] at hd; cases hd
        | some d' =>
          rw [hd'] at hd
          simp at hd
          subst hd
          obtain ⟨v, h1, h2⟩ := r.get' hd'
          exact ⟨v, by rw [List.getElem?_map, h1]; rfl, h2⟩
      · rw [List.getElem?_append_right (by simpa using Nat.le_of_not_lt hi)] at hd
        rw [List.getElem?_replicate] at hd
        split at hd <;> cases hd
  · intro p hp
    rw [List.mem_singleton.mp hp]
    rfl
  · intro p hp
    rw [List.mem_singleton.mp hp]
    exact hsc
/-! ### repr -/
section
variable {X : Cx} {w : Wd} {pos p : Pos} {e : Expr}
end
end GD

set_option Elab.async false
set_option linter.all false
set_option maxRecDepth 100000
set_option maxHeartbeats 4000000
namespace GF
open PySem PySem.Spec PyProof.Rows L2 GX GD PySem.W
/-! ## 39. sets by size, then the smaller first -/
/-! ### the law's own stem base -/
end GF

set_option Elab.async false
set_option linter.all false
set_option maxRecDepth 100000
set_option maxHeartbeats 4000000
namespace GF
open PySem PySem.Spec PyProof.Rows L2 GX GD
/-! ## 40. the order by signs; what a set has on its own -/
end GF

set_option Elab.async false
set_option linter.all false
set_option maxRecDepth 100000
set_option maxHeartbeats 4000000
namespace GF
open PySem PySem.Spec PyProof.Rows L2 GX GD PySem.W
/-! ## 41. the order by signs; the direct base -/
end GF

set_option Elab.async false
set_option linter.all false
set_option maxRecDepth 100000
set_option maxHeartbeats 4000000
namespace GF
open PySem PySem.Spec PyProof.Rows L2 GX GD
/-! ## 42. sets of numbers, concepts; an implication decided -/
/-! ### decided -/
end GF

set_option Elab.async false
set_option linter.all false
set_option maxRecDepth 100000
set_option maxHeartbeats 4000000
namespace GF
open PySem PySem.Spec PyProof.Rows L2 GX GD
/-! ## 43. what repr says -/
mutual
def tinyP : PyData → Bool
  | .none => true
  | .bool _ => true
  | .int i => decide (0 ≤ i ∧ i < 64)
  | .list xs => tinyPs xs
  | .tuple xs => tinyPs xs
  | .str _ => false
  | .dict _ => false
def tinyPs : List PyData → Bool
  | [] => true
  | x :: xs => tinyP x && tinyPs xs
end
structure Tiny (p : PyData) : Prop where
  sh : p.showable = true
  nd : p.hasDict = false
  ls : p.leavesShort 13 = true
  ch : ∀ k ∈ p.shown.cps.toList, k < 200
structure Tinys (ps : List PyData) : Prop where
  sh : PyData.showableAll ps = true
  nd : PyData.hasDictAll ps = false
  ls : PyData.leavesShortAll 13 ps = true
  ch : ∀ t ∈ PyData.shownAll ps, ∀ k ∈ t.cps.toList, k < 200
theorem join_small {ts : List Str} (h : ∀ t ∈ ts, ∀ k ∈ t.cps.toList, k < 200) : ∀ k ∈ (Str.join ", " ts).cps.toList, k < 200 := fun k hk => by
  rcases (mem_join _ _ _).mp hk with ⟨t, h1, h2⟩ | ⟨_, h2⟩
  · exact h t h1 k h2
  · rw [signs_sep] at h2
    rcases List.mem_cons.mp h2 with rfl | h2
    · decide
    · rw [List.mem_singleton.mp h2]; decide
mutual
theorem tiny_of : ∀ p : PyData, tinyP p = true → Tiny p
  | .none, _ => ⟨rfl, rfl, rfl, fun k hk => by
    have := (mem_shown_none k).mp hk
    simp only [List.mem_cons, List.not_mem_nil, or_false] at this
    omega⟩
  | .bool b, _ => ⟨rfl, rfl, rfl, fun k hk => by
    have := (mem_shown_bool k b).mp hk
    cases b <;> simp only [Bool.false_eq_true, if_false, if_true, List.mem_cons, List.not_mem_nil, or_false] at this <;> omega⟩
  | .int i, h => by
    unfold tinyP at h
    obtain ⟨h1, h2⟩ := of_decide_eq_true h
    refine ⟨?_, by unfold PyData.hasDict; rfl, ?_, fun k hk => ?_⟩
    · unfold PyData.showable
      refine decide_eq_true ?_
      by_cases hz : i.natAbs = 0
      · rw [hz]; decide
      · have : i.natAbs.log2 < 6 := (Nat.log2_lt hz).mpr (by omega)
        omega
    · unfold PyData.leavesShort
      exact decide_eq_true (PyData.shown_int_le (by omega))
    · apply Classical.byContradiction
      intro hc
      exact shown_int_free' (k := k) ⟨by omega, by omega⟩ i hk
  | .list xs, h => by
    have t := tinys_of xs (by unfold tinyP at h; exact h)
    refine ⟨by unfold PyData.showable; exact t.sh, by unfold PyData.hasDict; exact t.nd, by unfold PyData.leavesShort; exact t.ls, fun k hk => ?_⟩
    rw [PyData.shown_list, mem_cps_append, mem_cps_append, signs_lbrack, signs_rbrack] at hk
    rcases hk with (hk | hk) | hk
    · rw [List.mem_singleton.mp hk]; decide
    · exact join_small t.ch k hk
    · rw [List.mem_singleton.mp hk]; decide
  | .tuple xs, h => by
    have t := tinys_of xs (by unfold tinyP at h; exact h)
    refine ⟨by unfold PyData.showable; exact t.sh, by unfold PyData.hasDict; exact t.nd, by unfold PyData.leavesShort; exact t.ls, fun k hk => ?_⟩
    rw [PyData.shown_tuple, mem_cps_append, mem_cps_append, signs_lparen] at hk
    rcases hk with (hk | hk) | hk
    · rw [List.mem_singleton.mp hk]; decide
    · exact join_small t.ch k hk
    · split at hk
      · have e : (((",)" : String) : Str)).cps.toList = [44, 41] := by decide
        rw [e] at hk
        rcases List.mem_cons.mp hk with rfl | hk
        · decide
        · rw [List.mem_singleton.mp hk]; decide
      · have e : ((((")" : String) : Str))).cps.toList = [41] := by decide
        rw [e] at hk
        rw [List.mem_singleton.mp hk]; decide
  | .str _, h => by unfold tinyP at h; cases h
  | .dict _, h => by unfold tinyP at h; cases h
theorem tinys_of : ∀ ps : List PyData, tinyPs ps = true → Tinys ps
  | [], _ => ⟨rfl, rfl, rfl, fun t ht => by rw [PyData.shownAll_nil] at ht; cases ht⟩
  | p :: ps, h => by
    unfold tinyPs at h
    rw [Bool.and_eq_true] at h
    have a := tiny_of p h.1
    have b := tinys_of ps h.2
    refine ⟨?_, ?_, ?_, fun t ht => ?_⟩
    · unfold PyData.showableAll; rw [a.sh, b.sh]; rfl
    · unfold PyData.hasDictAll; rw [a.nd, b.nd]; rfl
    · unfold PyData.leavesShortAll; rw [a.ls, b.ls]; rfl
    · rw [PyData.shownAll_cons, List.mem_cons] at ht
      rcases ht with rfl | ht
      · exact a.ch
      · exact b.ch t ht
end
/-! ## 44. concepts -/
/-! ### what is no set, no concept -/
end GF

set_option Elab.async false
set_option linter.all false
set_option maxRecDepth 100000
set_option maxHeartbeats 4000000
namespace GF
open PySem PySem.Spec PyProof.Rows L2 GX GD
/-! ## 45. small data, shown -/
structure Sh (k w : Nat) (p : PyData) : Prop where
  ti : tinyP p = true
  de : p.depth ≤ k
  we : p.weight ≤ w
theorem Sh.mono {k w k' w' : Nat} {p : PyData} (h : Sh k w p) (a : k ≤ k') (b : w ≤ w') : Sh k' w' p := ⟨h.ti, Nat.le_trans h.de a, Nat.le_trans h.we b⟩
/-! ### how data read -/
/-! ### comprehensions whose items make lists of their own -/
/-! ## 46. the least, the greatest of some concepts -/
section
variable {many : Nat} {rows : List (List Nat)}
end
end GF

set_option Elab.async false
set_option linter.all false
set_option maxRecDepth 100000
set_option maxHeartbeats 4000000
namespace GF
open PySem PySem.Spec PyProof.Rows L2 GX GD
/-! ## 44. drawn orders and lattices -/
end GF

set_option Elab.async false
set_option linter.all false
set_option maxRecDepth 100000
set_option maxHeartbeats 4000000
namespace GF
open PySem PySem.Spec PyProof.Rows L2 GX GD
/-! ## 45. orders: below, least, join, meet -/
def blwM (up : List (List Nat)) : List (List Nat) := (List.range up.length).map fun own => (List.range up.length).filter fun other => (up.getD other []).contains own
def leastM (up : List (List Nat)) (members : List Nat) : Option Nat := (members.filter fun one => isPart members (up.getD one [])).head?
def joinM (up : List (List Nat)) (x y : Nat) : Option Nat := leastM up ((up.getD x []).filter fun k => (up.getD y []).contains k)
def InUp (up : List (List Nat)) : Prop := ∀ r ∈ up, ∀ x ∈ r, x < up.length
theorem InUp.at {up : List (List Nat)} (h : InUp up) {x : Nat} : ∀ y ∈ up.getD x [], y < up.length := by
  intro y hy
  by_cases hx : x < up.length
  · refine h _ ?_ y hy
    rw [List.getD_eq_getElem?_getD, List.getElem?_eq_getElem hx]
    exact List.getElem_mem hx
  · rw [List.getD_eq_getElem?_getD, List.getElem?_eq_none (by omega)] at hy
    cases hy
end GF

set_option Elab.async false
set_option linter.all false
set_option maxRecDepth 100000
set_option maxHeartbeats 4000000
namespace GF
open PySem PySem.Spec PyProof.Rows L2 GX GD
/-! ## 46. the law's own joins and meets -/
end GF

set_option Elab.async false
set_option linter.all false
set_option maxRecDepth 100000
set_option maxHeartbeats 4000000
namespace GF
open PySem PySem.Spec PyProof.Rows L2 GX GD
/-! ## 50. orders and lattices, plainly -/
def leU (up : List (List Nat)) (x y : Nat) : Prop := y ∈ up.getD x []
structure OrdU (up : List (List Nat)) : Prop where
  inU : InUp up
  srt : ∀ r ∈ up, r.Pairwise (· < ·)
  refl : ∀ x, x < up.length → leU up x x
  anti : ∀ x y, leU up x y → leU up y x → x = y
  trans : ∀ x y z, leU up x y → leU up y z → leU up x z
section
variable {up : List (List Nat)} {x y z j w : Nat} {ms : List Nat}
/-! ### lattices -/
structure LatU (up : List (List Nat)) : Prop where
  o : OrdU up
  j : ∀ x y, x < up.length → y < up.length → ∃ j, joinM up x y = some j
  m : ∀ x y, x < up.length → y < up.length → ∃ j, joinM (blwM up) x y = some j
def jn (up : List (List Nat)) (x y : Nat) : Nat := (joinM up x y).getD 0
def mt (up : List (List Nat)) (x y : Nat) : Nat := jn (blwM up) x y
end
/-! ### the lattice of closed sets -/
section
variable {many : Nat} {rows : List (List Nat)} {ord : List Nat}
end
end GF

set_option Elab.async false
set_option linter.all false
set_option maxRecDepth 100000
set_option maxHeartbeats 4000000
namespace GF
open PySem PySem.Spec PyProof.Rows L2 GX GD
/-! ## 51. congruences, plainly -/
/-- classes, told by the least element of each -/
structure Nf (n : Nat) (c : List Nat) : Prop where
  len : c.length = n
  le : ∀ i, i < n → c.getD i 0 ≤ i
  fix : ∀ i, i < n → c.getD (c.getD i 0) 0 = c.getD i 0
theorem Nf.lt {n : Nat} {c : List Nat} (h : Nf n c) {i : Nat} (hi : i < n) : c.getD i 0 < n := Nat.lt_of_le_of_lt (h.le i hi) hi
/-- the classes of the one lie within those of the other -/
def Wi (n : Nat) (c d : List Nat) : Prop := ∀ x y, x < n → y < n → c.getD x 0 = c.getD y 0 → d.getD x 0 = d.getD y 0
section
variable {n : Nat} {c d e : List Nat}
theorem Wi.refl : Wi n c c := fun _ _ _ _ h => h
theorem Wi.trans (h : Wi n c d) (k : Wi n d e) : Wi n c e := fun x y hx hy z => k x y hx hy (h x y hx hy z)
theorem wi_iff (h : Nf n c) : Wi n c d ↔ ∀ i, i < n → d.getD i 0 = d.getD (c.getD i 0) 0 := by
  constructor
  · intro w i hi
    exact (w _ _ (h.lt hi) hi (h.fix i hi)).symm
  · intro k x y hx hy z
    rw [k x hx, k y hy, z]
theorem Wi.anti (h : Nf n c) (k : Nf n d) (a : Wi n c d) (b : Wi n d c) : c = d := by
  refine List.ext_getElem (h.len.trans k.len.symm) fun i h1 h2 => ?_
  have hi : i < n := by rw [← h.len]; exact h1
  have e1 := (wi_iff h).mp a i hi
  have e2 := (wi_iff k).mp b i hi
  have l1 := k.le _ (h.lt hi)
  have l2 := h.le _ (k.lt hi)
  have f1 := k.fix i hi
  have f2 := h.fix i hi
  have : c.getD i 0 = d.getD i 0 := by omega
  rw [List.getD_eq_getElem?_getD, List.getD_eq_getElem?_getD, List.getElem?_eq_getElem h1, List.getElem?_eq_getElem h2] at this
  exact this
end
/-- an equivalence, by least elements -/
structure Eqv (n : Nat) (R : Nat → Nat → Prop) : Prop where
  refl : ∀ x, x < n → R x x
  symm : ∀ x y, R x y → R y x
  trans : ∀ x y z, R x y → R y z → R x z
open Classical in
noncomputable def nfOf (n : Nat) (R : Nat → Nat → Prop) : List Nat := (List.range n).map fun x => ((List.range n).find? fun y => decide (R x y)).getD 0
section
variable {n : Nat} {R : Nat → Nat → Prop}
end
/-! ### congruences -/
structure Con (up : List (List Nat)) (c : List Nat) : Prop where
  nf : Nf up.length c
  j : ∀ x y z, x < up.length → y < up.length → z < up.length → c.getD x 0 = c.getD y 0 → c.getD (jn up x z) 0 = c.getD (jn up y z) 0
  m : ∀ x y z, x < up.length → y < up.length → z < up.length → c.getD x 0 = c.getD y 0 → c.getD (mt up x z) 0 = c.getD (mt up y z) 0
/-- the least of the congruences with a property -/
noncomputable def leastC (up : List (List Nat)) (S : List Nat → Prop) : List Nat := nfOf up.length fun x y => ∀ c, Con up c → S c → c.getD x 0 = c.getD y 0
section
variable {up : List (List Nat)} {S T : List Nat → Prop} {c d : List Nat}
/-- the pairs stand in one class -/
def Has (pairs : List (Nat × Nat)) (c : List Nat) : Prop := ∀ p ∈ pairs, c.getD p.1 0 = c.getD p.2 0
noncomputable def genC (up : List (List Nat)) (pairs : List (Nat × Nat)) : List Nat := leastC up (Has pairs)
def PairsIn (n : Nat) (pairs : List (Nat × Nat)) : Prop := ∀ p ∈ pairs, p.1 < n ∧ p.2 < n
/-! ### pairs one directly above the other -/
end
end GF

set_option Elab.async false
set_option linter.all false
set_option maxRecDepth 100000
set_option maxHeartbeats 4000000
namespace GF
open PySem PySem.Spec PyProof.Rows L2 GX GD
/-! ## 52. all congruences are joined from a few -/
section
variable {up : List (List Nat)} {c d : List Nat}
/-- those that are made by some below it -/
def GenBy (up : List (List Nat)) (done : List (List Nat)) (t : List Nat) : Prop := ∀ c, Con up c → (∀ o ∈ done, Wi up.length o t → Wi up.length o c) → Wi up.length t c
structure Found (up : List (List Nat)) (done found : List (List Nat)) : Prop where
  con : ∀ t ∈ found, Con up t
  has : ∀ t, Con up t → GenBy up done t → t ∈ found
  len : found.length ≤ 2 ^ done.length
end
end GF

set_option Elab.async false
set_option linter.all false
set_option maxRecDepth 100000
set_option maxHeartbeats 2000000
namespace GD
open PySem PySem.Spec PyProof.Rows L2 GX
/-! ## 35. texts -/
def signD (c : Nat) : D := .str ⟨#[c]⟩
def fIxT : F2 := fun _ x y => match x, y with
  | .str z, .int i => if z.length ≤ 1000000 then (match atI z.cps.toList i with | some c => some (signD c) | none => none) else none
  | _, _ => none
def fLenT : F1 := fun _ x => match x with | .str z => if z.length ≤ 1000000 then some (.int z.length) else none | _ => none
def fStrI : F1 := fun _ x => match x with | .int i => if i.natAbs < 1000000 then some (.str (toString i)) else none | _ => none
def fIntS : F1 := fun _ x => match x with | .str a => if a.length ≤ 640 then (match PySem.intText? a with | some n => some (.int n) | none => none) else none | _ => none
section
variable {X : Cx} {w : Wd} {pos p kp apos : Pos} {a b c e o : Expr} {ma mb m : MP}
theorem qIxT : OpP w fIxT rIxS := by
  intro ι st H x y dx dy d Q s rx ry hf q
  unfold fIxT at hf
  split at hf
  · rename_i z i
    split at hf
    · rename_i hl
      split at hf
      · rename_i c hc
        cases hf
        cases rx
        cases ry
        exact ⟨z, i, c, rfl, rfl, big_size hl, hc, q _ H (Kp.refl H) (.str _) s⟩
      · cases hf
    · cases hf
  · cases hf
theorem dp_ixT (ha : PE X a (tP w ma)) (hb : PE X b (tP w mb)) (hs : PlainIx b := by intro _ _; rfl) : PE X (.Subscript a b pos) (tP w (mOp fIxT ma mb)) := PE.mo (pe_ix ix_str ha hb hs) (op_read qIxT)
theorem dp_lenT (hg : Gl X "len") (hm : X.mg "len" = none) (ha : PE X a (tP w ma)) (hs : starEach [a] X.env = (false, eval a X.env) :: starEach [] X.env := by rfl) : PE X (.Call (.Name "len" p) [a] [] pos) (tP w (mF1 fLenT ma)) := by
  refine PE.mo (pe_callB call_len_str hg hm PySem.boot_len (pa_cons ha pa_nil hs) (he := hs)) fun σ H Q ⟨ι, env, st, d, he, hst, hmm, q⟩ => ?_
  unfold mF1 at hmm
  split at hmm
  · rename_i dx ex
    unfold fLenT at hmm
    split at hmm
    · rename_i z
      split at hmm
      · rename_i hl
        cases hmm
        refine ⟨ι, env, st, _, he, hst, ex, fun v H1 k1 r1 s1 => ?_⟩
        cases r1
        exact ⟨z, rfl, big_size hl, q _ H1 k1 (.int _) s1⟩
      · cases hmm
    · cases hmm
  · cases hmm
theorem small_log {i : Int} (h : i.natAbs < 1000000) : i.natAbs.log2 < 1920 := by
  by_cases hz : i.natAbs = 0
  · rw [hz]; decide
  · have : i.natAbs.log2 < 20 := (Nat.log2_lt hz).mpr (by omega)
    omega
theorem dp_strI (hg : Gl X "str") (hm : X.mg "str" = none) (ha : PE X a (tP w ma)) (hs : starEach [a] X.env = (false, eval a X.env) :: starEach [] X.env := by rfl) : PE X (.Call (.Name "str" p) [a] [] pos) (tP w (mF1 fStrI ma)) := by
  refine PE.mo (pe_callTy call_str_int hg hm (by decide +kernel) (pa_cons ha pa_nil hs) (he := hs)) fun σ H Q ⟨ι, env, st, d, he, hst, hmm, q⟩ => ?_
  unfold mF1 at hmm
  split at hmm
  · rename_i dx ex
    unfold fStrI at hmm
    split at hmm
    · rename_i i
      split at hmm
      · rename_i hl
        cases hmm
        refine ⟨ι, env, st, _, he, hst, ex, fun v H1 k1 r1 s1 => ?_⟩
        cases r1
        exact ⟨i, rfl, small_log hl, q _ H1 k1 (.str _) s1⟩
      · cases hmm
    · cases hmm
  · cases hmm
theorem dp_intS (hg : Gl X "int") (hm : X.mg "int" = none) (ha : PE X a (tP w ma)) (hs : starEach [a] X.env = (false, eval a X.env) :: starEach [] X.env := by rfl) : PE X (.Call (.Name "int" p) [a] [] pos) (tP w (mF1 fIntS ma)) := by
  refine PE.mo (pe_callTy call_int_str hg hm (by decide +kernel) (pa_cons ha pa_nil hs) (he := hs)) fun σ H Q ⟨ι, env, st, d, he, hst, hmm, q⟩ => ?_
  unfold mF1 at hmm
  split at hmm
  · rename_i dx ex
    unfold fIntS at hmm
    split at hmm
    · rename_i a
      split at hmm
      · rename_i hl
        split at hmm
        · rename_i n hn
          cases hmm
          refine ⟨ι, env, st, _, he, hst, ex, fun v H1 k1 r1 s1 => ?_⟩
          cases r1
          exact ⟨a, n, rfl, hn, hl, q _ H1 k1 (.int _) s1⟩
        · cases hmm
      · cases hmm
    · cases hmm
  · cases hmm
/-! ### over a text's signs -/
def iSigns (m : MP) : MI := fun env st => match m env st with | some (.str z) => if z.length ≤ 1000000 then some (z.cps.toList.map signD, none) else none | _ => none
theorem itd_str {ι : List Addr} {st : SS} {H0 : Hp} {z : Str} (hl : z.length ≤ 1000000) : ItD w ι st (Its z) (z.cps.toList.map signD) none H0 := by
  refine ⟨fun ι' st' H k p _ s => ⟨fun i hi => ?_, fun i x H' hi hy => ?_, fun i hi => ?_⟩, ?_⟩
  · rw [List.length_map] at hi
    exact hi
  · obtain ⟨e, cc, hc, hx⟩ := hy
    subst e
    subst hx
    refine ⟨signD cc, ?_, .str _, fun _ _ e => e, s⟩
    rw [List.getElem?_map, Array.getElem?_toList, hc]
    rfl
  · rw [List.length_map] at hi
    exact hi
  · rw [List.length_map]
    exact big_size hl
theorem di_signs {tg e : Expr} (he : PE X e (tP w m)) : PI X tg e (tI w (iSigns m)) := by
  refine PI.mo (pi_str he) fun σ H R ⟨ι, env, st, ds, ro, hen, hst, hm, q⟩ => ?_
  unfold iSigns at hm
  split at hm
  · rename_i z hz
    split at hm
    · rename_i hl
      cases hm
      refine ⟨ι, env, st, _, hen, hst, hz, fun v H1 k1 r1 s1 => ?_⟩
      cases r1
      exact ⟨z, rfl, q _ H1 k1 s1 (itd_str hl)⟩
    · cases hm
  · cases hm
/-! ### a text cut at a text -/
def mSplit (m ms : MP) : ML := fun env st => match m env st, ms env st with
  | some (.str a), some (.str b) => if (b.length == 0) = false ∧ a.length ≤ 1000000 ∧ (Txt.split a b).length ≤ 1000000 then some ((Txt.split a b).map D.str) else none
  | _, _ => none
theorem dl_split {ms : MP} (ho : PE X o (tP w m)) (he : PE X e (tP w ms)) (hs : starEach [e] X.env = [(false, eval e X.env)] := by rfl) (hbase : attributeBase o "split" X.env (eval o X.env) = eval o X.env := by rfl) (hline : (apos.endLine == pos.line) = true := by rfl) :
    PE X (.Call (.Attribute o "split" apos) [e] [] pos) (tLs w (mSplit m ms)) := by
  refine PE.mo (pe_split ho he hs hbase hline) fun σ H Q ⟨ι, env, st, ds, hen, hst, hmm, q⟩ => ?_
  unfold mSplit at hmm
  split at hmm
  · rename_i a b e1 e2
    split at hmm
    · rename_i hc
      cases hmm
      refine ⟨ι, env, st, _, hen, hst, e1, fun v H1 k1 r1 s1 => ?_⟩
      cases r1
      refine ⟨⟨a, rfl⟩, ι, env, st, _, hen.kp k1, s1, e2, fun v2 H2 k2 r2 s2 => ?_⟩
      cases r2
      have hsz := sizeLine_eq
      refine ⟨a, b, rfl, rfl, hc.1, by omega, fun pp hp => ?_⟩
      refine q pp _ _ ((k1.trans k2).trans (Kp.new hp)) upd_same ((k1.trans k2).fresh (nin_of s2 hp) hp) (by rw [List.length_map]; exact big_size hc.2.2) ?_ (s2.new hp (fun _ z => by cases z) (nin_of s2 hp))
      exact reps_map (fun z : Str => .str z) _
    · cases hmm
  · cases hmm
/-! ### a text of the module; what is not reached; a value dropped -/
theorem dp_gstr {x : Str} {z : Str} (hg : Gl X x) (hm : ∃ t, X.mg x = some (.str z t)) (hd : (x == ("__debug__" : Str)) = false := by decide) : PE X (.Name x pos) (tP w (mC (.str z))) := by
  obtain ⟨t, hm⟩ := hm
  refine PE.mo (pe_glob (v := .str z) hg hm ⟨t, rfl⟩ hd) fun σ H Q ⟨ι, env, st, d, he, hst, hmm, q⟩ => ?_
  cases hmm
  exact q _ H (Kp.refl H) (.str z) hst
end
end GD

set_option Elab.async false
set_option linter.all false
set_option maxRecDepth 100000
set_option maxHeartbeats 2000000
namespace GD
open PySem PySem.Spec PyProof.Rows L2 GX
section
variable {X : Cx} {w : Wd} {pos p tpos : Pos} {e : Expr}
/-- enumerate over what an effect gives -/
def xEnum (m : XP) : XI := fun env st R => m env st fun d st1 => ∃ ds ro, seqI st1 d = some (ds, ro) ∧ R (enumD ds) ro st1
theorem dxi_enum {elts : List Expr} {kk : Nat} {m : XP} (hg : Gl X "enumerate") (hm : X.mg "enumerate" = none) (ha : PE X e (tX w m)) (hs : starEach [e] X.env = (false, eval e X.env) :: starEach [] X.env := by rfl) (hs2 : starEach [e] X.env = [(false, eval e X.env)] := by rfl) : PI X (.Tuple elts kk tpos) (.Call (.Name "enumerate" p) [e] [] pos) (tXI w (xEnum m)) := by
  refine PI.mo (pi_enumA hg hm (pa_cons ha pa_nil hs) hs2) fun σ H Q ⟨ι, env, st, R, he, hst, hmm, q⟩ => ⟨ι, env, st, _, he, hst, hmm, fun d st1 ι1 v H1 h1 g1 r1 s1 => ?_⟩
  obtain ⟨ds, ro, e, hR⟩ := h1
  obtain ⟨a, vs, rfl, rs, hl, hh⟩ := seqI_cases s1 r1 e
  refine ⟨a, vs, rfl, ?_⟩
  rcases hh with ⟨n, rfl, hn, hc, h1⟩ | ⟨rfl, h1⟩
  · exact .inl ⟨sql_of h1, q _ _ st1 ι1 _ H1 hR g1 s1 (itd_enumL hn hc hl)⟩
  · exact .inr ⟨sqt_of h1, q _ _ st1 ι1 _ H1 hR g1 s1 (itd_enumT h1 rs hl)⟩
end
end GD

set_option Elab.async false
set_option linter.all false
set_option maxRecDepth 100000
set_option maxHeartbeats 2000000
namespace GD
open PySem PySem.Spec PyProof.Rows L2 GX
/-! ## 48. sorted(set(list of tuples of ints)) -/
section
variable {X : Cx} {w : Wd} {pos p : Pos}
end
end GD

set_option Elab.async false
set_option linter.all false
set_option maxRecDepth 100000
set_option maxHeartbeats 2000000
namespace GD
open PySem PySem.Spec PyProof.Rows L2 GX
/-! ## 49. len(set(tuple of ints)) -/
section
variable {X : Cx} {w : Wd} {p p2 q pos : Pos} {a : Expr} {m : MP}
end
end GD

set_option Elab.async false
set_option linter.all false
set_option maxRecDepth 100000
set_option maxHeartbeats 2000000
namespace GD
open PySem PySem.Spec PyProof.Rows L2 GX
/-! ## 58. list comprehensions of two clauses: the new list stands in the store from the start -/
section
variable {X : Cx} {w : Wd} {pos : Pos} {tg iter elt c tg1 iter1 : Expr} {ifs ifs1 : List Expr}
end
end GD

set_option Elab.async false
set_option linter.all false
set_option maxRecDepth 100000
set_option maxHeartbeats 2000000
namespace GD
open PySem PySem.Spec PyProof.Rows L2 GX
/-! ## 61. generator expressions of two clauses -/
section
variable {X : Cx} {w : Wd} {pos : Pos} {tg iter tg1 iter1 elt c : Expr} {ifs ifs1 : List Expr}
structure GenA2 (X : Cx) (w : Wd) (mi : MI) (t : MT) (b : MB) (mi1 : MI) (t1 : MT) (b1 : MB) (m : MP) (own own1 : List Nat) (k : Nat) (e : Expr) : Prop where
  ex : ∃ (g g1 : TG), PGx X k e (tGen2 X.base w.s.nm w.c (tI w mi) g (fun c' => tBo (w.at c') b) (fun c' => tI (w.at c') mi1) g1 (fun c' => tBo (w.at c') b1) (fun c' => tP (w.at c') m) own own1) ∧ (∀ c', GT (w.at c') own g t) ∧ (∀ c', GT (w.at c') own1 g1 t1) ∧ (∀ v ∈ own1, v ∈ own) ∧ ∀ v ∈ own, ∀ p ∈ w.fx, p.1 ≠ v
  gn : w.gn = true
section
variable {mi : MI} {t : MT} {b : MB} {mi1 : MI} {t1 : MT} {b1 : MB} {m : MP} {own own1 : List Nat} {k : Nat} {e : Expr} {p : Pos}
end
end
end GD

set_option Elab.async false
set_option linter.all false
set_option maxRecDepth 100000
set_option maxHeartbeats 2000000
namespace GD
open PySem PySem.Spec PyProof.Rows L2 GX
/-! ## 60. comprehensions of any number of clauses: what they make of the new cell -/
section
variable {X : Cx} {w : Wd} {pos : Pos} {tg iter e kx vx : Expr} {ifs : List Expr}
end
end GD

set_option Elab.async false
set_option linter.all false
set_option maxRecDepth 100000
set_option maxHeartbeats 2000000
namespace GD
open PySem PySem.Spec PyProof.Rows L2 GX
/-! ## 61. == and != of lists of data -/
section
variable {X : Cx} {w : Wd} {pos : Pos} {a b : Expr} {ma mb : XP} {pa pb : MP}
end
end GD

set_option Elab.async false
set_option linter.all false
set_option maxRecDepth 100000
set_option maxHeartbeats 2000000
namespace GD
open PySem PySem.Spec PyProof.Rows L2 GX
/-! ## 62. names stored from a list -/
section
variable {X : Cx} {w : Wd} {pos : Pos} {e tg : Expr}
end
end GD

set_option Elab.async false
set_option linter.all false
set_option maxRecDepth 100000
set_option maxHeartbeats 2000000
namespace GD
open PySem PySem.Spec PyProof.Rows L2 GX
/-! ## 63. own classes: objects, their attributes, their methods -/
/-- a class of the text, and names that no class of it has -/
structure ClsD (w : Ws) (cn : Str) (fs : List Str) : Prop where
  ex : ∃ C, w.cls cn = some C ∧ Cls w.K C ∧ ∀ f ∈ fs, NoAttr w.K C f
section
variable {ι : List Addr} {H : Hp} {f : Str}
end
section
variable {X : Cx} {w : Wd} {pos : Pos} {e o v : Expr} {cn f : Str} {fl : List Str}
end
/-! ### methods -/
structure FunM (K : PySem.W.Frag) (x q : Str) (st : Stmt) (f c : Addr) (fd : FuncData) : Prop where
  ex : ∃ (oc : Value) (od : Option Addr) (kV doc pm : Value) (an : Option Addr) (ct : Value) (osl : Array (Option Value)),
    fd = PySem.W.fnOf x q (defArgs st) (defBody st) (defScope st) .none kV doc pm an (.ref c) ct ∧ K.lookup f = some ⟨oc, od, .func fd, osl⟩ ∧ PySem.W.codeIn K (.ref c) q = true
/-- a method of the text, by its class's name -/
structure DefM (w : Ws) (cn x q : Str) (st : Stmt) (gn : Bool) : Prop where
  ex : ∃ (C f c : Addr) (fd : FuncData), FunM w.K x q st f c fd ∧ w.cls cn = some C ∧ Cls w.K C ∧ Meth w.K C x f ∧ (gn = true → ∃ P, (c, P) ∈ w.tabs ∧ PySem.W.CodeHd w.base c P)
/-- what a method promises -/
structure MethX (P : Program) (wl : World) (w : Ws) (mg : Str → Option Value) (k : Nat) (cn x : Str) (T : XT) : Prop where
  ex : ∃ (C f : Addr) (fd : FuncData) (ps : List Str), FnOk P wl w.K mg w.base CX0 k f fd ps (spX w T) ∧ w.cls cn = some C ∧ Cls w.K C ∧ Meth w.K C x f ∧ Binds w.K fd ps []
structure MethP (P : Program) (wl : World) (w : Ws) (mg : Str → Option Value) (k : Nat) (cn x : Str) (F : List D → SS → Option D) : Prop where
  ex : ∃ (C f : Addr) (fd : FuncData) (ps : List Str), FnOk P wl w.K mg w.base CX0 k f fd ps (spP w F) ∧ w.cls cn = some C ∧ Cls w.K C ∧ Meth w.K C x f ∧ Binds w.K fd ps []
theorem DefM.x {P : Program} {wl : World} {w : Ws} {mg : Str → Option Value} {cn x q : Str} {st : Stmt} {N ps : List Str} {k : Nat} {t : XS} {gn : Bool} (F : DefM w cn x q st gn) (S : FnScope N ps (defScope st))
    (hb : ∀ (kV doc pm : Value) (an : Option Addr) (cdv ct : Value) (us : List Value), us.length = ps.length → bindArgs (PySem.W.fnOf x q (defArgs st) (defBody st) (defScope st) .none kV doc pm an cdv ct) ⟨us, []⟩ = pure (ps.zip us))
    (hbody : ∀ (f c : Addr) (A : Around) (outer : List Env) (s : Shared) (H : Hp) (E : XK), Room k (A.deeper (envOfC q (defScope st) s.heap.objs.size f (.ref c))) → Fit (cxOf CX0 P wl w.K mg w.base N q (defScope st) f (.ref c) A outer s H E).nox ⟨w, c, [], [], [], gn⟩ →
      PSs (cxOf CX0 P wl w.K mg w.base N q (defScope st) f (.ref c) A outer s H E).nox (defBody st) (tS ⟨w, c, [], [], [], gn⟩ t)) : MethX P wl w mg (k + 1) cn x (fnT N ps.length t) := by
  obtain ⟨C, f, c, fd, ⟨oc, od, kV, doc, pm, an, ct, osl, rfl, lk, hcd⟩, hC, hcl, hM, hT⟩ := F.ex
  refine ⟨C, f, _, ps, fn_of lk hcd S (fun vs H Q E ⟨ι, st, ds, R, r, s, h, q⟩ => by rw [r.length]; exact h.1) fun A outer s H vs Q E hr ⟨ι, st, ds, R, r, s', h, q⟩ => ⟨_, (hbody f c A outer s H E hr ⟨rfl, rfl, rfl⟩).nox, ?_⟩, hC, hcl, hM, .all (hb kV doc pm an (.ref c) ct)⟩
  refine ⟨ι, startE N ds, st, _, start_env r N (fun hg => let ⟨Pt, ht, hh⟩ := hT hg; ⟨Pt, .inl hh, s'.tab _ ht⟩), s', h.2, fun env st' ι' σ H' h g r s => q .non st' ι' .non H' h g .non s, fun d st' ι' v H' h g r s => q d st' ι' v H' h g r s, fun _ _ _ _ _ h _ _ _ => h.elim, fun _ _ _ _ _ h _ _ _ => h.elim⟩
theorem MethX.imp {P : Program} {wl : World} {w : Ws} {mg : Str → Option Value} {k : Nat} {cn x : Str} {T T' : XT} (c : MethX P wl w mg k cn x T) (h : ∀ ds st R, T' ds st R → T ds st R) : MethX P wl w mg k cn x T' := by
  obtain ⟨C, f, fd, ps, hF, h1, h2, h3, h4⟩ := c.ex
  exact ⟨C, f, fd, ps, hF.imp fun vs H Q E ⟨ι, st, ds, R, r, s, ht, q⟩ => ⟨ι, st, ds, R, r, s, h _ _ _ ht, q⟩, h1, h2, h3, h4⟩
section
variable {X : Cx} {w : Wd} {pos apos p : Pos} {e o : Expr} {es : List Expr} {cn m : Str} {k : Nat} {mo : MP}
/-- the making of an object: __init__ is the method's promise -/
structure MakeX (P : Program) (wl : World) (w : Ws) (mg : Str → Option Value) (k : Nat) (cn : Str) (T : XT) : Prop where
  ex : ∃ (C f : Addr) (fd : FuncData) (ps : List Str), FnOk P wl w.K mg w.base CX0 k f fd ps (spX w T) ∧ w.cls cn = some C ∧ mg cn = some (.ref C) ∧ Mk w.K C f ∧ Binds w.K fd ps []
end
end GD

set_option Elab.async false
set_option linter.all false
set_option maxRecDepth 100000
set_option maxHeartbeats 2000000
namespace GD
open PySem PySem.Spec PyProof.Rows L2 GX
/-! ## 64. methods without effects; the making; what the text must have -/
theorem MethX.toP {P : Program} {wl : World} {w : Ws} {mg : Str → Option Value} {k : Nat} {cn x : Str} {T : XT} {F : List D → SS → Option D} (c : MethX P wl w mg k cn x T)
    (h : ∀ ds st d, F ds st = some d → D.loAll st.length ds = true → D.lo st.length d = true ∧ T ds st fun d' st' => d' = d ∧ st'.take st.length = st) : MethP P wl w mg k cn x F := by
  obtain ⟨C, f, fd, ps, hF, m1, m2, m3, m4⟩ := c.ex
  refine ⟨C, f, fd, ps, hF.imp fun vs H Q E ⟨ι, st, ds, d, r, s, hd, q⟩ => ?_, m1, m2, m3, m4⟩
  obtain ⟨hlo, hT⟩ := h ds st d hd (s.len ▸ r.low)
  refine ⟨ι, st, ds, _, r, s, hT, fun d' st' ι' v H' ⟨e1, e2⟩ g r' s' => ?_⟩
  subst e1
  refine q v H' g.kp (r'.cut g.pre (by rw [s.len]; exact hlo)) ⟨s.len, s.nd, fun n a cl h1 h2 => ?_, s'.tabs, s'.tab⟩
  have hn : n < st.length := (List.getElem?_eq_some_iff.mp h2).1
  have h2' : st'[n]? = some cl := by
    rw [← e2, List.getElem?_take, if_pos hn] at h2
    exact h2
  have q1 := s'.cell n a cl (pre_get g.pre h1) h2'
  have q0 := s.cell n a cl h1 h2
  cases cl with
  | lst ds =>
    obtain ⟨vs0, _, _, r0⟩ := q0
    obtain ⟨vs1, e1, l1, r1⟩ := q1
    exact ⟨vs1, e1, l1, r1.cut g.pre r0.low⟩
  | frz ds =>
    obtain ⟨_, vs0, _, _, r0⟩ := q0
    obtain ⟨o1, vs1, e1, l1, r1⟩ := q1
    exact ⟨o1, vs1, e1, l1, r1.cut g.pre r0.low⟩
  | dic ds =>
    obtain ⟨vs0, _, _, r0⟩ := q0
    obtain ⟨vs1, e1, l1, r1⟩ := q1
    exact ⟨vs1, e1, l1, r1.keys, r1.vals.cut g.pre r0.vals.low⟩
  | obj x ds =>
    obtain ⟨_, _, vs0, _, _, r0⟩ := q0
    obtain ⟨C1, dx1, vs1, e1, l1, r1⟩ := q1
    exact ⟨C1, dx1, vs1, e1, l1, r1.keys, r1.vals.cut g.pre r0.vals.low⟩
  | dicN ds =>
    obtain ⟨vs0, _, _, r0⟩ := q0
    obtain ⟨vs1, e1, l1, r1⟩ := q1
    exact ⟨vs1, e1, l1, r1.keys, r1.vals.cut g.pre r0.vals.low⟩
theorem DefM.p {P : Program} {wl : World} {w : Ws} {mg : Str → Option Value} {cn x q : Str} {st : Stmt} {N ps : List Str} {k : Nat} {r : RS} {gn : Bool} (F : DefM w cn x q st gn) (S : FnScope N ps (defScope st))
    (hb : ∀ (kV doc pm : Value) (an : Option Addr) (cdv ct : Value) (us : List Value), us.length = ps.length → bindArgs (PySem.W.fnOf x q (defArgs st) (defBody st) (defScope st) .none kV doc pm an cdv ct) ⟨us, []⟩ = pure (ps.zip us))
    (hbody : ∀ (f c : Addr) (A : Around) (outer : List Env) (s : Shared) (H : Hp) (E : XK), Room k (A.deeper (envOfC q (defScope st) s.heap.objs.size f (.ref c))) → Fit (cxOf CX0 P wl w.K mg w.base N q (defScope st) f (.ref c) A outer s H E).nox ⟨w, c, [], [], [], gn⟩ →
      PSs (cxOf CX0 P wl w.K mg w.base N q (defScope st) f (.ref c) A outer s H E).nox (defBody st) (tS ⟨w, c, [], [], [], gn⟩ (xs r))) : MethP P wl w mg (k + 1) cn x (fnR N ps.length r) := by
  refine (DefM.x (mg := mg) F S hb hbody).toP fun ds st d h _ => ?_
  unfold fnR at h
  split at h
  · rename_i hl
    split at h
    · rename_i d' hr
      split at h
      · rename_i hlo
        cases h
        refine ⟨hlo, hl, ?_⟩
        unfold xs
        rw [hr]
        exact ⟨rfl, List.take_length⟩
      · cases h
    · rename_i e hr
      cases h
      refine ⟨rfl, hl, ?_⟩
      unfold xs
      rw [hr]
      exact ⟨rfl, List.take_length⟩
    · cases h
  · cases h
/-- what of the text the making must have -/
structure ClsM (w : Ws) (mg : Str → Option Value) (cn : Str) : Prop where
  ex : ∃ C f, w.cls cn = some C ∧ mg cn = some (.ref C) ∧ Mk w.K C f
theorem MethX.make {P : Program} {wl : World} {w : Ws} {mg : Str → Option Value} {k : Nat} {cn : Str} {T : XT} (c : MethX P wl w mg k cn "__init__" T) (m : ClsM w mg cn) : MakeX P wl w mg k cn T := by
  obtain ⟨C, f, fd, ps, hF, h1, h2, h3, h4⟩ := c.ex
  obtain ⟨C', f', g1, g2, g3⟩ := m.ex
  rw [h1] at g1
  cases g1
  have e : f = f' := by
    have a := h3.at_
    rw [g3.init] at a
    injection a with a
    injection a with a
    injection a with a
    exact a.symm
  subst e
  exact ⟨C, f, fd, ps, hF, h1, g2, g3, h4⟩
theorem MakeX.imp {P : Program} {wl : World} {w : Ws} {mg : Str → Option Value} {k : Nat} {cn : Str} {T T' : XT} (c : MakeX P wl w mg k cn T) (h : ∀ ds st R, T' ds st R → T ds st R) : MakeX P wl w mg k cn T' := by
  obtain ⟨C, f, fd, ps, hF, h1, h2, h3, h4⟩ := c.ex
  exact ⟨C, f, fd, ps, hF.imp fun vs H Q E ⟨ι, st, ds, R, r, s, ht, q⟩ => ⟨ι, st, ds, R, r, s, h _ _ _ ht, q⟩, h1, h2, h3, h4⟩
/-! ### the end's facts -/
theorem cls_at {K : PySem.W.Frag} {h : Heap} {mg : Str → Option Value} {cn : Str} {C : Addr} (KX : K.In h) (G : h.Ns mainGlobals mg) (a : PySem.W.nsIn K mainGlobals cn = some (some (.ref C))) : mg cn = some (.ref C) ∧ clsOf mg cn = some C := by
  have hm := PySem.W.mg_of KX G a
  refine ⟨hm, ?_⟩
  unfold clsOf
  rw [hm]
/-- a method of the text: its place, its code object, its table -/
structure DKM (K : PySem.W.Frag) (mg : Str → Option Value) (h : Heap) (cn x q : Str) (st : Stmt) (c P : Addr) : Prop where
  code : PySem.W.CodeHd h c P
  tab : h.get? P = some tblO
  free : K.lookup P = none
  dc : ∀ base nm tabs, (c, P) ∈ tabs → PySem.W.CodeHd base c P → DefM ⟨K, base, nm, tabs, clsOf mg⟩ cn x q st true
theorem DKM.of {K : PySem.W.Frag} {mg : Str → Option Value} {h : Heap} {cn x q : Str} {st : Stmt} {C f c P : Addr} {oc kV dc pm ct : Value} {od an : Option Addr} {sl : Array (Option Value)} (KX : K.In h) (hC : clsOf mg cn = some C) (hcl : Cls K C)
    (a1 : PySem.W.findIn K (.ref C) x = some (some (.ref f))) (i1 : PySem.W.isFn K (.ref f) = true) (k1 : PySem.W.keepIn K (.ref f) = true)
    (l1 : K.lookup f = some ⟨oc, od, .func (PySem.W.fnOf x q (defArgs st) (defBody st) (defScope st) .none kV dc pm an (.ref c) ct), sl⟩) (c1 : PySem.W.codeIn K (.ref c) q = true)
    (hd : PySem.W.codeHdIn K c P = true) (tP : h.get? P = some (PySem.W.tabObj #[])) (n1 : K.lookup P = none) : DKM K mg h cn x q st c P :=
  ⟨PySem.W.codeHd_of_K KX hd, tP, n1, fun base nm tabs ht hh => ⟨C, f, c, _, ⟨oc, od, kV, dc, pm, an, ct, sl, rfl, l1, c1⟩, hC, hcl, ⟨a1, i1, k1⟩, fun _ => ⟨P, ht, hh⟩⟩⟩
end GD

set_option Elab.async false
set_option linter.all false
set_option maxRecDepth 100000
set_option maxHeartbeats 2000000
namespace GD
open PySem PySem.Spec PyProof.Rows L2 GX HT
/-! ## 65. o.f += a tuple -/
section
variable {prog : Program} {w : World} {A : Around} {E : Value → Shared → Prop} {s : Shared}
end
section
variable {X : Cx} {w : Wd} {pos tpos : Pos} {o v : Expr} {cn f : Str} {fl : List Str}
end
end GD

set_option Elab.async false
set_option linter.all false
set_option maxRecDepth 100000
set_option maxHeartbeats 2000000
namespace GD
open PySem PySem.Spec PyProof.Rows L2 GX PySem.W
/-! ## 66. min of a list of tuples of ints -/
section
variable {X : Cx} {w : Wd} {pos p : Pos} {a : Expr}
end
/-! ## 67. the size of a displayed set -/
def cntM : List MP → EV → SS → Option (List Int)
  | [], _, _ => some []
  | m :: ms, env, st => (match m env st, cntM ms env st with | some (.int i), some l => some (i :: l) | _, _ => none)
inductive PEsP (X : Cx) (w : Wd) : List Expr → List MP → Prop
  | nil : PEsP X w [] []
  | cons {e : Expr} {m : MP} {es : List Expr} {ms : List MP} : PE X e (tP w m) → PEsP X w es ms → PEsP X w (e :: es) (m :: ms)
section
variable {X : Cx} {w : Wd} {pos p q : Pos} {a : Expr}
theorem PEsP.to : ∀ {es : List Expr} {ms : List MP}, PEsP X w es ms → PEsI X es (ms.map (tP w))
  | _, _, .nil => .nil
  | _, _, .cons h t => .cons h t.to
end
/-! ## 68. methods whose text displays a set -/
/-! ## 69. a method of an object that was just made -/
section
variable {X : Cx} {w : Wd} {pos apos : Pos} {o : Expr} {cn m : Str} {k : Nat}
end
end GD

set_option Elab.async false
set_option linter.all false
set_option maxRecDepth 100000
set_option maxHeartbeats 2000000
namespace GD
open PySem PySem.Spec PyProof.Rows L2 GX
/-! ## texts cut at a sign -/
def glue (c : Nat) : List (List Nat) → List Nat
  | [] => []
  | [x] => x
  | x :: y :: r => x ++ c :: glue c (y :: r)
theorem cut_first {c : Nat} : ∀ {p q A B : List Nat}, c ∉ p → c ∉ q → p ++ c :: A = q ++ c :: B → p = q ∧ A = B
  | [], [], A, B, _, _, h => ⟨rfl, by simpa using h⟩
  | [], b :: q, A, B, _, hq, h => by
    have e : c = b := by simpa using congrArg List.head? h
    exact absurd (e ▸ List.mem_cons_self) hq
  | a :: p, [], A, B, hp, _, h => by
    have e : a = c := by simpa using congrArg List.head? h
    exact absurd (e ▸ List.mem_cons_self) hp
  | a :: p, b :: q, A, B, hp, hq, h => by
    have h' : a = b ∧ p ++ c :: A = q ++ c :: B := by simpa using h
    obtain ⟨e1, e2⟩ := cut_first (fun z => hp (List.mem_cons_of_mem _ z)) (fun z => hq (List.mem_cons_of_mem _ z)) h'.2
    exact ⟨by rw [h'.1, e1], e2⟩
theorem glue_inj {c : Nat} : ∀ (ps qs : List (List Nat)), ps ≠ [] → qs ≠ [] → (∀ p ∈ ps, c ∉ p) → (∀ q ∈ qs, c ∉ q) → glue c ps = glue c qs → ps = qs
  | [], _, h, _, _, _, _ => absurd rfl h
  | _, [], _, h, _, _, _ => absurd rfl h
  | [p], [q], _, _, _, _, h => by rw [show p = q from h]
  | [p], q :: q2 :: r, _, _, hp, _, h => by
    have h : p = q ++ c :: glue c (q2 :: r) := h
    exact absurd (by rw [h]; exact List.mem_append_right _ List.mem_cons_self) (hp p List.mem_cons_self)
  | p :: p2 :: r, [q], _, _, _, hq, h => by
    have h : p ++ c :: glue c (p2 :: r) = q := h
    exact absurd (by rw [← h]; exact List.mem_append_right _ List.mem_cons_self) (hq q List.mem_cons_self)
  | p :: p2 :: r, q :: q2 :: t, _, _, hp, hq, h => by
    obtain ⟨e1, e2⟩ := cut_first (hp p List.mem_cons_self) (hq q List.mem_cons_self) h
    rw [e1, glue_inj (p2 :: r) (q2 :: t) (by intro z; cases z) (by intro z; cases z) (fun x hx => hp x (List.mem_cons_of_mem _ hx)) (fun x hx => hq x (List.mem_cons_of_mem _ hx)) e2]
theorem glue_join (c : Nat) : ∀ ws : List Str, (Str.join ⟨#[c]⟩ ws).cps.toList = glue c (ws.map (·.cps.toList))
  | [] => rfl
  | [x] => rfl
  | x :: y :: r => by
    show (x ++ (⟨#[c]⟩ : Str) ++ Str.join ⟨#[c]⟩ (y :: r)).cps.toList = _
    show ((x.cps ++ #[c]) ++ (Str.join ⟨#[c]⟩ (y :: r)).cps).toList = x.cps.toList ++ c :: glue c ((y :: r).map (·.cps.toList))
    rw [Array.toList_append, Array.toList_append, glue_join c (y :: r), List.append_assoc]
    rfl
theorem str_ext {a b : Str} (h : a.cps.toList = b.cps.toList) : a = b := Str.ext' (Array.toList_inj.mp h)
theorem map_cps_inj : ∀ {a b : List Str}, a.map (·.cps.toList) = b.map (·.cps.toList) → a = b
  | [], [], _ => rfl
  | [], _ :: _, h => by cases h
  | _ :: _, [], h => by cases h
  | x :: a, y :: b, h => by
    have h' := List.cons.inj h
    rw [str_ext h'.1, map_cps_inj h'.2]
/-- a text cut at a sign: the pieces -/
theorem split_glue {c : Nat} {x : Str} {ws : List Str} (hne : x.cps.toList ≠ []) (hw : ws ≠ []) (hf : ∀ w ∈ ws, c ∉ w.cps.toList) (h : x.cps.toList = glue c (ws.map (·.cps.toList))) : Txt.split x ⟨#[c]⟩ = ws := by
  have e1 := glue_join c (Txt.split x ⟨#[c]⟩)
  rw [StrLaws.join_split, h] at e1
  have ns : Txt.split x ⟨#[c]⟩ ≠ [] := by
    intro z
    have := StrLaws.join_split x ⟨#[c]⟩
    rw [z] at this
    exact hne (by rw [← this]; rfl)
  have := glue_inj (c := c) _ _ (by intro z; exact hw (List.map_eq_nil_iff.mp z)) (by intro z; exact ns (List.map_eq_nil_iff.mp z)) (fun p hp => by obtain ⟨w, h1, rfl⟩ := List.mem_map.mp hp; exact hf w h1) (fun p hp => by obtain ⟨w, h1, rfl⟩ := List.mem_map.mp hp; exact StrLaws.split_free x c w h1) e1
  exact (map_cps_inj this).symm
/-! ### the lines of a table -/
def mkS (l : List Nat) : Str := ⟨l.toArray⟩
theorem mkS_list (l : List Nat) : (mkS l).cps.toList = l := rfl
theorem mkS_len (l : List Nat) : (mkS l).length = l.length := by show l.toArray.size = _; simp
theorem mkS_app (a b : List Nat) : mkS a ++ mkS b = mkS (a ++ b) := str_ext (by show (a.toArray ++ b.toArray).toList = _; rw [Array.toList_append]; rfl)
end GD

set_option Elab.async false
set_option linter.all false
set_option maxRecDepth 100000
set_option maxHeartbeats 4000000
namespace GF
open PySem PySem.Spec PyProof.Rows L2 GX GD
/-! ## 53. the least congruence, as the program finds it -/
section
variable {n : Nat} {c : List Nat} {x y : Nat}
end
/-! ### what waits -/
structure WaitI (up : List (List Nat)) (pairs : List (Nat × Nat)) (c : List Nat) (ws : List (Nat × Nat)) : Prop where
  nf : Nf up.length c
  inn : PairsIn up.length ws
  le : ∀ d, Con up d → Has pairs d → Wi up.length c d ∧ Has ws d
  ge : ∀ d, Nf up.length d → Wi up.length c d → Has ws d → Has pairs d
  cl : ∀ d, Nf up.length d → Wi up.length c d → Has ws d → ∀ x y z, x < up.length → y < up.length → z < up.length → c.getD x 0 = c.getD y 0 → d.getD (jn up x z) 0 = d.getD (jn up y z) 0 ∧ d.getD (mt up x z) 0 = d.getD (mt up y z) 0
section
variable {up : List (List Nat)} {pairs ws : List (Nat × Nat)} {c : List Nat} {p : Nat × Nat}
end
/-! ### walked -/
theorem natD (c : List Nat) {i : Nat} (h : i < c.length) : c[i]? = some (c.getD i 0) := by rw [List.getD_eq_getElem?_getD, List.getElem?_eq_getElem h]; rfl
end GF

set_option Elab.async false
set_option linter.all false
set_option maxRecDepth 100000
set_option maxHeartbeats 4000000
namespace GF
open PySem PySem.Spec PyProof.Rows L2 GX GD PySem.W
/-! ## 54. rows of one length, sorted -/
/-- each one once, in order -/
structure RowsS (n : Nat) (P : List Nat → Prop) (l : List (List Nat)) : Prop where
  nd : l.Nodup
  mem : ∀ t, t ∈ l ↔ P t
  pw : l.Pairwise fun a b => leD (dN a) (dN b) = true
/-! ### walked -/
end GF

set_option Elab.async false
set_option linter.all false
set_option maxRecDepth 100000
set_option maxHeartbeats 4000000
namespace GF
open PySem PySem.Spec PyProof.Rows L2 GX GD
/-! ## 55. all congruences, as the program finds them -/
end GF

set_option Elab.async false
set_option linter.all false
set_option maxRecDepth 100000
set_option maxHeartbeats 4000000
namespace GF
open PySem PySem.Spec PyProof.Rows L2 GX GD
/-! ## 56. the law's words on congruences -/
/-- a square of numbers, as a list of lists -/
structure Sq (lo : Nat) (st : SS) (p n : Nat) (f : Nat → Nat → Nat) (qs : List Nat) : Prop where
  lo : lo ≤ p ∧ ∀ q ∈ qs, lo ≤ q
  len : qs.length = n
  at0 : st[p]? = some (.lst (qs.map D.ref))
  row : ∀ i, i < n → st[qs.getD i 0]? = some (.lst ((List.range n).map fun y => nI (f i y)))
def SqT (lo : Nat) (st : SS) (p n : Nat) (f : Nat → Nat → Nat) : Prop := ∃ qs, Sq lo st p n f qs
theorem SqT.up {lo : Nat} {st st1 : SS} {p n : Nat} {f : Nat → Nat → Nat} (h : SqT lo st p n f) (u : Up st st1) : SqT lo st1 p n f := by
  obtain ⟨qs, h⟩ := h
  exact ⟨qs, h.lo, h.len, u.get h.at0, fun i hi => u.get (h.row i hi)⟩
theorem SqT.ub {lo b : Nat} {st st1 : SS} {p n : Nat} {f : Nat → Nat → Nat} (h : SqT lo st p n f) (u : Ub b st st1) (hb : b < lo) : SqT lo st1 p n f := by
  obtain ⟨qs, h⟩ := h
  have e1 := h.lo.1
  refine ⟨qs, h.lo, h.len, u.get h.at0 (by omega), fun i hi => u.get (h.row i hi) ?_⟩
  have := h.lo.2 (qs.getD i 0) (List.mem_of_getElem? (natD qs (by rw [h.len]; exact hi)))
  omega
theorem SqT.get {lo : Nat} {st : SS} {p n : Nat} {f : Nat → Nat → Nat} (h : SqT lo st p n f) {i j : Nat} (hi : i < n) (hj : j < n) : ∃ v, fIx st (.ref p) (nI i) = some v ∧ fIx st v (nI j) = some (nI (f i j)) := by
  obtain ⟨qs, h⟩ := h
  exact ⟨.ref (qs.getD i 0), getR h.at0 (natD qs (by rw [h.len]; exact hi)), getR (f := fun y => nI (f i y)) (h.row i hi) (List.getElem?_range hj)⟩
/-! ### all ways to part -/
/-- what the rows so far give -/
structure Longer (n : Nat) (done l : List (List Nat)) : Prop where
  nd : l.Nodup
  mem : ∀ c, c ∈ l ↔ ∃ r low, c = r ++ [low] ∧ r ∈ done ∧ (low ∈ r ∨ low = n)
  len : l.length ≤ 7 * done.length
end GF

set_option Elab.async false
set_option linter.all false
set_option maxRecDepth 100000
set_option maxHeartbeats 4000000
namespace GF
open PySem PySem.Spec PyProof.Rows L2 GX GD
/-! ## 57. the law tells congruences -/
/-- a loop that ends at the first that is told -/
theorem rfor_any {α : Type} {f : α → D} {t : MT} {r : RS} {st : SS} {d : D} {p : α → Bool} (E : EV → Prop) : ∀ (l : List α) (env : EV), E env → (∀ env, E env → ∀ a ∈ l, ∃ env1, t (f a) env = some env1 ∧ ((p a = true ∧ r env1 st = some (.rt d)) ∨ (p a = false ∧ ∃ env2, E env2 ∧ r env1 st = some (.nx env2)))) →
    (l.any p = true ∧ rForGo t r st (l.map f) env = some (.rt d)) ∨ (l.any p = false ∧ ∃ env', E env' ∧ rForGo t r st (l.map f) env = some (.nx env'))
  | [], env, h, _ => .inr ⟨rfl, env, h, rfl⟩
  | a :: l, env, h, k => by
    obtain ⟨env1, h1, h2⟩ := k env h a List.mem_cons_self
    have step : rForGo t r st (f a :: l.map f) env = (match r env1 st with | some (.nx e) => rForGo t r st (l.map f) e | some (.ct e) => rForGo t r st (l.map f) e | some (.bk e) => some (.nx e) | some (.rt d) => some (.rt d) | none => none) := by
      rw [rForGo, h1] <;> rfl
    rw [List.map_cons, List.any_cons, step]
    rcases h2 with ⟨hp, h2⟩ | ⟨hp, e2, h3, h2⟩
    · rw [hp, h2]
      exact .inl ⟨rfl, rfl⟩
    · rw [hp, h2, Bool.false_or]
      exact rfor_any E l e2 h3 fun env q b hb => k env q b (List.mem_cons_of_mem _ hb)
theorem rFor_e {mi : MI} {t : MT} {r : RS} {env : EV} {st : SS} {ds : List D} {ro : Option Nat} (h : mi env st = some (ds, ro)) : rFor mi t r env st = rForGo t r st ds env := by
  unfold rFor
  rw [h]
theorem bOr_t {a b : MB} {env : EV} {st : SS} (h : a env st = some true) : bOr a b env st = some true := by unfold bOr; rw [h]
/-! ### all of them -/
end GF

set_option Elab.async false
set_option linter.all false
set_option maxRecDepth 100000
set_option maxHeartbeats 4000000
namespace GF
open PySem PySem.Spec PyProof.Rows L2 GX GD
/-! ## 59. quotients, plainly -/
section
variable {up : List (List Nat)} {x y z w : Nat}
end
section
variable {n : Nat} {c : List Nat} {x y : Nat}
end
section
variable {up : List (List Nat)} {c : List Nat} {x y z k j : Nat}
end
end GF

set_option Elab.async false
set_option linter.all false
set_option maxRecDepth 100000
set_option maxHeartbeats 4000000
namespace GF
open PySem PySem.Spec PyProof.Rows L2 GX GD
/-! ## 60. the law tells lattices -/
theorem rfor_pass {α : Type} {f : α → D} {t : MT} {r : RS} {st : SS} (E : EV → Prop) (l : List α) (env : EV) (h : E env) (k : ∀ env, E env → ∀ a ∈ l, ∃ env1, t (f a) env = some env1 ∧ ∃ env2, E env2 ∧ r env1 st = some (.nx env2)) : ∃ env', E env' ∧ rForGo t r st (l.map f) env = some (.nx env') := by
  rcases rfor_any (d := .non) (p := fun _ => false) E l env h (fun env he a ha => let ⟨e1, h1, h2⟩ := k env he a ha; ⟨e1, h1, .inr ⟨rfl, h2⟩⟩) with ⟨q, _⟩ | ⟨_, q⟩
  · rw [List.any_eq_true] at q
    obtain ⟨_, _, z⟩ := q
    cases z
  · exact q
theorem rFor_pass {α : Type} {f : α → D} {mi : MI} {t : MT} {r : RS} {st : SS} {ro : Option Nat} (E : EV → Prop) (l : List α) (env : EV) (hm : mi env st = some (l.map f, ro)) (h : E env) (k : ∀ env, E env → ∀ a ∈ l, ∃ env1, t (f a) env = some env1 ∧ ∃ env2, E env2 ∧ r env1 st = some (.nx env2)) : ∃ env', E env' ∧ rFor mi t r env st = some (.nx env') := by
  rw [rFor_e hm]
  exact rfor_pass E l env h k
end GF

set_option Elab.async false
set_option linter.all false
set_option maxRecDepth 100000
set_option maxHeartbeats 2000000
namespace GX
open PySem PySem.Spec PyProof.Rows L2 GenW RZ

/-! ## 17. enumerate(zip(t, u)), t and u tuples -/
/-- a zip, whether its tuple is out or not -/
abbrev ZipG (h : Heap) (z TI TO : Addr) (f0 : Value) (f : Bool) : Prop :=
  h.get? z = some { cls := .type "zip", dict := none, data := .fields #[f0, .bool f, .bool false, .ref TI, .ref TO], slots := #[] }
def F0Ok (f0 : Value) : Prop := f0 = .none ∨ ∃ T : Addr, f0 = rawInt T
section
variable {prog : Program} {w : World} {A : Around} {E : Value → Shared → Prop} {s : Shared}
/-! ### enumerate over it -/
/-- the zip as it stands -/
structure ZSt (h : Heap) (z TI TO i1 i2 l1 l2 : Addr) (k : Nat) : Prop where
  z : ∃ f0 f, ZipG h z TI TO f0 f ∧ F0Ok f0
  ti : IsPair h TI (.ref i1) (.ref i2)
  to : ∃ a b, IsPair h TO a b
  i1 : h.IsTupleIter i1 l1 k
  i2 : h.IsTupleIter i2 l2 k
theorem ZSt.keep {h h' : Heap} {z TI TO i1 i2 l1 l2 : Addr} {k : Nat} (Z : ZSt h z TI TO i1 i2 l1 l2 k) (kp : ∀ b, (b = z ∨ b = TI ∨ b = TO ∨ b = i1 ∨ b = i2) → ∀ o, h.get? b = some o → h'.get? b = some o) : ZSt h' z TI TO i1 i2 l1 l2 k := by
  obtain ⟨f0, f, hz, h0⟩ := Z.z
  obtain ⟨a, b, ht⟩ := Z.to
  exact ⟨⟨f0, f, kp _ (.inl rfl) _ hz, h0⟩, kp _ (.inr (.inl rfl)) _ Z.ti, ⟨a, b, kp _ (.inr (.inr (.inl rfl))) _ ht⟩, Z.i1.at fun o e => kp _ (.inr (.inr (.inr (.inl rfl)))) o e, Z.i2.at fun o e => kp _ (.inr (.inr (.inr (.inr rfl)))) o e⟩
end
end GX

set_option Elab.async false
set_option linter.all false
set_option maxRecDepth 100000
set_option maxHeartbeats 2000000
namespace GX
open PySem PySem.Spec PyProof.Rows L2 GenW RZ
end GX
namespace GD
open PySem PySem.Spec PyProof.Rows L2 GX
/-! ## 68. enumerate(zip(t, u)) -/
section
variable {X : Cx} {w : Wd} {ι : List Addr} {st : SS} {H0 : Hp} {a b : Addr} {K : PySem.W.Frag}
end
end GD

set_option Elab.async false
set_option linter.all false
set_option maxRecDepth 100000
set_option maxHeartbeats 2000000
namespace GD
open PySem PySem.Spec PyProof.Rows L2 GX
/-! ## 70. a method, with arguments, of an object that was just made; methods that call themselves -/
section
variable {X : Cx} {w : Wd} {pos apos : Pos} {o e : Expr} {es : List Expr} {cn m : Str} {k : Nat}
end
theorem MethP.mono {P : Program} {wl : World} {w : Ws} {mg : Str → Option Value} {j k : Nat} {cn x : Str} {F : List D → SS → Option D} (c : MethP P wl w mg j cn x F) (h : j ≤ k) : MethP P wl w mg k cn x F := by
  obtain ⟨C, f, fd, ps, hF, r⟩ := c.ex
  exact ⟨C, f, fd, ps, hF.mono h, r⟩
theorem DefM.none {P : Program} {wl : World} {w : Ws} {mg : Str → Option Value} {cn x q : Str} {st : Stmt} {N ps : List Str} {k : Nat} {gn : Bool} (F : DefM w cn x q st gn) (S : FnScope N ps (defScope st))
    (hb : ∀ (kV doc pm : Value) (an : Option Addr) (cdv ct : Value) (us : List Value), us.length = ps.length → bindArgs (PySem.W.fnOf x q (defArgs st) (defBody st) (defScope st) .none kV doc pm an cdv ct) ⟨us, []⟩ = pure (ps.zip us)) : MethP P wl w mg (k + 1) cn x (fun _ _ => Option.none) := by
  have q : MethX P wl w mg (k + 1) cn x (fnT N ps.length fun _ _ _ => False) := DefM.x (mg := mg) F S hb fun f c A outer s H E hr hf => PSs.mo pss_never fun E σ H ⟨_, _, _, _, _, _, h, _⟩ => h.elim
  exact q.toP fun ds st d h => by cases h
end GD

set_option Elab.async false
set_option linter.all false
set_option maxRecDepth 100000
set_option maxHeartbeats 2000000
namespace GX
open PySem PySem.Spec PyProof.Rows L2
/-! ## 15. faults: own exceptions whose __init__ hands on to their base and keeps a reason -/
section
variable {X : Cx} {e : Expr} {es : List Expr} {ta : TA} {x : Str} {C : Addr} {mc : Value} {p1 p2 pos : Pos}
/-- Base.__init__(self, ..), Base an own class that has ValueError's -/
theorem pe_cinit {pl : Sem Bool} (hg : Gl X x) (hm : X.mg x = some (.ref C)) (r : ClX.CRead X.K C mc) (at_ : PySem.W.findCls X.K (.ref C) mc "__init__" = some (.val (.builtin "ValueError.__init__"))) (ha : PA X (e :: es) ta) (hdb : (x == ("__debug__" : Str)) = false := by decide)
    (hc : eval (.Call (.Attribute (.Name x p1) "__init__" p2) (e :: es) [] pos) X.env = (do let ov ← eval (.Name x p1) X.env; standAt p2.atName; let (f, first) ← holding [ov] (getMethod ov "__init__" pl); callWith pos f first (backTo pos (starEach (e :: es) X.env)) (backToKw pos (keywordEach [] X.env))) := by rfl)
    (he : starEach (e :: es) X.env = (false, eval e X.env) :: starEach es X.env := by rfl) (hpl : (backTo pos (starEach es X.env)).any (·.1) = false := by rfl) :
    PE X (.Call (.Attribute (.Name x p1) "__init__" p2) (e :: es) [] pos) (tVeI X.K ta) := by
  refine ⟨fun pins s σ H Q I h => ?_⟩
  refine PySem.W.methodCall_KW (ld_glob I hg hm ?_ hdb) hc
  refine PySem.W.method_cls I.kIn r.ga (PySem.W.cls_value I.kIn r.rd at_ (by decide +kernel) ?_)
  show wpAny _ _ (callWith pos (Value.builtin "ValueError.__init__") [] (backTo pos (starEach (e :: es) X.env)) []) _ _ _
  refine PyProof.Rows.callWith_method1 (thn (ha.run pos pins _ σ H _ (I.tok _) h) fun us s1 ⟨vs, H1, I1, r1, a, C, ws, ev, hl, T, ea, q⟩ => ?_) he hpl
  subst ev
  cases r1 with
  | @cons _ u0 _ ur ra rw' =>
    obtain rfl : u0 = Value.ref a := ra
    have hlen : ur.length ≤ sizeLine := by rw [← Paired.length rw', sizeLine_eq]; omega
    exact oinit_ok T I1 ea hlen fun s' J => ⟨.non, H1, J, rfl, q⟩
end
/-! ### the own __init__ -/
def spInit (K : PySem.W.Frag) : Sp := fun vs H Q _ => ∃ (a C : Addr) (r : V), vs = [.ref a, r] ∧ OexC K C ∧ PySem.W.findIn K (.ref C) "reason" = some none ∧ H a = some (exo a C none) ∧ ∀ dx, H dx = none → dx ≠ a → Q .non (upd (upd H dx (exd dx [("reason", r)])) a (exo a C (some dx)))
end GX

set_option Elab.async false
set_option linter.all false
set_option maxRecDepth 100000
set_option maxHeartbeats 2000000
namespace GX
open PySem PySem.Spec PyProof.Rows L2
/-! ## 16. except X as e: what is asked of e, which has a reason -/
theorem call_isED {X : Cx} {a D dd : Addr} {oe : Obj} {pn : List (Addr × Obj)} (C : ExcC X.K D) (hz : Zc (.ref D) (some dd) oe) (hf : ∃ vs, oe.data = .fields vs) : CallR (X.suite a ((a, oe) :: pn)) (.builtin "isinstance") (fun xs H Q => (∃ fs, H dd = some (.xd fs)) ∧ rIsE X.K D a xs H Q) := by
  intro pins s σ H xs us Q I r h
  obtain ⟨⟨fs, hdd⟩, c, cv, b, rfl, hcv, e, q⟩ := h
  cases r with
  | cons rx rr =>
    cases rr with
    | cons rt rr =>
      cases rr
      cases rx
      have ec := hcv _ rt
      subst ec
      obtain ⟨hget, _⟩ := I.pin (a, oe) (List.mem_append.mpr (.inl List.mem_cons_self))
      obtain ⟨vs, hv⟩ := hf
      have hx : ObjOk X.prog X.w H s.heap dd (.xd fs) := I.hok dd _ hdd
      obtain ⟨mA, hns, hr⟩ := hx
      obtain ⟨od, ho, hl⟩ := lookIn_ns hns
      have J : PySem.W.InstAt s.heap a oe D (some od) := ⟨hget, hz.1, by unfold PySem.W.notCls; rw [hv] <;> rfl, by rw [hz.2]; exact ho⟩
      obtain ⟨cd, hcd, _⟩ := PySem.W.any_some C.hd
      exact PySem.W.kia_one (PySem.W.kitx_exc (by rw [hcd]; rfl) C.hg C.hk C.hs C.ha C.hn C.ht C.hm) I.kIn J e (fun z => nomatch z) fun tk => ⟨.bl b, H, I.kept (t' := tk) fun _ _ z => z, rfl, q⟩
theorem PSs.mo' {X : Cx} {ss : List Stmt} {t t' : TS} (h : PSs X ss t) (q : ∀ D σ H, t' D σ H → t D σ H) : PSs X ss t' := ⟨fun pins s σ H D I h' => h.run pins s σ H D I (q D σ H h')⟩
theorem PSs.when {X : Cx} {ss : List Stmt} {t : TS} {P : Prop} (h : P → PSs X ss t) : PSs X ss (fun D σ H => P ∧ t D σ H) := ⟨fun pins s σ H D I q => (h q.1).run pins s σ H D I q.2⟩
end GX

set_option Elab.async false
set_option linter.all false
set_option maxRecDepth 100000
set_option maxHeartbeats 2000000
namespace GX
open PySem PySem.Spec PyProof.Rows L2
/-! ## 17. the suite that tells a fault's reason -/
def oddIf (n A : Str) (q1 q2 q3 q4 q5 q6 q7 q8 q9 q10 q11 q12 q13 q14 q15 q16 : Pos) (j1 j2 x1 : Nat) : Stmt := .If (.BoolOp .Or [.UnaryOp .Not (.Call (.Name "isinstance" q1) [.Name n q2, .Name A q3] [] q4) q5, .UnaryOp .Not (.Call (.Name "isinstance" q6) [.Name n q7, .Name "ValueError" q8] [] q9) q10] q11) [.Return (some (.Tuple [.Constant (.str "odd") j1 q12, .Constant .none j2 q13] x1 q14)) q15] [] q16
def tellRet (n : Str) (q17 q18 q19 q20 q21 : Pos) (j3 x2 : Nat) : Stmt := .Return (some (.Tuple [.Constant (.str "fault") j3 q17, .Attribute (.Name n q18) "reason" q19] x2 q20)) q21
/-- ("fault", e.reason) is handed out -/
def tFault (i : Nat) (a C : Addr) (cls : Value) (d : Option Addr) : TS := fun D σ H => (cls = .ref C ∧ ∃ dd, d = some dd) ∧ ∃ dd v, d = some dd ∧ σ[i]? = some (some (.ref a)) ∧ H dd = some (.xd [(("reason" : Str), v)]) ∧ ∀ p, H p = none → D.rt (.ref p) (upd H p (.tup [.str "fault", v]))
/-- what is asked of the classes -/
structure FltC (K : PySem.W.Frag) (C B : Addr) : Prop where
  x : ExcC K C
  f : XfC K C
  no : PySem.W.findIn K (.ref C) "reason" = some none
  kb : PySem.W.kitOne K (.ref C) (.ref B) = some true
  kv : PySem.W.kitOne K (.ref C) (.type "ValueError") = some true
theorem suite_ok {X : Cx} {i : Nat} {n A : Str} {a C B : Addr} {oe : Obj} {cls : Value} {d : Option Addr} {pn : List (Addr × Obj)} {q1 q2 q3 q4 q5 q6 q7 q8 q9 q10 q11 q12 q13 q14 q15 q16 q17 q18 q19 q20 q21 : Pos} {j1 j2 j3 x1 x2 : Nat} (F : FltC X.K C B) (hN : X.N[i]? = some n) (hv : Vis X.env.scope n)
    (hd1 : (n == ("__debug__" : Str)) = false) (hd2 : (n == ("__classdict__" : Str)) = false) (gi : Gl X "isinstance") (mi : X.mg "isinstance" = none) (gA : Gl X A) (mA : X.mg A = some (.ref B)) (dA : (A == ("__debug__" : Str)) = false) (gV : Gl X "ValueError") (mV : X.mg "ValueError" = none)
    (sA : starEach [.Name n q2, .Name A q3] X.env = (false, eval (.Name n q2) X.env) :: starEach [.Name A q3] X.env) (sA2 : starEach [.Name A q3] X.env = (false, eval (.Name A q3) X.env) :: starEach [] X.env) (pA : (backTo q4 (starEach [.Name A q3] X.env)).any (·.1) = false)
    (sV : starEach [.Name n q7, .Name "ValueError" q8] X.env = (false, eval (.Name n q7) X.env) :: starEach [.Name "ValueError" q8] X.env) (sV2 : starEach [.Name "ValueError" q8] X.env = (false, eval (.Name "ValueError" q8) X.env) :: starEach [] X.env) (pV : (backTo q9 (starEach [.Name "ValueError" q8] X.env)).any (·.1) = false)
    (hat : attributeBase (.Name n q18) "reason" X.env (eval (.Name n q18) X.env) = eval (.Name n q18) X.env) (hz : Zc cls d oe) (hf : ∃ vs, oe.data = .fields vs) :
    PSs (X.suite a ((a, oe) :: pn)) [oddIf n A q1 q2 q3 q4 q5 q6 q7 q8 q9 q10 q11 q12 q13 q14 q15 q16 j1 j2 x1, tellRet n q17 q18 q19 q20 q21 j3 x2] (tFault i a C cls d) := by
  refine PSs.when fun ⟨ec, dd, ed⟩ => ?_
  subst ec ed
  have vn : ∀ q, PE (X.suite a ((a, oe) :: pn)) (.Name n q) (tVar i) := fun q => pe_var hN hv hd1 hd2
  have cA := pe_callB (X := X.suite a ((a, oe) :: pn)) (p := q1) (pos := q4) (call_isED F.x hz hf) gi mi (by decide +kernel) (pa_cons (vn q2) (pa_cons (pe_glob (pos := q3) (v := .ref B) gA mA rfl dA) pa_nil sA2) sA) (he := sA) (hpl := pA)
  have cV := pe_callB (X := X.suite a ((a, oe) :: pn)) (p := q6) (pos := q9) (call_isED F.x hz hf) gi mi (by decide +kernel) (pa_cons (vn q7) (pa_cons (pe_bltn (pos := q8) (v := .ty "ValueError") (u := .type "ValueError") gV mV (by decide +kernel) rfl) pa_nil sV2) sV) (he := sV) (hpl := pV)
  have xr := pe_xf (X := X) (a := a) (pn := pn) (pos := q19) F.f F.no hz hf (vn q18) hat
  refine PSs.mo' (pss_cons (ps_if (PW.pt (pw_or (pt_not (pt_val cA)) (pw_or1 (pt_not (pt_val cV))))) (pss_one (ps_ret (pe_tup (pa_cons pe_str (pa_cons pe_non pa_nil))))) pss_nil) (pss_one (ps_ret (pe_tup (pa_cons pe_str (pa_cons xr pa_nil)))))) fun D σ H h => ?_
  obtain ⟨dd', v, e1, hσ, hx, hR⟩ := h
  cases e1
  refine ⟨_, hσ, ⟨⟨_, hx⟩, .ref B, .ref B, true, rfl, fun u r => r, F.kb, true, rfl, ?_⟩⟩
  refine ⟨_, hσ, ⟨⟨_, hx⟩, .ty "ValueError", .type "ValueError", true, rfl, fun u r => r, F.kv, true, rfl, ?_⟩⟩
  refine ⟨_, hσ, rfl, rfl, dd, _, v, rfl, hx, rfl, by rw [sizeLine_eq]; show 2 ≤ _; decide, fun p hp => hR p hp⟩
end GX

set_option Elab.async false
set_option linter.all false
set_option maxRecDepth 100000
set_option maxHeartbeats 2000000
namespace GD
open PySem PySem.Spec PyProof.Rows L2 GX
/-! ## 73. faults: statements and methods that may end in an exception with a reason -/
/-- what is wanted where a fault of the class named is raised for a reason -/
abbrev EXC := Str → D → SS → Prop
abbrev XSE := EXC → XS
abbrev XPE := EXC → XP
abbrev XTE := List D → SS → (D → SS → Prop) → EXC → Prop
def ExK (w : Ws) (E : XK) (ι : List Addr) (H : Hp) (Ex : EXC) : Prop := ∀ c r st' ι' C dd H' v, Ex c r st' → Gr ι H ι' H' → SR w ι' st' H' → w.cls c = some C → H' dd = some (.xd [(("reason" : Str), v)]) → Rep ι' H' v r → dd ∉ ι' → E (.ref C) (some dd) H'
theorem ExK.gr {w : Ws} {E : XK} {ι ι1 : List Addr} {H H1 : Hp} {Ex : EXC} (e : ExK w E ι H Ex) (g : Gr ι H ι1 H1) : ExK w E ι1 H1 Ex := fun c r st' ι' C dd H' v h k s hc hd hr hn => e c r st' ι' C dd H' v h (g.trans k) s hc hd hr hn
theorem ExK.mo {w : Ws} {E : XK} {ι : List Addr} {H : Hp} {Ex Ex' : EXC} (e : ExK w E ι H Ex) (q : ∀ c r st, Ex' c r st → Ex c r st) : ExK w E ι H Ex' := fun c r st' ι' C dd H' v h k s hc hd hr hn => e c r st' ι' C dd H' v (q _ _ _ h) k s hc hd hr hn
def allK (W : WX) : XK := fun cls d H' => ∀ σ', W cls d σ' H'
def tSE (w : Wd) (W : WX) (t : XSE) : TS := fun E σ H => ∃ ι env st D0 Ex, EnvR w ι env σ H ∧ SR w.s ι st H ∧ t Ex D0 env st ∧ EndOk w ι H D0 E ∧ ExK w.s (allK W) ι H Ex
def tXE (w : Wd) (W : WX) (t : XPE) : TE := fun σ H Q => ∃ ι env st R Ex, EnvR w ι env σ H ∧ SR w.s ι st H ∧ t Ex env st R ∧ (∀ d st' ι' v H', R d st' → Gr ι H ι' H' → Rep ι' H' v d → SR w.s ι' st' H' → Q v H') ∧ ExK w.s (allK W) ι H Ex
section
variable {X : Cx} {w : Wd} {W : WX} {pos : Pos} {s : Stmt} {rest : List Stmt} {e : Expr} {es : List Expr}
theorem de_lift {t : XS} (h : PS X s (tS w t)) : PS X s (tSE w W fun _ => t) := PS.mo h fun E σ H ⟨ι, env, st, D0, _, he, hs, ht, hE, _⟩ => ⟨ι, env, st, D0, he, hs, ht, hE⟩
theorem des_lift {ss : List Stmt} {t : XS} (h : PSs X ss (tS w t)) : PSs X ss (tSE w W fun _ => t) := PSs.mo h fun E σ H ⟨ι, env, st, D0, _, he, hs, ht, hE, _⟩ => ⟨ι, env, st, D0, he, hs, ht, hE⟩
def sSeqE (t u : XSE) : XSE := fun Ex => sSeq (t Ex) (u Ex)
def sIfE (m : XB) (t u : XSE) : XSE := fun Ex => sIf m (t Ex) (u Ex)
theorem de_cons {t u : XSE} (h1 : PS X s (tSE w W t)) (h2 : PSs X rest (tSE w W u)) : PSs X (s :: rest) (tSE w W (sSeqE t u)) :=
  PSs.mo (pss_cons h1 h2) fun E σ H ⟨ι, env, st, D0, Ex, he, hs, ht, hE, hX⟩ => ⟨ι, env, st, _, Ex, he, hs, ht, ⟨fun env1 st1 ι1 σ1 H1 h g r s => ⟨ι1, env1, st1, D0, Ex, r, s, h, hE.gr g, hX.gr g⟩, hE.rt, hE.bk, hE.ct⟩, hX⟩
theorem de_one {t : XSE} (h1 : PS X s (tSE w W t)) : PSs X [s] (tSE w W t) := pss_one h1
theorem de_if {m : XB} {c : Expr} {sa sb : List Stmt} {t u : XSE} (hc : PT X c (tXB w m)) (ha : PSs X sa (tSE w W t)) (hb : PSs X sb (tSE w W u)) : PS X (.If c sa sb pos) (tSE w W (sIfE m t u)) :=
  PS.mo (ps_if hc ha hb) fun E σ H ⟨ι, env, st, D0, Ex, he, hs, ht, hE, hX⟩ => ⟨ι, env, st, _, he, hs, ht, fun b st1 ι1 H1 h g s => by
    cases b with
    | true => exact iteT ⟨ι1, env, st1, D0, Ex, he.gr g, s, by simpa using h, hE.gr g, hX.gr g⟩
    | false => exact iteF ⟨ι1, env, st1, D0, Ex, he.gr g, s, by simpa using h, hE.gr g, hX.gr g⟩⟩
/-! ### raise -/
def sRaise (c : Str) (m : XP) : XSE := fun Ex _ env st => xCons m xNil env st fun ds st1 => ∃ d, ds = [d] ∧ Ex c d st1
theorem de_raise {c : Str} {C : Addr} {m : XP} (hc : X.calm = true) (tk : Takes X W) (hC : w.s.cls c = some C) (T : OexC X.K C) (hno : PySem.W.findIn X.K (.ref C) "reason" = some none) (he : PMk X e (tMkO C (spInit X.K) [] (tXA w (xCons m xNil)))) : PS X (.Raise (some e) none pos) (tSE w W (sRaise c m)) :=
  PS.mo (ps_raise hc tk he) fun E σ H ⟨ι, env, st, D0, Ex, he, hs, ht, hE, hX⟩ => by
    refine ⟨ι, env, st, fun ds st1 => ∃ d, ds = [d] ∧ Ex c d st1, he, hs, ht, fun ds st1 ι1 vs H1 ⟨d, ed, hd⟩ g1 r1 s1 => ?_⟩
    · subst ed
      cases r1 with
      | cons r2 r3 =>
        cases r3
        rename_i v
        refine ⟨by show 1 ≤ 1000; decide, fun a ha => ⟨a, C, v, rfl, T, hno, upd_same, fun dx n ne => ⟨rfl, dx, [("reason", v)], upd_same, ?_, ?_, ?_⟩⟩⟩
        · rw [upd_ne ne, upd_same]
        · rw [upd_ne ne] at n
          exact n
        · have n' : H1 dx = none := by rw [upd_ne ne] at n; exact n
          have eH : upd (del (upd (upd (upd H1 a (exo a C none)) dx (exd dx [("reason", v)])) a (exo a C (some dx))) a) dx (.xd [("reason", v)]) = upd H1 dx (.xd [("reason", v)]) := by
            funext b
            by_cases hb : b = dx
            · rw [hb, upd_same, upd_same]
            · rw [upd_ne hb, upd_ne hb]
              by_cases hb2 : b = a
              · rw [hb2, del_same, ha]
              · rw [del_ne hb2, upd_ne hb2, upd_ne hb, upd_ne hb2]
          rw [eH]
          have kp : Kp ι1 H1 (upd H1 dx (.xd [("reason", v)])) := Kp.new n'
          have := hX c d st1 ι1 C dx (upd H1 dx (.xd [("reason", v)])) v hd (g1.trans (.of kp)) (s1.new n' (fun _ z => by cases z) (nin_of s1 n')) hC upd_same (r2.kp kp) (nin_of s1 n')
          exact this σ
/-! ### methods -/
def spE (w : Ws) (T : XTE) : Sp := fun vs H Q E => ∃ ι st ds R Ex, Reps ι H vs ds ∧ SR w ι st H ∧ T ds st R Ex ∧ (∀ d st' ι' v H', R d st' → Gr ι H ι' H' → Rep ι' H' v d → SR w ι' st' H' → Q v H') ∧ ExK w E ι H Ex
def fnTE (N : List Str) (n : Nat) (t : XSE) : XTE := fun ds st R Ex => ds.length = n ∧ t Ex { nx := fun _ st' => R .non st', rt := R } (startE N ds) st
structure MethE (P : Program) (wl : World) (w : Ws) (mg : Str → Option Value) (k : Nat) (cn x : Str) (T : XTE) : Prop where
  ex : ∃ (C f : Addr) (fd : FuncData) (ps : List Str), FnOk P wl w.K mg w.base (L2.CX P wl) k f fd ps (spE w T) ∧ w.cls cn = some C ∧ Cls w.K C ∧ Meth w.K C x f ∧ Binds w.K fd ps []
theorem MethE.imp {P : Program} {wl : World} {w : Ws} {mg : Str → Option Value} {k : Nat} {cn x : Str} {T T' : XTE} (c : MethE P wl w mg k cn x T) (h : ∀ ds st R Ex, T' ds st R Ex → T ds st R Ex) : MethE P wl w mg k cn x T' := by
  obtain ⟨C, f, fd, ps, hF, h1, h2, h3, h4⟩ := c.ex
  exact ⟨C, f, fd, ps, hF.imp fun vs H Q E ⟨ι, st, ds, R, Ex, r, s, ht, q⟩ => ⟨ι, st, ds, R, Ex, r, s, h _ _ _ _ ht, q⟩, h1, h2, h3, h4⟩
theorem MethE.mono {P : Program} {wl : World} {w : Ws} {mg : Str → Option Value} {j k : Nat} {cn x : Str} {T : XTE} (c : MethE P wl w mg j cn x T) (h : j ≤ k) : MethE P wl w mg k cn x T := by
  obtain ⟨C, f, fd, ps, hF, r⟩ := c.ex
  exact ⟨C, f, fd, ps, hF.mono h, r⟩
/-- the body of a method that may end in a fault -/
theorem DefM.xe {P : Program} {wl : World} {w : Ws} {mg : Str → Option Value} {cn x q : Str} {st : Stmt} {N ps : List Str} {k : Nat} {t : XSE} {gn : Bool} (F : DefM w cn x q st gn) (S : FnScope N ps (defScope st))
    (hb : ∀ (kV doc pm : Value) (an : Option Addr) (cdv ct : Value) (us : List Value), us.length = ps.length → bindArgs (PySem.W.fnOf x q (defArgs st) (defBody st) (defScope st) .none kV doc pm an cdv ct) ⟨us, []⟩ = pure (ps.zip us))
    (hbody : ∀ (f c : Addr) (A : Around) (outer : List Env) (s : Shared) (H : Hp) (E : XK) (X : Cx), X = cxOf (L2.CX P wl) P wl w.K mg w.base N q (defScope st) f (.ref c) A outer s H E → Room k X.A → Fit X ⟨w, c, [], [], [], gn⟩ → Takes X (fun cls d _ H => E cls d H) →
      PSs X (defBody st) (tSE ⟨w, c, [], [], [], gn⟩ (fun cls d _ H => E cls d H) t)) : MethE P wl w mg (k + 1) cn x (fnTE N ps.length t) := by
  obtain ⟨C, f, c, fd, ⟨oc, od, kV, doc, pm, an, ct, osl, rfl, lk, hcd⟩, hC, hcl, hM, hT⟩ := F.ex
  refine ⟨C, f, _, ps, fn_of lk hcd S (fun vs H Q E ⟨ι, st, ds, R, Ex, r, s, h, q⟩ => by rw [r.length]; exact h.1) fun A outer s H vs Q E hr ⟨ι, st, ds, R, Ex, r, s', h, q, hX⟩ => ⟨_, hbody f c A outer s H E _ rfl hr ⟨rfl, rfl, rfl⟩ (takes_of rfl rfl rfl rfl), ?_⟩, hC, hcl, hM, .all (hb kV doc pm an (.ref c) ct)⟩
  exact ⟨ι, startE N ds, st, _, Ex, start_env r N (fun hg => let ⟨Pt, ht, hh⟩ := hT hg; ⟨Pt, .inl hh, s'.tab _ ht⟩), s', h.2, ⟨fun env st' ι' σ H' h g r s => q .non st' ι' .non H' h g .non s, fun d st' ι' v H' h g r s => q d st' ι' v H' h g r s, fun _ _ _ _ _ h _ _ _ => h.elim, fun _ _ _ _ _ h _ _ _ => h.elim⟩, fun c r st' ι' C dd H' v h k s hc hd hr hn σ' => hX c r st' ι' C dd H' v h k s hc hd hr hn⟩
section
variable {o : Expr} {m cn : Str} {apos : Pos} {mo : MP} {k : Nat}
end
end
end GD

set_option Elab.async false
set_option linter.all false
set_option maxRecDepth 100000
set_option maxHeartbeats 2000000
namespace GD
open PySem PySem.Spec PyProof.Rows L2 GX
/-! ## 74. try: .. except X as e: the reason is told -/
def guardW (n : Nat) (W : WX) : WX := fun cls d σ H => σ.length = n → W cls d σ H
theorem takes_guard {X : Cx} {W : WX} (tk : Takes X W) : Takes X (guardW X.N.length W) := fun u s' ⟨a, B, sI, pins, σ, H, cls, d, e, I, h1, h2, h3, h4, h5, h6, h7⟩ => tk u s' ⟨a, B, sI, pins, σ, H, cls, d, e, I, h1, h2, h3, h4, h5, h6, h7 I.len⟩
def sTry (c : Str) (t : XSE) : XS := fun D0 env st => t (fun c' r st' => c' = c ∧ D0.rt (.tup [.str "fault", r]) st') D0 env st
section
variable {X : Cx} {w : Wd} {x n : Str} {C : Addr} {i : Nat} {body suite : List Stmt} {b₀ : Stmt} {np pos pos' : Pos} {t : XSE}
theorem ds_try (hs : X.stack = X.env :: X.outer) (hf : X.env.frame = some X.env.locals) (hN : X.N.Nodup) (hi : X.N[i]? = some n) (hln : X.env.kindOf n = some .local) (hc : Names X x (.ref C)) (hC : w.s.cls x = some C) (hm : PySem.W.exmOne X.K (.ref C) (.ref C) = some true)
    (hb : ∀ (W : WX) (pn : List (Addr × Obj)) (xe : Value → Shared → Prop), Takes (X.tr pn xe) W → PSs (X.tr pn xe) body (tSE w W t))
    (hsu : ∀ (a : Addr) (oe : Obj) (cls : Value) (d : Option Addr) (pn : List (Addr × Obj)), Zc cls d oe → (∃ vs, oe.data = .fields vs) → PSs (X.suite a ((a, oe) :: pn)) (b₀ :: suite) (tFault i a C cls d)) :
    PS X (.Try body [.ExceptHandler (some (.Name x np)) (some n) (b₀ :: suite) pos'] [] [] pos) (tS w (sTry x t)) := by
  refine PS.mo (ps_try_as (tb := fun W => tSE w (guardW X.N.length W) t) (Wout := fun _ _ _ _ => False) hs hf hN hi hln hc (fun _ _ ⟨_, _, _, _, _, _, _, _, _, _, _, _, _, _, _, _, w⟩ => w.elim) (fun W pn xe tk _ => hb _ pn xe (takes_guard (X := X.tr pn xe) tk)) hsu) fun E σ H ⟨ι, env, st, D0, he, hst, ht, hE⟩ => ?_
  refine ⟨ι, env, st, D0, _, he, hst, ht, hE, fun c r st' ι' C' dd H' v h g s hc' hd hr hn σ' hl => ?_⟩
  obtain ⟨ec, hrt⟩ := h
  subst ec
  rw [hC] at hc'
  cases hc'
  refine ⟨true, hm, fun _ a ha => ⟨⟨rfl, dd, rfl⟩, dd, v, rfl, ?_, hd, fun p hp => ?_⟩, fun z => by cases z⟩
  · exact List.getElem?_set_self (by rw [hl]; exact (List.getElem?_eq_some_iff.mp hi).1)
  · exact hE.rt _ st' ι' _ _ hrt (g.trans (.of (Kp.new hp))) (.tup upd_same (by rw [sizeLine_eq]; show 2 ≤ _; decide) (.cons (.str _) (.cons (hr.kp (Kp.new hp)) .nil))) (s.new hp (fun _ z => by cases z) (nin_of s hp))
end
end GD

set_option Elab.async false
set_option linter.all false
set_option maxRecDepth 100000
set_option maxHeartbeats 2000000
namespace GD
open PySem PySem.Spec PyProof.Rows L2 GX
/-! ## 75. what the text's own faults promise -/
structure FltD (P : Program) (wl : World) (w : Ws) (mg : Str → Option Value) (k : Nat) (cn bn : Str) : Prop where
  ex : ∃ (C B fI : Addr) (fd : FuncData), FnOk P wl w.K mg w.base CX0 k fI fd [("self" : Str), ("reason" : Str)] (spInit w.K) ∧ Binds w.K fd [("self" : Str), ("reason" : Str)] [] ∧ w.cls cn = some C ∧ mg cn = some (.ref C) ∧ mg bn = some (.ref B) ∧ OexC w.K C ∧ FltC w.K C B ∧
    PySem.W.findIn w.K (.ref C) "__init__" = some (some (.ref fI)) ∧ PySem.W.typeIn w.K (.ref fI) = some (.type "function") ∧ PySem.W.exmOne w.K (.ref C) (.ref C) = some true
theorem FltD.mono {P : Program} {wl : World} {w : Ws} {mg : Str → Option Value} {j k : Nat} {cn bn : Str} (c : FltD P wl w mg j cn bn) (h : j ≤ k) : FltD P wl w mg k cn bn := by
  obtain ⟨C, B, fI, fd, F, r⟩ := c.ex
  exact ⟨C, B, fI, fd, F.mono h, r⟩
theorem psNox {X : Cx} {s : Stmt} {t : TS} (h : PS X.nox s t) : PS X s t := ⟨fun pins s σ H D I hw => wpAny_mono (h.run pins s σ H D (I.wish _) hw) (fun _ _ q => q.unwish) fun _ _ z => False.elim z⟩
theorem fit_nox {X : Cx} {w : Wd} (hf : Fit X w) : Fit X.nox w := ⟨hf.k, hf.b, hf.c⟩
theorem fit_tr {X : Cx} {w : Wd} {pn : List (Addr × Obj)} {xe : Value → Shared → Prop} (hf : Fit X w) : Fit (X.tr pn xe) w := ⟨hf.k, hf.b, hf.c⟩
section
variable {X : Cx} {w : Wd} {W : WX} {p q pos : Pos} {e : Expr} {cn bn : Str} {k : Nat} {m : XP}
/-- raise X(reason) -/
theorem de_raiseF (hf : Fit X w) (F : FltD X.prog X.w w.s X.mg k cn bn) (hr : Room (k + 1) X.A) (hc : X.calm = true) (tk : Takes X W) (hg : Gl X cn) (he : PE X e (tX w m)) (hdb : (cn == ("__debug__" : Str)) = false := by decide) (hst : starEach [e] X.env = (false, eval e X.env) :: starEach [] X.env := by rfl) (hpl : (backTo q (starEach [] X.env)).any (·.1) = false := by rfl) :
    PS X (.Raise (some (.Call (.Name cn p) [e] [] q)) none pos) (tSE w W (sRaise cn m)) := by
  obtain ⟨C, B, fI, fd, hF, hb, hC, hm, _, T, FC, iC, tI, _⟩ := F.ex
  rw [← hf.k, ← hf.b] at hF
  rw [← hf.k] at hb T FC iC tI
  exact de_raise hc tk hC T FC.no (pmk_oex T iC tI hF hr hb .nil pass0 hg hm (dxa_cons he dxa_nil hst) hdb hst hpl)
theorem ds_tryF {n : Str} {i : Nat} {body : List Stmt} {np pos' q1 q2 q3 q4 q5 q6 q7 q8 q9 q10 q11 q12 q13 q14 q15 q16 q17 q18 q19 q20 q21 : Pos} {j1 j2 j3 x1 x2 : Nat} {t : XSE} (hf : Fit X w) (F : FltD X.prog X.w w.s X.mg k cn bn) (hN : X.N.Nodup) (gx : Gl X cn) (gi : Gl X "isinstance") (mi : X.mg "isinstance" = none) (gA : Gl X bn) (gV : Gl X "ValueError") (mV : X.mg "ValueError" = none)
    (hb : ∀ (W : WX) (pn : List (Addr × Obj)) (xe : Value → Shared → Prop), Takes (X.tr pn xe) W → PSs (X.tr pn xe) body (tSE w W t))
    (hi : X.N[i]? = some n := by rfl) (hln : X.env.kindOf n = some .local := by rfl) (hv : Vis X.env.scope n := by exact Or.inl rfl) (hs : X.stack = X.env :: X.outer := by rfl) (hfr : X.env.frame = some X.env.locals := by rfl) (hd1 : (n == ("__debug__" : Str)) = false := by decide) (hd2 : (n == ("__classdict__" : Str)) = false := by decide) (dx : (cn == ("__debug__" : Str)) = false := by decide) (dA : (bn == ("__debug__" : Str)) = false := by decide)
    (sA : starEach [.Name n q2, .Name bn q3] X.env = (false, eval (.Name n q2) X.env) :: starEach [.Name bn q3] X.env := by rfl) (sA2 : starEach [.Name bn q3] X.env = (false, eval (.Name bn q3) X.env) :: starEach [] X.env := by rfl) (pA : (backTo q4 (starEach [.Name bn q3] X.env)).any (·.1) = false := by rfl)
    (sV : starEach [.Name n q7, .Name "ValueError" q8] X.env = (false, eval (.Name n q7) X.env) :: starEach [.Name "ValueError" q8] X.env := by rfl) (sV2 : starEach [.Name "ValueError" q8] X.env = (false, eval (.Name "ValueError" q8) X.env) :: starEach [] X.env := by rfl) (pV : (backTo q9 (starEach [.Name "ValueError" q8] X.env)).any (·.1) = false := by rfl)
    (hat : attributeBase (.Name n q18) "reason" X.env (eval (.Name n q18) X.env) = eval (.Name n q18) X.env := by rfl) :
    PS X (.Try body [.ExceptHandler (some (.Name cn np)) (some n) [oddIf n bn q1 q2 q3 q4 q5 q6 q7 q8 q9 q10 q11 q12 q13 q14 q15 q16 j1 j2 x1, tellRet n q17 q18 q19 q20 q21 j3 x2] pos'] [] [] pos) (tS w (sTry cn t)) := by
  obtain ⟨C, B, fI, fd, hF, hbd, hC, hm, hmB, T, FC, iC, tI, ex⟩ := F.ex
  rw [← hf.k] at FC ex
  exact ds_try hs hfr hN hi hln ⟨gx, dx, .inl hm⟩ hC ex hb fun a oe cls d pn hz hfd => suite_ok FC hi hv hd1 hd2 gi mi gA hmB dA gV mV sA sA2 pA sV sV2 pV hat hz hfd
end
end GD

set_option Elab.async false
set_option linter.all false
set_option maxRecDepth 100000
set_option maxHeartbeats 2000000
namespace GD
open PySem PySem.Spec PyProof.Rows L2 GX
/-! ## 76. a fault's class, from what the machine has laid -/
end GD

set_option Elab.async false
set_option linter.all false
set_option maxRecDepth 100000
set_option maxHeartbeats 2000000
namespace GD
open PySem PySem.Spec PyProof.Rows L2 GX
/-! ## 77. a fault's class, asked of the machine's part as one truth value -/
def foIn (K : PySem.W.Frag) (C : Addr) : Bool := match K.lookup C with
  | some ⟨.type "type", _, .cls cd, sl⟩ => (match cd.mro, sl.toList with
    | .ref D :: bm, [_, _, _, _, some (.builtin n), _] => D == C && (n == "ValueError.__new__" && (!cd.hasDel && (cd.hasDict && PySem.HandSPX.refsVE bm)))
    | _, _ => false)
  | _ => false
theorem fo_of {K : PySem.W.Frag} {C : Addr} (q : foIn K C = true) : ∃ nm q N bs bm sn sub ab col dd k0 k1 k2 k3 k5, K.lookup C = some (excClassObj nm q C N bs bm true sn sub ab col dd k0 k1 k2 k3 k5 "ValueError.__new__") ∧ PySem.HandSPX.refsVE bm = true := by
  unfold foIn at q
  split at q
  · rename_i dd cd sl ho
    split at q
    · rename_i D bm k0 k1 k2 k3 n k5 hm hs
      simp only [Bool.and_eq_true, beq_iff_eq, Bool.not_eq_true'] at q
      obtain ⟨rfl, rfl, hdel, hdc, ht⟩ := q
      obtain ⟨nm, bs, mro, ns, qn, hd, sn, sub, ab, col, del⟩ := cd
      dsimp only at hm hdel hdc
      subst hm hdel hdc
      have hsl : sl = #[k0, k1, k2, k3, some (.builtin "ValueError.__new__"), k5] := by
        obtain ⟨l⟩ := sl
        simp only at hs
        rw [hs]
      subst hsl
      exact ⟨nm, qn, ns, bs, bm, sn, sub, ab, col, dd, k0, k1, k2, k3, k5, ho, ht⟩
    · cases q
  · cases q
section
variable {X : Cx} {w : Wd} {W : WX} {pos apos : Pos} {o : Expr} {m cn : Str} {mo : MP} {k : Nat}
end
end GD

set_option Elab.async false
set_option linter.all false
set_option maxRecDepth 100000
set_option maxHeartbeats 2000000
namespace GX
open PySem PySem.Spec PyProof.Rows L2
/-! ## 18. faults with two fields: a line and a reason -/
def spInit2 (K : PySem.W.Frag) : Sp := fun vs H Q _ => ∃ (a C : Addr) (l r : V), vs = [.ref a, l, r] ∧ OexC K C ∧ PySem.W.findIn K (.ref C) "line" = some none ∧ PySem.W.findIn K (.ref C) "reason" = some none ∧ H a = some (exo a C none) ∧ ∀ dx, H dx = none → dx ≠ a → Q .non (upd (upd (upd H dx (exd dx [("line", l)])) a (exo a C (some dx))) dx (exd dx [("reason", r), ("line", l)]))
theorem init_fn2 {P : Program} {wl : World} {K : PySem.W.Frag} {mg : Str → Option Value} {base : Heap} {k : Nat} {f : Addr} {qual : Str} {params : Arguments} {scope : Scope} {dV kV doc pm cdv ct oc mc : Value} {an od : Option Addr} {osl : Array (Option Value)} {bn : Str} {B : Addr}
    {p1 p2 p3 p4 p5 p6 p7 p8 p9 p10 pa pb pc pd : Pos} (lk : K.lookup f = some ⟨oc, od, .func (PySem.W.fnOf "__init__" qual params [.Expr (.Call (.Attribute (.Name bn p1) "__init__" p2) [.Name "self" p3, .Name "reason" p4] [] pa) pb, .Assign [.Attribute (.Name "self" p5) "line" p6] (.Name "line" p7) pc, .Assign [.Attribute (.Name "self" p8) "reason" p9] (.Name "reason" p10) pd] scope dV kV doc pm an cdv ct), osl⟩) (hcd : PySem.W.codeIn K cdv qual = true) (S : FnScope [("self" : Str), ("line" : Str), ("reason" : Str)] [("self" : Str), ("line" : Str), ("reason" : Str)] scope)
    (v0 : Vis scope "self") (v1 : Vis scope "line") (v2 : Vis scope "reason") (hg : ∀ X : Cx, X.env.scope = scope → Gl X bn) (hm : mg bn = some (.ref B)) (r : ClX.CRead K B mc) (at_ : PySem.W.findCls K (.ref B) mc "__init__" = some (.val (.builtin "ValueError.__init__"))) (hbn : (bn == ("__debug__" : Str)) = false) (hln : ∀ env : Env, swapsWith (.Call (.Attribute (.Name bn p1) "__init__" p2) [.Name "self" p3, .Name "reason" p4] [] pa) none pb.line env = pure false)
    (hls : ∀ env : Env, swapsWith (.Name "line" p7) (some (.Attribute (.Name "self" p5) "line" p6)) pc.line env = pure false)
    (hls2 : ∀ env : Env, swapsWith (.Name "reason" p10) (some (.Attribute (.Name "self" p8) "reason" p9)) pd.line env = pure false)
    (hc : ∀ env : Env, ∃ pl, eval (.Call (.Attribute (.Name bn p1) "__init__" p2) [.Name "self" p3, .Name "reason" p4] [] pa) env = (do let ov ← eval (.Name bn p1) env; standAt p2.atName; let (f, first) ← holding [ov] (getMethod ov "__init__" pl); callWith pa f first (backTo pa (starEach [.Name "self" p3, .Name "reason" p4] env)) (backToKw pa (keywordEach [] env)))) :
    FnOk P wl K mg base CX0 (k + 1) f (PySem.W.fnOf "__init__" qual params [.Expr (.Call (.Attribute (.Name bn p1) "__init__" p2) [.Name "self" p3, .Name "reason" p4] [] pa) pb, .Assign [.Attribute (.Name "self" p5) "line" p6] (.Name "line" p7) pc, .Assign [.Attribute (.Name "self" p8) "reason" p9] (.Name "reason" p10) pd] scope dV kV doc pm an cdv ct) [("self" : Str), ("line" : Str), ("reason" : Str)] (spInit2 K) := by
  refine fn_of lk hcd S (fun vs H Q E ⟨a, C, l, r, e, _⟩ => by rw [e]; rfl) fun A outer s H vs Q E hr ⟨a, C, lv, rv, e, T, hnl, hno, ha, hQ⟩ => ?_
  subst e
  generalize hX : cxOf CX0 P wl K mg base [("self" : Str), ("line" : Str), ("reason" : Str)] qual scope f cdv A outer s H E = X
  have xs : X.env.scope = scope := by subst hX; rfl
  have xN : X.N = [("self" : Str), ("line" : Str), ("reason" : Str)] := by subst hX; rfl
  have xK : X.K = K := by subst hX; rfl
  have xm : X.mg = mg := by subst hX; rfl
  have s0 : ∀ p, PE X (.Name "self" p) (tVar 0) := fun p => pe_var (by rw [xN]; rfl) (by rw [xs]; exact v0)
  have s1 : ∀ p, PE X (.Name "line" p) (tVar 1) := fun p => pe_var (by rw [xN]; rfl) (by rw [xs]; exact v1)
  have s2 : ∀ p, PE X (.Name "reason" p) (tVar 2) := fun p => pe_var (by rw [xN]; rfl) (by rw [xs]; exact v2)
  obtain ⟨pl, hcx⟩ := hc X.env
  have c1 := pe_cinit (X := X) (pl := pl) (p1 := p1) (p2 := p2) (pos := pa) (x := bn) (hg X xs) (by rw [xm]; exact hm) (by rw [xK]; exact r) (by rw [xK]; exact at_) (pa_cons (s0 p3) (pa_cons (s2 p4) pa_nil)) hbn hcx
  refine ⟨_, pss_cons (ps_expr c1 (hln _)) (pss_cons (ps_ost (s0 p5) (s1 p7) (hls _)) (pss_one (ps_ost (s0 p8) (s2 p10) (hls2 _)))), ?_⟩
  refine ⟨_, rfl, _, rfl, a, C, [rv], rfl, by show 1 ≤ 1000; decide, by rw [xK]; exact T, ha, ?_⟩
  refine ⟨_, rfl, _, rfl, a, C, rfl, by rw [xK]; exact T, by rw [xK]; exact hnl, .inl ⟨ha, fun dx n ne => ?_⟩⟩
  refine ⟨_, rfl, _, rfl, a, C, rfl, by rw [xK]; exact T, by rw [xK]; exact hno, .inr ⟨dx, [("line", lv)], upd_same, ?_, by show 1 ≤ 900; decide, hQ dx n ne⟩⟩
  rw [upd_ne ne, upd_same]
/-! ### a call whose fault keeps the frame's slots -/
def tCallW (sp : Sp) (W : WX) (t : TA) : TE := fun σ H Q => t σ H fun xs H1 => sp xs H1 Q fun cls d H' => W cls d σ H'
theorem run_fnW {X : Cx} {k : Nat} {f : Addr} {fd : FuncData} {ps : List Str} {sp : Sp} {W : WX} {pins : List (Addr × Obj)} {σ : L2.St} {H : Hp} {s : Shared} {Q : VK} {us : List Value} {vs : List V} (F : FnOk X.prog X.w X.K X.mg X.base (L2N.CX X.prog X.w) k f fd ps sp) (hr : Room k X.A) (hb : Binds X.K fd ps []) (tk : L2N.Takes X W)
    (I : Inv X pins σ H s) (r : Vals vs us) (h : sp vs H Q fun cls d H' => W cls d σ H') : wpAny (model X.prog X.w) X.A (call (.ref f) us) (EP X pins σ Q) X.xe s := by
  have hl : (us ++ []).length = ps.length := by rw [List.append_nil, ← r.length]; exact F.len _ _ _ _ h
  have r2 : Vals vs (us ++ []) := by rw [List.append_nil]; exact r
  refine wpAny_call (codeAny_mono (F.run X.A X.stack s H ⟨us, []⟩ (us ++ []) vs Q _ hr I.env0 (hb s us I.kIn hl) r2 h) fun r s' hq => ?_)
  cases r with
  | error e => exact tk _ _ (L2N.XE.of_call I (fun cls d H' h => h) hq)
  | ok fl =>
    cases fl with
    | ret u => exact I.after hq
    | next => exact False.elim hq
    | brk => exact False.elim hq
    | cont => exact False.elim hq
theorem pe_callW {X : Cx} {k : Nat} {f : Addr} {fd : FuncData} {ps : List Str} {sp : Sp} {W : WX} {x : Str} {p pos : Pos} {e : Expr} {es : List Expr} {t : TA} (F : FnOk X.prog X.w X.K X.mg X.base (L2N.CX X.prog X.w) k f fd ps sp) (hr : Room k X.A) (hg : Gl X x) (hm : X.mg x = some (.ref f)) (hk : PySem.W.keepIn X.K (.ref f) = true) (hb : Binds X.K fd ps []) (tk : L2N.Takes X W)
    (ha : PA X (e :: es) t) (hdb : (x == ("__debug__" : Str)) = false := by decide) (he : starEach (e :: es) X.env = (false, eval e X.env) :: starEach es X.env := by rfl) (hpl : (backTo pos (starEach es X.env)).any (·.1) = false := by rfl) :
    PE X (.Call (.Name x p) (e :: es) [] pos) (tCallW sp W t) := by
  refine ⟨fun pins s σ H Q I h => ?_⟩
  refine wpAny_Call_Name_kw (ld_glob I hg hm ?_ hdb)
  refine PySem.W.callWith_K (h₀ := X.base) I.ok.mod.kin hk (thn (ha.run pos pins s σ H _ I h) fun us s1 ⟨vs, H1, I1, r, q⟩ => ⟨I1.kIn, ?_⟩) he hpl
  exact run_fnW F hr hb tk I1 r q
/-! ### C(e, ..), its context None -/
theorem pmk_N {X : Cx} {CX : CXT} {x : Str} {e : Expr} {es : List Expr} {ta : TA} {p pos : Pos} {C fI : Addr} {k : Nat} {fd : FuncData} {ps : List Str} {sp : Sp} (T : OexC X.K C) (iC : PySem.W.findIn X.K (.ref C) "__init__" = some (some (.ref fI))) (tI : PySem.W.typeIn X.K (.ref fI) = some (.type "function"))
    (F1 : FnOk X.prog X.w X.K X.mg X.base CX k fI fd ps sp) (hr : Room (k + 1) X.A) (hb : Binds X.K fd ps []) (hx : Passes CX X (fun _ _ _ => False)) (hg : Gl X x) (hm : X.mg x = some (.ref C)) (ha : PA X (e :: es) ta)
    (hdb : (x == ("__debug__" : Str)) = false := by decide) (he : starEach (e :: es) X.env = (false, eval e X.env) :: starEach es X.env := by rfl) (hpl : (backTo pos (starEach es X.env)).any (·.1) = false := by rfl) :
    L2N.PMk X (.Call (.Name x p) (e :: es) [] pos) (tMkO C sp [] ta) := by
  intro pins s σ H Q I h
  obtain ⟨nm, qn, N, bs, bm, sn, sub, ab, col, dd, k0, k1, k2, k3, k5, hC, hbm⟩ := T.cls
  refine wpAny_Call_Name_kw (ld_glob I hg hm (PySem.W.callWith_K (h₀ := X.base) I.ok.mod.kin T.kC (thn (ha.run pos pins s σ H _ I h) fun us s1 ⟨vs, H1, I1, r1, hz, q1⟩ => ⟨I1.kIn, ?_⟩) he hpl) hdb)
  obtain ⟨G0, gs, dr, tk, os⟩ := s1
  have fresh : H1 (G0.objs.size + 1) = none := I1.hok.fresh (Nat.le_succ G0.objs.size)
  have q2 := q1 (G0.objs.size + 1) fresh
  rw [List.append_nil] at q2
  let G2 : Heap := (G0.push (PySem.W.kdv_tup us)).push (PySem.HandSPX.excO C G0.objs.size)
  have keep : ∀ b o, G0.get? b = some o → G2.get? b = some o := fun b o z => Heap.get?_push_of_some _ (Heap.get?_push_of_some _ z)
  have at1 : G2.get? (G0.objs.size + 1) = some (PySem.HandSPX.excO C G0.objs.size) := by show ((G0.push (PySem.W.kdv_tup us)).push (PySem.HandSPX.excO C G0.objs.size)).get? (G0.objs.size + 1) = _; heap_get
  have J2 : Inv X pins σ (upd H1 (G0.objs.size + 1) (exo (G0.objs.size + 1) C none)) ⟨G2, gs, dr, tk, os⟩ := I1.laid (t' := tk) (a := G0.objs.size + 1) (o := exo (G0.objs.size + 1) C none) (h' := G2) keep (Nat.le_succ _) (exo_ok at1)
  have vals : Vals (V.ref (G0.objs.size + 1) :: vs) (Value.ref (G0.objs.size + 1) :: us) := .cons rfl r1
  have many : (Value.ref (G0.objs.size + 1) :: us ++ []).length = ps.length := by rw [List.append_nil]; exact vals.length.symm.trans (F1.len _ _ _ _ q2)
  have bind := hb _ (Value.ref (G0.objs.size + 1) :: us) J2.kIn many
  rw [List.append_nil] at bind
  have short : us.length ≤ sizeLine := by rw [← Paired.length r1, sizeLine_eq]; omega
  have go := F1.run (X.A.under (.builtin "type.__call__" ⟨.ref C :: us, []⟩)) X.stack ⟨G2, gs, dr, tk, os⟩ _ ⟨Value.ref (G0.objs.size + 1) :: us, []⟩ (Value.ref (G0.objs.size + 1) :: us) _ _ (fun _ _ _ => False) (hr.make C us []) (J2.env0.make C us []) bind vals q2
  show wpAny (model X.prog X.w) X.A (call (.ref C) us) _ _ _
  refine wpAny_call (PySem.HandSPX.call_own F.excBase_ValueError (fun Y => PySem.HandSPX.refsVE_contains Y bm hbm) (I1.kIn _ _ hC) (PySem.W.looks_findIn I1.kIn iC) (fun self => PySem.W.bind_fn I1.kIn self tI) short (codeAny_mono go fun r s' hq => ?_))
  cases r with
  | error er => exact hx pins σ _ _ er s' J2 hq
  | ok fl =>
    cases fl with
    | ret u =>
      obtain ⟨v, H2, osE, bareE, unE, hokE, rv, ev, d, fs, ea, ed, hd1, qq⟩ := hq
      subst ev
      obtain ⟨h2, g2, d2, t2, os'⟩ := s'
      obtain ⟨t0, G, J, kG, ge, hoe, na⟩ := mk_end0 (d2 := d2) (t2 := t2) I1 (Nat.le_succ _) keep unE hokE osE bareE ea ed hd1
      exact ⟨rv, G0.objs.size + 1, _, _, ⟨G, g2, d2, t2, os'⟩, _, .ref C, some d, rfl, J, kG, ge, hoe, ⟨rfl, rfl, fun vs hv => by cases hv; rfl⟩, rfl, rfl, na, rfl, bareE, raises_own T.exC T.tyC, qq⟩
    | next => exact hq.elim
    | brk => exact hq.elim
    | cont => exact hq.elim
end GX

set_option Elab.async false
set_option linter.all false
set_option maxRecDepth 100000
set_option maxHeartbeats 2000000
namespace GE
open PySem PySem.Spec PyProof.Rows L2 GX GD
/-! ## 78. faults with two fields; the frame's slots are kept -/
abbrev EXE := Str → D × D → EV → SS → Prop
abbrev EXC := Str → D × D → SS → Prop
abbrev XSE := EXE → XS
abbrev XPE := EXE → XP
abbrev XTE := List D → SS → (D → SS → Prop) → EXC → Prop
def two (l r : V) : List (Str × V) := [("reason", r), ("line", l)]
def ExK (w : Ws) (E : XK) (ι : List Addr) (H : Hp) (Ex : EXC) : Prop := ∀ c r st' ι' C dd H' v1 v2, Ex c r st' → Gr ι H ι' H' → SR w ι' st' H' → w.cls c = some C → H' dd = some (.xd (two v1 v2)) → Rep ι' H' v1 r.1 → Rep ι' H' v2 r.2 → dd ∉ ι' → E (.ref C) (some dd) H'
theorem ExK.gr {w : Ws} {E : XK} {ι ι1 : List Addr} {H H1 : Hp} {Ex : EXC} (e : ExK w E ι H Ex) (g : Gr ι H ι1 H1) : ExK w E ι1 H1 Ex := fun c r st' ι' C dd H' v1 v2 h k s hc hd h1 h2 hn => e c r st' ι' C dd H' v1 v2 h (g.trans k) s hc hd h1 h2 hn
def ExW (w : Wd) (W : WX) (ι : List Addr) (H : Hp) (Ex : EXE) : Prop := ∀ c r env st' ι' σ' C dd H' v1 v2, Ex c r env st' → Gr ι H ι' H' → EnvR w ι' env σ' H' → SR w.s ι' st' H' → w.s.cls c = some C → H' dd = some (.xd (two v1 v2)) → Rep ι' H' v1 r.1 → Rep ι' H' v2 r.2 → dd ∉ ι' → W (.ref C) (some dd) σ' H'
theorem ExW.gr {w : Wd} {W : WX} {ι ι1 : List Addr} {H H1 : Hp} {Ex : EXE} (e : ExW w W ι H Ex) (g : Gr ι H ι1 H1) : ExW w W ι1 H1 Ex := fun c r env st' ι' σ' C dd H' v1 v2 h k er s hc hd h1 h2 hn => e c r env st' ι' σ' C dd H' v1 v2 h (g.trans k) er s hc hd h1 h2 hn
def tSE (w : Wd) (W : WX) (t : XSE) : TS := fun E σ H => ∃ ι env st D0 Ex, EnvR w ι env σ H ∧ SR w.s ι st H ∧ t Ex D0 env st ∧ EndOk w ι H D0 E ∧ ExW w W ι H Ex
def tXE (w : Wd) (W : WX) (t : XPE) : TE := fun σ H Q => ∃ ι env st R Ex, EnvR w ι env σ H ∧ SR w.s ι st H ∧ t Ex env st R ∧ (∀ d st' ι' v H', R d st' → Gr ι H ι' H' → Rep ι' H' v d → SR w.s ι' st' H' → Q v H') ∧ ExW w W ι H Ex
section
variable {X : Cx} {w : Wd} {W : WX} {pos : Pos} {s : Stmt} {rest : List Stmt} {e : Expr} {es : List Expr}
theorem de_lift {t : XS} (h : PS X s (tS w t)) : PS X s (tSE w W fun _ => t) := PS.mo h fun E σ H ⟨ι, env, st, D0, _, he, hs, ht, hE, _⟩ => ⟨ι, env, st, D0, he, hs, ht, hE⟩
theorem des_lift {ss : List Stmt} {t : XS} (h : PSs X ss (tS w t)) : PSs X ss (tSE w W fun _ => t) := PSs.mo h fun E σ H ⟨ι, env, st, D0, _, he, hs, ht, hE, _⟩ => ⟨ι, env, st, D0, he, hs, ht, hE⟩
def sSeqE (t u : XSE) : XSE := fun Ex => sSeq (t Ex) (u Ex)
def sIfE (m : XB) (t u : XSE) : XSE := fun Ex => sIf m (t Ex) (u Ex)
def sForE (mi : XI) (t : MT) (u : XSE) : XSE := fun Ex => sFor mi t (u Ex)
def sSetE (m : XPE) (i : Nat) : XSE := fun Ex D0 env st => m Ex env st fun d st1 => D0.nx (env.set i (some d)) st1
theorem de_cons {t u : XSE} (h1 : PS X s (tSE w W t)) (h2 : PSs X rest (tSE w W u)) : PSs X (s :: rest) (tSE w W (sSeqE t u)) :=
  PSs.mo (pss_cons h1 h2) fun E σ H ⟨ι, env, st, D0, Ex, he, hs, ht, hE, hX⟩ => ⟨ι, env, st, _, Ex, he, hs, ht, ⟨fun env1 st1 ι1 σ1 H1 h g r s => ⟨ι1, env1, st1, D0, Ex, r, s, h, hE.gr g, hX.gr g⟩, hE.rt, hE.bk, hE.ct⟩, hX⟩
theorem de_one {t : XSE} (h1 : PS X s (tSE w W t)) : PSs X [s] (tSE w W t) := pss_one h1
theorem de_if {m : XB} {c : Expr} {sa sb : List Stmt} {t u : XSE} (hc : PT X c (tXB w m)) (ha : PSs X sa (tSE w W t)) (hb : PSs X sb (tSE w W u)) : PS X (.If c sa sb pos) (tSE w W (sIfE m t u)) :=
  PS.mo (ps_if hc ha hb) fun E σ H ⟨ι, env, st, D0, Ex, he, hs, ht, hE, hX⟩ => ⟨ι, env, st, _, he, hs, ht, fun b st1 ι1 H1 h g s => by
    cases b with
    | true => exact iteT ⟨ι1, env, st1, D0, Ex, he.gr g, s, by simpa using h, hE.gr g, hX.gr g⟩
    | false => exact iteF ⟨ι1, env, st1, D0, Ex, he.gr g, s, by simpa using h, hE.gr g, hX.gr g⟩⟩
theorem de_set {m : XPE} {i : Nat} {x : Str} {pos' : Pos} (hN : X.N.Nodup) (hi : X.N[i]? = some x) (hx : Loc X.env.scope x) (he : PE X e (tXE w W m)) (hs : swapsWith e (some (.Name x pos')) pos.line X.env = pure false := by rfl) (hf : X.fn x = true ∨ X.env.scope.names.lookup x = some .local := by first | exact .inl rfl | exact .inr rfl | assumption) (hfx : ∀ p ∈ w.fx, p.1 ≠ i := by intro _ h; cases h) :
    PS X (.Assign [.Name x pos'] e pos) (tSE w W (sSetE m i)) :=
  PS.mo (ps_set hN hi hx he hs hf) fun E σ H ⟨ι, env, st, D0, Ex, he, hs, hm, hE, hX⟩ => ⟨ι, env, st, _, Ex, he, hs, hm, fun d st1 ι1 v H1 h2 g1 r1 s1 => hE.nx _ st1 ι1 _ H1 h2 g1 ((he.gr g1).set i r1 hfx) s1, hX⟩
theorem de_for {mi : XI} {tgt : MT} {g : TG} {own : List Nat} {tg iter : Expr} {body : List Stmt} {t : XSE} (hp : PassesOwn (model X.prog X.w) X.A X.env X.xe) (hc : X.calm = true) (ht : GT w own g tgt) (hi : PI X tg iter (tXI w mi)) (hg : PG X tg g) (hb : PSs X body (tSE w W t))
    (hs : ∀ x, foldedSetIterable iter X.env x = pure x := by intro _; rfl) : PS X (.For tg iter body [] pos) (tSE w W (sForE mi tgt t)) := by
  refine PS.mo (ps_for hp hc hi hg hb hs) fun E σ H ⟨ι, env, st, D0, Ex, he, hs, hm, hE, hX⟩ => ⟨ι, env, st, _, he, hs, hm, fun ds ro st1 ι1 J H1 hgo1 g1 s1 hJ => ?_⟩
  refine ⟨fun i m σ' H' => m = ds.length - i ∧ i ≤ ds.length ∧ ∃ ι2 env2 st2, Gr ι1 H1 ι2 H' ∧ EnvR w ι2 env2 σ' H' ∧ SR w.s ι2 st2 H' ∧ sForGo tgt (t Ex) st1 ro D0 (ds.drop i) env2 st2, ⟨ds.length, rfl, Nat.zero_le _, ι1, env, st1, .refl _, he.gr g1, s1, hgo1⟩, ?_⟩
  rintro i m σ' H' ⟨rfl, hi, ι2, env2, st2, g2, he2, s2, hgo⟩
  have hH : Hold st1 ro st2 := by
    cases hh : ds.drop i with
    | nil => rw [hh] at hgo; exact hgo.1
    | cons d ds => rw [hh] at hgo; exact hgo.1
  obtain ⟨j1, j2, j3⟩ := hJ.run ι2 st2 H' g2.kp g2.pre hH s2
  by_cases hlt : i < ds.length
  · refine .inr ⟨j1 i hlt, fun σ'' H'' => i + 1 ≤ ds.length ∧ ∃ ι2 env2 st2, Gr ι1 H1 ι2 H'' ∧ EnvR w ι2 env2 σ'' H'' ∧ SR w.s ι2 st2 H'' ∧ sForGo tgt (t Ex) st1 ro D0 (ds.drop (i + 1)) env2 st2, fun σ'' H'' hn => ⟨_, by omega, rfl, hn⟩, fun x H2 hy => ?_⟩
    obtain ⟨d, hd, rd, kk, s3⟩ := j2 i x H2 hlt hy
    obtain ⟨d', hd', hdr⟩ := drop_cons' hlt
    rw [hd] at hd'
    cases hd'
    rw [hdr] at hgo
    obtain ⟨_, env1, ht1, hb1⟩ := hgo
    have g3 : Gr ι2 H' ι2 H2 := .of (.of kk)
    have g23 := g2.trans g3
    refine ht ι2 st2 H2 σ' env2 x d env1 _ (he2.gr g3) s3 rd ht1 fun σ3 he3 _ => ⟨ι2, env1, st2, _, Ex, he3, s3, hb1, ?_, hX.gr (g1.trans g23)⟩
    have hE3 := hE.gr (g1.trans g23)
    exact ⟨fun env4 st4 ι4 σ4 H4 h g r s => ⟨hlt, ι4, env4, st4, g23.trans g, r, s, h⟩, hE3.rt, hE3.nx, fun env4 st4 ι4 σ4 H4 h g r s => ⟨hlt, ι4, env4, st4, g23.trans g, r, s, h⟩⟩
  · have e : i = ds.length := by omega
    subst e
    rw [List.drop_length] at hgo
    exact .inl ⟨j3 _ (Nat.le_refl _), hE.nx env2 st2 ι2 σ' H' hgo.2 (g1.trans g2) he2 s2⟩
/-! ### raise -/
def sRaise (c : Str) (m1 m2 : XP) : XSE := fun Ex _ env st => xCons m1 (xCons m2 xNil) env st fun ds st1 => ∃ d1 d2, ds = [d1, d2] ∧ Ex c (d1, d2) env st1
theorem de_raise {c : Str} {C : Addr} {m1 m2 : XP} (hc : X.calm = true) (tk : L2N.Takes X W) (hC : w.s.cls c = some C) (T : OexC X.K C) (hnl : PySem.W.findIn X.K (.ref C) "line" = some none) (hno : PySem.W.findIn X.K (.ref C) "reason" = some none) (he : L2N.PMk X e (tMkO C (spInit2 X.K) [] (tXA w (xCons m1 (xCons m2 xNil))))) : PS X (.Raise (some e) none pos) (tSE w W (sRaise c m1 m2)) :=
  PS.mo (L2N.ps_raise hc tk he) fun E σ H ⟨ι, env, st, D0, Ex, he, hs, ht, hE, hX⟩ => by
    refine ⟨ι, env, st, fun ds st1 => ∃ d1 d2, ds = [d1, d2] ∧ Ex c (d1, d2) env st1, he, hs, ht, fun ds st1 ι1 vs H1 ⟨d1, d2, ed, hd⟩ g1 r1 s1 => ?_⟩
    · subst ed
      cases r1 with
      | cons r2 r3 =>
        cases r3 with
        | cons r4 r5 =>
        cases r5
        rename_i v u
        refine ⟨by show 2 ≤ 1000; decide, fun a ha => ⟨a, C, v, u, rfl, T, hnl, hno, upd_same, fun dx n ne => ⟨rfl, dx, two v u, ?_, upd_same, ?_, ?_⟩⟩⟩
        · rw [upd_ne (Ne.symm ne), upd_same]
        · rw [upd_ne ne] at n
          exact n
        · have n' : H1 dx = none := by rw [upd_ne ne] at n; exact n
          have eH : upd (del (upd (upd (upd (upd H1 a (exo a C none)) dx (exd dx [("line", v)])) a (exo a C (some dx))) dx (exd dx [("reason", u), ("line", v)])) a) dx (.xd (two v u)) = upd H1 dx (.xd (two v u)) := by
            funext b
            by_cases hb : b = dx
            · rw [hb, upd_same, upd_same]
            · rw [upd_ne hb, upd_ne hb]
              by_cases hb2 : b = a
              · rw [hb2, del_same, ha]
              · rw [del_ne hb2, upd_ne hb, upd_ne hb2, upd_ne hb, upd_ne hb2]
          show W (.ref C) (some dx) σ (upd (del (upd (upd (upd (upd H1 a (exo a C none)) dx (exd dx [("line", v)])) a (exo a C (some dx))) dx (exd dx [("reason", u), ("line", v)])) a) dx (.xd (two v u)))
          rw [eH]
          have kp : Kp ι1 H1 (upd H1 dx (.xd (two v u))) := Kp.new n'
          have gg := g1.trans (Gr.of kp)
          exact hX c (d1, d2) env st1 ι1 σ C dx (upd H1 dx (.xd (two v u))) v u hd gg (he.gr gg) (s1.new n' (fun _ z => by cases z) (nin_of s1 n')) hC upd_same (r2.kp kp) (r4.kp kp) (nin_of s1 n')
end
structure FltD (P : Program) (wl : World) (w : Ws) (mg : Str → Option Value) (k : Nat) (cn bn : Str) : Prop where
  ex : ∃ (C B fI : Addr) (fd : FuncData), FnOk P wl w.K mg w.base CX0 k fI fd [("self" : Str), ("line" : Str), ("reason" : Str)] (spInit2 w.K) ∧ Binds w.K fd [("self" : Str), ("line" : Str), ("reason" : Str)] [] ∧ w.cls cn = some C ∧ mg cn = some (.ref C) ∧ mg bn = some (.ref B) ∧ OexC w.K C ∧ PySem.W.findIn w.K (.ref C) "line" = some none ∧ FltC w.K C B ∧
    PySem.W.findIn w.K (.ref C) "__init__" = some (some (.ref fI)) ∧ PySem.W.typeIn w.K (.ref fI) = some (.type "function") ∧ PySem.W.exmOne w.K (.ref C) (.ref C) = some true
/-- a class that a fault is none of -/
structure FltN (w : Ws) (mg : Str → Option Value) (cn tn : Str) : Prop where
  ex : ∃ (C T : Addr), w.cls cn = some C ∧ mg tn = some (.ref T) ∧ PySem.W.kitOne w.K (.ref C) (.ref T) = some false
section
variable {X : Cx} {w : Wd} {W : WX} {p q pos : Pos} {e e2 : Expr} {es : List Expr} {cn bn : Str} {k : Nat} {m1 m2 : XP}
theorem de_raiseF (hf : Fit X w) (F : FltD X.prog X.w w.s X.mg k cn bn) (hr : Room (k + 1) X.A) (hc : X.calm = true) (tk : L2N.Takes X W) (hg : Gl X cn) (he : PE X e (tX w m1)) (he2 : PE X e2 (tX w m2)) (hdb : (cn == ("__debug__" : Str)) = false := by decide) (hst : starEach [e, e2] X.env = (false, eval e X.env) :: starEach [e2] X.env := by rfl) (hst2 : starEach [e2] X.env = (false, eval e2 X.env) :: starEach [] X.env := by rfl) (hpl : (backTo q (starEach [e2] X.env)).any (·.1) = false := by rfl) :
    PS X (.Raise (some (.Call (.Name cn p) [e, e2] [] q)) none pos) (tSE w W (sRaise cn m1 m2)) := by
  obtain ⟨C, B, fI, fd, hF, hb, hC, hm, _, T, hl, FC, iC, tI, _⟩ := F.ex
  rw [← hf.k, ← hf.b] at hF
  rw [← hf.k] at hb T FC iC tI hl
  exact de_raise hc tk hC T hl FC.no (pmk_N T iC tI hF hr hb pass0 hg hm (dxa_cons he (dxa_cons he2 dxa_nil hst2) hst) hdb hst hpl)
/-! ### functions that may end in a fault -/
def spE (w : Ws) (T : XTE) : Sp := fun vs H Q E => ∃ ι st ds R Ex, Reps ι H vs ds ∧ SR w ι st H ∧ T ds st R Ex ∧ (∀ d st' ι' v H', R d st' → Gr ι H ι' H' → Rep ι' H' v d → SR w ι' st' H' → Q v H') ∧ ExK w E ι H Ex
def fnTE (N : List Str) (n : Nat) (t : XSE) : XTE := fun ds st R Ex => ds.length = n ∧ t (fun c r _ st' => Ex c r st') { nx := fun _ st' => R .non st', rt := R } (startE N ds) st
structure DefE (P : Program) (wl : World) (w : Ws) (mg : Str → Option Value) (k : Nat) (x : Str) (T : XTE) : Prop where
  ex : ∃ (f : Addr) (fd : FuncData) (ps : List Str), FnOk P wl w.K mg w.base (L2N.CX P wl) k f fd ps (spE w T) ∧ mg x = some (.ref f) ∧ PySem.W.keepIn w.K (.ref f) = true ∧ Binds w.K fd ps []
theorem DefE.mono {P : Program} {wl : World} {ws : Ws} {mg : Str → Option Value} {j k : Nat} {x : Str} {T : XTE} (c : DefE P wl ws mg j x T) (h : j ≤ k) : DefE P wl ws mg k x T := by
  obtain ⟨f, fd, ps, hF, r⟩ := c.ex
  exact ⟨f, fd, ps, hF.mono h, r⟩
theorem DefE.imp {P : Program} {wl : World} {ws : Ws} {mg : Str → Option Value} {k : Nat} {x : Str} {T T' : XTE} (c : DefE P wl ws mg k x T) (h : ∀ ds st R Ex, T' ds st R Ex → T ds st R Ex) : DefE P wl ws mg k x T' := by
  obtain ⟨f, fd, ps, hF, r⟩ := c.ex
  exact ⟨f, fd, ps, hF.imp fun vs H Q E ⟨ι, st, ds, R, Ex, r, s, ht, q⟩ => ⟨ι, st, ds, R, Ex, r, s, h _ _ _ _ ht, q⟩, r⟩
/-- the body of a function that may end in a fault -/
theorem _root_.GD.DefC.xe {P : Program} {wl : World} {w : Ws} {mg : Str → Option Value} {x : Str} {st : Stmt} {N ps : List Str} {k : Nat} {t : XSE} (F : DefC w mg x st) (S : FnScope N ps (defScope st))
    (hb : ∀ (kV doc pm : Value) (an : Option Addr) (cdv ct : Value) (us : List Value), us.length = ps.length → bindArgs (PySem.W.fnOf x x (defArgs st) (defBody st) (defScope st) .none kV doc pm an cdv ct) ⟨us, []⟩ = pure (ps.zip us))
    (hbody : ∀ (f c : Addr) (A : Around) (outer : List Env) (s : Shared) (H : Hp) (E : XK) (X : Cx), X = cxOf (L2N.CX P wl) P wl w.K mg w.base N x (defScope st) f (.ref c) A outer s H E → Room k X.A → Fit X ⟨w, c, [], [], [], true⟩ → L2N.Takes X (fun cls d _ H => E cls d H) → PassesOwn (model X.prog X.w) X.A X.env X.xe →
      PSs X (defBody st) (tSE ⟨w, c, [], [], [], true⟩ (fun cls d _ H => E cls d H) t)) : DefE P wl w mg (k + 1) x (fnTE N ps.length t) := by
  obtain ⟨f, c, Pt, fd, ⟨oc, od, kV, doc, pm, an, ct, osl, rfl, lk, hcd⟩, hm, hk, ht, hh⟩ := F.ex
  refine ⟨f, _, ps, fn_of lk hcd S (fun vs H Q E ⟨ι, st, ds, R, Ex, r, s, h, q⟩ => by rw [r.length]; exact h.1) fun A outer s H vs Q E hr ⟨ι, st, ds, R, Ex, r, s', h, q, hX⟩ => ⟨_, hbody f c A outer s H E _ rfl hr ⟨rfl, rfl, rfl⟩ (L2N.takes_of rfl rfl rfl rfl) (passes_of rfl), ?_⟩, hm, hk, .all (hb kV doc pm an (.ref c) ct)⟩
  exact ⟨ι, startE N ds, st, _, _, start_env r N (fun _ => ⟨Pt, .inl hh, s'.tab _ ht⟩), s', h.2, ⟨fun env st' ι' σ H' h g r s => q .non st' ι' .non H' h g .non s, fun d st' ι' v H' h g r s => q d st' ι' v H' h g r s, fun _ _ _ _ _ h _ _ _ => h.elim, fun _ _ _ _ _ h _ _ _ => h.elim⟩, fun c r env st' ι' σ' C dd H' v1 v2 h k er s hc hd h1 h2 hn => hX c r st' ι' C dd H' v1 v2 h k s hc hd h1 h2 hn⟩
def xCallE (T : XTE) (r : XA) : XPE := fun Ex env st R => r env st fun ds st1 => T ds st1 R fun c q st2 => Ex c q env st2
theorem dee_call {x : Str} {T : XTE} {r : XA} (hf : Fit X w) (tk : L2N.Takes X W) (c : DefE X.prog X.w w.s X.mg k x T) (hr : Room k X.A) (hg : Gl X x) (ha : PA X (e :: es) (tXA w r))
    (hdb : (x == ("__debug__" : Str)) = false := by decide) (he : starEach (e :: es) X.env = (false, eval e X.env) :: starEach es X.env := by rfl) (hpl : (backTo pos (starEach es X.env)).any (·.1) = false := by rfl) :
    PE X (.Call (.Name x p) (e :: es) [] pos) (tXE w W (xCallE T r)) := by
  obtain ⟨f, fd, ps, hF, hm, hk, hb⟩ := c.ex
  rw [← hf.k, ← hf.b] at hF
  rw [← hf.k] at hk hb
  exact PE.mo (pe_callW hF hr hg hm hk hb tk ha hdb he hpl) fun σ H Q ⟨ι, env, st, R, Ex, hen, hst, hmm, q, hX⟩ => ⟨ι, env, st, _, hen, hst, hmm, fun ds st1 ι1 vs H1 h1 g1 r1 s1 => ⟨ι1, st1, ds, R, _, r1, s1, h1, fun d st' ι' v H' h2 g2 r2 s2 => q d st' ι' v H' h2 (g1.trans g2) r2 s2, fun c r st' ι' C dd H' v1 v2 h k s hc hd r1 r2 hn => hX c r env st' ι' σ C dd H' v1 v2 h (g1.trans k) (hen.gr (g1.trans k)) s hc hd r1 r2 hn⟩⟩
end
end GE

set_option Elab.async false
set_option linter.all false
set_option maxRecDepth 100000
set_option maxHeartbeats 2000000
namespace GE
open PySem PySem.Spec PyProof.Rows L2 GX GD
open L2H (FnH RoomH HotC Hot1 cxH fn_ofH pe_callH PIH ps_forH pi_range1H)
/-! ## 80. calls while an exception is handled -/
structure DefHP (P : Program) (wl : World) (w : Ws) (mg : Str → Option Value) (k : Nat) (x : Str) (F : List D → SS → Option D) : Prop where
  ex : ∃ (f : Addr) (fd : FuncData) (ps : List Str), FnH P wl w.K mg w.base CX0 k f fd ps (spP w F) ∧ mg x = some (.ref f) ∧ PySem.W.keepIn w.K (.ref f) = true ∧ Binds w.K fd ps []
theorem fnH_imp {P : Program} {wl : World} {K : PySem.W.Frag} {mg : Str → Option Value} {base : Heap} {CX : CXT} {k : Nat} {f : Addr} {fd : FuncData} {ps : List Str} {sp sp' : Sp} (F : FnH P wl K mg base CX k f fd ps sp) (h : ∀ vs H Q E, sp' vs H Q E → sp vs H Q E) : FnH P wl K mg base CX k f fd ps sp' :=
  ⟨fun vs H Q E q => F.len vs H Q E (h _ _ _ _ q), fun A outer s H args us vs Q E p hr hot hpin e0 hb r q => F.run A outer s H args us vs Q E p hr hot hpin e0 hb r (h _ _ _ _ q)⟩
theorem fnH_mono {P : Program} {wl : World} {K : PySem.W.Frag} {mg : Str → Option Value} {base : Heap} {CX : CXT} {j k : Nat} {f : Addr} {fd : FuncData} {ps : List Str} {sp : Sp} (F : FnH P wl K mg base CX j f fd ps sp) (h : j ≤ k) : FnH P wl K mg base CX k f fd ps sp :=
  ⟨F.len, fun A outer s H args us vs Q E p hr hot hpin e0 hb r q => F.run A outer s H args us vs Q E p (hr.mono h) hot hpin e0 hb r q⟩
theorem DefHP.imp {P : Program} {wl : World} {w : Ws} {mg : Str → Option Value} {k : Nat} {x : Str} {F F' : List D → SS → Option D} (c : DefHP P wl w mg k x F) (h : ∀ ds st d, F' ds st = some d → F ds st = some d) : DefHP P wl w mg k x F' := by
  obtain ⟨f, fd, ps, hF, r⟩ := c.ex
  exact ⟨f, fd, ps, fnH_imp hF fun vs H Q E ⟨ι, st, ds, d, r, s, hd, q⟩ => ⟨ι, st, ds, d, r, s, h _ _ _ hd, q⟩, r⟩
theorem DefHP.mono {P : Program} {wl : World} {w : Ws} {mg : Str → Option Value} {j k : Nat} {x : Str} {F : List D → SS → Option D} (c : DefHP P wl w mg j x F) (h : j ≤ k) : DefHP P wl w mg k x F := by
  obtain ⟨f, fd, ps, hF, r⟩ := c.ex
  exact ⟨f, fd, ps, fnH_mono hF h, r⟩
theorem spP_of {w : Ws} {T : XT} {F : List D → SS → Option D} (h : ∀ ds st d, F ds st = some d → D.loAll st.length ds = true → D.lo st.length d = true ∧ T ds st fun d' st' => d' = d ∧ st'.take st.length = st) (vs : List V) (H : Hp) (Q : VK) (E : XK) : spP w F vs H Q E → spX w T vs H Q E := by
  rintro ⟨ι, st, ds, d, r, s, hd, q⟩
  obtain ⟨hlo, hT⟩ := h ds st d hd (s.len ▸ r.low)
  refine ⟨ι, st, ds, _, r, s, hT, fun d' st' ι' v H' ⟨e1, e2⟩ g r' s' => ?_⟩
  subst e1
  refine q v H' g.kp (r'.cut g.pre (by rw [s.len]; exact hlo)) ⟨s.len, s.nd, fun n a cl h1 h2 => ?_, s'.tabs, s'.tab⟩
  have hn : n < st.length := (List.getElem?_eq_some_iff.mp h2).1
  have h2' : st'[n]? = some cl := by
    rw [← e2, List.getElem?_take, if_pos hn] at h2
    exact h2
  have q1 := s'.cell n a cl (pre_get g.pre h1) h2'
  have q0 := s.cell n a cl h1 h2
  cases cl with
  | lst ds =>
    obtain ⟨vs0, _, _, r0⟩ := q0
    obtain ⟨vs1, e1, l1, r1⟩ := q1
    exact ⟨vs1, e1, l1, r1.cut g.pre r0.low⟩
  | frz ds =>
    obtain ⟨_, vs0, _, _, r0⟩ := q0
    obtain ⟨o1, vs1, e1, l1, r1⟩ := q1
    exact ⟨o1, vs1, e1, l1, r1.cut g.pre r0.low⟩
  | dic ds =>
    obtain ⟨vs0, _, _, r0⟩ := q0
    obtain ⟨vs1, e1, l1, r1⟩ := q1
    exact ⟨vs1, e1, l1, r1.keys, r1.vals.cut g.pre r0.vals.low⟩
  | obj x ds =>
    obtain ⟨_, _, vs0, _, _, r0⟩ := q0
    obtain ⟨C1, dx1, vs1, e1, l1, r1⟩ := q1
    exact ⟨C1, dx1, vs1, e1, l1, r1.keys, r1.vals.cut g.pre r0.vals.low⟩
  | dicN ds =>
    obtain ⟨vs0, _, _, r0⟩ := q0
    obtain ⟨vs1, e1, l1, r1⟩ := q1
    exact ⟨vs1, e1, l1, r1.keys, r1.vals.cut g.pre r0.vals.low⟩
theorem fnR_spec {N : List Str} {n : Nat} {r : RS} (ds : List D) (st : SS) (d : D) (h : fnR N n r ds st = some d) (_ : D.loAll st.length ds = true) : D.lo st.length d = true ∧ fnT N n (xs r) ds st fun d' st' => d' = d ∧ st'.take st.length = st := by
  unfold fnR at h
  split at h
  · rename_i hl
    split at h
    · rename_i d' hr
      split at h
      · rename_i hlo
        cases h
        refine ⟨hlo, hl, ?_⟩
        unfold xs
        rw [hr]
        exact ⟨rfl, List.take_length⟩
      · cases h
    · rename_i e hr
      cases h
      refine ⟨rfl, hl, ?_⟩
      unfold xs
      rw [hr]
      exact ⟨rfl, List.take_length⟩
    · cases h
  · cases h
theorem _root_.GD.DefC.pH {P : Program} {wl : World} {w : Ws} {mg : Str → Option Value} {x : Str} {st : Stmt} {N ps : List Str} {k : Nat} {r : RS} (F : DefC w mg x st) (S : FnScope N ps (defScope st))
    (hb : ∀ (kV doc pm : Value) (an : Option Addr) (cdv ct : Value) (us : List Value), us.length = ps.length → bindArgs (PySem.W.fnOf x x (defArgs st) (defBody st) (defScope st) .none kV doc pm an cdv ct) ⟨us, []⟩ = pure (ps.zip us))
    (hbody : ∀ (f c : Addr) (A : Around) (outer : List Env) (s : Shared) (H : Hp) (E : XK) (p : Addr × Obj) (X : Cx), X = (cxH CX0 P wl w.K mg w.base N x (defScope st) f (.ref c) A outer s H E p).nox → RoomH k X.A → Fit X ⟨w, c, [], [], [], true⟩ → HotC X →
      PSs X (defBody st) (tS ⟨w, c, [], [], [], true⟩ (xs r))) : DefHP P wl w mg (k + 1) x (fnR N ps.length r) := by
  obtain ⟨f, c, Pt, fd, ⟨oc, od, kV, doc, pm, an, ct, osl, rfl, lk, hcd⟩, hm, hk, ht, hh⟩ := F.ex
  refine ⟨f, _, ps, fnH_imp (sp := spX w (fnT N ps.length (xs r))) ?_ (spP_of fnR_spec), hm, hk, .all (hb kV doc pm an (.ref c) ct)⟩
  refine fn_ofH lk hcd S (fun vs H Q E ⟨ι, st, ds, R, r, s, h, q⟩ => by rw [r.length]; exact h.1) fun A outer s H vs Q E p hot hr ⟨ι, st, ds, R, r, s', h, q⟩ => ⟨_, (hbody f c A outer s H E p _ rfl hr ⟨rfl, rfl, rfl⟩ ⟨p, ⟨hot.1, hot.2⟩, List.mem_cons_self⟩).nox, ?_⟩
  exact ⟨ι, startE N ds, st, _, start_env r N (fun _ => ⟨Pt, .inl hh, s'.tab _ ht⟩), s', h.2, fun env st' ι' σ H' h g r s => q .non st' ι' .non H' h g .non s, fun d st' ι' v H' h g r s => q d st' ι' v H' h g r s, fun _ _ _ _ _ h _ _ _ => h.elim, fun _ _ _ _ _ h _ _ _ => h.elim⟩
theorem _root_.GD.DefC.noneH {P : Program} {wl : World} {w : Ws} {mg : Str → Option Value} {x : Str} {st : Stmt} {ps : List Str} {k : Nat} (F : DefC w mg x st)
    (hb : ∀ (kV doc pm : Value) (an : Option Addr) (cdv ct : Value) (us : List Value), us.length = ps.length → bindArgs (PySem.W.fnOf x x (defArgs st) (defBody st) (defScope st) .none kV doc pm an cdv ct) ⟨us, []⟩ = pure (ps.zip us)) : DefHP P wl w mg k x (fun _ _ => Option.none) := by
  obtain ⟨f, c, Pt, fd, ⟨oc, od, kV, doc, pm, an, ct, osl, rfl, lk, hcd⟩, hm, hk, ht, hh⟩ := F.ex
  exact ⟨f, _, ps, ⟨(fun vs H Q E ⟨_, _, _, _, _, _, h, _⟩ => by cases h), (fun A outer s H args us vs Q E p hr hot hpin e0 hb r ⟨_, _, _, _, _, _, h, _⟩ => by cases h)⟩, hm, hk, .all (hb kV doc pm an (.ref c) ct)⟩
section
variable {X : Cx} {w : Wd} {pos p : Pos} {e a b : Expr} {es : List Expr} {ma mb : MP}
theorem dp_eqU (hu : X.A.units + 64 < cLine) (ha : PE X a (tP w ma)) (hb : PE X b (tP w mb)) : PE X (.Compare a [.Eq] [b] pos) (tP w (mOp fEq ma mb)) := dp_cmp (op_eqD hu) qEq ha hb (nomark _)
theorem dt_neU (hu : X.A.units + 64 < cLine) (ha : PE X a (tP w ma)) (hb : PE X b (tP w mb)) : PT X (.Compare a [.NotEq] [b] pos) (tBo w (bV (mOp fNe ma mb))) := dt_cmp (op_neD hu) qNe ha hb (nomark _)
theorem hot_units {k : Nat} (h : RoomH k X.A) : X.A.units + 64 < cLine := by have := h.un; omega
theorem PIH.mo {tg : Expr} {t t' : TI} (h : PIH X tg e t) (q : ∀ σ H R, t' σ H R → t σ H R) : PIH X tg e t' := ⟨fun pins s σ H R I h' => h.run pins s σ H R I (q σ H R h')⟩
theorem di_rngH {tg : Expr} {m : MP} (hg : Gl X "range") (hm : X.mg "range" = none) (ha : PE X e (tP w m)) (hs : starEach [e] X.env = [(false, eval e X.env)] := by rfl) : PIH X tg (.Call (.Name "range" p) [e] [] pos) (tI w (iRng m)) := by
  refine PIH.mo (pi_range1H hg hm (pa_cons ha pa_nil (by rw [hs]; rfl)) hs) fun σ H R ⟨ι, env, st, ds, ro, he, hst, hmm, q⟩ => ?_
  unfold iRng at hmm
  split at hmm
  · rename_i n e1
    split at hmm
    · rename_i hn
      cases hmm
      refine ⟨ι, env, st, _, he, hst, e1, fun v H1 k1 r1 s1 => ?_⟩
      cases r1
      refine ⟨n, rfl, by omega, by omega, q _ H1 k1 s1 (itd_rng (big_size (by omega)))⟩
    · cases hmm
  · cases hmm
theorem dxi_ofH {tg : Expr} {mi : MI} (h : PIH X tg e (tI w mi)) : PIH X tg e (tXI w (xiOf mi)) := PIH.mo h fun σ H R ⟨ι, env, st, R', he, hst, ⟨ds, ro, hm, hR⟩, q⟩ => ⟨ι, env, st, ds, ro, he, hst, hm, fun J H1 k1 s1 hJ => q ds ro st ι J H1 hR (.of k1) s1 hJ⟩
theorem ds_forH {mi : XI} {tgt : MT} {g : TG} {own : List Nat} {tg iter : Expr} {body : List Stmt} {t : XS} (hp : PassesOwn (model X.prog X.w) X.A X.env X.xe) (hc : HotC X) (ht : GT w own g tgt) (hi : PIH X tg iter (tXI w mi)) (hg : PG X tg g) (hb : PSs X body (tS w t))
    (hs : ∀ x, foldedSetIterable iter X.env x = pure x := by intro _; rfl) : PS X (.For tg iter body [] pos) (tS w (sFor mi tgt t)) := by
  refine PS.mo (ps_forH hp hc hi hg hb hs) fun E σ H ⟨ι, env, st, D0, he, hs, hm, hE⟩ => ⟨ι, env, st, _, he, hs, hm, fun ds ro st1 ι1 J H1 hgo1 g1 s1 hJ => ?_⟩
  refine ⟨fun i m σ' H' => m = ds.length - i ∧ i ≤ ds.length ∧ ∃ ι2 env2 st2, Gr ι1 H1 ι2 H' ∧ EnvR w ι2 env2 σ' H' ∧ SR w.s ι2 st2 H' ∧ sForGo tgt t st1 ro D0 (ds.drop i) env2 st2, ⟨ds.length, rfl, Nat.zero_le _, ι1, env, st1, .refl _, he.gr g1, s1, hgo1⟩, ?_⟩
  rintro i m σ' H' ⟨rfl, hi, ι2, env2, st2, g2, he2, s2, hgo⟩
  have hH : Hold st1 ro st2 := by
    cases hh : ds.drop i with
    | nil => rw [hh] at hgo; exact hgo.1
    | cons d ds => rw [hh] at hgo; exact hgo.1
  obtain ⟨j1, j2, j3⟩ := hJ.run ι2 st2 H' g2.kp g2.pre hH s2
  by_cases hlt : i < ds.length
  · refine .inr ⟨j1 i hlt, fun σ'' H'' => i + 1 ≤ ds.length ∧ ∃ ι2 env2 st2, Gr ι1 H1 ι2 H'' ∧ EnvR w ι2 env2 σ'' H'' ∧ SR w.s ι2 st2 H'' ∧ sForGo tgt t st1 ro D0 (ds.drop (i + 1)) env2 st2, fun σ'' H'' hn => ⟨_, by omega, rfl, hn⟩, fun x H2 hy => ?_⟩
    obtain ⟨d, hd, rd, kk, s3⟩ := j2 i x H2 hlt hy
    obtain ⟨d', hd', hdr⟩ := drop_cons' hlt
    rw [hd] at hd'
    cases hd'
    rw [hdr] at hgo
    obtain ⟨_, env1, ht1, hb1⟩ := hgo
    have g3 : Gr ι2 H' ι2 H2 := .of (.of kk)
    refine ht ι2 st2 H2 σ' env2 x d env1 _ (he2.gr g3) s3 rd ht1 fun σ3 he3 _ => ⟨ι2, env1, st2, _, he3, s3, hb1, ?_⟩
    have g23 := g2.trans g3
    have hE3 := hE.gr (g1.trans g23)
    exact ⟨fun env4 st4 ι4 σ4 H4 h g r s => ⟨hlt, ι4, env4, st4, g23.trans g, r, s, h⟩, hE3.rt, hE3.nx, fun env4 st4 ι4 σ4 H4 h g r s => ⟨hlt, ι4, env4, st4, g23.trans g, r, s, h⟩⟩
  · have e : i = ds.length := by omega
    subst e
    rw [List.drop_length] at hgo
    exact .inl ⟨j3 _ (Nat.le_refl _), hE.nx env2 st2 ι2 σ' H' hgo.2 (g1.trans g2) he2 s2⟩
theorem dr_forH {mi : MI} {tgt : MT} {g : TG} {own : List Nat} {tg iter : Expr} {body : List Stmt} {r : RS} (hp : PassesOwn (model X.prog X.w) X.A X.env X.xe) (hc : HotC X) (ht : GT w own g tgt) (hi : PIH X tg iter (tI w mi)) (hg : PG X tg g) (hb : PSs X body (tS w (xs r)))
    (hs : ∀ x, foldedSetIterable iter X.env x = pure x := by intro _; rfl) : PS X (.For tg iter body [] pos) (tS w (xs (rFor mi tgt r))) := dr_mo (ds_forH hp hc ht (dxi_ofH hi) hg hb hs) fun D0 env st h => by
  unfold xs rFor at h
  cases hm : mi env st with
  | none => rw [hm] at h; exact h.elim
  | some v =>
    obtain ⟨ds, ro⟩ := v
    rw [hm] at h
    exact ⟨ds, ro, hm, for_r ds env h⟩
theorem dp_callH {x : Str} {k : Nat} {F : List D → SS → Option D} {r : ML} (hf : Fit X w) (c : DefHP X.prog X.w w.s X.mg k x F) (hr : RoomH k X.A) (hc : HotC X) (hg : Gl X x) (ha : PA X (e :: es) (tAs w r))
    (hdb : (x == ("__debug__" : Str)) = false := by decide) (he : starEach (e :: es) X.env = (false, eval e X.env) :: starEach es X.env := by rfl) (hpl : (backTo pos (starEach es X.env)).any (·.1) = false := by rfl) :
    PE X (.Call (.Name x p) (e :: es) [] pos) (tP w (mCall F r)) := by
  obtain ⟨f, fd, ps, hF, hm, hk, hb⟩ := c.ex
  rw [← hf.k, ← hf.b] at hF
  rw [← hf.k] at hk hb
  refine PE.mo (pe_callH (E := fun _ => E0) hF hr hc hg hm hk hb (fun _ _ _ _ _ _ _ h => h.elim) ha hdb he hpl) fun σ H Q ⟨ι, env, st, d, hen, hst, hmm, q⟩ => ?_
  unfold mCall at hmm
  split at hmm
  · rename_i ds e
    exact ⟨ι, env, st, ds, hen, hst, e, fun vs H1 k1 r1 s1 => ⟨ι, st, ds, d, r1, s1, hmm, fun v H' k' rv s' => q v H' (k1.trans k') rv s'⟩⟩
  · cases hmm
end
theorem same_defH {P : Program} {wl : World} {w : Ws} {mg : Str → Option Value} (step : ∀ {k : Nat} {F : List D → SS → Option D}, DefHP P wl w mg (k + 1) "_law_same" F → DefHP P wl w mg (k + 2) "_law_same" (fnR N_law_same 2 (R_law_same F)))
    (base : DefHP P wl w mg 1 "_law_same" fun _ _ => Option.none) : DefHP P wl w mg 12 "_law_same" sameF := by
  have all : ∀ n, DefHP P wl w mg (n + 2) "_law_same" (sameFn n) := by
    intro n
    induction n with
    | zero => exact DefHP.imp (step base) fun ds st d h => same_step (n := 0) (fun m e => by cases e) ds st d h
    | succ n ih => exact DefHP.imp (step (k := n + 1) ih) fun ds st d h => same_step (n := n + 1) (fun m e => by cases e; rfl) ds st d h
  exact (all 8).mono (by decide)
end GE

set_option Elab.async false
set_option linter.all false
set_option maxRecDepth 100000
set_option maxHeartbeats 2000000
namespace GE
open PySem PySem.Spec PyProof.Rows L2 GX GD
open L2H (RoomH HotC Hot1)
/-! ## 79. try: .. except X as e: (e.line, e.reason) is held against what is due -/
theorem hide {w : Wd} {ι : List Addr} {env : EV} {σ : L2.St} {H : Hp} (e : EnvR w ι env σ H) (i : Nat) (x : Option V) (hfx : ∀ p ∈ w.fx, p.1 ≠ i) : EnvR w ι (env.set i none) (σ.set i x) H := by
  refine ⟨by rw [List.length_set, List.length_set]; exact e.len, fun j d h => ?_, e.cod, fun p hp => by rw [List.getElem?_set_ne (Ne.symm (hfx p hp))]; exact e.fx p hp, e.sq, e.lm⟩
  by_cases hj : i = j
  · subst hj
    by_cases hl : i < env.length
    · rw [List.getElem?_set_self hl] at h
      cases h
    · rw [List.getElem?_eq_none (by rw [List.length_set]; omega)] at h
      cases h
  · rw [List.getElem?_set_ne hj] at h ⊢
    exact e.at_ j d h
/-- what the handler asks: due stands in slot k -/
def hndM (k : Nat) (F : List D → SS → Option D) (r : D × D) (env : EV) (st : SS) : Option Bool := match mVar k env st with
  | some due => if due.isN = true then none else (match F [.tup [r.1, r.2], due] st with | some (.bl b) => some b | _ => none)
  | none => none
def tHand (w : Wd) (i k : Nat) (C : Addr) (F : List D → SS → Option D) (a : Addr) (cls : Value) (d : Option Addr) : TS := fun E σ H => (cls = .ref C ∧ ∃ dd, d = some dd) ∧ ∃ dd ι env st r1 r2 v1 v2 due b, d = some dd ∧ σ[i]? = some (some (.ref a)) ∧ H dd = some (.xd (two v1 v2)) ∧ dd ∉ ι ∧ Rep ι H v1 r1 ∧ Rep ι H v2 r2 ∧ EnvR w ι env σ H ∧ SR w.s ι st H ∧ mVar k env st = some due ∧ due.isN = false ∧ F [.tup [r1, r2], due] st = some (.bl b) ∧
  ∀ H', Kp ι H H' → SR w.s ι st H' → (b = true → E.nx σ H') ∧ (b = false → E.rt (.bl false) H')
def askIf (du n T1 T3 : Str) (q0 q1 q2 q3 q4 q5 q6 q7 q8 q9 q10 q11 q12 q13 q14 q15 q16 q17 q18 q19 q20 : Pos) (j1 j2 : Nat) : Stmt := .If (.BoolOp .Or [.Compare (.Name du q1) [.Is] [.Constant .none j1 q2] q3, .Call (.Name "isinstance" q4) [.Name n q5, .Name T1 q6] [] q7, .UnaryOp .Not (.Call (.Name "isinstance" q8) [.Name n q9, .Name "ValueError" q10] [] q11) q12, .UnaryOp .Not (.Call (.Name "isinstance" q13) [.Name n q14, .Name T3 q15] [] q16) q17] q18) [.Return (some (.Constant (.bool false) j2 q19)) q20] [] q0
def holdIf (sm du n : Str) (q0 q1 q2 q3 q4 q5 q6 q7 q8 q9 q10 q11 : Pos) (x1 j3 : Nat) : Stmt := .If (.UnaryOp .Not (.Call (.Name sm q1) [.Tuple [.Attribute (.Name n q2) "line" q3, .Attribute (.Name n q4) "reason" q5] x1 q6, .Name du q7] [] q8) q9) [.Return (some (.Constant (.bool false) j3 q10)) q11] [] q0
theorem xd_kp {ι : List Addr} {H H' : Hp} {dd : Addr} {fs : List (Str × V)} (k : Kp ι H H') (h : H dd = some (.xd fs)) (hn : dd ∉ ι) : H' dd = some (.xd fs) := k.keep dd _ h (fun _ z => by cases z) fun hm => absurd hm hn
section
variable {X : Cx} {w : Wd} {i kd lv : Nat} {n du sm T1 T3 : Str} {a C B T : Addr} {oe : Obj} {cls : Value} {d : Option Addr} {pn : List (Addr × Obj)} {F : List D → SS → Option D}
  {q0 q1 q2 q3 q4 q5 q6 q7 q8 q9 q10 q11 q12 q13 q14 q15 q16 q17 q18 q19 q20 p0 p1 p2 p3 p4 p5 p6 p7 p8 p9 p10 p11 : Pos} {j1 j2 j3 x1 : Nat}
theorem suite_ok (hfit : Fit X w) (FC : FltC X.K C B) (nl : PySem.W.findIn X.K (.ref C) "line" = some none) (kt : PySem.W.kitOne X.K (.ref C) (.ref T) = some false) (c : DefHP X.prog X.w w.s X.mg lv sm F) (hr : Room lv X.A) (hN : X.N[i]? = some n) (hNd : X.N[kd]? = some du) (hv : Vis X.env.scope n) (hvd : Vis X.env.scope du)
    (hd1 : (n == ("__debug__" : Str)) = false) (hd2 : (n == ("__classdict__" : Str)) = false) (hd3 : (du == ("__debug__" : Str)) = false) (hd4 : (du == ("__classdict__" : Str)) = false) (hd5 : (sm == ("__debug__" : Str)) = false) (gi : Gl X "isinstance") (mi : X.mg "isinstance" = none) (g1 : Gl X T1) (m1 : X.mg T1 = some (.ref T)) (d1 : (T1 == ("__debug__" : Str)) = false) (g3 : Gl X T3) (m3 : X.mg T3 = some (.ref B)) (d3 : (T3 == ("__debug__" : Str)) = false) (gV : Gl X "ValueError") (mV : X.mg "ValueError" = none) (gs : Gl X sm)
    (s1 : starEach [.Name n q5, .Name T1 q6] X.env = (false, eval (.Name n q5) X.env) :: starEach [.Name T1 q6] X.env) (s1b : starEach [.Name T1 q6] X.env = (false, eval (.Name T1 q6) X.env) :: starEach [] X.env) (s1c : (backTo q7 (starEach [.Name T1 q6] X.env)).any (·.1) = false)
    (s2 : starEach [.Name n q9, .Name "ValueError" q10] X.env = (false, eval (.Name n q9) X.env) :: starEach [.Name "ValueError" q10] X.env) (s2b : starEach [.Name "ValueError" q10] X.env = (false, eval (.Name "ValueError" q10) X.env) :: starEach [] X.env) (s2c : (backTo q11 (starEach [.Name "ValueError" q10] X.env)).any (·.1) = false)
    (s3 : starEach [.Name n q14, .Name T3 q15] X.env = (false, eval (.Name n q14) X.env) :: starEach [.Name T3 q15] X.env) (s3b : starEach [.Name T3 q15] X.env = (false, eval (.Name T3 q15) X.env) :: starEach [] X.env) (s3c : (backTo q16 (starEach [.Name T3 q15] X.env)).any (·.1) = false)
    (s4 : starEach [.Tuple [.Attribute (.Name n p2) "line" p3, .Attribute (.Name n p4) "reason" p5] x1 p6, .Name du p7] X.env = (false, eval (.Tuple [.Attribute (.Name n p2) "line" p3, .Attribute (.Name n p4) "reason" p5] x1 p6) X.env) :: starEach [.Name du p7] X.env) (s4b : starEach [.Name du p7] X.env = (false, eval (.Name du p7) X.env) :: starEach [] X.env) (s4c : (backTo p8 (starEach [.Name du p7] X.env)).any (·.1) = false)
    (s5 : starEach [.Attribute (.Name n p2) "line" p3, .Attribute (.Name n p4) "reason" p5] X.env = (false, eval (.Attribute (.Name n p2) "line" p3) X.env) :: starEach [.Attribute (.Name n p4) "reason" p5] X.env) (s5b : starEach [.Attribute (.Name n p4) "reason" p5] X.env = (false, eval (.Attribute (.Name n p4) "reason" p5) X.env) :: starEach [] X.env)
    (hat : attributeBase (.Name n p2) "line" X.env (eval (.Name n p2) X.env) = eval (.Name n p2) X.env) (hat2 : attributeBase (.Name n p4) "reason" X.env (eval (.Name n p4) X.env) = eval (.Name n p4) X.env) (hzn : L2N.Zn cls d oe) (hf : ∃ vs, oe.data = .fields vs) :
    PSs (X.suite a ((a, oe) :: pn)) [askIf du n T1 T3 q0 q1 q2 q3 q4 q5 q6 q7 q8 q9 q10 q11 q12 q13 q14 q15 q16 q17 q18 q19 q20 j1 j2, holdIf sm du n p0 p1 p2 p3 p4 p5 p6 p7 p8 p9 p10 p11 x1 j3] (tHand w i kd C F a cls d) := by
  refine PSs.when fun ⟨ec, dd, ed⟩ => ?_
  subst ec ed
  have hz := L2N.Zn.zc hzn
  have hot : HotC (X.suite a ((a, oe) :: pn)) := by
    obtain ⟨vs, hv⟩ := hf
    exact ⟨(a, oe), ⟨rfl, vs, hv, hzn.2.2 vs hv⟩, List.mem_cons_self⟩
  obtain ⟨f, fd, ps, hF, hm, hk, hb⟩ := c.ex
  rw [← hfit.k, ← hfit.b] at hF
  rw [← hfit.k] at hk hb
  have vn : ∀ q, PE (X.suite a ((a, oe) :: pn)) (.Name n q) (tVar i) := fun q => pe_var hN hv hd1 hd2
  have vd : ∀ q, PE (X.suite a ((a, oe) :: pn)) (.Name du q) (tVar kd) := fun q => pe_var hNd hvd hd3 hd4
  have t0 : PT (X.suite a ((a, oe) :: pn)) (.Compare (.Name du q1) [.Is] [.Constant .none j1 q2] q3) (tBo w (bV (mOp fIsN (mVar kd) (mC .non)))) := dt_isN (dp_var kd hNd hvd hd3 hd4) dp_non
  have c1 := pe_callB (X := X.suite a ((a, oe) :: pn)) (p := q4) (pos := q7) (call_isED FC.x hz hf) gi mi (by decide +kernel) (pa_cons (vn q5) (pa_cons (pe_glob (pos := q6) (v := .ref T) g1 m1 rfl d1) pa_nil s1b) s1) (he := s1) (hpl := s1c)
  have c2 := pe_callB (X := X.suite a ((a, oe) :: pn)) (p := q8) (pos := q11) (call_isED FC.x hz hf) gi mi (by decide +kernel) (pa_cons (vn q9) (pa_cons (pe_bltn (pos := q10) (v := .ty "ValueError") (u := .type "ValueError") gV mV (by decide +kernel) rfl) pa_nil s2b) s2) (he := s2) (hpl := s2c)
  have c3 := pe_callB (X := X.suite a ((a, oe) :: pn)) (p := q13) (pos := q16) (call_isED FC.x hz hf) gi mi (by decide +kernel) (pa_cons (vn q14) (pa_cons (pe_glob (pos := q15) (v := .ref B) g3 m3 rfl d3) pa_nil s3b) s3) (he := s3) (hpl := s3c)
  have xl := pe_xf (X := X) (a := a) (pn := pn) (pos := p3) FC.f nl hz hf (vn p2) hat
  have xr := pe_xf (X := X) (a := a) (pn := pn) (pos := p5) FC.f FC.no hz hf (vn p4) hat2
  have cs := L2H.pe_callH (X := X.suite a ((a, oe) :: pn)) (E := fun _ => E0) (q := p1) (pos := p8) hF ⟨hr.dp, hr.un⟩ hot gs hm hk hb (fun _ _ _ _ _ _ _ h => h.elim) (pa_cons (pe_tup (x1 := x1) (pos := p6) (pa_cons xl (pa_cons xr pa_nil s5b) s5)) (pa_cons (vd p7) pa_nil s4b) s4) hd5 s4 s4c
  refine PSs.mo' (pss_cons (ps_if (PW.pt (pw_or t0 (pw_or (pt_val c1) (pw_or (pt_not (pt_val c2)) (pw_or1 (pt_not (pt_val c3))))))) (pss_one (ps_ret pe_bl)) pss_nil) (pss_one (ps_if (pt_not (pt_val cs)) (pss_one (ps_ret pe_bl)) pss_nil))) fun Dn σ H h => ?_
  obtain ⟨dd', ι, env, st, r1, r2, v1, v2, due, b, e1, hσ, hx, hn, rp1, rp2, hen, hst, hdu, hnn, hFF, hR⟩ := h
  cases e1
  refine ⟨ι, env, st, false, hen, hst, bV_e ((mOp_e hdu rfl).trans (by show some (D.bl due.isN) = _; rw [hnn])), fun H1 k1 st1 => ?_⟩
  have hx1 := xd_kp k1 hx hn
  refine ⟨_, hσ, ⟨⟨_, hx1⟩, .ref T, .ref T, false, rfl, fun u r => r, kt, false, rfl, ?_⟩⟩
  refine ⟨_, hσ, ⟨⟨_, hx1⟩, .ty "ValueError", .type "ValueError", true, rfl, fun u r => r, FC.kv, true, rfl, ?_⟩⟩
  refine ⟨_, hσ, ⟨⟨_, hx1⟩, .ref B, .ref B, true, rfl, fun u r => r, FC.kb, true, rfl, ?_⟩⟩
  have hen1 := hen.kp k1
  have rp1' := rp1.kp k1
  have rp2' := rp2.kp k1
  obtain ⟨v, hv1, hv2⟩ : ∃ v, σ[kd]? = some (some v) ∧ Rep ι H1 v due := by
    unfold mVar at hdu
    split at hdu
    · rename_i d' hd'
      cases hdu
      exact hen1.at_ kd _ hd'
    · cases hdu
  refine ⟨_, hσ, rfl, rfl, dd, _, v1, rfl, hx1, rfl, _, hσ, rfl, rfl, dd, _, v2, rfl, hx1, rfl, by rw [sizeLine_eq]; show 2 ≤ _; decide, fun p hp => ⟨v, hv1, ?_⟩⟩
  have kp : Kp ι H1 (upd H1 p (.tup [v1, v2])) := Kp.new hp
  have s9 : SR w.s ι st (upd H1 p (.tup [v1, v2])) := st1.new hp (fun _ z => by cases z) (nin_of st1 hp)
  refine ⟨ι, st, [.tup [r1, r2], due], .bl b, .cons (.tup upd_same (by rw [sizeLine_eq]; show 2 ≤ _; decide) (.cons (rp1'.kp kp) (.cons (rp2'.kp kp) .nil))) (.cons (hv2.kp kp) .nil), s9, hFF, fun v' H' k' rv' s' => ?_⟩
  cases rv'
  have hh := hR H' ((k1.trans kp).trans k') s'
  refine ⟨b, rfl, ?_⟩
  cases b with
  | true => exact hh.1 rfl
  | false => exact hh.2 rfl
end
/-! ### the try -/
theorem takes_guardN {X : Cx} {W : WX} (tk : L2N.Takes X W) : L2N.Takes X (guardW X.N.length W) := fun u s' ⟨a, B, sI, pins, σ, H, cls, d, e, I, h1, h2, h3, h4, h5, h6, h7⟩ => tk u s' ⟨a, B, sI, pins, σ, H, cls, d, e, I, h1, h2, h3, h4, h5, h6, h7 I.len⟩
def sTry2 (c : Str) (i kd : Nat) (F : List D → SS → Option D) (t : XSE) : XS := fun D0 env st => t (fun c' r env' st' => c' = c ∧ ∃ b, hndM kd F r (env'.set i none) st' = some b ∧ (b = true → D0.nx (env'.set i none) st') ∧ (b = false → D0.rt (.bl false) st')) D0 env st
section
variable {X : Cx} {w : Wd} {x n : Str} {C : Addr} {i kd : Nat} {body suite : List Stmt} {b₀ : Stmt} {np pos pos' : Pos} {t : XSE} {F : List D → SS → Option D}
theorem ds_try (hs : X.stack = X.env :: X.outer) (hf : X.env.frame = some X.env.locals) (hN : X.N.Nodup) (hi : X.N[i]? = some n) (hln : X.env.kindOf n = some .local) (hc : Names X x (.ref C)) (hC : w.s.cls x = some C) (hm : PySem.W.exmOne X.K (.ref C) (.ref C) = some true) (hfx : ∀ p ∈ w.fx, p.1 ≠ i)
    (hb : ∀ (W : WX) (pn : List (Addr × Obj)) (xe : Value → Shared → Prop), L2N.Takes (X.tr pn xe) W → PassesOwn (model X.prog X.w) X.A X.env xe → PSs (X.tr pn xe) body (tSE w W t))
    (hsu : ∀ (a : Addr) (oe : Obj) (cls : Value) (d : Option Addr) (pn : List (Addr × Obj)), L2N.Zn cls d oe → (∃ vs, oe.data = .fields vs) → PSs (X.suite a ((a, oe) :: pn)) (b₀ :: suite) (tHand w i kd C F a cls d)) :
    PS X (.Try body [.ExceptHandler (some (.Name x np)) (some n) (b₀ :: suite) pos'] [] [] pos) (tS w (sTry2 x i kd F t)) := by
  refine PS.mo (L2N.ps_try_as (tb := fun W => tSE w (guardW X.N.length W) t) (Wout := fun _ _ _ _ => False) hs hf hN hi hln hc (fun _ _ ⟨_, _, _, _, _, _, _, _, _, _, _, _, _, _, _, _, w⟩ => w.elim) (fun W pn xe tk po => hb _ pn xe (takes_guardN (X := X.tr pn xe) tk) po) hsu) fun E σ H ⟨ι, env, st, D0, he, hst, ht, hE⟩ => ?_
  refine ⟨ι, env, st, D0, _, he, hst, ht, hE, fun c r env' st' ι' σ' C' dd H' v1 v2 h g er s hc' hd h1 h2 hn hl => ?_⟩
  obtain ⟨ec, b, hb1, hbt, hbf⟩ := h
  subst ec
  rw [hC] at hc'
  cases hc'
  refine ⟨true, hm, fun _ a ha => ⟨⟨rfl, dd, rfl⟩, ?_⟩, fun z => by cases z⟩
  unfold hndM at hb1
  split at hb1
  · rename_i due hdu
    split at hb1
    · cases hb1
    · rename_i hnn
      split at hb1
      · rename_i b' hF
        cases hb1
        have e1 := hide er i (some (.ref a)) hfx
        refine ⟨dd, ι', env'.set i none, st', r.1, r.2, v1, v2, due, b, rfl, List.getElem?_set_self (by rw [hl]; exact (List.getElem?_eq_some_iff.mp hi).1), hd, hn, h1, h2, e1, s, hdu, by simpa using hnn, hF, fun H2 k2 s2 => ⟨fun z => ?_, fun z => ?_⟩⟩
        · have := hide (e1.kp k2) i none hfx
          rw [List.set_set] at this
          exact hE.nx _ st' ι' _ H2 (hbt z) (g.trans (.of k2)) this s2
        · exact hE.rt _ st' ι' _ H2 (hbf z) (g.trans (.of k2)) (.bl false) s2
      · cases hb1
  · cases hb1
theorem ds_tryF {bn tn sm du : Str} {k lv : Nat} {np pos' q0 q1 q2 q3 q4 q5 q6 q7 q8 q9 q10 q11 q12 q13 q14 q15 q16 q17 q18 q19 q20 p0 p1 p2 p3 p4 p5 p6 p7 p8 p9 p10 p11 : Pos} {j1 j2 j3 x1 : Nat} (hf : Fit X w) (FD : FltD X.prog X.w w.s X.mg k x bn) (FN : FltN w.s X.mg x tn) (c : DefHP X.prog X.w w.s X.mg lv sm F) (hr : Room lv X.A) (hN : X.N.Nodup) (gx : Gl X x) (gi : Gl X "isinstance") (mi : X.mg "isinstance" = none) (g1 : Gl X tn) (g3 : Gl X bn) (gV : Gl X "ValueError") (mV : X.mg "ValueError" = none) (gs : Gl X sm)
    (hb : ∀ (W : WX) (pn : List (Addr × Obj)) (xe : Value → Shared → Prop), L2N.Takes (X.tr pn xe) W → PassesOwn (model X.prog X.w) X.A X.env xe → PSs (X.tr pn xe) body (tSE w W t))
    (hfx : ∀ p ∈ w.fx, p.1 ≠ i) (hi : X.N[i]? = some n := by rfl) (hk : X.N[kd]? = some du := by rfl) (hln : X.env.kindOf n = some .local := by rfl) (hv : Vis X.env.scope n := by exact Or.inl rfl) (hvd : Vis X.env.scope du := by exact Or.inl rfl) (hs : X.stack = X.env :: X.outer := by rfl) (hfr : X.env.frame = some X.env.locals := by rfl) (hd1 : (n == ("__debug__" : Str)) = false := by decide) (hd2 : (n == ("__classdict__" : Str)) = false := by decide) (hd3 : (du == ("__debug__" : Str)) = false := by decide) (hd4 : (du == ("__classdict__" : Str)) = false := by decide) (hd5 : (sm == ("__debug__" : Str)) = false := by decide) (dx : (x == ("__debug__" : Str)) = false := by decide) (d1 : (tn == ("__debug__" : Str)) = false := by decide) (d3 : (bn == ("__debug__" : Str)) = false := by decide)
    (s1 : starEach [.Name n q5, .Name tn q6] X.env = (false, eval (.Name n q5) X.env) :: starEach [.Name tn q6] X.env := by rfl) (s1b : starEach [.Name tn q6] X.env = (false, eval (.Name tn q6) X.env) :: starEach [] X.env := by rfl) (s1c : (backTo q7 (starEach [.Name tn q6] X.env)).any (·.1) = false := by rfl)
    (s2 : starEach [.Name n q9, .Name "ValueError" q10] X.env = (false, eval (.Name n q9) X.env) :: starEach [.Name "ValueError" q10] X.env := by rfl) (s2b : starEach [.Name "ValueError" q10] X.env = (false, eval (.Name "ValueError" q10) X.env) :: starEach [] X.env := by rfl) (s2c : (backTo q11 (starEach [.Name "ValueError" q10] X.env)).any (·.1) = false := by rfl)
    (s3 : starEach [.Name n q14, .Name bn q15] X.env = (false, eval (.Name n q14) X.env) :: starEach [.Name bn q15] X.env := by rfl) (s3b : starEach [.Name bn q15] X.env = (false, eval (.Name bn q15) X.env) :: starEach [] X.env := by rfl) (s3c : (backTo q16 (starEach [.Name bn q15] X.env)).any (·.1) = false := by rfl)
    (s4 : starEach [.Tuple [.Attribute (.Name n p2) "line" p3, .Attribute (.Name n p4) "reason" p5] x1 p6, .Name du p7] X.env = (false, eval (.Tuple [.Attribute (.Name n p2) "line" p3, .Attribute (.Name n p4) "reason" p5] x1 p6) X.env) :: starEach [.Name du p7] X.env := by rfl) (s4b : starEach [.Name du p7] X.env = (false, eval (.Name du p7) X.env) :: starEach [] X.env := by rfl) (s4c : (backTo p8 (starEach [.Name du p7] X.env)).any (·.1) = false := by rfl)
    (s5 : starEach [.Attribute (.Name n p2) "line" p3, .Attribute (.Name n p4) "reason" p5] X.env = (false, eval (.Attribute (.Name n p2) "line" p3) X.env) :: starEach [.Attribute (.Name n p4) "reason" p5] X.env := by rfl) (s5b : starEach [.Attribute (.Name n p4) "reason" p5] X.env = (false, eval (.Attribute (.Name n p4) "reason" p5) X.env) :: starEach [] X.env := by rfl)
    (hat : attributeBase (.Name n p2) "line" X.env (eval (.Name n p2) X.env) = eval (.Name n p2) X.env := by rfl) (hat2 : attributeBase (.Name n p4) "reason" X.env (eval (.Name n p4) X.env) = eval (.Name n p4) X.env := by rfl) :
    PS X (.Try body [.ExceptHandler (some (.Name x np)) (some n) [askIf du n tn bn q0 q1 q2 q3 q4 q5 q6 q7 q8 q9 q10 q11 q12 q13 q14 q15 q16 q17 q18 q19 q20 j1 j2, holdIf sm du n p0 p1 p2 p3 p4 p5 p6 p7 p8 p9 p10 p11 x1 j3] pos'] [] [] pos) (tS w (sTry2 x i kd F t)) := by
  obtain ⟨C, B, fI, fd, hF, hbd, hC, hm, hmB, T, nl, FC, iC, tI, ex⟩ := FD.ex
  obtain ⟨C', T', hC', hmT, kt⟩ := FN.ex
  rw [hC] at hC'
  cases hC'
  rw [← hf.k] at FC ex nl kt
  exact ds_try hs hfr hN hi hln ⟨gx, dx, .inl hm⟩ hC ex hfx hb fun a oe cls d pn hz hfd => suite_ok hf FC nl kt c hr hi hk hv hvd hd1 hd2 hd3 hd4 hd5 gi mi g1 hmT d1 g3 hmB d3 gV mV gs s1 s1b s1c s2 s2b s2c s3 s3b s3c s4 s4b s4c s5 s5b hat hat2 hz hfd
end
end GE

set_option Elab.async false
set_option linter.all false
set_option maxRecDepth 100000
set_option maxHeartbeats 2000000
namespace GE
open PySem PySem.Spec PyProof.Rows L2 GX GD
/-! ## 81. a display's item, texts of a list joined, a text some times -/
section
variable {X : Cx} {w : Wd} {pos : Pos} {a b e o : Expr} {ma mb m : MP} {r : ML}
def mIxL (r : ML) (mb : MP) : MP := fun env st => match r env st, mb env st with | some ds, some (.int i) => atI ds i | _, _ => none
theorem dp_ixL (ha : PE X a (tLs w r)) (hb : PE X b (tP w mb)) (hs : PlainIx b := by intro _ _; rfl) : PE X (.Subscript a b pos) (tP w (mIxL r mb)) := by
  refine PE.mo (pe_ix ix_seq ha hb hs) fun σ H Q ⟨ι, env, st, d, hen, hst, hm, q⟩ => ?_
  unfold mIxL at hm
  split at hm
  · rename_i ds i e1 e2
    refine ⟨ι, env, st, ds, hen, hst, e1, fun p vs H1 k1 hp hn hl r1 s1 => ⟨ι, env, st, _, hen.kp k1, s1, e2, fun v H2 k2 r2 s2 => ?_⟩⟩
    cases r2
    obtain ⟨v, hv, rv⟩ := atI_map r1 hm
    have hn' : p ∉ ι := fun z => by
      obtain ⟨n, hn2⟩ := List.getElem?_of_mem z
      have hl2 : n < st.length := by rw [← hst.len]; exact (List.getElem?_eq_some_iff.mp hn2).1
      have q0 := hst.cell n p _ hn2 (List.getElem?_eq_getElem hl2)
      exact nin_of hst hn z
    have hp2 : H2 p = some (.lst vs) := k2.keep p _ hp (fun _ z => by cases z) fun z => absurd z hn'
    exact .inl ⟨p, vs, i, v, rfl, rfl, sql_of hp2, hv, q v H2 (k1.trans k2) (rv.kp k2) s2⟩
  · cases hm
/-- sep.join(v), v a list or a tuple -/
theorem dp_joinV {mo : MP} {apos : Pos} (ho : PE X o (tP w mo)) (he : PE X e (tP w m)) (hs : starEach [e] X.env = [(false, eval e X.env)] := by rfl) (hbase : attributeBase o "join" X.env (eval o X.env) = eval o X.env := by rfl) (hline : (apos.endLine == pos.line) = true := by rfl) :
    PE X (.Call (.Attribute o "join" apos) [e] [] pos) (tP w (mJoin mo (mLstOf m))) := by
  refine PE.mo (pe_join ho he hs hbase hline) fun σ H Q ⟨ι, env, st, d, hen, hst, hm, q⟩ => ?_
  obtain ⟨sep, es, e1, e2, e3⟩ := mJoin_of hm
  obtain ⟨ws, w1, w2, w3, rfl⟩ := joinD_of e3
  unfold mLstOf at e2
  split at e2
  · rename_i d e4
    refine ⟨ι, env, st, _, hen, hst, e1, fun v H1 k1 r1 s1 => ?_⟩
    cases r1
    refine ⟨⟨sep, rfl⟩, ι, env, st, d, hen.kp k1, s1, e4, fun v H2 k2 r2 s2 => ?_⟩
    obtain ⟨a, vs, rfl, rs, _, hh⟩ := seq_cases (K := X.K) s2 r2 e2
    refine ⟨sep, a, ws, rfl, rfl, ?_, w3, q _ H2 (k1.trans k2) (.str _) s2⟩
    rw [← strs_vs rs w1]
    rcases hh with h1 | ⟨rfl, h1⟩
    · exact .inl h1
    · exact .inr (sqt_of h1)
  · cases e2
def fMulS : F2 := fun _ x y => match x, y with | .str a, .int n => if 1 < n ∧ n ≤ 1000 ∧ a.length ≤ 1000 then some (.str (Txt.mul a n)) else none | _, _ => none
theorem mulOk_of {a : Str} {n : Int} (h1 : 1 < n) (h2 : n ≤ 1000) (h3 : a.length ≤ 1000) : MulOk a n := by
  refine ⟨?_, fun _ _ => ?_, fun _ _ => ?_⟩
  · rw [decide_eq_false (by omega), decide_eq_false (by omega)]; rfl
  · have e : (2 ^ 63 - 1 : Int) / 1000 ≤ (2 ^ 63 - 1) / n := by
      refine (Int.le_ediv_iff_mul_le (by omega)).mpr ?_
      have : (2 ^ 63 - 1 : Int) / 1000 * n ≤ (2 ^ 63 - 1 : Int) / 1000 * 1000 := Int.mul_le_mul_of_nonneg_left h2 (by decide)
      exact Int.le_trans this (by decide)
    have : (1000 : Int) ≤ (2 ^ 63 - 1) / 1000 := by decide
    omega
  · have hm : a.length * n.toNat ≤ 1000 * 1000 := Nat.mul_le_mul h3 (by omega)
    have : (1000 * 1000 : Nat) ≤ sizeLine := by decide
    show decide (a.length * n.toNat > sizeLine) = false
    exact decide_eq_false (by omega)
theorem op_mulS : OpR X (binaryOp .Mult) (fun x y H Q => ∃ a n, x = .str a ∧ y = .int n ∧ MulOk a n ∧ Q (.str (Txt.mul a n)) H) := by
  intro pins s σ H x y v u Q I rx ry h
  obtain ⟨a, n, rfl, rfl, hok, q⟩ := h
  obtain ⟨t, rfl⟩ := (show ∃ t, v = Value.str a t from rx)
  obtain ⟨t2, rfl⟩ := (show ∃ t, u = Value.int n t from ry)
  exact SB.mul hok fun t' k => ⟨.str (Txt.mul a n), H, I.kept (t' := k) fun _ _ z => z, ⟨t', rfl⟩, q⟩
theorem dp_mulS (ha : PE X a (tP w ma)) (hb : PE X b (tP w mb)) : PE X (.BinOp a .Mult b pos) (tP w (mOp fMulS ma mb)) := dp_bin op_mulS (by
  intro ι st H x y dx dy d Q s rx ry hf q
  unfold fMulS at hf
  split at hf
  · rename_i a n
    split at hf
    · rename_i hc
      cases hf
      cases rx
      cases ry
      exact ⟨a, n, rfl, rfl, mulOk_of hc.1 hc.2.1 hc.2.2, q _ H (Kp.refl H) (.str _) s⟩
    · cases hf
  · cases hf) ha hb
end
end GE

set_option Elab.async false
set_option linter.all false
set_option maxRecDepth 100000
set_option maxHeartbeats 2000000
namespace GE
open PySem PySem.Spec PyProof.Rows L2 GX GD
/-! ## 82. a fault of two fields's class, from what the machine has laid -/
theorem flt_of2 {P : Program} {wl : World} {w : Ws} {mg : Str → Option Value} {cn bn q : Str} {st : Stmt} {C B fI c : Addr} {fd : FuncData} {mc : Value} {p1 p2 p3 p4 p5 p6 p7 p8 p9 p10 pa pb pc pd : Pos} (FM : FunM w.K "__init__" q st fI c fd)
    (hbody : defBody st = [.Expr (.Call (.Attribute (.Name bn p1) "__init__" p2) [.Name "self" p3, .Name "reason" p4] [] pa) pb, .Assign [.Attribute (.Name "self" p5) "line" p6] (.Name "line" p7) pc, .Assign [.Attribute (.Name "self" p8) "reason" p9] (.Name "reason" p10) pd]) (S : FnScope [("self" : Str), ("line" : Str), ("reason" : Str)] [("self" : Str), ("line" : Str), ("reason" : Str)] (defScope st))
    (hb : ∀ (kV doc pm : Value) (an : Option Addr) (cdv ct : Value) (us : List Value), us.length = 3 → bindArgs (PySem.W.fnOf "__init__" q (defArgs st) (defBody st) (defScope st) .none kV doc pm an cdv ct) ⟨us, []⟩ = pure ([("self" : Str), ("line" : Str), ("reason" : Str)].zip us))
    (v0 : Vis (defScope st) "self") (v1 : Vis (defScope st) "line") (v2 : Vis (defScope st) "reason") (hg : ∀ X : Cx, X.env.scope = defScope st → Gl X bn) (hbn : (bn == ("__debug__" : Str)) = false) (hln : ∀ env : Env, swapsWith (.Call (.Attribute (.Name bn p1) "__init__" p2) [.Name "self" p3, .Name "reason" p4] [] pa) none pb.line env = pure false)
    (hls : ∀ env : Env, swapsWith (.Name "line" p7) (some (.Attribute (.Name "self" p5) "line" p6)) pc.line env = pure false) (hls2 : ∀ env : Env, swapsWith (.Name "reason" p10) (some (.Attribute (.Name "self" p8) "reason" p9)) pd.line env = pure false)
    (hc : ∀ env : Env, ∃ pl, eval (.Call (.Attribute (.Name bn p1) "__init__" p2) [.Name "self" p3, .Name "reason" p4] [] pa) env = (do let ov ← eval (.Name bn p1) env; standAt p2.atName; let (f, first) ← holding [ov] (getMethod ov "__init__" pl); callWith pa f first (backTo pa (starEach [.Name "self" p3, .Name "reason" p4] env)) (backToKw pa (keywordEach [] env))))
    (hC : w.cls cn = some C) (hm : mg cn = some (.ref C)) (hmB : mg bn = some (.ref B)) (r : ClX.CRead w.K B mc) (at_ : PySem.W.findCls w.K (.ref B) mc "__init__" = some (.val (.builtin "ValueError.__init__"))) (T : OexC w.K C) (nl : PySem.W.findIn w.K (.ref C) "line" = some none) (FC : FltC w.K C B)
    (iC : PySem.W.findIn w.K (.ref C) "__init__" = some (some (.ref fI))) (tI : PySem.W.typeIn w.K (.ref fI) = some (.type "function")) (ex : PySem.W.exmOne w.K (.ref C) (.ref C) = some true) : FltD P wl w mg 1 cn bn := by
  obtain ⟨oc, od, kV, doc, pm, an, ct, osl, rfl, lk, hcd⟩ := FM.ex
  refine ⟨C, B, fI, _, ?_, .all fun us hl => hb kV doc pm an (.ref c) ct us hl, hC, hm, hmB, T, nl, FC, iC, tI, ex⟩
  rw [hbody] at lk ⊢
  exact init_fn2 lk hcd S v0 v1 v2 hg hmB r at_ hbn hln hls hls2 hc
end GE

set_option Elab.async false
set_option linter.all false
set_option maxRecDepth 100000
set_option maxHeartbeats 4000000
namespace Lk01
open PySem PySem.Spec PyProof.Rows L2 GX GD GF
noncomputable section
/-! the text by places; each def, walked -/
def top (i : Nat) : Stmt := PySem.Challenge.pw_formalconcepts_k01_the_first_fault_of_a.main.body.getD i (.Pass ⟨0, 0, 0, 0⟩)
/-- the built-ins that no name of the module hides -/
structure Blt (mg : Str → Option Value) : Prop where
  ValueError : mg "ValueError" = none
  any_ : mg "any" = none
  bool : mg "bool" = none
  enumerate : mg "enumerate" = none
  int : mg "int" = none
  isinstance : mg "isinstance" = none
  len : mg "len" = none
  range : mg "range" = none
  str : mg "str" = none
  tuple : mg "tuple" = none
/-- the lambdas of the text, by their places -/
def NM (l c : Nat) : Option Str := none
structure Gnd (w : Ws) (mg : Str → Option Value) : Prop where
  bm : Bm w.base mg
  nm : ∀ l c, w.nm l c = NM l c
  s_DIGITS : ∃ t, mg "DIGITS" = some (.str ("0123456789" : Str) t)
def N_read_many : List Str := [("line" : Str), ("words" : Str), ("sign" : Str)]
theorem sc_read_many : FnScope N_read_many [("line" : Str)] (defScope (top 6)) := ⟨rfl, rfl, rfl, by decide +kernel, rfl, by decide +kernel, by decide +kernel⟩
def X_read_many : XS := (sSeq (sAsg (xNew (xaOf (mSplit (mVar 0) (mC (.str (" " : Str)))))) (tgN 1)) (sSeq (sIf (xbOf (bOr (bV (mOp fNe (mF1 fLen (mVar 1)) (mC (.int 2)))) (bOr (bV (mOp fNe (mOp fIx (mVar 1) (mC (.int 0))) (mC (.str ("marks" : Str))))) (bNot (bV (mChain fLe fLe (mC (.int 1)) (mF1 fLenT (mOp fIx (mVar 1) (mC (.int 1)))) (mC (.int 2)))))))) (sRet (xOf (mC .non))) sNext) (sSeq (sIf (xbOf (bOr (bV (mAll true (iSigns (mOp fIx (mVar 1) (mC (.int 1)))) (tgN 2) bYes (mOp fNotInS (mVar 2) (mC (.str ("0123456789" : Str)))) [2])) (bAnd (bV (mOp fEq (mOp fIxT (mOp fIx (mVar 1) (mC (.int 1))) (mC (.int 0))) (mC (.str ("0" : Str))))) (bV (mOp fGt (mF1 fLenT (mOp fIx (mVar 1) (mC (.int 1)))) (mC (.int 1))))))) (sRet (xOf (mC .non))) sNext) (sRet (xOf (mF1 fIntS (mOp fIx (mVar 1) (mC (.int 1)))))))))
def T_read_many : XT := fnT N_read_many 1 X_read_many
theorem wk_read_many {P : Program} {wl : World} {w : Ws} {mg : Str → Option Value} (M : Blt mg) (G : Gnd w mg) (D : DefC w mg "read_many" (top 6)) : DefX P wl w mg 4 "read_many" T_read_many :=
  have S := sc_read_many
  D.x (k := 3) S (fun _ _ _ _ _ _ us hl => match us, hl with | [_], _ => rfl) fun f c A outer s H E hr hf => (ds_cons (ds_set (i := 1) S.nd rfl (by first | exact Or.inl rfl | exact Or.inr rfl) (dx_new (dxl_of (dl_split (dp_var 0) dp_str)))) (ds_cons (ds_if (dxb_of ((db_or (dt_ne (hr.mono (by decide)) (dp_len (by rfl) M.len (dp_var 1)) dp_int) (db_or (dt_ne (hr.mono (by decide)) (dp_ix (dp_var 1) dp_int) dp_str) (db_or1 (db_not (dt_chain (op_le) qLe (op_le) qLe dp_int (dp_lenT (by rfl) M.len (dp_ix (dp_var 1) dp_int)) dp_int))))).pt)) (ds_one (ds_ret (dx_of dp_non))) ds_nil) (ds_cons (ds_if (dxb_of ((db_or (db_val (dp_anyG hf (dg_gen (k := 0) (own := [(("sign" : Str), 2)]) rfl S.nd (hr.mono (by decide)) hf G.bm ((G.nm _ _).trans (by rfl)) (di_signs (dp_ix (dp_var 1) dp_int)) (genOk_by (by rfl)) (fun _ => (gt_name (i := 2) (by decide))) (fun _ _ _ _ _ _ _ _ => (pg_name S.nd rfl (by first | exact Or.inl rfl | exact Or.inr rfl))) (fun _ _ _ _ _ _ _ _ hr1 hf1 => dts_nil) (fun _ _ _ _ _ _ _ _ hr1 hf1 => (dp_ninS (dp_var 2) (dp_gstr (by rfl) G.s_DIGITS)))) (hr.mono (by decide)) (by rfl) M.any_)) (db_or1 (db_and (dt_eq (hr.mono (by decide)) (dp_ixT (dp_ix (dp_var 1) dp_int) dp_int) dp_str) (db_and1 (dt_gt (dp_lenT (by rfl) M.len (dp_ix (dp_var 1) dp_int)) dp_int))).pt)).pt)) (ds_one (ds_ret (dx_of dp_non))) ds_nil) (ds_one (ds_ret (dx_of (dp_intS (by rfl) M.int (dp_ix (dp_var 1) dp_int))))))))

def N_read : List Str := [("text" : Str), ("lines" : Str), ("ended" : Str), ("many" : Str), ("number" : Str), ("line" : Str), ("sign" : Str), ("mark" : Str)]
theorem sc_read : FnScope N_read [("text" : Str)] (defScope (top 7)) := ⟨rfl, rfl, rfl, by decide +kernel, rfl, by decide +kernel, by decide +kernel⟩
def X_read : GE.XSE := (GE.sSeqE (fun _ => (sAsg (xNew (xaOf (mSplit (mVar 0) (mC (.str ("\n" : Str)))))) (tgN 1))) (GE.sSeqE (fun _ => (sAsg (xOf (mOp fEq (mOp fIx (mVar 1) (mF1 fNeg (mC (.int 1)))) (mC (.str ("" : Str))))) (tgN 2))) (GE.sSeqE (fun _ => (sIf (xbOf (bV (mVar 2))) (sDrop (xPop (mVar 1))) sNext)) (GE.sSeqE (fun _ => (sAsg (xIf (xbOf (bT (mVar 1))) (xCall T_read_many (xCons (xOf (mOp fIx (mVar 1) (mC (.int 0)))) xNil)) (xOf (mC .non))) (tgN 3))) (GE.sSeqE (GE.sIfE (xbOf (bV (mOp fIsN (mVar 3) (mC .non)))) (GE.sRaise "TextFault" (xOf (mC (.int 1))) (xOf (mC (.str ("expected marks" : Str))))) (fun _ => sNext)) (GE.sSeqE (GE.sForE (xEnum (xNew (xaOf (mSlL (mVar 1) (some (mC (.int 1))) none)))) (tgTup 2 (tgCons (tgN 4) (tgCons (tgN 5) tgNil))) (GE.sSeqE (GE.sIfE (xbOf (bV (mAll true (iSigns (mVar 5)) (tgN 6) bYes (mOp fNotInS (mVar 6) (mC (.str ("x." : Str)))) [6]))) (GE.sRaise "TextFault" (xOf (mOp fAdd (mVar 4) (mC (.int 2)))) (xOf (mC (.str ("unknown sign" : Str))))) (fun _ => sNext)) (GE.sIfE (xbOf (bV (mOp fNe (mF1 fLenT (mVar 5)) (mVar 3)))) (GE.sRaise "TextFault" (xOf (mOp fAdd (mVar 4) (mC (.int 2)))) (xOf (mC (.str ("wrong length" : Str))))) (fun _ => sNext)))) (GE.sSeqE (GE.sIfE (xbOf (bNot (bV (mVar 2)))) (GE.sRaise "TextFault" (xOf (mF1 fLen (mVar 1))) (xOf (mC (.str ("unended" : Str))))) (fun _ => sNext)) (fun _ => (sRet (xTup (xCons (xOf (mC (.str ("table" : Str)))) (xCons (xOf (mVar 3)) (xCons (xGenT (xSeq (xNew (xaOf (mSlL (mVar 1) (some (mC (.int 1))) none)))) (tgN 5) bYes (mGenT (iRng (mVar 3)) (tgN 7) (bV (mOp fEq (mOp fIxT (mVar 5) (mVar 7)) (mC (.str ("x" : Str))))) (mVar 7) [7]) [5]) xNil)))))))))))))
def T_read : GE.XTE := GE.fnTE N_read 1 X_read
theorem wk_read {P : Program} {wl : World} {w : Ws} {mg : Str → Option Value} (M : Blt mg) (G : Gnd w mg) (c_read_many : DefX P wl w mg 4 "read_many" T_read_many) (F_TextFault : GE.FltD P wl w mg 1 "TextFault" "ConceptFault") (D : DefC w mg "read" (top 7)) : GE.DefE P wl w mg 11 "read" T_read :=
  have S := sc_read
  D.xe (mg := mg) (k := 10) S (fun _ _ _ _ _ _ us hl => match us, hl with | [_], _ => rfl) fun f c A outer s H E X hX hr hf tk po => by subst hX; exact (GE.de_cons (GE.de_lift (psNox (have hf := fit_nox hf; (ds_set (i := 1) S.nd rfl (by first | exact Or.inl rfl | exact Or.inr rfl) (dx_new (dxl_of (dl_split (dp_var 0) dp_str))))))) (GE.de_cons (GE.de_lift (psNox (have hf := fit_nox hf; (ds_set (i := 2) S.nd rfl (by first | exact Or.inl rfl | exact Or.inr rfl) (dx_of (dp_eq (hr.mono (by decide)) (dp_ix (dp_var 1) (dp_neg dp_int)) dp_str)))))) (GE.de_cons (GE.de_lift (psNox (have hf := fit_nox hf; (ds_if (dxb_of (db_val (dp_var 2))) (ds_one (ds_drop (dx_pop (dp_var 1)))) ds_nil)))) (GE.de_cons (GE.de_lift (psNox (have hf := fit_nox hf; (ds_set (i := 3) S.nd rfl (by first | exact Or.inl rfl | exact Or.inr rfl) (dx_if (dxb_of (db_tru (dp_var 1))) (dx_call hf c_read_many (hr.mono (by decide)) (by rfl) (dxa_cons (dx_of (dp_ix (dp_var 1) dp_int)) dxa_nil)) (dx_of dp_non)))))) (GE.de_cons (GE.de_if (PT.nox (have hf := fit_nox hf; (dxb_of (dt_isN (dp_var 3) dp_non)))) (GE.de_one (GE.de_raiseF hf F_TextFault (hr.mono (by decide)) rfl tk (by rfl) (PE.nox (have hf := fit_nox hf; (dx_of dp_int))) (PE.nox (have hf := fit_nox hf; (dx_of dp_str))))) (GE.des_lift (PSs.nox (have hf := fit_nox hf; ds_nil)))) (GE.de_cons (GE.de_for po rfl (own := [4, 5]) (gt_tup (gts_cons (gt_name (i := 4) (by decide)) (gts_cons (gt_name (i := 5) (by decide)) gts_nil))) (dxi_enum (by rfl) M.enumerate (dx_new (dxl_of (dl_sl (dp_var 1) (po_some dp_int) po_none pod_some pod_none)))) (pg_tup rfl (pgs_cons (pg_name S.nd rfl (by first | exact Or.inl rfl | exact Or.inr rfl)) (pgs_cons (pg_name S.nd rfl (by first | exact Or.inl rfl | exact Or.inr rfl)) pgs_nil))) (GE.de_cons (GE.de_if (PT.nox (have hf := fit_nox hf; (dxb_of (db_val (dp_anyG hf (dg_gen (k := 0) (own := [(("sign" : Str), 6)]) rfl S.nd (hr.mono (by decide)) hf G.bm ((G.nm _ _).trans (by rfl)) (di_signs (dp_var 5)) (genOk_by (by rfl)) (fun _ => (gt_name (i := 6) (by decide))) (fun _ _ _ _ _ _ _ _ => (pg_name S.nd rfl (by first | exact Or.inl rfl | exact Or.inr rfl))) (fun _ _ _ _ _ _ _ _ hr1 hf1 => dts_nil) (fun _ _ _ _ _ _ _ _ hr1 hf1 => (dp_ninS (dp_var 6) dp_str))) (hr.mono (by decide)) (by rfl) M.any_))))) (GE.de_one (GE.de_raiseF hf F_TextFault (hr.mono (by decide)) rfl tk (by rfl) (PE.nox (have hf := fit_nox hf; (dx_of (dp_add (dp_var 4) dp_int)))) (PE.nox (have hf := fit_nox hf; (dx_of dp_str))))) (GE.des_lift (PSs.nox (have hf := fit_nox hf; ds_nil)))) (GE.de_one (GE.de_if (PT.nox (have hf := fit_nox hf; (dxb_of (dt_ne (hr.mono (by decide)) (dp_lenT (by rfl) M.len (dp_var 5)) (dp_var 3))))) (GE.de_one (GE.de_raiseF hf F_TextFault (hr.mono (by decide)) rfl tk (by rfl) (PE.nox (have hf := fit_nox hf; (dx_of (dp_add (dp_var 4) dp_int)))) (PE.nox (have hf := fit_nox hf; (dx_of dp_str))))) (GE.des_lift (PSs.nox (have hf := fit_nox hf; ds_nil))))))) (GE.de_cons (GE.de_if (PT.nox (have hf := fit_nox hf; (dxb_of (db_not (db_val (dp_var 2)))))) (GE.de_one (GE.de_raiseF hf F_TextFault (hr.mono (by decide)) rfl tk (by rfl) (PE.nox (have hf := fit_nox hf; (dx_of (dp_len (by rfl) M.len (dp_var 1))))) (PE.nox (have hf := fit_nox hf; (dx_of dp_str))))) (GE.des_lift (PSs.nox (have hf := fit_nox hf; ds_nil)))) (GE.de_one (GE.de_lift (psNox (have hf := fit_nox hf; (ds_ret (dx_tup (dxa_cons (dx_of dp_str) (dxa_cons (dx_of (dp_var 3)) (dxa_cons (dx_tupG hf (dxg_gen (k := 5) (own := [(("line" : Str), 5)]) rfl S.nd (hr.mono (by decide)) hf G.bm ((G.nm _ _).trans (by rfl)) (dxi_seq (dx_new (dxl_of (dl_sl (dp_var 1) (po_some dp_int) po_none pod_some pod_none)))) (genOk_by (by rfl)) (fun _ => (gt_name (i := 5) (by decide))) (fun _ _ _ _ _ _ _ _ => (pg_name S.nd rfl (by first | exact Or.inl rfl | exact Or.inr rfl))) (fun _ _ _ _ _ _ _ _ hr1 hf1 => dts_nil) (fun _ _ _ _ _ _ _ _ hr1 hf1 => (dp_tupG hf1 (dg_gen (k := 0) (own := [(("mark" : Str), 7)]) rfl S.nd (hr1.mono (by decide)) hf1 G.bm ((G.nm _ _).trans (by rfl)) (di_rng (by rfl) M.range (dp_var 3)) (genOk_by (by rfl)) (fun _ => (gt_name (i := 7) (by decide))) (fun _ _ _ _ _ _ _ _ => (pg_name S.nd rfl (by first | exact Or.inl rfl | exact Or.inr rfl))) (fun _ _ _ _ _ _ _ _ hr2 hf2 => (dts_one (dt_eq (hr2.mono (by decide)) (dp_ixT (dp_var 5) (dp_var 7)) dp_str))) (fun _ _ _ _ _ _ _ _ hr2 hf2 => (dp_var 7))) (hr1.mono (by decide)) (by rfl) M.tuple))) (hr.mono (by decide)) (by rfl) M.tuple) dxa_nil))))))))))))))))

def N_law_draw : List Str := [("_law_box_here" : Str), ("_law_many" : Str), ("_law_at" : Str)]
theorem sc_law_draw : FnScope N_law_draw [("_law_box_here" : Str), ("_law_many" : Str)] (defScope (top 9)) := ⟨rfl, rfl, rfl, by decide +kernel, rfl, by decide +kernel, by decide +kernel⟩
def X_law_draw : XS := (sSeq (sAsg (xOf (mOp fIx (mVar 0) (mC (.int 1)))) (tgN 2)) (sSeq (sSub (xOf (mOp fAdd (mVar 2) (mC (.int 1)))) (mVar 0) (mC (.int 1))) (sSeq (sIf (xbOf (bV (mOp fLt (mVar 2) (mF1 fLen (mOp fIx (mVar 0) (mC (.int 0))))))) (sRet (xOf (mOp fMod (mF1 fInt (mOp fIx (mOp fIx (mVar 0) (mC (.int 0))) (mVar 2))) (mVar 1)))) sNext) (sRet (xOf (mC (.int 0)))))))
abbrev T_law_draw : XT := drawT
def Y_law_draw : XT := fnT N_law_draw 2 X_law_draw
theorem wk_law_draw {P : Program} {wl : World} {w : Ws} {mg : Str → Option Value} (M : Blt mg) (G : Gnd w mg) (D : DefC w mg "_law_draw" (top 9)) : DefX P wl w mg 1 "_law_draw" Y_law_draw :=
  have S := sc_law_draw
  D.x (k := 0) S (fun _ _ _ _ _ _ us hl => match us, hl with | [_, _], _ => rfl) fun f c A outer s H E hr hf => (ds_cons (ds_set (i := 2) S.nd rfl (by first | exact Or.inl rfl | exact Or.inr rfl) (dx_of (dp_ix (dp_var 0) dp_int))) (ds_cons (ds_sub (dx_of (dp_add (dp_var 2) dp_int)) (dp_var 0) dp_int) (ds_cons (ds_if (dxb_of (dt_lt (dp_var 2) (dp_len (by rfl) M.len (dp_ix (dp_var 0) dp_int)))) (ds_one (ds_ret (dx_of (dp_mod (dp_intc (by rfl) M.int (dp_ix (dp_ix (dp_var 0) dp_int) (dp_var 2))) (dp_var 1))))) ds_nil) (ds_one (ds_ret (dx_of dp_int))))))

def N_law_cell : List Str := [("_law_script" : Str), ("_law_k" : Str)]
theorem sc_law_cell : FnScope N_law_cell [("_law_script" : Str), ("_law_k" : Str)] (defScope (top 10)) := ⟨rfl, rfl, rfl, by decide +kernel, rfl, by decide +kernel, by decide +kernel⟩
def X_law_cell (ns : List Int) : XS := (sSeq (sIf (xbOf (bV (mOp fLt (mVar 1) (mLenS ns)))) (sRet (xOf (mIxS ns (mVar 1)))) sNext) (sRet (xOf (mC (.int 0)))))
abbrev T_law_cell : XTS := cellT
def Y_law_cell : XTS := fnS N_law_cell 2 X_law_cell
theorem wk_law_cell {P : Program} {wl : World} {w : Ws} {mg : Str → Option Value} (M : Blt mg) (G : Gnd w mg) (D : DefC w mg "_law_cell" (top 10)) : DefS P wl w mg 1 "_law_cell" Y_law_cell :=
  have S := sc_law_cell
  D.s (k := 0) S (fun _ _ _ _ _ _ us hl => match us, hl with | [_, _], _ => rfl) fun f c a ns A outer s H E hr hf => (ds_cons (ds_if (dxb_of (dt_lt (dp_var 1) (dp_lenS hf (by rfl) M.len pe_scr))) (ds_one (ds_ret (dx_of (dp_ixS hf pe_scr (dp_var 1))))) ds_nil) (ds_one (ds_ret (dx_of dp_int))))

def N_law_digits : List Str := [("_law_script" : Str), ("_law_first" : Str), ("_law_last" : Str), ("_law_digits_here" : Str), ("_law_k" : Str), ("_law_cell_here" : Str), ("_law_turn" : Str), ("_law_seed" : Str)]
theorem sc_law_digits : FnScope N_law_digits [("_law_script" : Str), ("_law_first" : Str), ("_law_last" : Str)] (defScope (top 11)) := ⟨rfl, rfl, rfl, by decide +kernel, rfl, by decide +kernel, by decide +kernel⟩
def X_law_digits (ns : List Int) : XS := (sSeq (sAsg (xNew (xaOf (mLst mNil))) (tgN 3)) (sSeq (sFor (xiOf (iRng2 (mVar 1) (mVar 2))) (tgN 4) (sSeq (sAsg (xCallS T_law_cell ns (xCons (xOf (mVar 4)) xNil)) (tgN 5)) (sSeq (sIf (xbOf (bV (mOp fLt (mVar 5) (mC (.int 0))))) (sAsg (xOf (mOp fSub (mC (.int 1)) (mOp fMul (mC (.int 2)) (mVar 5)))) (tgN 5)) sNext) (sIf (xbOf (bV (mOp fGe (mVar 5) (mOp fPow (mC (.int 10)) (mC (.int 18)))))) (sFor (xiOf (iRng (mC (.int 60)))) (tgN 6) (sIf (xbOf (bV (mOp fGt (mVar 5) (mC (.int 0))))) (sSeq (sAppP (mVar 3) (xOf (mOp fMod (mF1 fInt (mVar 5)) (mC (.int 1000))))) (sAsg (xOf (mOp fDiv (mVar 5) (mC (.int 1000)))) (tgN 5))) sNext)) (sSeq (sAsg (xOf (mOp fMod (mF1 fInt (mOp fAdd (mOp fAdd (mOp fMul (mVar 5) (mC (.int 48271))) (mOp fMul (mVar 4) (mC (.int 69621)))) (mC (.int 11)))) (mC (.int 2147483647)))) (tgN 7)) (sFor (xiOf (iRng (mC (.int 12)))) (tgN 6) (sSeq (sAsg (xOf (mOp fMod (mF1 fInt (mOp fAdd (mOp fAdd (mOp fMul (mVar 7) (mC (.int 16807))) (mOp fMul (mC (.int 7)) (mVar 6))) (mC (.int 1)))) (mC (.int 2147483647)))) (tgN 7)) (sAppP (mVar 3) (xOf (mOp fMod (mF1 fInt (mOp fDiv (mVar 7) (mC (.int 997)))) (mC (.int 1000)))))))))))) (sRet (xOf (mVar 3)))))
abbrev T_law_digits : XTS := digitsT
def Y_law_digits : XTS := fnS N_law_digits 3 X_law_digits
theorem wk_law_digits {P : Program} {wl : World} {w : Ws} {mg : Str → Option Value} (M : Blt mg) (G : Gnd w mg) (c_law_cell : DefS P wl w mg 1 "_law_cell" T_law_cell) (D : DefC w mg "_law_digits" (top 11)) : DefS P wl w mg 2 "_law_digits" Y_law_digits :=
  have S := sc_law_digits
  D.s (k := 1) S (fun _ _ _ _ _ _ us hl => match us, hl with | [_, _, _], _ => rfl) fun f c a ns A outer s H E hr hf => (ds_cons (ds_set (i := 3) S.nd rfl (by first | exact Or.inl rfl | exact Or.inr rfl) (dx_new (dxl_of (dl_lst da_nil))) (hfx := fxS (i := 3) (by decide))) (ds_cons (ds_for PassesOwn.never rfl (own := [4]) (gt_name (i := 4) (by decide) (hfx := fxS (i := 4) (by decide))) (dxi_of (di_rng2 (by rfl) M.range (dp_var 1) (dp_var 2))) (pg_name S.nd rfl (by first | exact Or.inl rfl | exact Or.inr rfl)) (ds_cons (ds_set (i := 5) S.nd rfl (by first | exact Or.inl rfl | exact Or.inr rfl) (dx_callS hf c_law_cell (hr.mono (by decide)) (by rfl) pe_scr (dxa_cons (dx_of (dp_var 4)) dxa_nil)) (hfx := fxS (i := 5) (by decide))) (ds_cons (ds_if (dxb_of (dt_lt (dp_var 5) dp_int)) (ds_one (ds_set (i := 5) S.nd rfl (by first | exact Or.inl rfl | exact Or.inr rfl) (dx_of (dp_sub dp_int (dp_mul dp_int (dp_var 5)))) (hfx := fxS (i := 5) (by decide)))) ds_nil) (ds_one (ds_if (dxb_of (dt_ge (dp_var 5) (dp_pow dp_int dp_int))) (ds_one (ds_for PassesOwn.never rfl (own := [6]) (gt_name (i := 6) (by decide) (hfx := fxS (i := 6) (by decide))) (dxi_of (di_rng (by rfl) M.range dp_int)) (pg_name S.nd rfl (by first | exact Or.inl rfl | exact Or.inr rfl)) (ds_one (ds_if (dxb_of (dt_gt (dp_var 5) dp_int)) (ds_cons (ds_app (dp_var 3) (dx_of (dp_mod (dp_intc (by rfl) M.int (dp_var 5)) dp_int))) (ds_one (ds_set (i := 5) S.nd rfl (by first | exact Or.inl rfl | exact Or.inr rfl) (dx_of (dp_div (dp_var 5) dp_int)) (hfx := fxS (i := 5) (by decide))))) ds_nil)))) (ds_cons (ds_set (i := 7) S.nd rfl (by first | exact Or.inl rfl | exact Or.inr rfl) (dx_of (dp_mod (dp_intc (by rfl) M.int (dp_add (dp_add (dp_mul (dp_var 5) dp_int) (dp_mul (dp_var 4) dp_int)) dp_int)) dp_int)) (hfx := fxS (i := 7) (by decide))) (ds_one (ds_for PassesOwn.never rfl (own := [6]) (gt_name (i := 6) (by decide) (hfx := fxS (i := 6) (by decide))) (dxi_of (di_rng (by rfl) M.range dp_int)) (pg_name S.nd rfl (by first | exact Or.inl rfl | exact Or.inr rfl)) (ds_cons (ds_set (i := 7) S.nd rfl (by first | exact Or.inl rfl | exact Or.inr rfl) (dx_of (dp_mod (dp_intc (by rfl) M.int (dp_add (dp_add (dp_mul (dp_var 7) dp_int) (dp_mul dp_int (dp_var 6))) dp_int)) dp_int)) (hfx := fxS (i := 7) (by decide))) (ds_one (ds_app (dp_var 3) (dx_of (dp_mod (dp_intc (by rfl) M.int (dp_div (dp_var 7) dp_int)) dp_int))))))))))))) (ds_one (ds_ret (dx_of (dp_var 3))))))

def N_law_box : List Str := [("_law_script" : Str), ("_law_first" : Str), ("_law_last" : Str)]
theorem sc_law_box : FnScope N_law_box [("_law_script" : Str), ("_law_first" : Str), ("_law_last" : Str)] (defScope (top 12)) := ⟨rfl, rfl, rfl, by decide +kernel, rfl, by decide +kernel, by decide +kernel⟩
def X_law_box (ns : List Int) : XS := (sRet (xNew (xLst (xCons (xCallS T_law_digits ns (xCons (xOf (mVar 1)) (xCons (xOf (mVar 2)) xNil))) (xCons (xOf (mC (.int 0))) xNil)))))
abbrev T_law_box : XTS := boxT
def Y_law_box : XTS := fnS N_law_box 3 X_law_box
theorem wk_law_box {P : Program} {wl : World} {w : Ws} {mg : Str → Option Value} (M : Blt mg) (G : Gnd w mg) (c_law_digits : DefS P wl w mg 2 "_law_digits" T_law_digits) (D : DefC w mg "_law_box" (top 12)) : DefS P wl w mg 3 "_law_box" Y_law_box :=
  have S := sc_law_box
  D.s (k := 2) S (fun _ _ _ _ _ _ us hl => match us, hl with | [_, _, _], _ => rfl) fun f c a ns A outer s H E hr hf => (ds_one (ds_ret (dx_new (dxl_lst (dxa_cons (dx_callS hf c_law_digits (hr.mono (by decide)) (by rfl) pe_scr (dxa_cons (dx_of (dp_var 1)) (dxa_cons (dx_of (dp_var 2)) dxa_nil))) (dxa_cons (dx_of dp_int) dxa_nil))))))

def N_law_some : List Str := [("_law_box_here" : Str), ("_law_many" : Str), ("_law_sparse" : Str), ("_law_k" : Str)]
theorem sc_law_some : FnScope N_law_some [("_law_box_here" : Str), ("_law_many" : Str), ("_law_sparse" : Str)] (defScope (top 13)) := ⟨rfl, rfl, rfl, by decide +kernel, rfl, by decide +kernel, by decide +kernel⟩
def X_law_some : XS := (sRet (xTupL (xComp (xiOf (iRng (mVar 1))) (tgN 3) (xV (xOp fLt (xCall T_law_draw (xCons (xOf (mVar 0)) (xCons (xOf (mC (.int 6))) xNil))) (xOf (mVar 2)))) (xOf (mVar 3)) [3])))
abbrev T_law_some : XT := someT
def Y_law_some : XT := fnT N_law_some 3 X_law_some
theorem wk_law_some {P : Program} {wl : World} {w : Ws} {mg : Str → Option Value} (M : Blt mg) (G : Gnd w mg) (c_law_draw : DefX P wl w mg 1 "_law_draw" T_law_draw) (D : DefC w mg "_law_some" (top 13)) : DefX P wl w mg 2 "_law_some" Y_law_some :=
  have S := sc_law_some
  D.x (k := 1) S (fun _ _ _ _ _ _ us hl => match us, hl with | [_, _, _], _ => rfl) fun f c A outer s H E hr hf => (ds_one (ds_ret (dx_tupL (by rfl) M.tuple (dxl_lc (own := [(("_law_k" : Str), 3)]) rfl S.nd (dxi_of (di_rng (by rfl) M.range (dp_var 1))) (blkOk_by (by rfl)) (gt_name (i := 3) (by decide)) (fun _ _ _ _ _ => (pg_name S.nd rfl (by first | exact Or.inl rfl | exact Or.inr rfl))) (fun _ _ _ _ _ => (dxts_one (dxt_lt (dx_call hf.blk c_law_draw (hr.mono (by decide)) (by rfl) (dxa_cons (dx_of (dp_var 0)) (dxa_cons (dx_of dp_int) dxa_nil))) (dx_of (dp_var 2))))) (fun _ _ _ _ _ => (dx_of (dp_var 3)))))))

def N_law_table : List Str := [("_law_box_here" : Str), ("_law_things" : Str), ("_law_marks" : Str), ("_law_many" : Str), ("_law_sparse" : Str), ("_law_k" : Str), ("_law_rows" : Str)]
theorem sc_law_table : FnScope N_law_table [("_law_box_here" : Str), ("_law_things" : Str), ("_law_marks" : Str)] (defScope (top 14)) := ⟨rfl, rfl, rfl, by decide +kernel, rfl, by decide +kernel, by decide +kernel⟩
def X_law_table : XS := (sSeq (sAsg (xCall T_law_draw (xCons (xOf (mVar 0)) (xCons (xOf (mOp fAdd (mVar 2) (mC (.int 1)))) xNil))) (tgN 3)) (sSeq (sAsg (xOp fAdd (xOf (mC (.int 2))) (xCall T_law_draw (xCons (xOf (mVar 0)) (xCons (xOf (mC (.int 3))) xNil)))) (tgN 4)) (sSeq (sAsg (xTupL (xComp (xRng (xCall T_law_draw (xCons (xOf (mVar 0)) (xCons (xOf (mOp fAdd (mVar 1) (mC (.int 1)))) xNil)))) (tgN 5) (xbOf bYes) (xCall T_law_some (xCons (xOf (mVar 0)) (xCons (xOf (mVar 3)) (xCons (xOf (mVar 4)) xNil)))) [5])) (tgN 6)) (sRet (xOf (mTup (mCons (mC (.str ("table" : Str))) (mCons (mVar 3) (mCons (mVar 6) mNil)))))))))
abbrev T_law_table : XT := tableT
def Y_law_table : XT := fnT N_law_table 3 X_law_table
theorem wk_law_table {P : Program} {wl : World} {w : Ws} {mg : Str → Option Value} (M : Blt mg) (G : Gnd w mg) (c_law_draw : DefX P wl w mg 1 "_law_draw" T_law_draw) (c_law_some : DefX P wl w mg 2 "_law_some" T_law_some) (D : DefC w mg "_law_table" (top 14)) : DefX P wl w mg 3 "_law_table" Y_law_table :=
  have S := sc_law_table
  D.x (k := 2) S (fun _ _ _ _ _ _ us hl => match us, hl with | [_, _, _], _ => rfl) fun f c A outer s H E hr hf => (ds_cons (ds_set (i := 3) S.nd rfl (by first | exact Or.inl rfl | exact Or.inr rfl) (dx_call hf c_law_draw (hr.mono (by decide)) (by rfl) (dxa_cons (dx_of (dp_var 0)) (dxa_cons (dx_of (dp_add (dp_var 2) dp_int)) dxa_nil)))) (ds_cons (ds_set (i := 4) S.nd rfl (by first | exact Or.inl rfl | exact Or.inr rfl) (dx_add (dx_of dp_int) (dx_call hf c_law_draw (hr.mono (by decide)) (by rfl) (dxa_cons (dx_of (dp_var 0)) (dxa_cons (dx_of dp_int) dxa_nil))))) (ds_cons (ds_set (i := 6) S.nd rfl (by first | exact Or.inl rfl | exact Or.inr rfl) (dx_tupL (by rfl) M.tuple (dxl_lc (own := [(("_law_k" : Str), 5)]) rfl S.nd (dxi_rng (by rfl) M.range (dx_call hf c_law_draw (hr.mono (by decide)) (by rfl) (dxa_cons (dx_of (dp_var 0)) (dxa_cons (dx_of (dp_add (dp_var 1) dp_int)) dxa_nil)))) (blkOk_by (by rfl)) (gt_name (i := 5) (by decide)) (fun _ _ _ _ _ => (pg_name S.nd rfl (by first | exact Or.inl rfl | exact Or.inr rfl))) (fun _ _ _ _ _ => dxts_nil) (fun _ _ _ _ _ => (dx_call hf.blk c_law_some (hr.mono (by decide)) (by rfl) (dxa_cons (dx_of (dp_var 0)) (dxa_cons (dx_of (dp_var 3)) (dxa_cons (dx_of (dp_var 4)) dxa_nil)))))))) (ds_one (ds_ret (dx_of (dp_tup (da_cons dp_str (da_cons (dp_var 3) (da_cons (dp_var 6) da_nil))))))))))

def N_law_same : List Str := [("_law_actual" : Str), ("_law_expected" : Str), ("_law_k" : Str)]
theorem sc_law_same : FnScope N_law_same [("_law_actual" : Str), ("_law_expected" : Str)] (defScope (top 15)) := ⟨rfl, rfl, rfl, by decide +kernel, rfl, by decide +kernel, by decide +kernel⟩
def R_law_same (F_rec : List D → SS → Option D) : RS := (rSeq (rIf (bV (mF1 (fIs "tuple") (mVar 1))) (rSeq (rIf (bOr (bNot (bV (mF1 (fIs "tuple") (mVar 0)))) (bV (mOp fNe (mF1 fLen (mVar 0)) (mF1 fLen (mVar 1))))) (rRet (mC (.bl false))) rNext) (rSeq (rFor (iRng (mF1 fLen (mVar 1))) (tgN 2) (rIf (bNot (bV (mCall F_rec (mCons (mOp fIx (mVar 0) (mVar 2)) (mCons (mOp fIx (mVar 1) (mVar 2)) mNil))))) (rRet (mC (.bl false))) rNext)) (rRet (mC (.bl true))))) rNext) (rSeq (rIf (bV (mOp fIsN (mVar 1) (mC .non))) (rRet (mOp fIsN (mVar 0) (mC .non))) rNext) (rSeq (rIf (bV (mF1 (fIs "bool") (mVar 1))) (rRet (mAnd (mF1 (fIs "bool") (mVar 0)) (mOp fEq (mVar 0) (mVar 1)))) rNext) (rSeq (rIf (bV (mF1 (fIs "int") (mVar 1))) (rRet (mAnd (mF1 (fIs "int") (mVar 0)) (mAnd (mNot (mF1 (fIs "bool") (mVar 0))) (mOp fEq (mVar 0) (mVar 1))))) rNext) (rRet (mAnd (mF1 (fIs "str") (mVar 0)) (mOp fEq (mVar 0) (mVar 1))))))))
theorem wk_law_same {k : Nat} {F_rec : List D → SS → Option D} {P : Program} {wl : World} {w : Ws} {mg : Str → Option Value} (M : Blt mg) (G : Gnd w mg) (D : DefC w mg "_law_same" (top 15)) (c_rec : DefP P wl w mg (k + 1) "_law_same" F_rec) : DefP P wl w mg (k + 2) "_law_same" (fnR N_law_same 2 (R_law_same F_rec)) :=
  have S := sc_law_same
  D.p (k := k + 1) S (fun _ _ _ _ _ _ us hl => match us, hl with | [_, _], _ => rfl) fun f c A outer s H E hr hf => (dr_cons (dr_if (db_val (dp_isi (by rfl) M.isinstance (by rfl) M.tuple (by decide +kernel) (dp_var 1))) (dr_cons (dr_if ((db_or (db_not (db_val (dp_isi (by rfl) M.isinstance (by rfl) M.tuple (by decide +kernel) (dp_var 0)))) (db_or1 (dt_ne (hr.mono (by omega)) (dp_len (by rfl) M.len (dp_var 0)) (dp_len (by rfl) M.len (dp_var 1))))).pt) (dr_one (dr_ret dp_bl)) dr_nil) (dr_cons (dr_for PassesOwn.never rfl (own := [2]) (gt_name (i := 2) (by decide)) (di_rng (by rfl) M.range (dp_len (by rfl) M.len (dp_var 1))) (pg_name S.nd rfl (by first | exact Or.inl rfl | exact Or.inr rfl)) (dr_one (dr_if (db_not (db_val (dp_call hf c_rec hr (by rfl) (da_cons (dp_ix (dp_var 0) (dp_var 2)) (da_cons (dp_ix (dp_var 1) (dp_var 2)) da_nil))))) (dr_one (dr_ret dp_bl)) dr_nil))) (dr_one (dr_ret dp_bl)))) dr_nil) (dr_cons (dr_if (dt_isN (dp_var 1) dp_non) (dr_one (dr_ret (dp_isN (dp_var 0) dp_non))) dr_nil) (dr_cons (dr_if (db_val (dp_isi (by rfl) M.isinstance (by rfl) M.bool (by decide +kernel) (dp_var 1))) (dr_one (dr_ret (dp_and (dp_isi (by rfl) M.isinstance (by rfl) M.bool (by decide +kernel) (dp_var 0)) (dp_one (dp_eq (hr.mono (by omega)) (dp_var 0) (dp_var 1)))))) dr_nil) (dr_cons (dr_if (db_val (dp_isi (by rfl) M.isinstance (by rfl) M.int (by decide +kernel) (dp_var 1))) (dr_one (dr_ret (dp_and (dp_isi (by rfl) M.isinstance (by rfl) M.int (by decide +kernel) (dp_var 0)) (dp_and (dp_not (dp_isi (by rfl) M.isinstance (by rfl) M.bool (by decide +kernel) (dp_var 0))) (dp_one (dp_eq (hr.mono (by omega)) (dp_var 0) (dp_var 1))))))) dr_nil) (dr_one (dr_ret (dp_and (dp_isi (by rfl) M.isinstance (by rfl) M.str (by decide +kernel) (dp_var 0)) (dp_one (dp_eq (hr.mono (by omega)) (dp_var 0) (dp_var 1))))))))))

theorem wk_law_sameH {k : Nat} {F_rec : List D → SS → Option D} {P : Program} {wl : World} {w : Ws} {mg : Str → Option Value} (M : Blt mg) (G : Gnd w mg) (D : DefC w mg "_law_same" (top 15)) (c_rec : GE.DefHP P wl w mg (k + 1) "_law_same" F_rec) : GE.DefHP P wl w mg (k + 2) "_law_same" (fnR N_law_same 2 (R_law_same F_rec)) :=
  have S := sc_law_same
  D.pH (k := k + 1) S (fun _ _ _ _ _ _ us hl => match us, hl with | [_, _], _ => rfl) fun f c A outer s H E p X hX hr hf hot => by subst hX; exact (dr_cons (dr_if (db_val (dp_isi (by rfl) M.isinstance (by rfl) M.tuple (by decide +kernel) (dp_var 1))) (dr_cons (dr_if ((db_or (db_not (db_val (dp_isi (by rfl) M.isinstance (by rfl) M.tuple (by decide +kernel) (dp_var 0)))) (db_or1 (GE.dt_neU (GE.hot_units hr) (dp_len (by rfl) M.len (dp_var 0)) (dp_len (by rfl) M.len (dp_var 1))))).pt) (dr_one (dr_ret dp_bl)) dr_nil) (dr_cons (GE.dr_forH PassesOwn.never hot (own := [2]) (gt_name (i := 2) (by decide)) (GE.di_rngH (by rfl) M.range (dp_len (by rfl) M.len (dp_var 1))) (pg_name S.nd rfl (by first | exact Or.inl rfl | exact Or.inr rfl)) (dr_one (dr_if (db_not (db_val (GE.dp_callH hf c_rec hr hot (by rfl) (da_cons (dp_ix (dp_var 0) (dp_var 2)) (da_cons (dp_ix (dp_var 1) (dp_var 2)) da_nil))))) (dr_one (dr_ret dp_bl)) dr_nil))) (dr_one (dr_ret dp_bl)))) dr_nil) (dr_cons (dr_if (dt_isN (dp_var 1) dp_non) (dr_one (dr_ret (dp_isN (dp_var 0) dp_non))) dr_nil) (dr_cons (dr_if (db_val (dp_isi (by rfl) M.isinstance (by rfl) M.bool (by decide +kernel) (dp_var 1))) (dr_one (dr_ret (dp_and (dp_isi (by rfl) M.isinstance (by rfl) M.bool (by decide +kernel) (dp_var 0)) (dp_one (GE.dp_eqU (GE.hot_units hr) (dp_var 0) (dp_var 1)))))) dr_nil) (dr_cons (dr_if (db_val (dp_isi (by rfl) M.isinstance (by rfl) M.int (by decide +kernel) (dp_var 1))) (dr_one (dr_ret (dp_and (dp_isi (by rfl) M.isinstance (by rfl) M.int (by decide +kernel) (dp_var 0)) (dp_and (dp_not (dp_isi (by rfl) M.isinstance (by rfl) M.bool (by decide +kernel) (dp_var 0))) (dp_one (GE.dp_eqU (GE.hot_units hr) (dp_var 0) (dp_var 1))))))) dr_nil) (dr_one (dr_ret (dp_and (dp_isi (by rfl) M.isinstance (by rfl) M.str (by decide +kernel) (dp_var 0)) (dp_one (GE.dp_eqU (GE.hot_units hr) (dp_var 0) (dp_var 1))))))))))

abbrev F_law_same : List D → SS → Option D := sameF
def N_law_lines : List Str := [("_law_table_here" : Str), ("_law_lines_here" : Str), ("_law_row" : Str), ("_law_mark" : Str)]
theorem sc_law_lines : FnScope N_law_lines [("_law_table_here" : Str)] (defScope (top 16)) := ⟨rfl, rfl, rfl, by decide +kernel, rfl, by decide +kernel, by decide +kernel⟩
def X_law_lines : XS := (sSeq (sAsg (xNew (xaOf (mLst (mCons (mOp fAdd (mC (.str ("marks " : Str))) (mF1 fStrI (mOp fIx (mVar 0) (mC (.int 1))))) mNil)))) (tgN 1)) (sSeq (sFor (xiOf (iSeq (mOp fIx (mVar 0) (mC (.int 2))))) (tgN 2) (sAppP (mVar 1) (xOf (mJoin (mC (.str ("" : Str))) (mComp (iRng (mOp fIx (mVar 0) (mC (.int 1)))) (tgN 3) bYes (GE.mIxL (mLst (mCons (mC (.str ("." : Str))) (mCons (mC (.str ("x" : Str))) mNil))) (mF1 fInt (mOp fIn (mVar 3) (mVar 2)))) [3]))))) (sRet (xOf (mVar 1)))))
def T_law_lines : XT := fnT N_law_lines 1 X_law_lines
theorem wk_law_lines {P : Program} {wl : World} {w : Ws} {mg : Str → Option Value} (M : Blt mg) (G : Gnd w mg) (D : DefC w mg "_law_lines" (top 16)) : DefX P wl w mg 1 "_law_lines" T_law_lines :=
  have S := sc_law_lines
  D.x (k := 0) S (fun _ _ _ _ _ _ us hl => match us, hl with | [_], _ => rfl) fun f c A outer s H E hr hf => (ds_cons (ds_set (i := 1) S.nd rfl (by first | exact Or.inl rfl | exact Or.inr rfl) (dx_new (dxl_of (dl_lst (da_cons (dp_add dp_str (dp_strI (by rfl) M.str (dp_ix (dp_var 0) dp_int))) da_nil))))) (ds_cons (ds_for PassesOwn.never rfl (own := [2]) (gt_name (i := 2) (by decide)) (dxi_of (di_seq (dp_ix (dp_var 0) dp_int))) (pg_name S.nd rfl (by first | exact Or.inl rfl | exact Or.inr rfl)) (ds_one (ds_app (dp_var 1) (dx_of (dp_joinL dp_str (dl_lc (own := [(("_law_mark" : Str), 3)]) rfl S.nd (di_rng (by rfl) M.range (dp_ix (dp_var 0) dp_int)) (blkOk_by (by rfl)) (gt_name (i := 3) (by decide)) (fun _ _ _ _ _ => (pg_name S.nd rfl (by first | exact Or.inl rfl | exact Or.inr rfl))) (fun _ _ _ _ _ => dts_nil) (fun _ _ _ _ _ => (GE.dp_ixL (dl_lst (da_cons dp_str (da_cons dp_str da_nil))) (dp_intc (by rfl) M.int (dp_in (hr.mono (by decide)) (dp_var 3) (dp_var 2))))))))))) (ds_one (ds_ret (dx_of (dp_var 1))))))

def N_law_other_lines : List Str := [("_law_box_here" : Str), ("_law_lines_here" : Str), ("_law_k" : Str), ("_law_kind" : Str), ("_law_line" : Str), ("_law_at" : Str), ("_law_first" : Str)]
theorem sc_law_other_lines : FnScope N_law_other_lines [("_law_box_here" : Str), ("_law_lines_here" : Str)] (defScope (top 17)) := ⟨rfl, rfl, rfl, by decide +kernel, rfl, by decide +kernel, by decide +kernel⟩
def X_law_other_lines : XS := (sSeq (sAsg (xCall T_law_draw (xCons (xOf (mVar 0)) (xCons (xOf (mOp fAdd (mF1 fLen (mVar 1)) (mC (.int 1)))) xNil))) (tgN 2)) (sSeq (sAsg (xCall T_law_draw (xCons (xOf (mVar 0)) (xCons (xOf (mC (.int 7))) xNil))) (tgN 3)) (sSeq (sIf (xbOf (bV (mOp fEq (mVar 3) (mC (.int 0))))) (sRet (xNew (xCat (xNew (xCat (xNew (xaOf (mSlL (mVar 1) none (some (mVar 2))))) (xNew (xLst (xCons (xOp fIx (xNew (xaOf (mLst (mCons (mC (.str ("" : Str))) (mCons (mC (.str ("x" : Str))) (mCons (mC (.str (".." : Str))) (mCons (mC (.str ("x y" : Str))) (mCons (mC (.str ("marks 2" : Str))) (mCons (mC (.str ("xx.x." : Str))) mNil))))))))) (xCall T_law_draw (xCons (xOf (mVar 0)) (xCons (xOf (mC (.int 6))) xNil)))) xNil))))) (xNew (xaOf (mSlL (mVar 1) (some (mVar 2)) none)))))) sNext) (sSeq (sIf (xbOf (bV (mOp fEq (mF1 fLen (mVar 1)) (mC (.int 0))))) (sRet (xOf (mVar 1))) sNext) (sSeq (sAsg (xOf (mOp fMod (mVar 2) (mF1 fLen (mVar 1)))) (tgN 2)) (sSeq (sAsg (xOf (mOp fIx (mVar 1) (mVar 2))) (tgN 4)) (sSeq (sAsg (xCall T_law_draw (xCons (xOf (mVar 0)) (xCons (xOf (mOp fAdd (mF1 fLenT (mVar 4)) (mC (.int 1)))) xNil))) (tgN 5)) (sSeq (sIf (xbOf (bV (mOp fEq (mVar 3) (mC (.int 1))))) (sRet (xNew (xCat (xNew (xaOf (mSlL (mVar 1) none (some (mVar 2))))) (xNew (xaOf (mSlL (mVar 1) (some (mOp fAdd (mVar 2) (mC (.int 1)))) none)))))) sNext) (sSeq (sIf (xbOf (bV (mOp fEq (mVar 3) (mC (.int 2))))) (sRet (xNew (xCat (xNew (xCat (xNew (xaOf (mSlL (mVar 1) none (some (mVar 2))))) (xNew (xLst (xCons (xOp fAdd (xOp fAdd (xOf (mSl (mVar 4) none (some (mVar 5)))) (xOp fIx (xNew (xaOf (mLst (mCons (mC (.str ("x" : Str))) (mCons (mC (.str ("." : Str))) (mCons (mC (.str ("o" : Str))) (mCons (mC (.str (" " : Str))) mNil))))))) (xCall T_law_draw (xCons (xOf (mVar 0)) (xCons (xOf (mC (.int 4))) xNil))))) (xOf (mSl (mVar 4) (some (mVar 5)) none))) xNil))))) (xNew (xaOf (mSlL (mVar 1) (some (mOp fAdd (mVar 2) (mC (.int 1)))) none)))))) sNext) (sSeq (sIf (xbOf (bV (mOp fEq (mVar 3) (mC (.int 3))))) (sRet (xNew (xCat (xNew (xCat (xNew (xaOf (mSlL (mVar 1) none (some (mVar 2))))) (xNew (xaOf (mLst (mCons (mOp fAdd (mSl (mVar 4) none (some (mVar 5))) (mSl (mVar 4) (some (mOp fAdd (mVar 5) (mC (.int 1)))) none)) mNil)))))) (xNew (xaOf (mSlL (mVar 1) (some (mOp fAdd (mVar 2) (mC (.int 1)))) none)))))) sNext) (sSeq (sIf (xbOf (bV (mOp fEq (mVar 3) (mC (.int 4))))) (sSeq (sAsg (xNew (xaOf (mLst (mCons (mC (.str ("marks" : Str))) (mCons (mC (.str ("marks " : Str))) (mCons (mC (.str ("marks 03" : Str))) (mCons (mC (.str ("marks 0" : Str))) (mCons (mC (.str ("marks 123" : Str))) (mCons (mC (.str ("mark 3" : Str))) (mCons (mC (.str ("marks  3" : Str))) (mCons (mC (.str ("marks 3 " : Str))) (mCons (mC (.str ("marks x" : Str))) (mCons (mC (.str ("Marks 3" : Str))) mNil))))))))))))) (tgN 6)) (sRet (xNew (xCat (xNew (xLst (xCons (xOp fIx (xOf (mVar 6)) (xCall T_law_draw (xCons (xOf (mVar 0)) (xCons (xOf (mC (.int 10))) xNil)))) xNil))) (xNew (xaOf (mSlL (mVar 1) (some (mC (.int 1))) none))))))) sNext) (sSeq (sIf (xbOf (bV (mOp fEq (mVar 3) (mC (.int 5))))) (sRet (xNew (xCat (xNew (xCat (xNew (xaOf (mSlL (mVar 1) none (some (mVar 2))))) (xNew (xaOf (mLst (mCons (mVar 4) (mCons (mVar 4) mNil))))))) (xNew (xaOf (mSlL (mVar 1) (some (mOp fAdd (mVar 2) (mC (.int 1)))) none)))))) sNext) (sRet (xNew (xCat (xNew (xCat (xNew (xaOf (mSlL (mVar 1) none (some (mVar 2))))) (xNew (xaOf (mLst (mCons (mOp fAdd (mOp fAdd (mSl (mVar 4) none (some (mVar 5))) (mC (.str ("X" : Str)))) (mSl (mVar 4) (some (mOp fAdd (mVar 5) (mC (.int 1)))) none)) mNil)))))) (xNew (xaOf (mSlL (mVar 1) (some (mOp fAdd (mVar 2) (mC (.int 1)))) none))))))))))))))))))
def T_law_other_lines : XT := fnT N_law_other_lines 2 X_law_other_lines
theorem wk_law_other_lines {P : Program} {wl : World} {w : Ws} {mg : Str → Option Value} (M : Blt mg) (G : Gnd w mg) (c_law_draw : DefX P wl w mg 1 "_law_draw" T_law_draw) (D : DefC w mg "_law_other_lines" (top 17)) : DefX P wl w mg 2 "_law_other_lines" T_law_other_lines :=
  have S := sc_law_other_lines
  D.x (k := 1) S (fun _ _ _ _ _ _ us hl => match us, hl with | [_, _], _ => rfl) fun f c A outer s H E hr hf => (ds_cons (ds_set (i := 2) S.nd rfl (by first | exact Or.inl rfl | exact Or.inr rfl) (dx_call hf c_law_draw (hr.mono (by decide)) (by rfl) (dxa_cons (dx_of (dp_var 0)) (dxa_cons (dx_of (dp_add (dp_len (by rfl) M.len (dp_var 1)) dp_int)) dxa_nil)))) (ds_cons (ds_set (i := 3) S.nd rfl (by first | exact Or.inl rfl | exact Or.inr rfl) (dx_call hf c_law_draw (hr.mono (by decide)) (by rfl) (dxa_cons (dx_of (dp_var 0)) (dxa_cons (dx_of dp_int) dxa_nil)))) (ds_cons (ds_if (dxb_of (dt_eq (hr.mono (by decide)) (dp_var 3) dp_int)) (ds_one (ds_ret (dx_new (dxl_cat (dx_new (dxl_cat (dx_new (dxl_of (dl_sl (dp_var 1) po_none (po_some (dp_var 2)) pod_none pod_some))) (dx_new (dxl_lst (dxa_cons (dx_ix (dx_new (dxl_of (dl_lst (da_cons dp_str (da_cons dp_str (da_cons dp_str (da_cons dp_str (da_cons dp_str (da_cons dp_str da_nil))))))))) (dx_call hf c_law_draw (hr.mono (by decide)) (by rfl) (dxa_cons (dx_of (dp_var 0)) (dxa_cons (dx_of dp_int) dxa_nil)))) dxa_nil))))) (dx_new (dxl_of (dl_sl (dp_var 1) (po_some (dp_var 2)) po_none pod_some pod_none))))))) ds_nil) (ds_cons (ds_if (dxb_of (dt_eq (hr.mono (by decide)) (dp_len (by rfl) M.len (dp_var 1)) dp_int)) (ds_one (ds_ret (dx_of (dp_var 1)))) ds_nil) (ds_cons (ds_set (i := 2) S.nd rfl (by first | exact Or.inl rfl | exact Or.inr rfl) (dx_of (dp_mod (dp_var 2) (dp_len (by rfl) M.len (dp_var 1))))) (ds_cons (ds_set (i := 4) S.nd rfl (by first | exact Or.inl rfl | exact Or.inr rfl) (dx_of (dp_ix (dp_var 1) (dp_var 2)))) (ds_cons (ds_set (i := 5) S.nd rfl (by first | exact Or.inl rfl | exact Or.inr rfl) (dx_call hf c_law_draw (hr.mono (by decide)) (by rfl) (dxa_cons (dx_of (dp_var 0)) (dxa_cons (dx_of (dp_add (dp_lenT (by rfl) M.len (dp_var 4)) dp_int)) dxa_nil)))) (ds_cons (ds_if (dxb_of (dt_eq (hr.mono (by decide)) (dp_var 3) dp_int)) (ds_one (ds_ret (dx_new (dxl_cat (dx_new (dxl_of (dl_sl (dp_var 1) po_none (po_some (dp_var 2)) pod_none pod_some))) (dx_new (dxl_of (dl_sl (dp_var 1) (po_some (dp_add (dp_var 2) dp_int)) po_none pod_some pod_none))))))) ds_nil) (ds_cons (ds_if (dxb_of (dt_eq (hr.mono (by decide)) (dp_var 3) dp_int)) (ds_one (ds_ret (dx_new (dxl_cat (dx_new (dxl_cat (dx_new (dxl_of (dl_sl (dp_var 1) po_none (po_some (dp_var 2)) pod_none pod_some))) (dx_new (dxl_lst (dxa_cons (dx_add (dx_add (dx_of (dp_sl (dp_var 4) po_none (po_some (dp_var 5)) pod_none pod_some)) (dx_ix (dx_new (dxl_of (dl_lst (da_cons dp_str (da_cons dp_str (da_cons dp_str (da_cons dp_str da_nil))))))) (dx_call hf c_law_draw (hr.mono (by decide)) (by rfl) (dxa_cons (dx_of (dp_var 0)) (dxa_cons (dx_of dp_int) dxa_nil))))) (dx_of (dp_sl (dp_var 4) (po_some (dp_var 5)) po_none pod_some pod_none))) dxa_nil))))) (dx_new (dxl_of (dl_sl (dp_var 1) (po_some (dp_add (dp_var 2) dp_int)) po_none pod_some pod_none))))))) ds_nil) (ds_cons (ds_if (dxb_of (dt_eq (hr.mono (by decide)) (dp_var 3) dp_int)) (ds_one (ds_ret (dx_new (dxl_cat (dx_new (dxl_cat (dx_new (dxl_of (dl_sl (dp_var 1) po_none (po_some (dp_var 2)) pod_none pod_some))) (dx_new (dxl_of (dl_lst (da_cons (dp_add (dp_sl (dp_var 4) po_none (po_some (dp_var 5)) pod_none pod_some) (dp_sl (dp_var 4) (po_some (dp_add (dp_var 5) dp_int)) po_none pod_some pod_none)) da_nil)))))) (dx_new (dxl_of (dl_sl (dp_var 1) (po_some (dp_add (dp_var 2) dp_int)) po_none pod_some pod_none))))))) ds_nil) (ds_cons (ds_if (dxb_of (dt_eq (hr.mono (by decide)) (dp_var 3) dp_int)) (ds_cons (ds_set (i := 6) S.nd rfl (by first | exact Or.inl rfl | exact Or.inr rfl) (dx_new (dxl_of (dl_lst (da_cons dp_str (da_cons dp_str (da_cons dp_str (da_cons dp_str (da_cons dp_str (da_cons dp_str (da_cons dp_str (da_cons dp_str (da_cons dp_str (da_cons dp_str da_nil)))))))))))))) (ds_one (ds_ret (dx_new (dxl_cat (dx_new (dxl_lst (dxa_cons (dx_ix (dx_of (dp_var 6)) (dx_call hf c_law_draw (hr.mono (by decide)) (by rfl) (dxa_cons (dx_of (dp_var 0)) (dxa_cons (dx_of dp_int) dxa_nil)))) dxa_nil))) (dx_new (dxl_of (dl_sl (dp_var 1) (po_some dp_int) po_none pod_some pod_none)))))))) ds_nil) (ds_cons (ds_if (dxb_of (dt_eq (hr.mono (by decide)) (dp_var 3) dp_int)) (ds_one (ds_ret (dx_new (dxl_cat (dx_new (dxl_cat (dx_new (dxl_of (dl_sl (dp_var 1) po_none (po_some (dp_var 2)) pod_none pod_some))) (dx_new (dxl_of (dl_lst (da_cons (dp_var 4) (da_cons (dp_var 4) da_nil))))))) (dx_new (dxl_of (dl_sl (dp_var 1) (po_some (dp_add (dp_var 2) dp_int)) po_none pod_some pod_none))))))) ds_nil) (ds_one (ds_ret (dx_new (dxl_cat (dx_new (dxl_cat (dx_new (dxl_of (dl_sl (dp_var 1) po_none (po_some (dp_var 2)) pod_none pod_some))) (dx_new (dxl_of (dl_lst (da_cons (dp_add (dp_add (dp_sl (dp_var 4) po_none (po_some (dp_var 5)) pod_none pod_some) dp_str) (dp_sl (dp_var 4) (po_some (dp_add (dp_var 5) dp_int)) po_none pod_some pod_none)) da_nil)))))) (dx_new (dxl_of (dl_sl (dp_var 1) (po_some (dp_add (dp_var 2) dp_int)) po_none pod_some pod_none)))))))))))))))))))

def N_law_told_many : List Str := [("_law_line" : Str), ("_law_digits_here" : Str), ("_law_sign" : Str)]
theorem sc_law_told_many : FnScope N_law_told_many [("_law_line" : Str)] (defScope (top 18)) := ⟨rfl, rfl, rfl, by decide +kernel, rfl, by decide +kernel, by decide +kernel⟩
def R_law_told_many : RS := (rSeq (rAsg (mSl (mVar 0) (some (mC (.int 6))) none) (tgN 1)) (rSeq (rIf (bOr (bV (mOp fNe (mSl (mVar 0) none (some (mC (.int 6)))) (mC (.str ("marks " : Str))))) (bOr (bV (mOp fLt (mF1 fLenT (mVar 1)) (mC (.int 1)))) (bV (mOp fGt (mF1 fLenT (mVar 1)) (mC (.int 2)))))) (rRet (mC .non)) rNext) (rSeq (rFor (iSigns (mVar 1)) (tgN 2) (rIf (bV (mOp fNotInS (mVar 2) (mC (.str ("0123456789" : Str))))) (rRet (mC .non)) rNext)) (rSeq (rIf (bAnd (bV (mOp fEq (mF1 fLenT (mVar 1)) (mC (.int 2)))) (bV (mOp fEq (mOp fIxT (mVar 1) (mC (.int 0))) (mC (.str ("0" : Str)))))) (rRet (mC .non)) rNext) (rRet (mF1 fIntS (mVar 1)))))))
def F_law_told_many : List D → SS → Option D := fnR N_law_told_many 1 R_law_told_many
theorem wk_law_told_many {P : Program} {wl : World} {w : Ws} {mg : Str → Option Value} (M : Blt mg) (G : Gnd w mg) (D : DefC w mg "_law_told_many" (top 18)) : DefP P wl w mg 1 "_law_told_many" F_law_told_many :=
  have S := sc_law_told_many
  D.p (k := 0) S (fun _ _ _ _ _ _ us hl => match us, hl with | [_], _ => rfl) fun f c A outer s H E hr hf => (dr_cons (dr_set (i := 1) S.nd rfl (by first | exact Or.inl rfl | exact Or.inr rfl) (dp_sl (dp_var 0) (po_some dp_int) po_none pod_some pod_none)) (dr_cons (dr_if ((db_or (dt_ne (hr.mono (by decide)) (dp_sl (dp_var 0) po_none (po_some dp_int) pod_none pod_some) dp_str) (db_or (dt_lt (dp_lenT (by rfl) M.len (dp_var 1)) dp_int) (db_or1 (dt_gt (dp_lenT (by rfl) M.len (dp_var 1)) dp_int)))).pt) (dr_one (dr_ret dp_non)) dr_nil) (dr_cons (dr_for PassesOwn.never rfl (own := [2]) (gt_name (i := 2) (by decide)) (di_signs (dp_var 1)) (pg_name S.nd rfl (by first | exact Or.inl rfl | exact Or.inr rfl)) (dr_one (dr_if (dt_ninS (dp_var 2) dp_str) (dr_one (dr_ret dp_non)) dr_nil))) (dr_cons (dr_if ((db_and (dt_eq (hr.mono (by decide)) (dp_lenT (by rfl) M.len (dp_var 1)) dp_int) (db_and1 (dt_eq (hr.mono (by decide)) (dp_ixT (dp_var 1) dp_int) dp_str))).pt) (dr_one (dr_ret dp_non)) dr_nil) (dr_one (dr_ret (dp_intS (by rfl) M.int (dp_var 1))))))))

def N_law_text_fault : List Str := [("_law_lines_here" : Str), ("_law_ended" : Str), ("_law_k" : Str), ("_law_sign" : Str)]
theorem sc_law_text_fault : FnScope N_law_text_fault [("_law_lines_here" : Str), ("_law_ended" : Str)] (defScope (top 19)) := ⟨rfl, rfl, rfl, by decide +kernel, rfl, by decide +kernel, by decide +kernel⟩
def R_law_text_fault : RS := (rSeq (rIf (bOr (bV (mOp fEq (mF1 fLen (mVar 0)) (mC (.int 0)))) (bV (mOp fIsN (mCall F_law_told_many (mCons (mOp fIx (mVar 0) (mC (.int 0))) mNil)) (mC .non)))) (rRet (mTup (mCons (mC (.int 1)) (mCons (mC (.str ("expected marks" : Str))) mNil)))) rNext) (rSeq (rFor (iRng2 (mC (.int 1)) (mF1 fLen (mVar 0))) (tgN 2) (rSeq (rFor (iSigns (mOp fIx (mVar 0) (mVar 2))) (tgN 3) (rIf (bAnd (bV (mOp fNe (mVar 3) (mC (.str ("x" : Str))))) (bV (mOp fNe (mVar 3) (mC (.str ("." : Str)))))) (rRet (mTup (mCons (mOp fAdd (mVar 2) (mC (.int 1))) (mCons (mC (.str ("unknown sign" : Str))) mNil)))) rNext)) (rIf (bV (mOp fNe (mF1 fLenT (mOp fIx (mVar 0) (mVar 2))) (mCall F_law_told_many (mCons (mOp fIx (mVar 0) (mC (.int 0))) mNil)))) (rRet (mTup (mCons (mOp fAdd (mVar 2) (mC (.int 1))) (mCons (mC (.str ("wrong length" : Str))) mNil)))) rNext))) (rSeq (rIf (bNot (bV (mVar 1))) (rRet (mTup (mCons (mF1 fLen (mVar 0)) (mCons (mC (.str ("unended" : Str))) mNil)))) rNext) (rRet (mC .non)))))
def F_law_text_fault : List D → SS → Option D := fnR N_law_text_fault 2 R_law_text_fault
theorem wk_law_text_fault {P : Program} {wl : World} {w : Ws} {mg : Str → Option Value} (M : Blt mg) (G : Gnd w mg) (c_law_told_many : DefP P wl w mg 1 "_law_told_many" F_law_told_many) (D : DefC w mg "_law_text_fault" (top 19)) : DefP P wl w mg 2 "_law_text_fault" F_law_text_fault :=
  have S := sc_law_text_fault
  D.p (k := 1) S (fun _ _ _ _ _ _ us hl => match us, hl with | [_, _], _ => rfl) fun f c A outer s H E hr hf => (dr_cons (dr_if ((db_or (dt_eq (hr.mono (by decide)) (dp_len (by rfl) M.len (dp_var 0)) dp_int) (db_or1 (dt_isN (dp_call hf c_law_told_many (hr.mono (by decide)) (by rfl) (da_cons (dp_ix (dp_var 0) dp_int) da_nil)) dp_non))).pt) (dr_one (dr_ret (dp_tup (da_cons dp_int (da_cons dp_str da_nil))))) dr_nil) (dr_cons (dr_for PassesOwn.never rfl (own := [2]) (gt_name (i := 2) (by decide)) (di_rng2 (by rfl) M.range dp_int (dp_len (by rfl) M.len (dp_var 0))) (pg_name S.nd rfl (by first | exact Or.inl rfl | exact Or.inr rfl)) (dr_cons (dr_for PassesOwn.never rfl (own := [3]) (gt_name (i := 3) (by decide)) (di_signs (dp_ix (dp_var 0) (dp_var 2))) (pg_name S.nd rfl (by first | exact Or.inl rfl | exact Or.inr rfl)) (dr_one (dr_if ((db_and (dt_ne (hr.mono (by decide)) (dp_var 3) dp_str) (db_and1 (dt_ne (hr.mono (by decide)) (dp_var 3) dp_str))).pt) (dr_one (dr_ret (dp_tup (da_cons (dp_add (dp_var 2) dp_int) (da_cons dp_str da_nil))))) dr_nil))) (dr_one (dr_if (dt_ne (hr.mono (by decide)) (dp_lenT (by rfl) M.len (dp_ix (dp_var 0) (dp_var 2))) (dp_call hf c_law_told_many (hr.mono (by decide)) (by rfl) (da_cons (dp_ix (dp_var 0) dp_int) da_nil))) (dr_one (dr_ret (dp_tup (da_cons (dp_add (dp_var 2) dp_int) (da_cons dp_str da_nil))))) dr_nil)))) (dr_cons (dr_if (db_not (db_val (dp_var 1))) (dr_one (dr_ret (dp_tup (da_cons (dp_len (by rfl) M.len (dp_var 0)) (da_cons dp_str da_nil))))) dr_nil) (dr_one (dr_ret dp_non)))))

def N_law : List Str := [("_law_script" : Str), ("_law_box_here" : Str), ("_law_turn" : Str), ("_law_lines_here" : Str), ("_law_wide" : Str), ("_law_k" : Str), ("_law_ended" : Str), ("_law_text" : Str), ("_law_due" : Str), ("_law_found" : Str), ("_law_rows" : Str), ("_law_line" : Str), ("e" : Str)]
theorem sc_law : FnScope N_law [("_law_script" : Str)] (defScope (top 20)) := ⟨rfl, rfl, rfl, by decide +kernel, rfl, by decide +kernel, by decide +kernel⟩
def X_law (ns : List Int) : XS := (sSeq (sAsg (xCallS T_law_box ns (xCons (xOf (mC (.int 0))) (xCons (xOf (mC (.int 63))) xNil))) (tgN 1)) (sSeq (sFor (xiOf (iRng (mC (.int 6)))) (tgN 2) (sSeq (sAsg (xCall T_law_lines (xCons (xCall T_law_table (xCons (xOf (mVar 1)) (xCons (xOf (mC (.int 5))) (xCons (xOf (mC (.int 5))) xNil)))) xNil)) (tgN 3)) (sSeq (sIf (xV (xOp fEq (xCall T_law_draw (xCons (xOf (mVar 1)) (xCons (xOf (mC (.int 5))) xNil))) (xOf (mC (.int 0))))) (sSeq (sAsg (xOp fAdd (xOf (mC (.int 10))) (xCall T_law_draw (xCons (xOf (mVar 1)) (xCons (xOf (mC (.int 5))) xNil)))) (tgN 4)) (sAsg (xNew (xCat (xNew (xaOf (mLst (mCons (mOp fAdd (mC (.str ("marks " : Str))) (mF1 fStrI (mVar 4))) mNil)))) (xNew (xComp (xRng (xCall T_law_draw (xCons (xOf (mVar 1)) (xCons (xOf (mC (.int 2))) xNil)))) (tgN 5) (xbOf bYes) (xOf (mSl (mOp GE.fMulS (mC (.str ("x.." : Str))) (mC (.int 5))) (some (mVar 5)) (some (mOp fAdd (mVar 5) (mVar 4))))) [5])))) (tgN 3))) sNext) (sSeq (sFor (xRng (xCall T_law_draw (xCons (xOf (mVar 1)) (xCons (xOf (mC (.int 3))) xNil)))) (tgN 5) (sAsg (xCall T_law_other_lines (xCons (xOf (mVar 1)) (xCons (xOf (mVar 3)) xNil))) (tgN 3))) (sSeq (sAsg (xOrV (xOf (mOp fEq (mF1 fLen (mVar 3)) (mC (.int 0)))) (xOrV (xOf (mOp fEq (mOp fIx (mVar 3) (mOp fSub (mF1 fLen (mVar 3)) (mC (.int 1)))) (mC (.str ("" : Str))))) (xOp fGt (xCall T_law_draw (xCons (xOf (mVar 1)) (xCons (xOf (mC (.int 5))) xNil))) (xOf (mC (.int 0)))))) (tgN 6)) (sSeq (sAsg (xOf (mJoin (mC (.str ("\n" : Str))) (mLstOf (mVar 3)))) (tgN 7)) (sSeq (sIf (xbOf (bAnd (bV (mVar 6)) (bV (mOp fGt (mF1 fLen (mVar 3)) (mC (.int 0)))))) (sAsg (xOf (mOp fAdd (mVar 7) (mC (.str ("\n" : Str))))) (tgN 7)) sNext) (sSeq (sAsg (xOf (mCall F_law_text_fault (mCons (mVar 3) (mCons (mVar 6) mNil)))) (tgN 8)) (GE.sTry2 "TextFault" 12 8 F_law_same (GE.sSeqE (GE.sSetE (GE.xCallE T_read (xCons (xOf (mVar 7)) xNil)) 9) (GE.sSeqE (fun _ => (sIf (xbOf (bV (mOp fNotN (mVar 8) (mC .non)))) (sRet (xOf (mC (.bl false)))) sNext)) (GE.sSeqE (fun _ => (sAsg (xNew (xaOf (mLst mNil))) (tgN 10))) (GE.sSeqE (fun _ => (sFor (xSeq (xNew (xaOf (mSlL (mVar 3) (some (mC (.int 1))) none)))) (tgN 11) (sAppP (mVar 10) (xOf (mTupL (mComp (iRng (mF1 fLenT (mVar 11))) (tgN 5) (bV (mOp fEq (mOp fIxT (mVar 11) (mVar 5)) (mC (.str ("x" : Str))))) (mVar 5) [5])))))) (fun _ => (sIf (xbOf (bNot (bV (mCall F_law_same (mCons (mVar 9) (mCons (mTup (mCons (mC (.str ("table" : Str))) (mCons (mCall F_law_told_many (mCons (mOp fIx (mVar 3) (mC (.int 0))) mNil)) (mCons (mF1 fTup (mVar 10)) mNil)))) mNil)))))) (sRet (xOf (mC (.bl false)))) sNext))))))))))))))) (sRet (xOf (mC (.bl true))))))
def T_law : XTS := fnS N_law 1 X_law
theorem wk_law {P : Program} {wl : World} {w : Ws} {mg : Str → Option Value} (M : Blt mg) (G : Gnd w mg) (c_law_box : DefS P wl w mg 3 "_law_box" T_law_box) (c_law_draw : DefX P wl w mg 1 "_law_draw" T_law_draw) (c_law_lines : DefX P wl w mg 1 "_law_lines" T_law_lines) (c_law_other_lines : DefX P wl w mg 2 "_law_other_lines" T_law_other_lines) (c_law_same : DefP P wl w mg 12 "_law_same" F_law_same) (c_law_table : DefX P wl w mg 3 "_law_table" T_law_table) (c_law_text_fault : DefP P wl w mg 2 "_law_text_fault" F_law_text_fault) (c_law_told_many : DefP P wl w mg 1 "_law_told_many" F_law_told_many) (c_read : GE.DefE P wl w mg 11 "read" T_read) (F_TextFault : GE.FltD P wl w mg 1 "TextFault" "ConceptFault") (N_ThingFault : GE.FltN w mg "TextFault" "ThingFault") (c_law_sameH : GE.DefHP P wl w mg 12 "_law_same" F_law_same) (D : DefC w mg "law" (top 20)) : DefS P wl w mg 13 "law" T_law :=
  have S := sc_law
  D.s (k := 12) S (fun _ _ _ _ _ _ us hl => match us, hl with | [_], _ => rfl) fun f c a ns A outer s H E hr hf => (ds_cons (ds_set (i := 1) S.nd rfl (by first | exact Or.inl rfl | exact Or.inr rfl) (dx_callS hf c_law_box (hr.mono (by decide)) (by rfl) pe_scr (dxa_cons (dx_of dp_int) (dxa_cons (dx_of dp_int) dxa_nil))) (hfx := fxS (i := 1) (by decide))) (ds_cons (ds_for PassesOwn.never rfl (own := [2]) (gt_name (i := 2) (by decide) (hfx := fxS (i := 2) (by decide))) (dxi_of (di_rng (by rfl) M.range dp_int)) (pg_name S.nd rfl (by first | exact Or.inl rfl | exact Or.inr rfl)) (ds_cons (ds_set (i := 3) S.nd rfl (by first | exact Or.inl rfl | exact Or.inr rfl) (dx_call hf c_law_lines (hr.mono (by decide)) (by rfl) (dxa_cons (dx_call hf c_law_table (hr.mono (by decide)) (by rfl) (dxa_cons (dx_of (dp_var 1)) (dxa_cons (dx_of dp_int) (dxa_cons (dx_of dp_int) dxa_nil)))) dxa_nil)) (hfx := fxS (i := 3) (by decide))) (ds_cons (ds_if (dxt_eq (hr.mono (by decide)) (dx_call hf c_law_draw (hr.mono (by decide)) (by rfl) (dxa_cons (dx_of (dp_var 1)) (dxa_cons (dx_of dp_int) dxa_nil))) (dx_of dp_int)) (ds_cons (ds_set (i := 4) S.nd rfl (by first | exact Or.inl rfl | exact Or.inr rfl) (dx_add (dx_of dp_int) (dx_call hf c_law_draw (hr.mono (by decide)) (by rfl) (dxa_cons (dx_of (dp_var 1)) (dxa_cons (dx_of dp_int) dxa_nil)))) (hfx := fxS (i := 4) (by decide))) (ds_one (ds_set (i := 3) S.nd rfl (by first | exact Or.inl rfl | exact Or.inr rfl) (dx_new (dxl_cat (dx_new (dxl_of (dl_lst (da_cons (dp_add dp_str (dp_strI (by rfl) M.str (dp_var 4))) da_nil)))) (dx_new (dxl_lc (own := [(("_law_k" : Str), 5)]) rfl S.nd (dxi_rng (by rfl) M.range (dx_call hf c_law_draw (hr.mono (by decide)) (by rfl) (dxa_cons (dx_of (dp_var 1)) (dxa_cons (dx_of dp_int) dxa_nil)))) (blkOk_by (by rfl)) (gt_name (i := 5) (by decide) (hfx := fxS (i := 5) (by decide))) (fun _ _ _ _ _ => (pg_name S.nd rfl (by first | exact Or.inl rfl | exact Or.inr rfl))) (fun _ _ _ _ _ => dxts_nil) (fun _ _ _ _ _ => (dx_of (dp_sl (GE.dp_mulS dp_str dp_int) (po_some (dp_var 5)) (po_some (dp_add (dp_var 5) (dp_var 4))) pod_some pod_some))) (hfx := fxSl (l := [5]) (by decide)))))) (hfx := fxS (i := 3) (by decide))))) ds_nil) (ds_cons (ds_for PassesOwn.never rfl (own := [5]) (gt_name (i := 5) (by decide) (hfx := fxS (i := 5) (by decide))) (dxi_rng (by rfl) M.range (dx_call hf c_law_draw (hr.mono (by decide)) (by rfl) (dxa_cons (dx_of (dp_var 1)) (dxa_cons (dx_of dp_int) dxa_nil)))) (pg_name S.nd rfl (by first | exact Or.inl rfl | exact Or.inr rfl)) (ds_one (ds_set (i := 3) S.nd rfl (by first | exact Or.inl rfl | exact Or.inr rfl) (dx_call hf c_law_other_lines (hr.mono (by decide)) (by rfl) (dxa_cons (dx_of (dp_var 1)) (dxa_cons (dx_of (dp_var 3)) dxa_nil))) (hfx := fxS (i := 3) (by decide))))) (ds_cons (ds_set (i := 6) S.nd rfl (by first | exact Or.inl rfl | exact Or.inr rfl) (dx_orV (dx_of (dp_eq (hr.mono (by decide)) (dp_len (by rfl) M.len (dp_var 3)) dp_int)) (dx_orV (dx_of (dp_eq (hr.mono (by decide)) (dp_ix (dp_var 3) (dp_sub (dp_len (by rfl) M.len (dp_var 3)) dp_int)) dp_str)) (dx_one (dx_gt (dx_call hf c_law_draw (hr.mono (by decide)) (by rfl) (dxa_cons (dx_of (dp_var 1)) (dxa_cons (dx_of dp_int) dxa_nil))) (dx_of dp_int))))) (hfx := fxS (i := 6) (by decide))) (ds_cons (ds_set (i := 7) S.nd rfl (by first | exact Or.inl rfl | exact Or.inr rfl) (dx_of (GE.dp_joinV dp_str (dp_var 3))) (hfx := fxS (i := 7) (by decide))) (ds_cons (ds_if (dxb_of ((db_and (db_val (dp_var 6)) (db_and1 (dt_gt (dp_len (by rfl) M.len (dp_var 3)) dp_int))).pt)) (ds_one (ds_set (i := 7) S.nd rfl (by first | exact Or.inl rfl | exact Or.inr rfl) (dx_of (dp_add (dp_var 7) dp_str)) (hfx := fxS (i := 7) (by decide)))) ds_nil) (ds_cons (ds_set (i := 8) S.nd rfl (by first | exact Or.inl rfl | exact Or.inr rfl) (dx_of (dp_call hf c_law_text_fault (hr.mono (by decide)) (by rfl) (da_cons (dp_var 3) (da_cons (dp_var 6) da_nil)))) (hfx := fxS (i := 8) (by decide))) (ds_one (GE.ds_tryF (i := 12) (kd := 8) hf F_TextFault N_ThingFault c_law_sameH (hr.mono (by decide)) S.nd (by rfl) (by rfl) M.isinstance (by rfl) (by rfl) (by rfl) M.ValueError (by rfl) (fun W pn xe tk po => (have hf := fit_tr hf; (GE.de_cons (GE.de_set (i := 9) S.nd rfl (by first | exact Or.inl rfl | exact Or.inr rfl) (GE.dee_call hf tk c_read (hr.mono (by decide)) (by rfl) (dxa_cons (dx_of (dp_var 7)) dxa_nil)) (hfx := fxS (i := 9) (by decide))) (GE.de_cons (GE.de_lift (psNox (have hf := fit_nox hf; (ds_if (dxb_of (dt_notN (dp_var 8) dp_non)) (ds_one (ds_ret (dx_of dp_bl))) ds_nil)))) (GE.de_cons (GE.de_lift (psNox (have hf := fit_nox hf; (ds_set (i := 10) S.nd rfl (by first | exact Or.inl rfl | exact Or.inr rfl) (dx_new (dxl_of (dl_lst da_nil))) (hfx := fxS (i := 10) (by decide)))))) (GE.de_cons (GE.de_lift (psNox (have hf := fit_nox hf; (ds_for PassesOwn.never rfl (own := [11]) (gt_name (i := 11) (by decide) (hfx := fxS (i := 11) (by decide))) (dxi_seq (dx_new (dxl_of (dl_sl (dp_var 3) (po_some dp_int) po_none pod_some pod_none)))) (pg_name S.nd rfl (by first | exact Or.inl rfl | exact Or.inr rfl)) (ds_one (ds_app (dp_var 10) (dx_of (dp_tupL (by rfl) M.tuple (dl_lc (own := [(("_law_k" : Str), 5)]) rfl S.nd (di_rng (by rfl) M.range (dp_lenT (by rfl) M.len (dp_var 11))) (blkOk_by (by rfl)) (gt_name (i := 5) (by decide) (hfx := fxS (i := 5) (by decide))) (fun _ _ _ _ _ => (pg_name S.nd rfl (by first | exact Or.inl rfl | exact Or.inr rfl))) (fun _ _ _ _ _ => (dts_one (dt_eq (hr.mono (by decide)) (dp_ixT (dp_var 11) (dp_var 5)) dp_str))) (fun _ _ _ _ _ => (dp_var 5)) (hfx := fxSl (l := [5]) (by decide))))))))))) (GE.de_one (GE.de_lift (psNox (have hf := fit_nox hf; (ds_if (dxb_of (db_not (db_val (dp_call hf c_law_same (hr.mono (by decide)) (by rfl) (da_cons (dp_var 9) (da_cons (dp_tup (da_cons dp_str (da_cons (dp_call hf c_law_told_many (hr.mono (by decide)) (by rfl) (da_cons (dp_ix (dp_var 3) dp_int) da_nil)) (da_cons (dp_tupV (by rfl) M.tuple (dp_var 10)) da_nil)))) da_nil)))))) (ds_one (ds_ret (dx_of dp_bl))) ds_nil))))))))))) (fxS (i := 12) (by decide)))))))))))) (ds_one (ds_ret (dx_of dp_bl)))))
end
end Lk01

set_option Elab.async false
set_option linter.all false
set_option maxRecDepth 100000
set_option maxHeartbeats 4000000
namespace Lk01
open PySem PySem.Spec PyProof.Rows L2 GX GD GF
/-- the law's def, by those that it calls -/
theorem all_ok {P : Program} {wl : World} {w : Ws} {mg : Str → Option Value} (M : Blt mg) (G : Gnd w mg) (F_TextFault : GE.FltD P wl w mg 1 "TextFault" "ConceptFault") (N_ThingFault : GE.FltN w mg "TextFault" "ThingFault") (D_read_many : DefC w mg "read_many" (top 6)) (D_read : DefC w mg "read" (top 7)) (D_law_draw : DefC w mg "_law_draw" (top 9)) (D_law_cell : DefC w mg "_law_cell" (top 10)) (D_law_digits : DefC w mg "_law_digits" (top 11)) (D_law_box : DefC w mg "_law_box" (top 12)) (D_law_some : DefC w mg "_law_some" (top 13)) (D_law_table : DefC w mg "_law_table" (top 14)) (D_law_same : DefC w mg "_law_same" (top 15)) (D_law_lines : DefC w mg "_law_lines" (top 16)) (D_law_other_lines : DefC w mg "_law_other_lines" (top 17)) (D_law_told_many : DefC w mg "_law_told_many" (top 18)) (D_law_text_fault : DefC w mg "_law_text_fault" (top 19)) (D_law : DefC w mg "law" (top 20)) : DefS P wl w mg 13 "law" T_law := by
  have c_read_many := wk_read_many (P := P) (wl := wl) M G D_read_many
  have c_read := wk_read (P := P) (wl := wl) M G c_read_many F_TextFault D_read
  have c_law_draw : DefX P wl w mg 1 "_law_draw" T_law_draw := DefX.imp (wk_law_draw (P := P) (wl := wl) M G D_law_draw) draw_ok
  have c_law_cell : DefS P wl w mg 1 "_law_cell" T_law_cell := DefS.imp (wk_law_cell (P := P) (wl := wl) M G D_law_cell) cell_ok
  have c_law_digits : DefS P wl w mg 2 "_law_digits" T_law_digits := DefS.imp (wk_law_digits (P := P) (wl := wl) M G c_law_cell D_law_digits) digits_ok
  have c_law_box : DefS P wl w mg 3 "_law_box" T_law_box := DefS.imp (wk_law_box (P := P) (wl := wl) M G c_law_digits D_law_box) box_ok
  have c_law_some : DefX P wl w mg 2 "_law_some" T_law_some := DefX.imp (wk_law_some (P := P) (wl := wl) M G c_law_draw D_law_some) some_ok
  have c_law_table : DefX P wl w mg 3 "_law_table" T_law_table := DefX.imp (wk_law_table (P := P) (wl := wl) M G c_law_draw c_law_some D_law_table) table_ok
  have c_law_sameH : GE.DefHP P wl w mg 12 "_law_same" F_law_same := GE.same_defH (fun q => wk_law_sameH (P := P) (wl := wl) M G D_law_same q) (D_law_same.noneH (ps := [("_law_actual" : Str), ("_law_expected" : Str)]) (fun _ _ _ _ _ _ us hl => match us, hl with | [_, _], _ => rfl))
  have c_law_same : DefP P wl w mg 12 "_law_same" F_law_same := same_def (fun q => wk_law_same (P := P) (wl := wl) M G D_law_same q) (DefC.none (k := 0) D_law_same sc_law_same (fun _ _ _ _ _ _ us hl => match us, hl with | [_, _], _ => rfl))
  have c_law_lines := wk_law_lines (P := P) (wl := wl) M G D_law_lines
  have c_law_other_lines := wk_law_other_lines (P := P) (wl := wl) M G c_law_draw D_law_other_lines
  have c_law_told_many := wk_law_told_many (P := P) (wl := wl) M G D_law_told_many
  have c_law_text_fault := wk_law_text_fault (P := P) (wl := wl) M G c_law_told_many D_law_text_fault
  have c_law := wk_law (P := P) (wl := wl) M G c_law_box c_law_draw c_law_lines c_law_other_lines c_law_same c_law_table c_law_text_fault c_law_told_many c_read F_TextFault N_ThingFault c_law_sameH D_law
  exact c_law
end Lk01

set_option Elab.async false
set_option linter.all false
set_option maxRecDepth 100000
set_option maxHeartbeats 4000000
namespace Lk01
open PySem PySem.Spec PyProof.Rows L2 GX GD GF
/-! texts as lists of codes -/
theorem lit_marks : (("marks " : Str)) = mkS [109, 97, 114, 107, 115, 32] := by decide +kernel
theorem lit_marks' : (("marks" : Str)) = mkS [109, 97, 114, 107, 115] := by decide +kernel
theorem lit_nl : (("\n" : Str)) = mkS [10] := by decide +kernel
theorem lit_sp : ((" " : Str)) = mkS [32] := by decide +kernel
theorem lit_x : (("x" : Str)) = mkS [120] := by decide +kernel
theorem lit_dot : (("." : Str)) = mkS [46] := by decide +kernel
theorem lit_xd : (("x." : Str)) = mkS [120, 46] := by decide +kernel
theorem lit_e : (("" : Str)) = mkS [] := by decide +kernel
theorem lit_0 : (("0" : Str)) = mkS [48] := by decide +kernel
theorem lit_dg : (("0123456789" : Str)) = mkS [48, 49, 50, 51, 52, 53, 54, 55, 56, 57] := by decide +kernel
def strD (l : List Nat) : D := .str (mkS l)
/-- signs that a line may hold -/
def okC (l : List Nat) : Prop := ∀ c ∈ l, c < 200 ∧ c ≠ 10
theorem okC.lt {l : List Nat} (h : okC l) : ∀ c ∈ l, c < 200 := fun c hc => (h c hc).1
theorem good_S {l : List Nat} (h : ∀ c ∈ l, c < 200) : D.good (.str (mkS l)) = true := good_str h
theorem mkS_beq (a b : List Nat) : (mkS a == mkS b) = decide (a = b) := by
  by_cases h : a = b
  · rw [h, decide_eq_true rfl]
    exact beq_self_eq_true _
  · rw [decide_eq_false h]
    refine Bool.eq_false_iff.mpr fun z => h ?_
    have := congrArg (fun x : Str => x.cps.toList) (eq_of_beq z)
    exact this
section
variable {st : SS} {env : EV} {m : MP} {l a b : List Nat}
theorem eq_S (ha : ∀ c ∈ a, c < 200) (hb : ∀ c ∈ b, c < 200) : fEq st (.str (mkS a)) (.str (mkS b)) = some (.bl (decide (a = b))) := (eqS _ _ _ (good_S ha) (good_S hb)).trans (by rw [mkS_beq])
theorem ne_S (ha : ∀ c ∈ a, c < 200) (hb : ∀ c ∈ b, c < 200) : fNe st (.str (mkS a)) (.str (mkS b)) = some (.bl (!decide (a = b))) := by
  show (if D.good (.str (mkS a)) = true ∧ D.good (.str (mkS b)) = true then some (D.bl (!PyData.eqv (.str (mkS a)) (.str (mkS b)))) else none) = _
  rw [if_pos ⟨good_S ha, good_S hb⟩, show PyData.eqv (.str (mkS a)) (.str (mkS b)) = (mkS a == mkS b) from rfl, mkS_beq]
theorem f1_e {f : F1} {x : D} (h : m env st = some x) : mF1 f m env st = f st x := by unfold mF1; rw [h]
theorem add_mkS (h : a.length + b.length ≤ 1000000) : fAdd st (.str (mkS a)) (.str (mkS b)) = some (.str (mkS (a ++ b))) := by
  show (if (mkS a).length + (mkS b).length ≤ 1000000 then some (D.str (mkS a ++ mkS b)) else none) = _
  rw [if_pos (by rw [mkS_len, mkS_len]; exact h), mkS_app]
theorem signs_e (h : m env st = some (.str (mkS l))) (hl : l.length ≤ 1000000) : iSigns m env st = some (l.map signD, none) := by
  unfold iSigns
  rw [h]
  show (if (mkS l).length ≤ 1000000 then _ else _) = _
  rw [if_pos (by rw [mkS_len]; exact hl)]
  rfl
theorem notIn_e {c : Nat} : fNotInS st (signD c) (.str (mkS l)) = some (.bl (!decide (c ∈ l))) := rfl
theorem fLenT_e (hl : l.length ≤ 1000000) : fLenT st (.str (mkS l)) = some (nI l.length) := by
  show (if (mkS l).length ≤ 1000000 then some (D.int (mkS l).length) else none) = _
  rw [if_pos (by rw [mkS_len]; exact hl), mkS_len]
  rfl
theorem fIxT_e {i c : Nat} (hl : l.length ≤ 1000000) (h : l[i]? = some c) : fIxT st (.str (mkS l)) (nI i) = some (.str (mkS [c])) := by
  show (if (mkS l).length ≤ 1000000 then (match atI l (i : Int) with | some c => some (signD c) | none => none) else none) = _
  rw [if_pos (by rw [mkS_len]; exact hl)]
  have hi := (List.getElem?_eq_some_iff.mp h).1
  have e : atI l (i : Int) = some c := by
    unfold atI ixN
    rw [if_pos (by omega)]
    simp only [Int.toNat_natCast]
    rw [if_pos (by omega)]
    exact h
  rw [e]
  rfl
theorem mkS_cut (l : List Nat) (lo hi : Option Int) : cutS (mkS l) lo hi = mkS (cutG l lo hi) := by
  first
  | rfl
  | (refine str_ext ?_; rfl)
  | (refine str_ext ?_; unfold cutS cutG mkS; simp)
theorem sl_S {ml mh : Option MP} {lo hi : Option Int} (h : m env st = some (.str (mkS l))) (h1 : mPart ml env st = some lo) (h2 : mPart mh env st = some hi) (hl : l.length ≤ 1000000) : mSl m ml mh env st = some (.str (mkS (cutG l lo hi))) := by
  unfold mSl
  rw [h, h1, h2]
  show (if (mkS l).length ≤ 1000000 then some (D.str (cutS (mkS l) lo hi)) else none) = _
  rw [if_pos (by rw [mkS_len]; exact hl), mkS_cut]
theorem dropS {k : Nat} {mk : MP} (h : m env st = some (.str (mkS l))) (h1 : mk env st = some (nI k)) (hl : l.length ≤ 1000000) : mSl m (some mk) none env st = some (.str (mkS (l.drop k))) := (sl_S h (mPart_e h1) rfl hl).trans (by rw [cut_drop])
theorem takeS {k : Nat} {mk : MP} (h : m env st = some (.str (mkS l))) (h1 : mk env st = some (nI k)) (hl : l.length ≤ 1000000) : mSl m none (some mk) env st = some (.str (mkS (l.take k))) := (sl_S h rfl (mPart_e h1) hl).trans (by rw [cut_take])
end
/-! ### the number of marks that a line tells -/
def digs : List Nat := [48, 49, 50, 51, 52, 53, 54, 55, 56, 57]
def numL : List Nat → Nat
  | [a] => a - 48
  | [a, b] => (a - 48) * 10 + (b - 48)
  | _ => 0
def numOk (d : List Nat) : Bool := decide (1 ≤ d.length) && (decide (d.length ≤ 2) && (d.all (fun c => decide (c ∈ digs)) && !(decide (d.length = 2) && decide (d[0]? = some 48))))
def told (l : List Nat) : Option Nat := if l.take 6 = [109, 97, 114, 107, 115, 32] ∧ numOk (l.drop 6) = true then some (numL (l.drop 6)) else none
theorem int1 : ∀ x ∈ digs, PySem.intText? (mkS [x]) = some ((numL [x] : Nat) : Int) := by decide +kernel
theorem int2 : ∀ x ∈ digs, ∀ y ∈ digs, PySem.intText? (mkS [x, y]) = some ((numL [x, y] : Nat) : Int) := by decide +kernel
theorem numOk_iff {d : List Nat} : numOk d = true ↔ (1 ≤ d.length ∧ d.length ≤ 2) ∧ (∀ c ∈ d, c ∈ digs) ∧ ¬ (d.length = 2 ∧ d[0]? = some 48) := by
  unfold numOk
  simp only [Bool.and_eq_true, Bool.not_eq_true', decide_eq_true_eq, List.all_eq_true, Bool.and_eq_false_iff, decide_eq_false_iff_not]
  constructor
  · rintro ⟨h1, h2, h3, h4⟩
    exact ⟨⟨h1, h2⟩, h3, fun z => h4.elim (fun q => q z.1) fun q => q z.2⟩
  · rintro ⟨⟨h1, h2⟩, h3, h4⟩
    refine ⟨h1, h2, h3, ?_⟩
    by_cases q : d.length = 2
    · exact .inr fun z => h4 ⟨q, z⟩
    · exact .inl q
theorem fIntS_e {st : SS} {d : List Nat} (h1 : 1 ≤ d.length ∧ d.length ≤ 2) (h2 : ∀ c ∈ d, c ∈ digs) : fIntS st (.str (mkS d)) = some (nI (numL d)) := by
  show (if (mkS d).length ≤ 640 then (match PySem.intText? (mkS d) with | some n => some (D.int n) | none => none) else none) = _
  rw [if_pos (by rw [mkS_len]; omega)]
  match d, h1, h2 with
  | [x], _, h2 => rw [int1 x (h2 x List.mem_cons_self)]; rfl
  | [x, y], _, h2 => rw [int2 x (h2 x List.mem_cons_self) y (h2 y (List.mem_cons_of_mem _ List.mem_cons_self))]; rfl
  | [], h1, _ => exact absurd h1.1 (by decide)
  | _ :: _ :: _ :: _, h1, _ => exact absurd h1.2 (by simp)
theorem numL_lt {d : List Nat} (h1 : d.length ≤ 2) (h2 : ∀ c ∈ d, c ∈ digs) : numL d ≤ 99 := by
  have dg : ∀ c ∈ digs, c ≤ 57 := by decide
  match d, h1, h2 with
  | [], _, _ => exact Nat.zero_le _
  | [x], _, h2 => have := dg x (h2 x List.mem_cons_self); show x - 48 ≤ 99; omega
  | [x, y], _, h2 =>
    have := dg x (h2 x List.mem_cons_self)
    have := dg y (h2 y (List.mem_cons_of_mem _ List.mem_cons_self))
    show (x - 48) * 10 + (y - 48) ≤ 99
    omega
  | _ :: _ :: _ :: _, h1, _ => exact absurd h1 (by simp)
theorem told_lt {l : List Nat} {k : Nat} (h : told l = some k) : k ≤ 99 := by
  unfold told at h
  split at h
  · rename_i hc
    have := (numOk_iff.mp hc.2)
    rw [← Option.some.inj h]
    exact numL_lt this.1.2 this.2.1
  · cases h
theorem lo_optNI (n : Nat) (o : Option Nat) : D.lo n (optNI o) = true := by cases o <;> rfl
theorem any_map {st : SS} {t : MT} {b : MB} {mm : MP} {env : EV} {p : Nat → Bool} {f : Nat → D} (l : List Nat) (h : ∀ c ∈ l, ∃ env1, t (f c) env = some env1 ∧ b env1 st = some true ∧ mm env1 st = some (.bl (p c))) : allGo t b mm env st true (l.map f) = some (l.any p) := anyGo_map (f := f) (p := p) l h
theorem notIn_any (d : List Nat) : d.any (fun c => !decide (c ∈ digs)) = !d.all (fun c => decide (c ∈ digs)) := by
  induction d with
  | nil => rfl
  | cons a d ih => rw [List.any_cons, List.all_cons, ih, Bool.not_and]
theorem told_eval {st : SS} {l : List Nat} (ok : okC l) (hl : l.length ≤ 1000) : F_law_told_many [strD l] st = some (optNI (told l)) := by
  refine fnR_rt rfl ?_ (lo_optNI _ _)
  show R_law_told_many [some (strD l), none, none] st = _
  have dl : (l.drop 6).length ≤ 1000000 := by rw [List.length_drop]; omega
  have okt : ∀ c ∈ l.take 6, c < 200 := fun c hc => ok.lt c (List.mem_of_mem_take hc)
  have okd : ∀ c ∈ l.drop 6, c < 200 := fun c hc => ok.lt c (List.mem_of_mem_drop hc)
  refine (rSeq_nx (rAsg_e (e1 := [some (strD l), some (strD (l.drop 6)), none]) (dropS (k := 6) rfl rfl (by omega)) rfl)).trans ?_
  have c1 : bV (mOp fNe (mSl (mVar 0) none (some (mC (.int 6)))) (mC (.str ("marks " : Str)))) [some (strD l), some (strD (l.drop 6)), none] st = some (!decide (l.take 6 = [109, 97, 114, 107, 115, 32])) := by
    refine bV_e ((mOp_e (takeS (k := 6) rfl rfl (by omega)) rfl).trans ?_)
    rw [lit_marks]
    exact ne_S okt (by decide)
  have ln : mF1 fLenT (mVar 1) [some (strD l), some (strD (l.drop 6)), none] st = some (nI (l.drop 6).length) := (f1_e rfl).trans (fLenT_e dl)
  have c2 : bV (mOp fLt (mF1 fLenT (mVar 1)) (mC (.int 1))) [some (strD l), some (strD (l.drop 6)), none] st = some (decide ((l.drop 6).length < 1)) := by
    refine bV_e ((mOp_e ln (y := .int 1) rfl).trans ?_)
    show some (D.bl (decide (((l.drop 6).length : Int) < 1))) = _
    rw [show decide (((l.drop 6).length : Int) < 1) = decide ((l.drop 6).length < 1) from decide_eq_decide.mpr ⟨fun h => by omega, fun h => by omega⟩]
  have c3 : bV (mOp fGt (mF1 fLenT (mVar 1)) (mC (.int 2))) [some (strD l), some (strD (l.drop 6)), none] st = some (decide (2 < (l.drop 6).length)) := by
    refine bV_e ((mOp_e ln (y := .int 2) rfl).trans ?_)
    show some (D.bl (decide (((l.drop 6).length : Int) > 2))) = _
    rw [show decide (((l.drop 6).length : Int) > 2) = decide (2 < (l.drop 6).length) from decide_eq_decide.mpr ⟨fun h => by omega, fun h => by omega⟩]
  have cc := bOr_e c1 (bOr_e c2 c3)
  by_cases hb : (!decide (l.take 6 = [109, 97, 114, 107, 115, 32]) || (decide ((l.drop 6).length < 1) || decide (2 < (l.drop 6).length))) = true
  · rw [hb] at cc
    refine (rSeq_rt ((rIf_t cc).trans (rRet_e rfl))).trans ?_
    have : told l = none := by
      unfold told
      rw [if_neg]
      rintro ⟨h1, h2⟩
      have := (numOk_iff.mp h2).1
      rw [decide_eq_true h1, decide_eq_false (p := (l.drop 6).length < 1) (by omega), decide_eq_false (p := 2 < (l.drop 6).length) (by omega)] at hb
      cases hb
    rw [this]
    rfl
  · have hb := Bool.eq_false_iff.mpr hb
    rw [hb] at cc
    refine (rSeq_nx ((rIf_f cc).trans rfl)).trans ?_
    have h1 : l.take 6 = [109, 97, 114, 107, 115, 32] := by
      by_cases q : l.take 6 = [109, 97, 114, 107, 115, 32]
      · exact q
      · rw [decide_eq_false q] at hb; cases hb
    have h2 : 1 ≤ (l.drop 6).length ∧ (l.drop 6).length ≤ 2 := by
      rw [decide_eq_true h1] at hb
      have hb : (decide ((l.drop 6).length < 1) || decide (2 < (l.drop 6).length)) = false := hb
      rw [Bool.or_eq_false_iff, decide_eq_false_iff_not, decide_eq_false_iff_not] at hb
      omega
    have okdg : ∀ c : Nat, bV (mOp fNotInS (mVar 2) (mC (.str ("0123456789" : Str)))) [some (strD l), some (strD (l.drop 6)), some (signD c)] st = some (!decide (c ∈ digs)) := fun c => bV_e ((mOp_e rfl rfl).trans (by rw [lit_dg]; exact notIn_e))
    rcases hall : (l.drop 6).all (fun c => decide (c ∈ digs)) with _ | _
    · have ex : ∃ c ∈ l.drop 6, c ∉ digs := by
        rw [List.all_eq_false] at hall
        obtain ⟨c, hc, q⟩ := hall
        exact ⟨c, hc, by simpa using q⟩
      have := rfor_any (f := signD) (t := tgN 2) (r := rIf (bV (mOp fNotInS (mVar 2) (mC (.str ("0123456789" : Str))))) (rRet (mC .non)) rNext) (st := st) (d := .non) (p := fun c => !decide (c ∈ digs)) (fun env => ∃ x, env = [some (strD l), some (strD (l.drop 6)), x]) (l.drop 6) [some (strD l), some (strD (l.drop 6)), none] ⟨_, rfl⟩ (by
        rintro env ⟨x, rfl⟩ c hc
        refine ⟨[some (strD l), some (strD (l.drop 6)), some (signD c)], rfl, ?_⟩
        have q := okdg c
        by_cases hd : c ∈ digs
        · rw [decide_eq_true hd] at q ⊢
          exact .inr ⟨rfl, _, ⟨_, rfl⟩, (rIf_f q).trans rfl⟩
        · rw [decide_eq_false hd] at q ⊢
          exact .inl ⟨rfl, (rIf_t q).trans rfl⟩)
      have hz : told l = none := by
        unfold told
        rw [if_neg]
        rintro ⟨_, h3⟩
        obtain ⟨c, hc, q⟩ := ex
        exact q ((numOk_iff.mp h3).2.1 c hc)
      rw [hz]
      rcases this with ⟨h, e⟩ | ⟨h, _⟩
      · exact rSeq_rt ((rFor_e (signs_e rfl dl)).trans e)
      · exfalso
        obtain ⟨c, hc, q⟩ := ex
        first
        | exact absurd (h c hc) (by simp [q])
        | (rw [List.any_eq_false] at h; exact absurd (h c hc) (by simp [q]))
    · have hdg : ∀ c ∈ l.drop 6, c ∈ digs := fun c hc => by simpa using List.all_eq_true.mp hall c hc
      obtain ⟨env', ⟨x, rfl⟩, e⟩ := rFor_pass (f := signD) (mi := iSigns (mVar 1)) (t := tgN 2) (r := rIf (bV (mOp fNotInS (mVar 2) (mC (.str ("0123456789" : Str))))) (rRet (mC .non)) rNext) (st := st) (ro := none) (fun env => ∃ x, env = [some (strD l), some (strD (l.drop 6)), x]) (l.drop 6) [some (strD l), some (strD (l.drop 6)), none] (signs_e rfl dl) ⟨_, rfl⟩ (by
        rintro env ⟨x, rfl⟩ c hc
        refine ⟨[some (strD l), some (strD (l.drop 6)), some (signD c)], rfl, [some (strD l), some (strD (l.drop 6)), some (signD c)], ⟨_, rfl⟩, ?_⟩
        have q := okdg c
        rw [decide_eq_true (hdg c hc)] at q
        exact (rIf_f q).trans rfl)
      refine (rSeq_nx e).trans ?_
      have h0 : ∃ c, (l.drop 6)[0]? = some c := by
        cases hd : l.drop 6 with
        | nil => rw [hd] at h2; exact absurd h2.1 (by decide)
        | cons a r => exact ⟨a, rfl⟩
      obtain ⟨c0, hc0⟩ := h0
      have c4 : bAnd (bV (mOp fEq (mF1 fLenT (mVar 1)) (mC (.int 2)))) (bV (mOp fEq (mOp fIxT (mVar 1) (mC (.int 0))) (mC (.str ("0" : Str))))) [some (strD l), some (strD (l.drop 6)), x] st = some (decide ((l.drop 6).length = 2) && decide ((l.drop 6)[0]? = some 48)) := by
        refine bAnd_e (bV_e ((mOp_e ((f1_e rfl).trans (fLenT_e dl)) (y := .int 2) rfl).trans ((eqI _ _ _).trans ?_))) fun _ => bV_e ((mOp_e ((mOp_e (y := nI 0) rfl rfl).trans (fIxT_e (i := 0) dl hc0)) rfl).trans ?_)
        · rw [show decide (((l.drop 6).length : Int) = 2) = decide ((l.drop 6).length = 2) from decide_eq_decide.mpr ⟨fun h => by omega, fun h => by omega⟩]
        · rw [lit_0]
          refine (eq_S (fun c hc => by rw [List.mem_singleton.mp hc]; exact okd c0 (List.mem_of_getElem? hc0)) (by decide)).trans ?_
          rw [hc0]
          rw [show decide ([c0] = [48]) = decide (some c0 = some 48) from decide_eq_decide.mpr ⟨fun h => by rw [(List.cons.inj h).1], fun h => by rw [Option.some.inj h]⟩]
      by_cases h4 : (l.drop 6).length = 2 ∧ (l.drop 6)[0]? = some 48
      · rw [decide_eq_true h4.1, decide_eq_true h4.2] at c4
        have hz : told l = none := by
          unfold told
          rw [if_neg]
          rintro ⟨_, h3⟩
          exact (numOk_iff.mp h3).2.2 h4
        rw [hz]
        exact rSeq_rt ((rIf_t c4).trans (rRet_e rfl))
      · have : (decide ((l.drop 6).length = 2) && decide ((l.drop 6)[0]? = some 48)) = false := by
          rw [Bool.and_eq_false_iff, decide_eq_false_iff_not, decide_eq_false_iff_not]
          by_cases q : (l.drop 6).length = 2
          · exact .inr fun z => h4 ⟨q, z⟩
          · exact .inl q
        rw [this] at c4
        have hz : told l = some (numL (l.drop 6)) := by
          unfold told
          rw [if_pos ⟨h1, numOk_iff.mpr ⟨h2, hdg, h4⟩⟩]
        rw [hz]
        exact (rSeq_nx ((rIf_f c4).trans rfl)).trans (rRet_e ((f1_e rfl).trans (fIntS_e h2 hdg)))
end Lk01

set_option Elab.async false
set_option linter.all false
set_option maxRecDepth 100000
set_option maxHeartbeats 4000000
namespace Lk01
open PySem PySem.Spec PyProof.Rows L2 GX GD GF
/-! read_many: the words of a line -/
abbrev mk6 : List Nat := [109, 97, 114, 107, 115]
theorem pieces (c : Nat) (l : List Nat) : ∃ ps : List (List Nat), Txt.split (mkS l) ⟨#[c]⟩ = ps.map mkS ∧ glue c ps = l ∧ ∀ p ∈ ps, c ∉ p := by
  refine ⟨(Txt.split (mkS l) ⟨#[c]⟩).map (·.cps.toList), ?_, ?_, fun p hp => ?_⟩
  · rw [List.map_map]
    have : ∀ w : Str, (mkS ∘ fun x : Str => x.cps.toList) w = w := fun w => str_ext rfl
    rw [List.map_congr_left fun w _ => this w, List.map_id']
  · rw [← glue_join, StrLaws.join_split]
    rfl
  · obtain ⟨w, hw, rfl⟩ := List.mem_map.mp hp
    exact StrLaws.split_free _ _ w hw
theorem glue_len (c : Nat) : ∀ ps : List (List Nat), ps.length ≤ (glue c ps).length + 1
  | [] => Nat.zero_le _
  | [x] => by show 1 ≤ _; omega
  | x :: y :: r => by
    have := glue_len c (y :: r)
    show (y :: r).length + 1 ≤ (x ++ c :: glue c (y :: r)).length + 1
    rw [List.length_append, List.length_cons (as := glue c (y :: r))]
    omega
theorem glue_mem (c : Nat) : ∀ (ps : List (List Nat)), ∀ p ∈ ps, ∀ x ∈ p, x ∈ glue c ps
  | [], _, h, _, _ => nomatch h
  | [x], p, h, k, hk => by rw [List.mem_singleton.mp h] at hk; exact hk
  | x :: y :: r, p, h, k, hk => by
    show k ∈ x ++ c :: glue c (y :: r)
    rcases List.mem_cons.mp h with rfl | h
    · exact List.mem_append_left _ hk
    · exact List.mem_append_right _ (List.mem_cons_of_mem _ (glue_mem c (y :: r) p h k hk))
theorem dig_no : ∀ c ∈ digs, c ≠ 32 := by decide
theorem told_eq {l : List Nat} {k : Nat} (h : told l = some k) : l = mk6 ++ 32 :: l.drop 6 ∧ 32 ∉ l.drop 6 := by
  unfold told at h
  split at h
  · rename_i hc
    refine ⟨?_, fun z => dig_no _ ((numOk_iff.mp hc.2).2.1 _ z) rfl⟩
    have : l = l.take 6 ++ l.drop 6 := (List.take_append_drop 6 l).symm
    rw [hc.1] at this
    exact this
  · cases h
theorem told_two {a b : List Nat} (ha : 32 ∉ a) : told (a ++ 32 :: b) = if a = mk6 ∧ numOk b = true then some (numL b) else none := by
  have key : (a ++ 32 :: b).take 6 = [109, 97, 114, 107, 115, 32] → a = mk6 ∧ (a ++ 32 :: b).drop 6 = b := by
    intro h
    have e : a ++ 32 :: b = mk6 ++ 32 :: (a ++ 32 :: b).drop 6 := by
      have := (List.take_append_drop 6 (a ++ 32 :: b)).symm
      rw [h] at this
      exact this
    have := cut_first ha (by decide) e
    exact ⟨this.1, this.2.symm⟩
  unfold told
  by_cases h : a = mk6
  · subst h
    by_cases hn : numOk b = true
    · rw [if_pos ⟨rfl, hn⟩, if_pos ⟨rfl, hn⟩]
      rfl
    · rw [if_neg (fun z => hn z.2), if_neg (fun z => hn z.2)]
  · rw [if_neg (fun z => h (key z.1).1), if_neg (fun z => h z.1)]
theorem told_not {ps : List (List Nat)} (hf : ∀ p ∈ ps, 32 ∉ p) (h : ps.length ≠ 2) : told (glue 32 ps) = none := by
  cases hk : told (glue 32 ps) with
  | none => rfl
  | some k =>
    exfalso
    obtain ⟨e, hd⟩ := told_eq hk
    cases ps with
    | nil => cases hk
    | cons p r =>
      have : p :: r = [mk6, (glue 32 (p :: r)).drop 6] := glue_inj (c := 32) _ _ (by intro z; cases z) (by intro z; cases z) hf (fun q hq => by
        rcases List.mem_cons.mp hq with rfl | hq
        · decide
        · rw [List.mem_singleton.mp hq]; exact hd) e
      rw [this] at h
      exact h rfl
section
variable {st : SS} {R : D → SS → Prop} {l : List Nat}
theorem chainN {m mb : MP} {env : EV} {i n : Nat} (h : m env st = some (nI i)) (k : mb env st = some (nI n)) : mChain fLe fLe (mC (.int 1)) m mb env st = some (.bl (decide (1 ≤ i ∧ i ≤ n))) := by
  unfold mChain
  rw [h, k]
  show (match some (D.bl (decide ((1 : Int) ≤ (i : Int)))) with | some (D.bl true) => (match fLe st (nI i) (nI n) with | some (D.bl r) => some (D.bl r) | _ => none) | some (D.bl false) => some (D.bl false) | _ => none) = _
  by_cases h0 : 1 ≤ i
  · rw [decide_eq_true (show (1 : Int) ≤ (i : Int) by omega)]
    show some (D.bl (decide ((i : Int) ≤ (n : Int)))) = _
    rw [show decide ((i : Int) ≤ (n : Int)) = decide (1 ≤ i ∧ i ≤ n) from decide_eq_decide.mpr ⟨fun z => ⟨h0, by omega⟩, fun z => by omega⟩]
  · rw [decide_eq_false (show ¬ (1 : Int) ≤ (i : Int) by omega), decide_eq_false (p := 1 ≤ i ∧ i ≤ n) (by omega)]
theorem rm_ev (ok : okC l) (hl : l.length ≤ 1000) (h : ∀ st1, Up st st1 → R (optNI (told l)) st1) : T_read_many [strD l] st R := by
  refine ⟨rfl, ?_⟩
  show X_read_many _ [some (strD l), none, none] st
  obtain ⟨ps, e1, e2, e3⟩ := pieces 32 l
  have hps : ps.length ≤ 1001 := by have := glue_len 32 ps; rw [e2] at this; omega
  have okp : ∀ p ∈ ps, ∀ c ∈ p, c < 200 := fun p hp c hc => ok.lt c (by rw [← e2]; exact glue_mem 32 ps p hp c hc)
  have lenp : ∀ p ∈ ps, p.length ≤ 1000 := fun p hp => by
    obtain ⟨s, t, rfl⟩ := List.append_of_mem hp
    have : ∀ (s : List (List Nat)), p.length ≤ (glue 32 (s ++ p :: t)).length := by
      intro s
      induction s with
      | nil =>
        cases t with
        | nil => exact Nat.le_refl _
        | cons y r => show _ ≤ (p ++ 32 :: glue 32 (y :: r)).length; rw [List.length_append]; omega
      | cons x s ih =>
        cases hs : s ++ p :: t with
        | nil => cases s <;> cases hs
        | cons y r =>
          rw [hs] at ih
          show _ ≤ (glue 32 (x :: (s ++ p :: t))).length
          rw [hs]
          show _ ≤ (x ++ 32 :: glue 32 (y :: r)).length
          rw [List.length_append, List.length_cons]
          omega
    have := this s
    rw [e2] at this
    omega
  have sp : mSplit (mVar 0) (mC (.str (" " : Str))) [some (strD l), none, none] st = some (ps.map strD) := by
    unfold mSplit
    show (match some (strD l), some (D.str (" " : Str)) with | some (.str a), some (.str b) => if (b.length == 0) = false ∧ a.length ≤ 1000000 ∧ (Txt.split a b).length ≤ 1000000 then some ((Txt.split a b).map D.str) else none | _, _ => none) = _
    rw [lit_sp]
    show (if ((mkS [32]).length == 0) = false ∧ (mkS l).length ≤ 1000000 ∧ (Txt.split (mkS l) ⟨#[32]⟩).length ≤ 1000000 then some ((Txt.split (mkS l) ⟨#[32]⟩).map D.str) else none) = _
    rw [e1, if_pos ⟨rfl, by rw [mkS_len]; omega, by rw [List.length_map]; omega⟩, List.map_map]
    rfl
  refine ⟨_, sp, _, rfl, ?_⟩
  have cell : (st ++ [Cell.lst (ps.map strD)])[st.length]? = some (.lst (ps.map strD)) := getApp _ _
  have up : Up st (st ++ [Cell.lst (ps.map strD)]) := Up.app _ _
  generalize st ++ [Cell.lst (ps.map strD)] = s at cell up
  have ln : ∀ y, bV (mOp fNe (mF1 fLen (mVar 1)) (mC (.int 2))) [some (strD l), some (.ref st.length), y] s = some (!decide (ps.length = 2)) := fun y => by
    refine bV_e ((mOp_e (lenR (f := strD) rfl cell) (y := .int 2) rfl).trans ((neI _ _ _).trans ?_))
    rw [show decide ((ps.length : Int) = 2) = decide (ps.length = 2) from decide_eq_decide.mpr ⟨fun h => by omega, fun h => by omega⟩]
  by_cases h2 : ps.length = 2
  · match ps, h2 with
    | [a, b], _ =>
      have e2 : a ++ 32 :: b = l := e2
      have ha : 32 ∉ a := e3 a List.mem_cons_self
      have oka := okp a List.mem_cons_self
      have okb := okp b (List.mem_cons_of_mem _ List.mem_cons_self)
      have lb := lenp b (List.mem_cons_of_mem _ List.mem_cons_self)
      have w0 : ∀ y, mOp fIx (mVar 1) (mC (.int 0)) [some (strD l), some (.ref st.length), y] s = some (strD a) := fun y => (mOp_e rfl rfl).trans (getR (f := strD) (l := [a, b]) (i := 0) cell rfl)
      have w1 : ∀ y, mOp fIx (mVar 1) (mC (.int 1)) [some (strD l), some (.ref st.length), y] s = some (strD b) := fun y => (mOp_e rfl rfl).trans (getR (f := strD) (l := [a, b]) (i := 1) cell rfl)
      have hn : ∀ y, bV (mOp fNe (mF1 fLen (mVar 1)) (mC (.int 2))) [some (strD l), some (.ref st.length), y] s = some false := ln
      have hm : ∀ y, bV (mOp fNe (mOp fIx (mVar 1) (mC (.int 0))) (mC (.str ("marks" : Str)))) [some (strD l), some (.ref st.length), y] s = some (!decide (a = mk6)) := fun y => bV_e ((mOp_e (w0 y) rfl).trans (by rw [lit_marks']; exact ne_S oka (by decide)))
      have hlb : ∀ y, mF1 fLenT (mOp fIx (mVar 1) (mC (.int 1))) [some (strD l), some (.ref st.length), y] s = some (nI b.length) := fun y => (f1_e (w1 y)).trans (fLenT_e (by omega))
      have hc : ∀ y, bNot (bV (mChain fLe fLe (mC (.int 1)) (mF1 fLenT (mOp fIx (mVar 1) (mC (.int 1)))) (mC (.int 2)))) [some (strD l), some (.ref st.length), y] s = some (!decide (1 ≤ b.length ∧ b.length ≤ 2)) := fun y => bNot_e (bV_e (chainN (n := 2) (hlb y) rfl))
      have tl := told_two (b := b) ha
      rw [e2] at tl
      refine ⟨_, bOr_e (hn none) (bOr_e (hm none) (hc none)), ?_⟩
      by_cases q1 : a = mk6 ∧ 1 ≤ b.length ∧ b.length ≤ 2
      · rw [decide_eq_true q1.1, decide_eq_true q1.2]
        refine iteF ?_
        have any1 : ∀ y, bV (mAll true (iSigns (mOp fIx (mVar 1) (mC (.int 1)))) (tgN 2) bYes (mOp fNotInS (mVar 2) (mC (.str ("0123456789" : Str)))) [2]) [some (strD l), some (.ref st.length), y] s = some (b.any fun c => !decide (c ∈ digs)) := fun y => by
          refine bV_e (mAll_e (signs_e (w1 y) (by omega)) (anyGo_map (f := signD) (p := fun c => !decide (c ∈ digs)) b fun c _ => ⟨_, rfl, rfl, (mOp_e rfl rfl).trans ?_⟩))
          rw [lit_dg]
          exact notIn_e
        have h0 : ∃ c, b[0]? = some c := by
          cases hd : b with
          | nil => rw [hd] at q1; exact absurd q1.2.1 (by decide)
          | cons x r => exact ⟨x, rfl⟩
        obtain ⟨c0, hc0⟩ := h0
        have zero : ∀ y, bAnd (bV (mOp fEq (mOp fIxT (mOp fIx (mVar 1) (mC (.int 1))) (mC (.int 0))) (mC (.str ("0" : Str))))) (bV (mOp fGt (mF1 fLenT (mOp fIx (mVar 1) (mC (.int 1)))) (mC (.int 1)))) [some (strD l), some (.ref st.length), y] s = some (decide (b[0]? = some 48) && decide (1 < b.length)) := fun y => by
          refine bAnd_e (bV_e ((mOp_e ((mOp_e (w1 y) (y := nI 0) rfl).trans (fIxT_e (i := 0) (by omega) hc0)) rfl).trans ?_)) fun _ => bV_e ((mOp_e (hlb y) (y := .int 1) rfl).trans ?_)
          · rw [lit_0]
            refine (eq_S (fun c hc => by rw [List.mem_singleton.mp hc]; exact okb c0 (List.mem_of_getElem? hc0)) (by decide)).trans ?_
            rw [hc0]
            rw [show decide ([c0] = [48]) = decide (some c0 = some 48) from decide_eq_decide.mpr ⟨fun h => by rw [(List.cons.inj h).1], fun h => by rw [Option.some.inj h]⟩]
          · show some (D.bl (decide ((b.length : Int) > 1))) = _
            rw [show decide ((b.length : Int) > 1) = decide (1 < b.length) from decide_eq_decide.mpr ⟨fun h => by omega, fun h => by omega⟩]
        refine ⟨_, bOr_e (any1 none) (zero none), ?_⟩
        by_cases q2 : numOk b = true
        · obtain ⟨n1, n2, n3⟩ := numOk_iff.mp q2
          have f1 : (b.any fun c => !decide (c ∈ digs)) = false := by
            rw [notIn_any, List.all_eq_true.mpr fun c hc => decide_eq_true (n2 c hc)]
            rfl
          have f2 : (decide (b[0]? = some 48) && decide (1 < b.length)) = false := by
            rw [Bool.and_eq_false_iff, decide_eq_false_iff_not, decide_eq_false_iff_not]
            by_cases z : b[0]? = some 48
            · exact .inr fun y => n3 ⟨by omega, z⟩
            · exact .inl z
          rw [f1, f2]
          refine iteF ⟨nI (numL b), (f1_e (w1 none)).trans (fIntS_e n1 n2), ?_⟩
          have := h s up
          rw [tl, if_pos ⟨q1.1, q2⟩] at this
          exact this
        · have ft : ((b.any fun c => !decide (c ∈ digs)) || (decide (b[0]? = some 48) && decide (1 < b.length))) = true := by
            cases hf : ((b.any fun c => !decide (c ∈ digs)) || (decide (b[0]? = some 48) && decide (1 < b.length))) with
            | true => rfl
            | false =>
              exfalso
              rw [Bool.or_eq_false_iff, notIn_any, Bool.not_eq_false', List.all_eq_true, Bool.and_eq_false_iff, decide_eq_false_iff_not, decide_eq_false_iff_not] at hf
              refine q2 (numOk_iff.mpr ⟨q1.2, fun c hc => by simpa using hf.1 c hc, fun z => ?_⟩)
              rcases hf.2 with y | y
              · exact y z.2
              · omega
          rw [ft]
          refine iteT ⟨_, rfl, ?_⟩
          have := h s up
          rw [tl, if_neg (fun z => q2 z.2)] at this
          exact this
      · have ft : (false || (!decide (a = mk6) || !decide (1 ≤ b.length ∧ b.length ≤ 2))) = true := by
          by_cases z : a = mk6
          · rw [decide_eq_false (p := 1 ≤ b.length ∧ b.length ≤ 2) (fun y => q1 ⟨z, y⟩), Bool.not_false, Bool.or_true, Bool.or_true]
          · rw [decide_eq_false z]; rfl
        rw [ft]
        refine iteT ⟨_, rfl, ?_⟩
        have := h s up
        rw [tl, if_neg (fun z => q1 ⟨z.1, (numOk_iff.mp z.2).1⟩)] at this
        exact this
  · have := told_not e3 h2
    rw [e2] at this
    have lt := ln none
    rw [decide_eq_false h2] at lt
    refine ⟨true, bOr_t lt, iteT ⟨_, rfl, ?_⟩⟩
    have q := h s up
    rw [this] at q
    exact q
end
end Lk01

set_option Elab.async false
set_option linter.all false
set_option maxRecDepth 100000
set_option maxHeartbeats 4000000
namespace Lk01
open PySem PySem.Spec PyProof.Rows L2 GX GD GF
/-! the first fault of a text; read -/
def badS (l : List Nat) : Bool := l.any fun c => !decide (c ∈ [120, 46])
def rowF (m i : Nat) : List (List Nat) → Option (Nat × Str)
  | [] => none
  | l :: r => if badS l = true then some (i + 2, ("unknown sign" : Str)) else if l.length = m then rowF m (i + 1) r else some (i + 2, ("wrong length" : Str))
theorem rowF_cons (m i : Nat) (l : List Nat) (r : List (List Nat)) : rowF m i (l :: r) = if badS l = true then some (i + 2, ("unknown sign" : Str)) else if l.length = m then rowF m (i + 1) r else some (i + 2, ("wrong length" : Str)) := rfl
theorem rowF_none {m : Nat} : ∀ {t : List (List Nat)} {i : Nat}, rowF m i t = none → ∀ l ∈ t, badS l = false ∧ l.length = m
  | [], _, _, _, h => nomatch h
  | a :: t, i, h, l, hl => by
    rw [rowF_cons] at h
    split at h
    · cases h
    · rename_i hb
      split at h
      · rename_i hm
        rcases List.mem_cons.mp hl with rfl | hl
        · exact ⟨Bool.eq_false_iff.mpr hb, hm⟩
        · exact rowF_none h l hl
      · cases h
def faultM (ls : List (List Nat)) (ended : Bool) : Option (Nat × Str) := match ls with
  | [] => some (1, ("expected marks" : Str))
  | h :: t => match told h with
    | none => some (1, ("expected marks" : Str))
    | some m => match rowF m 0 t with
      | some f => some f
      | none => if ended = true then none else some (t.length + 1, ("unended" : Str))
theorem fault_no {h : List Nat} {t : List (List Nat)} {e : Bool} (ht : told h = none) : faultM (h :: t) e = some (1, ("expected marks" : Str)) := by unfold faultM; simp only [ht]
theorem fault_row {h : List Nat} {t : List (List Nat)} {e : Bool} {m : Nat} {f : Nat × Str} (ht : told h = some m) (hr : rowF m 0 t = some f) : faultM (h :: t) e = some f := by unfold faultM; simp only [ht, hr]
theorem fault_end {h : List Nat} {t : List (List Nat)} {e : Bool} {m : Nat} (ht : told h = some m) (hr : rowF m 0 t = none) : faultM (h :: t) e = if e = true then none else some (t.length + 1, ("unended" : Str)) := by unfold faultM; simp only [ht, hr]
def fltD (f : Nat × Str) : D := .tup [nI f.1, .str f.2]
def marksL (l : List Nat) : List Nat := (List.range l.length).filter fun k => decide (l[k]? = some 120)
def tableL : List (List Nat) → D
  | [] => .non
  | h :: t => tblD ((told h).getD 0) (t.map marksL)
def X_go : GE.XSE := (GE.sSeqE (fun _ => (sAsg (xIf (xbOf (bT (mVar 1))) (xCall T_read_many (xCons (xOf (mOp fIx (mVar 1) (mC (.int 0)))) xNil)) (xOf (mC .non))) (tgN 3))) (GE.sSeqE (GE.sIfE (xbOf (bV (mOp fIsN (mVar 3) (mC .non)))) (GE.sRaise "TextFault" (xOf (mC (.int 1))) (xOf (mC (.str ("expected marks" : Str))))) (fun _ => sNext)) (GE.sSeqE (GE.sForE (xEnum (xNew (xaOf (mSlL (mVar 1) (some (mC (.int 1))) none)))) (tgTup 2 (tgCons (tgN 4) (tgCons (tgN 5) tgNil))) (GE.sSeqE (GE.sIfE (xbOf (bV (mAll true (iSigns (mVar 5)) (tgN 6) bYes (mOp fNotInS (mVar 6) (mC (.str ("x." : Str)))) [6]))) (GE.sRaise "TextFault" (xOf (mOp fAdd (mVar 4) (mC (.int 2)))) (xOf (mC (.str ("unknown sign" : Str))))) (fun _ => sNext)) (GE.sIfE (xbOf (bV (mOp fNe (mF1 fLenT (mVar 5)) (mVar 3)))) (GE.sRaise "TextFault" (xOf (mOp fAdd (mVar 4) (mC (.int 2)))) (xOf (mC (.str ("wrong length" : Str))))) (fun _ => sNext)))) (GE.sSeqE (GE.sIfE (xbOf (bNot (bV (mVar 2)))) (GE.sRaise "TextFault" (xOf (mF1 fLen (mVar 1))) (xOf (mC (.str ("unended" : Str))))) (fun _ => sNext)) (fun _ => (sRet (xTup (xCons (xOf (mC (.str ("table" : Str)))) (xCons (xOf (mVar 3)) (xCons (xGenT (xSeq (xNew (xaOf (mSlL (mVar 1) (some (mC (.int 1))) none)))) (tgN 5) bYes (mGenT (iRng (mVar 3)) (tgN 7) (bV (mOp fEq (mOp fIxT (mVar 5) (mVar 7)) (mC (.str ("x" : Str))))) (mVar 7) [7]) [5]) xNil))))))))))
section
variable {st : SS} {R : D → SS → Prop} {Ex : GE.EXC} {ended : Bool}
theorem cut1 {α : Type} (a : α) (l : List α) : cutG (a :: l) (some 1) none = l := cut_drop (a :: l) 1
theorem slL1 {m : MP} {env : EV} {st : SS} {p : Nat} {a : List Nat} {l : List (List Nat)} (e : m env st = some (.ref p)) (c : st[p]? = some (.lst ((a :: l).map strD))) : mSlL m (some (mC (.int 1))) none env st = some (l.map strD) := by
  unfold mSlL
  rw [e]
  show (match st[p]? with | some (.lst ds) => some (cutG ds (some 1) none) | _ => none) = _
  rw [c]
  show some (cutG (strD a :: l.map strD) (some 1) none) = _
  rw [cut1]
theorem bad_ev {m : MP} {env : EV} {s : SS} {l : List Nat} {own : List Nat} (h : m env s = some (strD l)) (hl : l.length ≤ 1000000) (hv : ∀ c, ∃ env1, tgN 6 (signD c) (ewipe env own) = some env1 ∧ mVar 6 env1 s = some (signD c)) : bV (mAll true (iSigns m) (tgN 6) bYes (mOp fNotInS (mVar 6) (mC (.str ("x." : Str)))) own) env s = some (badS l) := by
  refine bV_e (mAll_e (signs_e h hl) (anyGo_map (f := signD) (p := fun c => !decide (c ∈ [120, 46])) l fun c _ => ?_))
  obtain ⟨env1, h1, h2⟩ := hv c
  refine ⟨env1, h1, rfl, (mOp_e h2 rfl).trans ?_⟩
  rw [lit_xd]
  exact notIn_e
theorem go_ev {p : Nat} {x0 : Option D} {ls : List (List Nat)} (okl : ∀ l ∈ ls, okC l ∧ l.length ≤ 1000) (hn : ls.length ≤ 1000) (c : st[p]? = some (.lst (ls.map strD)))
    (h1 : ∀ st1, faultM ls ended = none → Up st st1 → R (tableL ls) st1) (h2 : ∀ f st1, faultM ls ended = some f → Up st st1 → Ex "TextFault" (nI f.1, .str f.2) st1) :
    X_go (fun c r _ st' => Ex c r st') { nx := fun _ st' => R .non st', rt := R } [x0, some (.ref p), some (.bl ended), none, none, none, none, none] st := by
  cases ls with
  | nil =>
    refine ⟨false, ?_, iteF ⟨.non, rfl, _, rfl, true, rfl, iteT ⟨.int 1, rfl, _, rfl, _, _, rfl, h2 (1, ("expected marks" : Str)) st rfl (Up.refl _)⟩⟩⟩
    show (match st[p]? with | some (.lst l) => some (!l.isEmpty) | _ => none) = _
    rw [c]
    rfl
  | cons h t =>
    have okh := okl h List.mem_cons_self
    refine ⟨true, ?_, iteT ⟨strD h, (mOp_e rfl rfl).trans (getR (f := strD) (l := h :: t) (i := 0) c rfl), rm_ev okh.1 okh.2 fun s1 u1 => ⟨_, rfl, ?_⟩⟩⟩
    · show (match st[p]? with | some (.lst l) => some (!l.isEmpty) | _ => none) = _
      rw [c]
      rfl
    have c1 := u1.get c
    cases ht : told h with
    | none => exact ⟨true, rfl, iteT ⟨.int 1, rfl, _, rfl, _, _, rfl, h2 (1, ("expected marks" : Str)) s1 (fault_no ht) u1⟩⟩
    | some m =>
      refine ⟨false, rfl, iteF ?_⟩
      have hm := told_lt ht
      have sl : ∀ (s2 : SS) (a3 a4 a5 a6 a7 : Option D), s2[p]? = some (.lst ((h :: t).map strD)) → mSlL (mVar 1) (some (mC (.int 1))) none [x0, some (.ref p), some (.bl ended), a3, a4, a5, a6, a7] s2 = some (t.map strD) := fun s2 a3 a4 a5 a6 a7 hc => slL1 rfl hc
      refine ⟨_, sl s1 _ _ _ _ _ c1, _, _, seqI_lst (getApp _ _), ?_⟩
      have c2 := (Up.app s1 [Cell.lst (t.map strD)]).get c1
      have u2 := u1.trans (Up.app s1 [Cell.lst (t.map strD)])
      generalize hs2 : s1 ++ [Cell.lst (t.map strD)] = s2 at c2 u2
      rw [enumD_map strD t []]
      refine for_ls (ro := some s1.length) (f := fun i => D.tup [nI i, strD (t.getD i [])]) (items := List.range t.length) (fun done env st' => st' = s2 ∧ rowF m 0 t = rowF m done.length (t.drop done.length) ∧ ∃ a4 a5 a6 a7, env = [x0, some (.ref p), some (.bl ended), some (nI m), a4, a5, a6, a7]) ?_ ?_ ?_ ⟨rfl, rfl, _, _, _, _, rfl⟩
      · rintro done env st' ⟨rfl, _⟩
        exact Hold.refl
      · rintro done a todo env st' he ⟨rfl, hrow, a4, a5, a6, a7, rfl⟩
        obtain ⟨e1, e2⟩ := range_split he
        have el : done.length = a := by rw [e1, List.length_range]
        have ha : a < t.length := List.mem_range.mp (by rw [he]; exact List.mem_append_right _ List.mem_cons_self)
        have hg : t.getD a [] = t[a] := by rw [List.getD_eq_getElem?_getD, List.getElem?_eq_getElem ha]; rfl
        have hmem : t[a] ∈ t := List.getElem_mem ha
        have okt := okl _ (List.mem_cons_of_mem _ hmem)
        rw [el, List.drop_eq_getElem_cons ha, rowF_cons] at hrow
        rw [hg]
        refine ⟨[x0, some (.ref p), some (.bl ended), some (nI m), some (nI a), some (strD t[a]), a6, a7], rfl, fun K k1 k2 k3 k4 => ?_⟩
        refine ⟨badS t[a], bad_ev (l := t[a]) rfl (by omega) fun c => ⟨_, rfl, rfl⟩, ?_⟩
        cases hb : badS t[a] with
        | true =>
          rw [if_pos hb] at hrow
          exact iteT ⟨nI (a + 2), rfl, _, rfl, _, _, rfl, h2 (a + 2, ("unknown sign" : Str)) st' (fault_row ht hrow) u2⟩
        | false =>
          rw [if_neg (by rw [hb]; decide)] at hrow
          refine iteF ⟨!decide (t[a].length = m), bV_e ((mOp_e ((f1_e (x := strD t[a]) rfl).trans (fLenT_e (by omega))) rfl).trans ((neI _ _ _).trans ?_)), ?_⟩
          · rw [show decide ((t[a].length : Int) = (m : Int)) = decide (t[a].length = m) from decide_eq_decide.mpr ⟨fun h => by omega, fun h => by omega⟩]
          · by_cases hl : t[a].length = m
            · rw [decide_eq_true hl]
              rw [if_pos hl] at hrow
              refine iteF (k1 _ _ ⟨rfl, ?_, _, _, _, _, rfl⟩)
              rw [List.length_append, el]
              exact hrow
            · rw [decide_eq_false hl]
              rw [if_neg hl] at hrow
              exact iteT ⟨nI (a + 2), rfl, _, rfl, _, _, rfl, h2 (a + 2, ("wrong length" : Str)) st' (fault_row ht hrow) u2⟩
      · rintro env st' ⟨rfl, hrow, a4, a5, a6, a7, rfl⟩
        rw [List.length_range, List.drop_length] at hrow
        have hrow : rowF m 0 t = none := hrow
        have fe := fault_end (e := ended) ht hrow
        cases ended with
        | false =>
          exact ⟨true, rfl, iteT ⟨nI (t.length + 1), (lenR (f := strD) (l := h :: t) rfl c2), _, rfl, _, _, rfl, h2 (t.length + 1, ("unended" : Str)) st' fe u2⟩⟩
        | true =>
          have hall := rowF_none hrow
          refine ⟨false, rfl, iteF ⟨_, rfl, _, rfl, _, sl _ _ _ _ _ _ c2, _, _, seqI_lst (getApp _ _), (t.map marksL).map dN, ?_, ?_⟩⟩
          · have := fGo_map (t := tgN 5) (b := bYes) (m := mGenT (iRng (mVar 3)) (tgN 7) (bV (mOp fEq (mOp fIxT (mVar 5) (mVar 7)) (mC (.str ("x" : Str))))) (mVar 7) [7]) (env := ewipe [x0, some (.ref p), some (.bl true), some (nI m), a4, a5, a6, a7] [5]) (st := st' ++ [Cell.lst (t.map strD)]) (f := strD) (p := fun _ => true) (g := fun l => dN (marksL l)) t fun l hl => ⟨_, rfl, rfl, fun _ => ?_⟩
            · rw [List.filter_eq_self.mpr fun _ _ => rfl] at this
              rw [List.map_map]
              exact this
            · have okt := okl l (List.mem_cons_of_mem _ hl)
              have hlen := (hall l hl).2
              refine mGenT_e ((comp_fi (f := nI) (g := nI) (p := fun k => decide (l[k]? = some 120)) (iRng_nat (n := m) rfl (by omega)) fun k hk => ⟨_, rfl, bV_e ((mOp_e ((mOp_e rfl rfl).trans (fIxT_e (i := k) (c := l[k]'(by have := List.mem_range.mp hk; omega)) (by omega) (List.getElem?_eq_getElem _))) rfl).trans ?_), fun _ => rfl⟩).trans ?_)
              · rw [lit_x]
                refine (eq_S (fun c hc => by rw [List.mem_singleton.mp hc]; exact okt.1.lt _ (List.getElem_mem _)) (by decide)).trans ?_
                have hk' : k < l.length := by have := List.mem_range.mp hk; omega
                rw [List.getElem?_eq_getElem hk', show decide ([l[k]] = [120]) = decide (some l[k] = some 120) from decide_eq_decide.mpr ⟨fun h => by rw [(List.cons.inj h).1], fun h => by rw [Option.some.inj h]⟩]
              · unfold marksL
                rw [hlen]
          · have e : tableL (h :: t) = .tup [.str ("table" : Str), nI m, .tup ((t.map marksL).map dN)] := by show tblD ((told h).getD 0) (t.map marksL) = _; rw [ht]; rfl
            have := h1 (st' ++ [Cell.lst (t.map strD)]) fe (u2.trans (Up.app _ _))
            rw [e] at this
            exact ⟨by show 3 ≤ 1000; decide, this⟩
theorem last_ix {p : Nat} {xs : List (List Nat)} {x : List Nat} (c : st[p]? = some (.lst ((xs ++ [x]).map strD))) : fIx st (.ref p) (.int (-1)) = some (strD x) := by
  unfold fIx seqOf
  simp only [c]
  unfold atI ixN
  have hl : ((xs ++ [x]).map strD).length = xs.length + 1 := by rw [List.length_map, List.length_append]; rfl
  rw [if_neg (by decide), if_pos (by rw [hl]; omega), hl]
  have e : ((-1 : Int) + ((xs.length + 1 : Nat) : Int)).toNat = xs.length := by omega
  have g : ((xs ++ [x]).map strD)[xs.length]? = some (strD x) := by
    rw [List.getElem?_map, List.getElem?_append_right (Nat.le_refl _), Nat.sub_self]
    rfl
  first
    | (rw [Option.bind_some, e]; exact g)
    | (rw [Option.bind_some, Int.add_comm, e]; exact g)
theorem read_ev {text : List Nat} {ls : List (List Nat)} (okl : ∀ l ∈ ls, okC l ∧ l.length ≤ 1000) (hn : ls.length ≤ 1000) (htl : text.length ≤ 900000)
    (sp : Txt.split (mkS text) ⟨#[10]⟩ = (if ended = true then ls ++ [[]] else ls).map mkS) (hE : ended = false → ∃ xs x, ls = xs ++ [x] ∧ x ≠ [])
    (h1 : ∀ st1, faultM ls ended = none → Up st st1 → R (tableL ls) st1) (h2 : ∀ f st1, faultM ls ended = some f → Up st st1 → Ex "TextFault" (nI f.1, .str f.2) st1) : T_read [strD text] st R Ex := by
  refine ⟨rfl, ?_⟩
  show X_read (fun c r _ st' => Ex c r st') _ [some (strD text), none, none, none, none, none, none, none] st
  have sp' : mSplit (mVar 0) (mC (.str ("\n" : Str))) [some (strD text), none, none, none, none, none, none, none] st = some ((if ended = true then ls ++ [[]] else ls).map strD) := by
    unfold mSplit
    show (match some (strD text), some (D.str ("\n" : Str)) with | some (.str a), some (.str b) => if (b.length == 0) = false ∧ a.length ≤ 1000000 ∧ (Txt.split a b).length ≤ 1000000 then some ((Txt.split a b).map D.str) else none | _, _ => none) = _
    rw [lit_nl]
    show (if ((mkS [10]).length == 0) = false ∧ (mkS text).length ≤ 1000000 ∧ (Txt.split (mkS text) ⟨#[10]⟩).length ≤ 1000000 then some ((Txt.split (mkS text) ⟨#[10]⟩).map D.str) else none) = _
    have hl : (if ended = true then ls ++ [[]] else ls).length ≤ 1001 := by
      split
      · rw [List.length_append]; show _ + 1 ≤ _; omega
      · omega
    rw [sp, if_pos ⟨rfl, by rw [mkS_len]; omega, by rw [List.length_map]; omega⟩, List.map_map]
    rfl
  refine ⟨_, sp', _, rfl, ?_⟩
  have up0 : Up st (st ++ [Cell.lst ((if ended = true then ls ++ [[]] else ls).map strD)]) := Up.app _ _
  cases ended with
  | true =>
    have cell : (st ++ [Cell.lst ((ls ++ [[]]).map strD)])[st.length]? = some (.lst ((ls ++ [[]]).map strD)) := getApp _ _
    refine ⟨.bl true, (mOp_e (x := strD []) ((mOp_e (x := .ref st.length) (y := .int (-1)) rfl rfl).trans (last_ix cell)) rfl).trans ?_, _, rfl, true, rfl, iteT ⟨st.length, ls.map strD, strD [], rfl, ?_, ?_⟩⟩
    · rw [lit_e]
      exact eq_S (by intro _ h; cases h) (by intro _ h; cases h)
    · exact (getApp st (.lst ((ls ++ [[]]).map strD))).trans (by rw [List.map_append])
    · have e : ∀ c2, (st ++ [c2]).set st.length (Cell.lst (ls.map strD)) = st ++ [Cell.lst (ls.map strD)] := fun c2 => setApp _ _ _
      show X_go _ _ _ ((st ++ [Cell.lst ((ls ++ [[]]).map strD)]).set st.length (Cell.lst (ls.map strD)))
      rw [e]
      exact go_ev okl hn (getApp _ _) (fun st1 hf u => h1 st1 hf ((Up.app _ _).trans u)) fun f st1 hf u => h2 f st1 hf ((Up.app _ _).trans u)
  | false =>
    obtain ⟨xs, x, rfl, hx⟩ := hE rfl
    have cell : (st ++ [Cell.lst ((xs ++ [x]).map strD)])[st.length]? = some (.lst ((xs ++ [x]).map strD)) := getApp _ _
    refine ⟨.bl false, (mOp_e (x := strD x) ((mOp_e (x := .ref st.length) (y := .int (-1)) rfl rfl).trans (last_ix cell)) rfl).trans ?_, _, rfl, false, rfl, iteF ?_⟩
    · rw [lit_e]
      refine (eq_S (okl x (List.mem_append_right _ List.mem_cons_self)).1.lt (by intro _ h; cases h)).trans ?_
      rw [decide_eq_false hx]
    · exact go_ev okl hn cell (fun st1 hf u => h1 st1 hf (up0.trans u)) fun f st1 hf u => h2 f st1 hf (up0.trans u)
end
end Lk01

set_option Elab.async false
set_option linter.all false
set_option maxRecDepth 100000
set_option maxHeartbeats 4000000
namespace Lk01
open PySem PySem.Spec PyProof.Rows L2 GX GD GF
/-! the law's first fault; texts joined; the lines of a table -/
def bodyF : RS := (rSeq (rFor (iSigns (mOp fIx (mVar 0) (mVar 2))) (tgN 3) (rIf (bAnd (bV (mOp fNe (mVar 3) (mC (.str ("x" : Str))))) (bV (mOp fNe (mVar 3) (mC (.str ("." : Str)))))) (rRet (mTup (mCons (mOp fAdd (mVar 2) (mC (.int 1))) (mCons (mC (.str ("unknown sign" : Str))) mNil)))) rNext)) (rIf (bV (mOp fNe (mF1 fLenT (mOp fIx (mVar 0) (mVar 2))) (mCall F_law_told_many (mCons (mOp fIx (mVar 0) (mC (.int 0))) mNil)))) (rRet (mTup (mCons (mOp fAdd (mVar 2) (mC (.int 1))) (mCons (mC (.str ("wrong length" : Str))) mNil)))) rNext))
section
variable {st : SS} {ended : Bool} {q m : Nat} {h : List Nat} {t : List (List Nat)}
theorem rForGo_rt {t : MT} {r : RS} {st : SS} {d d' : D} {ds : List D} {env env1 : EV} (h : t d env = some env1) (k : r env1 st = some (.rt d')) : rForGo t r st (d :: ds) env = some (.rt d') := by
  rw [rForGo, h]
  simp only [k]
theorem rForGo_nx' {t : MT} {r : RS} {st : SS} {d : D} {ds : List D} {env env1 env2 : EV} (h : t d env = some env1) (k : r env1 st = some (.nx env2)) : rForGo t r st (d :: ds) env = rForGo t r st ds env2 := by
  rw [rForGo, h]
  simp only [k]
theorem loopF (okl : ∀ l ∈ h :: t, okC l ∧ l.length ≤ 1000) (c : st[q]? = some (.lst ((h :: t).map strD))) (ht : told h = some m) : ∀ (k i : Nat) (x2 x3 : Option D), k + i = t.length →
    (∃ f, rowF m i (t.drop i) = some f ∧ rForGo (tgN 2) bodyF st ((List.range' i k).map fun j => nI (j + 1)) [some (.ref q), some (.bl ended), x2, x3] = some (.rt (fltD f))) ∨
    (rowF m i (t.drop i) = none ∧ ∃ y2 y3, rForGo (tgN 2) bodyF st ((List.range' i k).map fun j => nI (j + 1)) [some (.ref q), some (.bl ended), x2, x3] = some (.nx [some (.ref q), some (.bl ended), y2, y3]))
  | 0, i, x2, x3, hk => by
    rw [List.drop_eq_nil_of_le (by omega)]
    exact .inr ⟨rfl, _, _, rfl⟩
  | k + 1, i, x2, x3, hk => by
    have hi : i < t.length := by omega
    have hmem : t[i] ∈ t := List.getElem_mem hi
    have okt := okl _ (List.mem_cons_of_mem _ hmem)
    have okh := okl h List.mem_cons_self
    have e_l : ∀ y, mOp fIx (mVar 0) (mVar 2) [some (.ref q), some (.bl ended), some (nI (i + 1)), y] st = some (strD t[i]) := fun y => (mOp_e rfl rfl).trans (getR (f := strD) (l := h :: t) (i := i + 1) c (by rw [List.getElem?_cons_succ]; exact List.getElem?_eq_getElem hi))
    rw [List.drop_eq_getElem_cons hi, rowF_cons, List.range'_succ, List.map_cons]
    have inner := rfor_any (f := signD) (t := tgN 3) (r := (rIf (bAnd (bV (mOp fNe (mVar 3) (mC (.str ("x" : Str))))) (bV (mOp fNe (mVar 3) (mC (.str ("." : Str)))))) (rRet (mTup (mCons (mOp fAdd (mVar 2) (mC (.int 1))) (mCons (mC (.str ("unknown sign" : Str))) mNil)))) rNext)) (st := st) (d := fltD (i + 2, ("unknown sign" : Str))) (p := fun c => !decide (c ∈ [120, 46])) (fun env => ∃ x, env = [some (.ref q), some (.bl ended), some (nI (i + 1)), x]) t[i] [some (.ref q), some (.bl ended), some (nI (i + 1)), x3] ⟨_, rfl⟩ (by
      rintro env ⟨x, rfl⟩ s hs
      refine ⟨[some (.ref q), some (.bl ended), some (nI (i + 1)), some (signD s)], rfl, ?_⟩
      have l200 : ∀ c ∈ [s], c < 200 := fun c hc => by rw [List.mem_singleton.mp hc]; exact okt.1.lt s hs
      have cc : bAnd (bV (mOp fNe (mVar 3) (mC (.str ("x" : Str))))) (bV (mOp fNe (mVar 3) (mC (.str ("." : Str))))) [some (.ref q), some (.bl ended), some (nI (i + 1)), some (signD s)] st = some (!decide (s ∈ [120, 46])) := by
        refine (bAnd_e (x := !decide ([s] = [120])) (y := !decide ([s] = [46])) (bV_e ((mOp_e (x := strD [s]) rfl rfl).trans (by rw [lit_x]; exact ne_S l200 (by decide)))) fun _ => bV_e ((mOp_e (x := strD [s]) rfl rfl).trans (by rw [lit_dot]; exact ne_S l200 (by decide)))).trans ?_
        congr 1
        by_cases h1 : s = 120
        · subst h1; rfl
        · by_cases h2 : s = 46
          · subst h2; rfl
          · rw [decide_eq_false (p := [s] = [120]) (fun z => h1 (List.cons.inj z).1), decide_eq_false (p := [s] = [46]) (fun z => h2 (List.cons.inj z).1), decide_eq_false (p := s ∈ [120, 46]) (by simp [h1, h2])]
            rfl
      by_cases hd : s ∈ [120, 46]
      · rw [decide_eq_true hd] at cc ⊢
        exact .inr ⟨rfl, _, ⟨_, rfl⟩, (rIf_f cc).trans rfl⟩
      · rw [decide_eq_false hd] at cc ⊢
        exact .inl ⟨rfl, (rIf_t cc).trans (rRet_e (mTup_e (mCons_e rfl (mCons1 rfl)) (by show 2 ≤ 1000; decide)))⟩)
    have fr : ∀ r, rFor (iSigns (mOp fIx (mVar 0) (mVar 2))) (tgN 3) r [some (.ref q), some (.bl ended), some (nI (i + 1)), x3] st = rForGo (tgN 3) r st (t[i].map signD) [some (.ref q), some (.bl ended), some (nI (i + 1)), x3] := fun r => rFor_e (signs_e (e_l x3) (by omega))
    rcases inner with ⟨hb, e⟩ | ⟨hb, env', ⟨x, rfl⟩, e⟩
    · rw [if_pos (show badS t[i] = true from hb)]
      exact .inl ⟨_, rfl, rForGo_rt (env1 := [some (.ref q), some (.bl ended), some (nI (i + 1)), x3]) rfl (rSeq_rt ((fr _).trans e))⟩
    · rw [if_neg (show ¬ badS t[i] = true by rw [show badS t[i] = false from hb]; decide)]
      have c2 : bV (mOp fNe (mF1 fLenT (mOp fIx (mVar 0) (mVar 2))) (mCall F_law_told_many (mCons (mOp fIx (mVar 0) (mC (.int 0))) mNil))) [some (.ref q), some (.bl ended), some (nI (i + 1)), x] st = some (!decide (t[i].length = m)) := by
        refine bV_e ((mOp_e ((f1_e (e_l x)).trans (fLenT_e (by omega))) ((mCall1 (x := strD h) ((mOp_e rfl rfl).trans (getR (f := strD) (l := h :: t) (i := 0) c rfl))).trans ((told_eval okh.1 okh.2).trans (by rw [ht]; rfl)))).trans ((neI _ _ _).trans ?_))
        rw [show decide ((t[i].length : Int) = (m : Int)) = decide (t[i].length = m) from decide_eq_decide.mpr ⟨fun h => by omega, fun h => by omega⟩]
      by_cases hl : t[i].length = m
      · rw [if_pos hl]
        rw [decide_eq_true hl] at c2
        have stp : bodyF [some (.ref q), some (.bl ended), some (nI (i + 1)), x3] st = some (.nx [some (.ref q), some (.bl ended), some (nI (i + 1)), x]) := (rSeq_nx ((fr _).trans e)).trans ((rIf_f c2).trans rfl)
        rw [rForGo_nx' (env1 := [some (.ref q), some (.bl ended), some (nI (i + 1)), x3]) rfl stp]
        exact loopF okl c ht k (i + 1) _ _ (by omega)
      · rw [if_neg hl]
        rw [decide_eq_false hl] at c2
        exact .inl ⟨_, rfl, rForGo_rt (env1 := [some (.ref q), some (.bl ended), some (nI (i + 1)), x3]) rfl ((rSeq_nx ((fr _).trans e)).trans ((rIf_t c2).trans (rRet_e (mTup_e (mCons_e rfl (mCons1 rfl)) (by show 2 ≤ 1000; decide)))))⟩
theorem lo_flt (n : Nat) (o : Option (Nat × Str)) : D.lo n (retO fltD o) = true := by cases o <;> rfl
theorem fault_eval {ls : List (List Nat)} (okl : ∀ l ∈ ls, okC l ∧ l.length ≤ 1000) (hn : ls.length ≤ 1000) (c : st[q]? = some (.lst (ls.map strD))) : F_law_text_fault [.ref q, .bl ended] st = some (retO fltD (faultM ls ended)) := by
  refine fnR_rt rfl ?_ (lo_flt _ _)
  show R_law_text_fault [some (.ref q), some (.bl ended), none, none] st = _
  have ln : mF1 fLen (mVar 0) [some (.ref q), some (.bl ended), none, none] st = some (nI ls.length) := lenR (f := strD) rfl c
  cases ls with
  | nil => exact rSeq_rt ((rIf_t (bOr_t (bV_e ((mOp_e ln (y := .int 0) rfl).trans rfl)))).trans (rRet_e (mTup_e (mCons_e rfl (mCons1 rfl)) (by show 2 ≤ 1000; decide))))
  | cons h t =>
    have okh := okl h List.mem_cons_self
    have c0 : bV (mOp fEq (mF1 fLen (mVar 0)) (mC (.int 0))) [some (.ref q), some (.bl ended), none, none] st = some false := by
      refine bV_e ((mOp_e ln (y := .int 0) rfl).trans ((eqI _ _ _).trans ?_))
      rw [decide_eq_false (by rw [List.length_cons]; omega)]
    have tv : mCall F_law_told_many (mCons (mOp fIx (mVar 0) (mC (.int 0))) mNil) [some (.ref q), some (.bl ended), none, none] st = some (optNI (told h)) := (mCall1 (x := strD h) ((mOp_e rfl rfl).trans (getR (f := strD) (l := h :: t) (i := 0) c rfl))).trans (told_eval okh.1 okh.2)
    cases ht : told h with
    | none =>
      rw [ht] at tv
      rw [fault_no ht]
      exact rSeq_rt ((rIf_t ((bOr_f c0).trans (bV_e ((mOp_e tv rfl).trans rfl)))).trans (rRet_e (mTup_e (mCons_e rfl (mCons1 rfl)) (by show 2 ≤ 1000; decide))))
    | some m =>
      rw [ht] at tv
      refine (rSeq_nx ((rIf_f ((bOr_f c0).trans (bV_e ((mOp_e tv rfl).trans rfl)))).trans rfl)).trans ?_
      have it : GD.iRng2 (mC (.int 1)) (mF1 fLen (mVar 0)) [some (.ref q), some (.bl ended), none, none] st = some ((List.range' 0 t.length).map fun j => nI (j + 1), none) := by
        unfold GD.iRng2
        rw [ln]
        show (if (((t.length + 1 : Nat) : Int) ≤ 1000000 ∧ -1000000 ≤ ((t.length + 1 : Nat) : Int)) ∧ (1 : Int) ≤ 1000000 ∧ (0 : Int) ≤ 1 then some (intsD 1 (((t.length + 1 : Nat) : Int) - 1).toNat, (none : Option Nat)) else none) = _
        rw [List.length_cons] at hn
        rw [if_pos ⟨⟨by omega, by omega⟩, by decide, by decide⟩, show (((t.length + 1 : Nat) : Int) - 1).toNat = t.length from by omega, ← List.range_eq_range']
        unfold intsD
        congr 2
        exact List.map_congr_left fun k _ => by show D.int (1 + (k : Int)) = D.int ((k + 1 : Nat) : Int); congr 1; omega
      rcases loopF (ended := ended) okl c ht t.length 0 none none (by omega) with ⟨f, hf, e⟩ | ⟨hf, y2, y3, e⟩
      · rw [fault_row ht (show rowF m 0 t = some f from hf)]
        exact rSeq_rt ((rFor_e it).trans e)
      · rw [fault_end ht (show rowF m 0 t = none from hf)]
        refine (rSeq_nx ((rFor_e it).trans e)).trans ?_
        cases ended with
        | true => exact (rSeq_nx ((rIf_f (bNot_e (b := true) (bV_e rfl))).trans rfl)).trans (rRet_e rfl)
        | false => exact rSeq_rt ((rIf_t (bNot_e (b := false) (bV_e rfl))).trans (rRet_e (mTup_e (mCons_e (lenR (f := strD) rfl c) (mCons1 rfl)) (by show 2 ≤ 1000; decide))))
end
/-! ### texts joined -/
theorem strs_S : ∀ ls : List (List Nat), strsOf (ls.map strD) = some (ls.map mkS)
  | [] => rfl
  | a :: l => by
    show strsOf (D.str (mkS a) :: l.map strD) = _
    rw [strsOf, strs_S l]
    rfl
theorem sum_S (ls : List (List Nat)) : ((ls.map mkS).map (·.length)).sum = (ls.map List.length).sum := by
  rw [List.map_map]
  exact congrArg List.sum (List.map_congr_left fun l _ => mkS_len l)
theorem sum_le {b : Nat} : ∀ {ls : List (List Nat)}, (∀ l ∈ ls, l.length ≤ b) → (ls.map List.length).sum ≤ ls.length * b
  | [], _ => Nat.zero_le _
  | a :: ls, h => by
    rw [List.map_cons, List.sum_cons, List.length_cons, Nat.succ_mul]
    have := sum_le (fun l hl => h l (List.mem_cons_of_mem _ hl))
    have := h a List.mem_cons_self
    omega
theorem join_S {sep : List Nat} {ls : List (List Nat)} (h1 : ls.length ≤ 100) (h2 : ∀ l ∈ ls, l.length ≤ 1000) (hs : sep.length ≤ 1) : joinD (mkS sep) (ls.map strD) = some (.str (Str.join (mkS sep) (ls.map mkS))) := by
  have s1 := sum_le h2
  have s2 : ls.length * 1000 ≤ 100 * 1000 := Nat.mul_le_mul_right _ h1
  have s3 : ls.length * sep.length ≤ 100 * 1 := Nat.mul_le_mul h1 hs
  have tot : ((ls.map mkS).map (·.length)).sum + (ls.map mkS).length * (mkS sep).length ≤ 200000 := by rw [sum_S, List.length_map, mkS_len]; omega
  unfold joinD
  rw [strs_S]
  simp only
  have ok : JoinOk (mkS sep) (ls.map mkS) = true := by
    unfold JoinOk
    rw [StrLaws.joinTotal]
    show (!decide (_ > sizeLine)) = true
    have : (200000 : Nat) ≤ sizeLine := by decide
    rw [decide_eq_false (by omega)]
    rfl
  rw [if_pos ⟨ok, by omega⟩]
  exact congrArg (fun s => some (D.str s)) (StrLaws.glued_eq_join _ _)
theorem join_nl {ls : List (List Nat)} : Str.join (mkS [10]) (ls.map mkS) = mkS (glue 10 ls) := by
  refine str_ext ?_
  have := glue_join 10 (ls.map mkS)
  rw [List.map_map] at this
  refine this.trans ?_
  rw [mkS_list]
  exact congrArg (glue 10) ((List.map_congr_left (g := id) fun l _ => rfl).trans (List.map_id _))
theorem glue_total {b : Nat} {c : Nat} : ∀ {ls : List (List Nat)}, (∀ l ∈ ls, l.length ≤ b) → (glue c ls).length ≤ ls.length * (b + 1)
  | [], _ => Nat.zero_le _
  | [x], h => by have := h x List.mem_cons_self; show x.length ≤ 1 * (b + 1); omega
  | x :: y :: r, h => by
    have q := glue_total (c := c) (ls := y :: r) fun l hl => h l (List.mem_cons_of_mem _ hl)
    have := h x List.mem_cons_self
    show (x ++ c :: glue c (y :: r)).length ≤ ((y :: r).length + 1) * (b + 1)
    rw [List.length_append, List.length_cons, Nat.succ_mul]
    omega
/-! ### the pieces of the text -/
theorem glue_snoc (c : Nat) : ∀ (ls : List (List Nat)), ls ≠ [] → glue c (ls ++ [[]]) = glue c ls ++ [c]
  | [], h => absurd rfl h
  | [x], _ => rfl
  | x :: y :: r, _ => by
    show x ++ c :: glue c (y :: (r ++ [[]])) = (x ++ c :: glue c (y :: r)) ++ [c]
    have := glue_snoc c (y :: r) (by intro z; cases z)
    rw [show y :: (r ++ [[]]) = (y :: r) ++ [[]] from rfl, this, List.append_assoc]
    rfl
def textL (ls : List (List Nat)) (ended : Bool) : List Nat := if ended = true ∧ ls ≠ [] then glue 10 ls ++ [10] else glue 10 ls
theorem text_split {ls : List (List Nat)} {ended : Bool} (okl : ∀ l ∈ ls, okC l) (hE : ended = false → ∃ xs x, ls = xs ++ [x] ∧ x ≠ []) : Txt.split (mkS (textL ls ended)) ⟨#[10]⟩ = (if ended = true then ls ++ [[]] else ls).map mkS := by
  have free : ∀ l ∈ ls, 10 ∉ l := fun l hl z => (okl l hl 10 z).2 rfl
  have fm : ∀ ps : List (List Nat), (ps.map mkS).map (·.cps.toList) = ps := fun ps => by
    rw [List.map_map]
    exact (List.map_congr_left (g := id) fun l _ => rfl).trans (List.map_id _)
  cases ended with
  | true =>
    rw [if_pos rfl]
    cases ls with
    | nil =>
      show Txt.split (mkS []) ⟨#[10]⟩ = [mkS []]
      decide +kernel
    | cons h t =>
      have e : textL (h :: t) true = glue 10 ((h :: t) ++ [[]]) := by
        unfold textL
        rw [if_pos ⟨rfl, by intro z; cases z⟩, glue_snoc 10 (h :: t) (by intro z; cases z)]
      rw [e]
      refine split_glue ?_ (by intro z; cases z) (fun w hw => ?_) (by rw [fm]; rfl)
      · rw [mkS_list, glue_snoc 10 (h :: t) (by intro z; cases z)]
        intro z
        exact absurd z (by simp)
      · obtain ⟨p, hp, rfl⟩ := List.mem_map.mp hw
        rw [mkS_list]
        rcases List.mem_append.mp hp with hp | hp
        · exact free p hp
        · rw [List.mem_singleton.mp hp]; intro z; cases z
  | false =>
    obtain ⟨xs, x, rfl, hx⟩ := hE rfl
    rw [if_neg (by decide)]
    have e : textL (xs ++ [x]) false = glue 10 (xs ++ [x]) := by unfold textL; exact if_neg (fun z => by cases z.1)
    rw [e]
    refine split_glue ?_ (by intro z; simp at z) (fun w hw => ?_) (by rw [fm]; rfl)
    · rw [mkS_list]
      intro z
      obtain ⟨a, r, rfl⟩ : ∃ a r, x = a :: r := by cases x with | nil => exact absurd rfl hx | cons a r => exact ⟨a, r, rfl⟩
      have := glue_mem 10 (xs ++ [a :: r]) (a :: r) (List.mem_append_right _ List.mem_cons_self) a List.mem_cons_self
      rw [z] at this
      cases this
    · obtain ⟨p, hp, rfl⟩ := List.mem_map.mp hw
      exact free p hp
end Lk01

set_option Elab.async false
set_option linter.all false
set_option maxRecDepth 100000
set_option maxHeartbeats 4000000
namespace Lk01
open PySem PySem.Spec PyProof.Rows L2 GX GD GF
/-! the lines of a table, and with a change -/
def OkL (b : Nat) (ls : List (List Nat)) : Prop := ls.length ≤ 10 + b ∧ ∀ l ∈ ls, l.length ≤ 20 + b ∧ okC l
theorem OkL.mono {b c : Nat} {ls : List (List Nat)} (h : OkL b ls) (hc : b ≤ c) : OkL c ls := ⟨by have := h.1; omega, fun l hl => ⟨by have := (h.2 l hl).1; omega, (h.2 l hl).2⟩⟩
theorem okC_app {a b : List Nat} (ha : okC a) (hb : okC b) : okC (a ++ b) := fun c hc => (List.mem_append.mp hc).elim (ha c) (hb c)
theorem okC_take {a : List Nat} (ha : okC a) (k : Nat) : okC (a.take k) := fun c hc => ha c (List.mem_of_mem_take hc)
theorem okC_drop {a : List Nat} (ha : okC a) (k : Nat) : okC (a.drop k) := fun c hc => ha c (List.mem_of_mem_drop hc)
def numS (k : Nat) : List Nat := if k < 10 then [48 + k] else [48 + k / 10, 48 + k % 10]
theorem num_all : ∀ k : Nat, k ≤ 20 → Str.ofString (toString ((k : Nat) : Int)) = mkS (numS k) := by decide +kernel
theorem num_ok : ∀ k : Nat, k ≤ 20 → (numS k).length ≤ 2 ∧ ∀ c ∈ numS k, c < 200 ∧ c ≠ 10 := by decide +kernel
theorem strI_S {k : Nat} {st : SS} (h : k ≤ 20) : fStrI st (nI k) = some (strD (numS k)) := by
  show (if ((k : Int)).natAbs < 1000000 then some (D.str (toString ((k : Nat) : Int) : String)) else none) = _
  rw [if_pos (by omega)]
  exact congrArg (fun x => some (D.str x)) (num_all k h)
def headN (k : Nat) : List Nat := [109, 97, 114, 107, 115, 32] ++ numS k
theorem head_e {st : SS} {env : EV} {m : MP} {k : Nat} (h : k ≤ 20) (e : m env st = some (nI k)) : mOp fAdd (mC (.str ("marks " : Str))) (mF1 fStrI m) env st = some (strD (headN k)) := by
  refine (mOp_e rfl ((f1_e e).trans (strI_S h))).trans ?_
  rw [lit_marks]
  exact add_mkS (by have := (num_ok k h).1; show 6 + _ ≤ _; omega)
theorem head_ok {k : Nat} (h : k ≤ 20) : (headN k).length ≤ 8 ∧ okC (headN k) := by
  obtain ⟨h1, h2⟩ := num_ok k h
  refine ⟨by show (_ ++ _ : List Nat).length ≤ 8; rw [List.length_append]; show 6 + _ ≤ 8; omega, okC_app (by intro c hc; revert c; decide) h2⟩
theorem iSeq_tp {m : MP} {env : EV} {st : SS} {ds : List D} (h : m env st = some (.tup ds)) : GD.iSeq m env st = some (ds, none) := by unfold GD.iSeq; rw [h]; rfl
def sgn (r : List Nat) (m : Nat) : Nat := if r.contains m then 120 else 46
def rowS (many : Nat) (r : List Nat) : List Nat := (List.range many).map (sgn r)
theorem row_ok (many : Nat) (r : List Nat) : okC (rowS many r) := by
  intro c hc
  obtain ⟨m, _, rfl⟩ := List.mem_map.mp hc
  unfold sgn
  split <;> decide
theorem row_e {st : SS} {env : EV} {many : Nat} {r : List Nat} {mm : MP} (hm : many ≤ 1000) (e : mm env st = some (nI many)) (hv : ∀ k, ∃ env1, tgN 3 (nI k) (ewipe env [3]) = some env1 ∧ mVar 3 env1 st = some (nI k) ∧ mVar 2 env1 st = some (dN r)) :
    mJoin (mC (.str ("" : Str))) (mComp (iRng mm) (tgN 3) bYes (GE.mIxL (mLst (mCons (mC (.str ("." : Str))) (mCons (mC (.str ("x" : Str))) mNil))) (mF1 fInt (mOp fIn (mVar 3) (mVar 2)))) [3]) env st = some (strD (rowS many r)) := by
  have hc : mComp (iRng mm) (tgN 3) bYes (GE.mIxL (mLst (mCons (mC (.str ("." : Str))) (mCons (mC (.str ("x" : Str))) mNil))) (mF1 fInt (mOp fIn (mVar 3) (mVar 2)))) [3] env st = some ((rowS many r).map fun c => D.str (oneS c)) := by
    have := comp_fi (f := nI) (g := fun k => D.str (oneS (sgn r k))) (p := fun _ => true) (t := tgN 3) (b := bYes) (m := GE.mIxL (mLst (mCons (mC (.str ("." : Str))) (mCons (mC (.str ("x" : Str))) mNil))) (mF1 fInt (mOp fIn (mVar 3) (mVar 2)))) (own := [3]) (env := env) (st := st) (iRng_nat (n := many) e (by omega)) fun k _ => by
      obtain ⟨env1, h1, h2, h3⟩ := hv k
      refine ⟨env1, h1, rfl, fun _ => ?_⟩
      have hi : mF1 fInt (mOp fIn (mVar 3) (mVar 2)) env1 st = some (.int (if r.contains k = true then 1 else 0)) := (f1_e ((mOp_e h2 h3).trans (fIn_nI _ _ _))).trans rfl
      unfold GE.mIxL
      rw [hi]
      show atI [D.str ("." : Str), D.str ("x" : Str)] (if r.contains k = true then 1 else 0) = _
      unfold sgn
      rw [lit_dot, lit_x]
      cases r.contains k <;> rfl
    rw [List.filter_eq_self.mpr fun _ _ => rfl] at this
    rw [this]
    unfold rowS
    rw [List.map_map]
    rfl
  unfold mJoin
  rw [hc]
  show joinD ("" : Str) _ = _
  rw [lit_e]
  exact joinD_one (by unfold rowS; rw [List.length_map, List.length_range]; exact hm)
section
variable {st : SS} {R : D → SS → Prop} {n q b : Nat} {ls : List (List Nat)}
theorem lines_ev {many : Nat} {rows : List (List Nat)} (hm : many ≤ 5) (hr : rows.length ≤ 5) (hR : ∀ ls s, OkL 0 ls → s = st ++ [Cell.lst (ls.map strD)] → R (.ref st.length) s) : T_law_lines [tblD many rows] st R := by
  refine ⟨rfl, ?_⟩
  show X_law_lines _ [some (tblD many rows), none, none, none] st
  refine ⟨[strD (headN many)], ?_, _, rfl, ?_⟩
  · unfold mLst
    rw [mCons1 (head_e (k := many) (by omega) ((mOp_e (y := .int 1) rfl rfl).trans rfl))]
    rfl
  refine ⟨rows.map dN, none, iSeq_tp ((mOp_e (y := .int 2) rfl rfl).trans rfl), ?_⟩
  refine for_ls (ro := none) (f := dN) (items := rows) (fun done env s => (∃ x2 x3, env = [some (tblD many rows), some (.ref st.length), x2, x3]) ∧ s = st ++ [Cell.lst ((headN many :: done.map (rowS many)).map strD)]) (fun _ _ _ _ => trivial) ?_ ?_ ⟨⟨_, _, rfl⟩, rfl⟩
  · rintro done r todo env s he ⟨⟨x2, x3, rfl⟩, rfl⟩
    have hd : done.length < 5 := by have := congrArg List.length he; rw [List.length_append, List.length_cons] at this; omega
    refine ⟨_, rfl, fun K k1 _ _ _ => ⟨st.length, _, rfl, getApp _ _, ?_⟩⟩
    refine ⟨strD (rowS many r), row_e (by omega) ((mOp_e (y := .int 1) rfl rfl).trans rfl) fun k => ⟨_, rfl, rfl, rfl⟩, _, getApp _ _, by rw [List.length_map, List.length_cons, List.length_map]; omega, ?_⟩
    rw [setApp]
    refine k1 _ _ ⟨⟨_, _, rfl⟩, ?_⟩
    simp only [List.map_append, List.map_cons, List.map_nil, List.cons_append]
  · rintro env s ⟨⟨x2, x3, rfl⟩, rfl⟩
    refine ⟨_, rfl, hR _ _ ⟨?_, fun l hl => ?_⟩ rfl⟩
    · rw [List.length_cons, List.length_map]; omega
    · rcases List.mem_cons.mp hl with rfl | hl
      · have := head_ok (k := many) (by omega)
        exact ⟨by omega, this.2⟩
      · obtain ⟨r, _, rfl⟩ := List.mem_map.mp hl
        exact ⟨by unfold rowS; rw [List.length_map, List.length_range]; omega, row_ok _ _⟩
theorem slTake {m mk : MP} {env : EV} {k : Nat} (e : m env st = some (.ref q)) (c : st[q]? = some (.lst (ls.map strD))) (ek : mk env st = some (nI k)) : mSlL m none (some mk) env st = some ((ls.take k).map strD) := by
  unfold mSlL
  rw [e, show mPart none env st = some none from rfl, mPart_e ek]
  show (match st[q]? with | some (.lst ds) => some (cutG ds none (some (k : Int))) | _ => none) = _
  rw [c]
  show some (cutG (ls.map strD) none (some (k : Int))) = _
  rw [cut_take, List.map_take]
theorem slDrop {m mk : MP} {env : EV} {k : Nat} (e : m env st = some (.ref q)) (c : st[q]? = some (.lst (ls.map strD))) (ek : mk env st = some (nI k)) : mSlL m (some mk) none env st = some ((ls.drop k).map strD) := by
  unfold mSlL
  rw [e, show mPart none env st = some none from rfl, mPart_e ek]
  show (match st[q]? with | some (.lst ds) => some (cutG ds (some (k : Int)) none) | _ => none) = _
  rw [c]
  show some (cutG (ls.map strD) (some (k : Int)) none) = _
  rw [cut_drop, List.map_drop]
theorem cat3X {A C : ML} {B : XA} {env : EV} {as cs : List (List Nat)} (P : List (List Nat) → Prop) (B0 : Boxed st n) (hA : A env st = some (as.map strD))
    (hB : ∀ s, Up st s → Boxed s n → ∀ R' : List D → SS → Prop, (∀ bs s', P bs → Boxed s' n → Ub n s s' → R' (bs.map strD) s') → B env s R')
    (hC : ∀ s, Ub n st s → C env s = some (cs.map strD)) (hl : as.length + cs.length ≤ 1000) (hP : ∀ bs, P bs → bs.length ≤ 2)
    (h : ∀ bs s p, P bs → st.length ≤ p → Boxed s n → s[p]? = some (.lst ((as ++ bs ++ cs).map strD)) → R (.ref p) s) : xNew (xCat (xNew (xCat (xNew (xaOf A)) (xNew B))) (xNew (xaOf C))) env st R := by
  have hn := B0.lt
  refine ⟨_, hA, hB _ (Up.app _ _) (B0.up (Up.app _ _)) _ fun bs s' hp B' u' => ?_⟩
  have hb := hP bs hp
  have l0 : st.length ≤ s'.length := by have := u'.len; rw [List.length_append] at this; omega
  have c0 : (s' ++ [Cell.lst (bs.map strD)])[st.length]? = some (.lst (as.map strD)) := (Up.app _ _).get (u'.get (getApp _ _) (by omega))
  refine ⟨_, _, _, _, rfl, rfl, c0, getApp _ _, by rw [List.length_map, List.length_map]; omega, ?_⟩
  have u2 : Ub n st ((s' ++ [Cell.lst (bs.map strD)]) ++ [Cell.lst (as.map strD ++ bs.map strD)]) := (((Up.app st [Cell.lst (as.map strD)]).ub n).trans u').trans (((Up.app _ _).trans (Up.app _ _)).ub n)
  refine ⟨_, hC _ u2, _, _, _, _, rfl, rfl, (Up.app _ _).get (getApp _ _), getApp _ _, by rw [List.length_append, List.length_map, List.length_map, List.length_map]; omega, ?_⟩
  refine h bs _ _ hp ?_ (B'.up (((Up.app _ _).trans (Up.app _ _)).trans ((Up.app _ _).trans (Up.app _ _)))) ?_
  · simp only [List.length_append]
    omega
  · refine (getApp _ _).trans ?_
    rw [List.map_append, List.map_append]
/-- a list of one that is drawn -/
theorem draw_of {env : EV} {m : Int} {many : Nat} {six : List (List Nat)} (hs : six.length = many) (hm : (many : Int) = m) (h0 : 0 < m) (B : Boxed st n) {p : Nat} (hp : n < p) (c : st[p]? = some (.lst (six.map strD)))
    (hb : mVar 0 env st = some (.ref n)) {F : D → SS → Prop} (hF : ∀ l ∈ six, ∀ s', Boxed s' n → Ub n st s' → F (strD l) s') : (xCall T_law_draw (xCons (xOf (mVar 0)) (xCons (xOf (mC (.int m))) xNil))) env st fun y st2 => ∃ d, fIx st2 (.ref p) y = some d ∧ F d st2 := by
  refine ⟨.ref n, hb, .int m, rfl, n, m, rfl, h0, B, fun v s' hv B' E' => ?_⟩
  have hv' : v < six.length := by omega
  have c' := E'.keep c (by omega)
  exact ⟨strD six[v], getR (f := strD) c' (List.getElem?_eq_getElem hv'), hF _ (List.getElem_mem hv') s' B' E'.ub⟩
end
end Lk01

set_option Elab.async false
set_option linter.all false
set_option maxRecDepth 100000
set_option maxHeartbeats 4000000
namespace Lk01
open PySem PySem.Spec PyProof.Rows L2 GX GD GF
def six : List (List Nat) := [[], [120], [46, 46], [120, 32, 121], [109, 97, 114, 107, 115, 32, 50], [120, 120, 46, 120, 46]]
def four : List (List Nat) := [[120], [46], [111], [32]]
def ten : List (List Nat) := [[109, 97, 114, 107, 115], [109, 97, 114, 107, 115, 32], [109, 97, 114, 107, 115, 32, 48, 51], [109, 97, 114, 107, 115, 32, 48], [109, 97, 114, 107, 115, 32, 49, 50, 51], [109, 97, 114, 107, 32, 51], [109, 97, 114, 107, 115, 32, 32, 51], [109, 97, 114, 107, 115, 32, 51, 32], [109, 97, 114, 107, 115, 32, 120], [77, 97, 114, 107, 115, 32, 51]]
theorem six_eq : ([("" : Str), ("x" : Str), (".." : Str), ("x y" : Str), ("marks 2" : Str), ("xx.x." : Str)] : List Str) = six.map mkS := by decide +kernel
theorem four_eq : ([("x" : Str), ("." : Str), ("o" : Str), (" " : Str)] : List Str) = four.map mkS := by decide +kernel
theorem ten_eq : ([("marks" : Str), ("marks " : Str), ("marks 03" : Str), ("marks 0" : Str), ("marks 123" : Str), ("mark 3" : Str), ("marks  3" : Str), ("marks 3 " : Str), ("marks x" : Str), ("Marks 3" : Str)] : List Str) = ten.map mkS := by decide +kernel
theorem strs_eq {a : List Str} {b : List (List Nat)} (h : a = b.map mkS) : a.map D.str = b.map strD := by rw [h, List.map_map]; rfl
theorem six_ok : ∀ l ∈ six, l.length ≤ 20 ∧ ∀ c ∈ l, c < 200 ∧ c ≠ 10 := by decide
theorem four_ok : ∀ l ∈ four, l.length ≤ 1 ∧ ∀ c ∈ l, c < 200 ∧ c ≠ 10 := by decide
theorem ten_ok : ∀ l ∈ ten, l.length ≤ 20 ∧ ∀ c ∈ l, c < 200 ∧ c ≠ 10 := by decide
theorem lit_X : (("X" : Str)) = mkS [88] := by decide +kernel
section
variable {st : SS} {R : D → SS → Prop} {n q b : Nat} {ls : List (List Nat)}
theorem okL_cat {as bs cs : List (List Nat)} (ok : OkL b ls) (ha : ∀ l ∈ as, l ∈ ls) (hc : ∀ l ∈ cs, l ∈ ls) (hb : ∀ l ∈ bs, l.length ≤ 20 + (b + 1) ∧ okC l) (hl : as.length + bs.length + cs.length ≤ ls.length + 1) : OkL (b + 1) (as ++ bs ++ cs) := by
  refine ⟨by rw [List.length_append, List.length_append]; have := ok.1; omega, fun l hm => ?_⟩
  rcases List.mem_append.mp hm with hm | hm
  · rcases List.mem_append.mp hm with hm | hm
    · have := ok.2 l (ha l hm); exact ⟨by omega, this.2⟩
    · exact hb l hm
  · have := ok.2 l (hc l hm); exact ⟨by omega, this.2⟩
theorem fEqK (st : SS) (a k : Nat) : fEq st (nI a) (nI k) = some (.bl (decide (a = k))) := by
  have e : decide ((a : Int) = (k : Int)) = decide (a = k) := decide_eq_decide.mpr ⟨fun h => by omega, fun h => by omega⟩
  exact (eqI _ _ _).trans (by rw [e])
theorem other_ev (B0 : Boxed st n) (c0 : st[q]? = some (.lst (ls.map strD))) (hq : q ≠ n) (ok : OkL b ls) (hb2 : b ≤ 100) (hR : ∀ ls' p s, OkL (b + 1) ls' → p ≠ n → Boxed s n → s[p]? = some (.lst (ls'.map strD)) → R (.ref p) s) : T_law_other_lines [.ref n, .ref q] st R := by
  refine ⟨rfl, ?_⟩
  show X_law_other_lines _ [some (.ref n), some (.ref q), none, none, none, none, none] st
  have hll := ok.1
  have ln : mOp fAdd (mF1 fLen (mVar 1)) (mC (.int 1)) [some (.ref n), some (.ref q), none, none, none, none, none] st = some (.int ((ls.length : Int) + 1)) := (mOp_e (lenR (f := strD) rfl c0) (y := .int 1) rfl).trans rfl
  refine ⟨.ref n, rfl, _, ln, n, _, rfl, by omega, B0, fun k s1 hk B1 E1 => ⟨_, rfl, ?_⟩⟩
  have c1 := E1.keep c0 hq
  refine ⟨.ref n, rfl, .int 7, rfl, n, 7, rfl, by decide, B1, fun kind s2 hkd B2 E2 => ⟨_, rfl, ?_⟩⟩
  have c2 := E2.keep c1 hq
  have hk : k ≤ ls.length := by omega
  have fin : ∀ (as bs cs : List (List Nat)) (p : Nat) (s : SS), s2.length ≤ p → Boxed s n → s[p]? = some (.lst ((as ++ bs ++ cs).map strD)) → (∀ l ∈ as, l ∈ ls) → (∀ l ∈ cs, l ∈ ls) → (∀ l ∈ bs, l.length ≤ 20 + (b + 1) ∧ okC l) → as.length + bs.length + cs.length ≤ ls.length + 1 → R (.ref p) s := fun as bs cs p s hp B hc h1 h2 h3 h4 => hR _ p s (okL_cat ok h1 h2 h3 h4) (by have := B2.lt; omega) B hc
  have cl : ∀ s, Ub n s2 s → s[q]? = some (.lst (ls.map strD)) := fun s u => u.get c2 hq
  -- 0
  refine ⟨_, bV_e ((mOp_e (x := nI kind) (y := nI 0) rfl rfl).trans (fEqK _ _ _)), ?_⟩
  by_cases k0 : kind = 0
  · rw [decide_eq_true k0]
    refine iteT ?_
    refine cat3X (n := n) (as := ls.take k) (cs := ls.drop k) (fun bs => ∃ l ∈ six, bs = [l]) B2 (slTake rfl c2 rfl) (fun s u B R' hR' => ?_) (fun s u => slDrop rfl (cl s u) rfl) (by rw [List.length_take, List.length_drop]; omega) (fun bs h => by obtain ⟨l, _, rfl⟩ := h; show 1 ≤ 2; decide) (fun bs s p h hp B hc => ?_)
    · refine ⟨six.map strD, ?_, ?_⟩
      · exact (show mLst _ _ s = some (List.map D.str [("" : Str), ("x" : Str), (".." : Str), ("x y" : Str), ("marks 2" : Str), ("xx.x." : Str)]) from rfl).trans (by rw [strs_eq six_eq])
      · refine draw_of (n := n) (six := six) (many := 6) rfl rfl (by decide) (B.up (Up.app _ _)) B.lt (getApp _ _) rfl fun l hl s' B' u' => ⟨by show 1 ≤ 1000; decide, hR' [l] s' ⟨l, hl, rfl⟩ B' (((Up.app _ _).ub n).trans u')⟩
    · obtain ⟨l, hl, rfl⟩ := h
      exact fin _ _ _ p s hp B hc (fun l h => List.mem_of_mem_take h) (fun l h => List.mem_of_mem_drop h) (fun l' h => by rw [List.mem_singleton.mp h]; have := six_ok l hl; exact ⟨by omega, this.2⟩) (by rw [List.length_take, List.length_drop]; show _ + 1 + _ ≤ _; omega)
  rw [decide_eq_false k0]
  refine iteF ?_
  refine ⟨decide (ls.length = 0), bV_e ((mOp_e (lenR (f := strD) rfl c2) (y := nI 0) rfl).trans (fEqK _ _ _)), ?_⟩
  by_cases l0 : ls.length = 0
  · rw [decide_eq_true l0]
    exact iteT ⟨_, rfl, hR ls q s2 (ok.mono (by omega)) hq B2 c2⟩
  rw [decide_eq_false l0]
  refine iteF ?_
  have hj : k % ls.length < ls.length := Nat.mod_lt _ (by omega)
  refine ⟨nI (k % ls.length), (mOp_e rfl (lenR (f := strD) rfl c2)).trans (mod_step' (by omega)), _, rfl, ?_⟩
  generalize k % ls.length = j at hj ⊢
  obtain ⟨line, hline⟩ : ∃ l, ls[j]? = some l := ⟨_, List.getElem?_eq_getElem hj⟩
  have okl := ok.2 line (List.mem_of_getElem? hline)
  refine ⟨strD line, (mOp_e rfl rfl).trans (getR (f := strD) c2 hline), _, rfl, ?_⟩
  refine ⟨.ref n, rfl, _, (mOp_e ((f1_e (x := strD line) rfl).trans (fLenT_e (by omega))) (y := .int 1) rfl).trans rfl, n, ((line.length : Int) + 1), rfl, by omega, B2, fun at_ s3 ha B3 E3 => ⟨_, rfl, ?_⟩⟩
  have c3 := E3.keep c2 hq
  have hat : at_ ≤ line.length := by omega
  have cl3 : ∀ s, Ub n s3 s → s[q]? = some (.lst (ls.map strD)) := fun s u => u.get c3 hq
  have h3 : s2.length ≤ s3.length := by rw [E3.len]; exact Nat.le_refl _
  have tk : ∀ l ∈ ls.take j, l ∈ ls := fun l h => List.mem_of_mem_take h
  have dr : ∀ l ∈ ls.drop (j + 1), l ∈ ls := fun l h => List.mem_of_mem_drop h
  have lenj : (ls.take j).length + (ls.drop (j + 1)).length + 1 = ls.length := by rw [List.length_take, List.length_drop]; omega
  -- 1
  refine ⟨_, bV_e ((mOp_e (x := nI kind) (y := nI 1) rfl rfl).trans (fEqK _ _ _)), ?_⟩
  by_cases k1 : kind = 1
  · rw [decide_eq_true k1]
    refine iteT (cat2 (slTake (k := j) rfl c3 rfl) (fun s u => slDrop (k := j + 1) rfl (u.get c3) ((mOp_e (x := nI j) (y := .int 1) rfl rfl).trans rfl)) (by rw [List.length_map, List.length_map]; omega) fun s p u hp hc => ?_)
    exact fin (ls.take j) [] (ls.drop (j + 1)) p s (by omega) (B3.up u) (by rw [hc, List.append_nil, List.map_append]) tk dr (fun _ h => nomatch h) (by show _ + 0 + _ ≤ _; omega)
  rw [decide_eq_false k1]
  refine iteF ?_
  -- the others with one line for the line
  have one : ∀ (X : XA) (P : List Nat → Prop) (env : EV) (x6 : Option D), env = [some (.ref n), some (.ref q), some (nI j), some (nI kind), some (strD line), some (nI at_), x6] → (∀ l, P l → l.length ≤ 20 + (b + 1) ∧ okC l) → (∀ s, Up s3 s → Boxed s n → ∀ R' : List D → SS → Prop, (∀ l s', P l → Boxed s' n → Ub n s s' → R' [strD l] s') → X env s R') →
      xNew (xCat (xNew (xCat (xNew (xaOf (mSlL (mVar 1) none (some (mVar 2))))) (xNew X))) (xNew (xaOf (mSlL (mVar 1) (some (mOp fAdd (mVar 2) (mC (.int 1)))) none)))) env s3 R := by
    rintro X P env x6 rfl hP hX
    refine cat3X (n := n) (as := ls.take j) (cs := ls.drop (j + 1)) (fun bs => ∃ l, P l ∧ bs = [l]) B3 (slTake rfl c3 rfl) (fun s u B R' hR' => hX s u B R' fun l s' hl B' u' => hR' [l] s' ⟨l, hl, rfl⟩ B' u') (fun s u => slDrop rfl (cl3 s u) ((mOp_e (x := nI j) (y := .int 1) rfl rfl).trans rfl)) (by omega) (fun bs h => by obtain ⟨l, _, rfl⟩ := h; show 1 ≤ 2; decide) (fun bs s p h hp B hc => ?_)
    obtain ⟨l, hl, rfl⟩ := h
    exact fin _ _ _ p s (by omega) B hc tk dr (fun l' h => by rw [List.mem_singleton.mp h]; exact hP l hl) (by show _ + 1 + _ ≤ _; omega)
  have lt : (line.take at_).length ≤ 20 + b := by rw [List.length_take]; omega
  have ltd : (line.take at_).length + (line.drop at_).length = line.length := by rw [List.length_take, List.length_drop]; omega
  have ltd1 : (line.take at_).length + (line.drop (at_ + 1)).length ≤ line.length := by rw [List.length_take, List.length_drop]; omega
  -- 2
  refine ⟨_, bV_e ((mOp_e (x := nI kind) (y := nI 2) rfl rfl).trans (fEqK _ _ _)), ?_⟩
  by_cases k2 : kind = 2
  · rw [decide_eq_true k2]
    refine iteT (one _ (fun l => l.length ≤ 20 + (b + 1) ∧ okC l) _ none rfl (fun _ h => h) fun s u B R' hR' => ?_)
    refine ⟨strD (line.take at_), takeS (l := line) (k := at_) rfl rfl (by omega), ?_⟩
    refine ⟨four.map strD, ?_, ?_⟩
    · exact (show mLst _ _ s = some (List.map D.str [("x" : Str), ("." : Str), ("o" : Str), (" " : Str)]) from rfl).trans (by rw [strs_eq four_eq])
    · refine draw_of (n := n) (six := four) (many := 4) rfl rfl (by decide) (B.up (Up.app _ _)) B.lt (getApp _ _) rfl fun l hl s' B' u' => ?_
      have okf := four_ok l hl
      refine ⟨_, add_mkS (a := line.take at_) (b := l) (by omega), strD (line.drop at_), dropS (l := line) (k := at_) rfl rfl (by omega), strD (line.take at_ ++ l ++ line.drop at_), add_mkS (by rw [List.length_append]; omega), by show 1 ≤ 1000; decide, hR' _ s' ⟨?_, okC_app (okC_app (okC_take okl.2 _) okf.2) (okC_drop okl.2 _)⟩ B' (((Up.app _ _).ub n).trans u')⟩
      rw [List.length_append, List.length_append]
      omega
  rw [decide_eq_false k2]
  refine iteF ?_
  -- 3
  refine ⟨_, bV_e ((mOp_e (x := nI kind) (y := nI 3) rfl rfl).trans (fEqK _ _ _)), ?_⟩
  by_cases k3 : kind = 3
  · rw [decide_eq_true k3]
    refine iteT (one _ (fun l => l.length ≤ 20 + (b + 1) ∧ okC l) _ none rfl (fun _ h => h) fun s u B R' hR' => ⟨_, ?_, hR' (line.take at_ ++ line.drop (at_ + 1)) s ⟨by rw [List.length_append]; omega, okC_app (okC_take okl.2 _) (okC_drop okl.2 _)⟩ B (Ub.refl _ _)⟩)
    unfold mLst
    rw [mCons1 ((mOp_e (takeS (l := line) (k := at_) rfl rfl (by omega)) (dropS (l := line) (k := at_ + 1) rfl ((mOp_e (x := nI at_) (y := .int 1) rfl rfl).trans rfl) (by omega))).trans (add_mkS (by omega)))]
    rfl
  rw [decide_eq_false k3]
  refine iteF ?_
  -- 4
  refine ⟨_, bV_e ((mOp_e (x := nI kind) (y := nI 4) rfl rfl).trans (fEqK _ _ _)), ?_⟩
  by_cases k4 : kind = 4
  · rw [decide_eq_true k4]
    refine iteT ⟨ten.map strD, ?_, _, rfl, ?_⟩
    · exact (show mLst _ _ s3 = some (List.map D.str [("marks" : Str), ("marks " : Str), ("marks 03" : Str), ("marks 0" : Str), ("marks 123" : Str), ("mark 3" : Str), ("marks  3" : Str), ("marks 3 " : Str), ("marks x" : Str), ("Marks 3" : Str)]) from rfl).trans (by rw [strs_eq ten_eq])
    · refine ⟨_, rfl, ?_⟩
      refine draw_of (n := n) (six := ten) (many := 10) rfl rfl (by decide) (B3.up (Up.app _ _)) B3.lt (getApp _ _) rfl fun l hl s' B' u' => ⟨by show 1 ≤ 1000; decide, ?_⟩
      have u3 : Ub n s3 s' := ((Up.app _ _).ub n).trans u'
      refine ⟨_, slDrop (k := 1) rfl ((Up.app _ _).get (cl3 s' u3)) rfl, _, _, _, _, rfl, rfl, (Up.app _ _).get (getApp _ _), getApp _ _, by rw [List.length_map, List.length_drop]; show 1 + _ ≤ _; omega, ?_⟩
      refine fin [] [l] (ls.drop 1) _ _ ?_ (B'.up (((Up.app _ _).trans (Up.app _ _)).trans (Up.app _ _))) (getApp _ _) (fun _ h => nomatch h) (fun l h => List.mem_of_mem_drop h) (fun l' h => by rw [List.mem_singleton.mp h]; have := ten_ok l hl; exact ⟨by omega, this.2⟩) (by rw [List.length_drop]; show 0 + 1 + _ ≤ _; omega)
      have := u3.len
      simp only [List.length_append]
      omega
  rw [decide_eq_false k4]
  refine iteF ?_
  -- 5
  refine ⟨_, bV_e ((mOp_e (x := nI kind) (y := nI 5) rfl rfl).trans (fEqK _ _ _)), ?_⟩
  by_cases k5 : kind = 5
  · rw [decide_eq_true k5]
    refine iteT (cat3X (n := n) (as := ls.take j) (cs := ls.drop (j + 1)) (fun bs => bs = [line, line]) B3 (slTake rfl c3 rfl) (fun s u B R' hR' => ⟨_, rfl, hR' [line, line] s rfl B (Ub.refl _ _)⟩) (fun s u => slDrop rfl (cl3 s u) ((mOp_e (x := nI j) (y := .int 1) rfl rfl).trans rfl)) (by omega) (fun bs h => by rw [h]; show 2 ≤ 2; decide) (fun bs s p h hp B hc => ?_))
    subst h
    exact fin _ _ _ p s (by omega) B hc tk dr (fun l' h => by
      have : l' = line := by rcases List.mem_cons.mp h with h | h; exact h; exact List.mem_singleton.mp h
      rw [this]
      exact ⟨by omega, okl.2⟩) (by show _ + 2 + _ ≤ _; omega)
  rw [decide_eq_false k5]
  refine iteF (one _ (fun l => l.length ≤ 20 + (b + 1) ∧ okC l) _ none rfl (fun _ h => h) fun s u B R' hR' => ⟨_, ?_, hR' (line.take at_ ++ [88] ++ line.drop (at_ + 1)) s ⟨by rw [List.length_append, List.length_append]; show _ + 1 + _ ≤ _; omega, okC_app (okC_app (okC_take okl.2 _) (by intro c hc; rw [List.mem_singleton.mp hc]; decide)) (okC_drop okl.2 _)⟩ B (Ub.refl _ _)⟩)
  unfold mLst
  rw [mCons1 ((mOp_e ((mOp_e (takeS (l := line) (k := at_) rfl rfl (by omega)) rfl).trans (by rw [lit_X]; exact add_mkS (by show _ + 1 ≤ _; omega))) (dropS (l := line) (k := at_ + 1) rfl ((mOp_e (x := nI at_) (y := .int 1) rfl rfl).trans rfl) (by omega))).trans (add_mkS (by rw [List.length_append]; show _ + 1 + _ ≤ _; omega)))]
  rfl
end
end Lk01

set_option Elab.async false
set_option linter.all false
set_option maxRecDepth 100000
set_option maxHeartbeats 4000000
namespace Lk01
open PySem PySem.Spec PyProof.Rows L2 GX GD GF
def X_try : XS := (GE.sTry2 "TextFault" 12 8 F_law_same (GE.sSeqE (GE.sSetE (GE.xCallE T_read (xCons (xOf (mVar 7)) xNil)) 9) (GE.sSeqE (fun _ => (sIf (xbOf (bV (mOp fNotN (mVar 8) (mC .non)))) (sRet (xOf (mC (.bl false)))) sNext)) (GE.sSeqE (fun _ => (sAsg (xNew (xaOf (mLst mNil))) (tgN 10))) (GE.sSeqE (fun _ => (sFor (xSeq (xNew (xaOf (mSlL (mVar 3) (some (mC (.int 1))) none)))) (tgN 11) (sAppP (mVar 10) (xOf (mTupL (mComp (iRng (mF1 fLenT (mVar 11))) (tgN 5) (bV (mOp fEq (mOp fIxT (mVar 11) (mVar 5)) (mC (.str ("x" : Str))))) (mVar 5) [5])))))) (fun _ => (sIf (xbOf (bNot (bV (mCall F_law_same (mCons (mVar 9) (mCons (mTup (mCons (mC (.str ("table" : Str))) (mCons (mCall F_law_told_many (mCons (mOp fIx (mVar 3) (mC (.int 0))) mNil)) (mCons (mF1 fTup (mVar 10)) mNil)))) mNil)))))) (sRet (xOf (mC (.bl false)))) sNext)))))))
def X_tail : XS := (sSeq (sAsg (xOrV (xOf (mOp fEq (mF1 fLen (mVar 3)) (mC (.int 0)))) (xOrV (xOf (mOp fEq (mOp fIx (mVar 3) (mOp fSub (mF1 fLen (mVar 3)) (mC (.int 1)))) (mC (.str ("" : Str))))) (xOp fGt (xCall T_law_draw (xCons (xOf (mVar 1)) (xCons (xOf (mC (.int 5))) xNil))) (xOf (mC (.int 0)))))) (tgN 6)) (sSeq (sAsg (xOf (mJoin (mC (.str ("\n" : Str))) (mLstOf (mVar 3)))) (tgN 7)) (sSeq (sIf (xbOf (bAnd (bV (mVar 6)) (bV (mOp fGt (mF1 fLen (mVar 3)) (mC (.int 0)))))) (sAsg (xOf (mOp fAdd (mVar 7) (mC (.str ("\n" : Str))))) (tgN 7)) sNext) (sSeq (sAsg (xOf (mCall F_law_text_fault (mCons (mVar 3) (mCons (mVar 6) mNil)))) (tgN 8)) (GE.sTry2 "TextFault" 12 8 F_law_same (GE.sSeqE (GE.sSetE (GE.xCallE T_read (xCons (xOf (mVar 7)) xNil)) 9) (GE.sSeqE (fun _ => (sIf (xbOf (bV (mOp fNotN (mVar 8) (mC .non)))) (sRet (xOf (mC (.bl false)))) sNext)) (GE.sSeqE (fun _ => (sAsg (xNew (xaOf (mLst mNil))) (tgN 10))) (GE.sSeqE (fun _ => (sFor (xSeq (xNew (xaOf (mSlL (mVar 3) (some (mC (.int 1))) none)))) (tgN 11) (sAppP (mVar 10) (xOf (mTupL (mComp (iRng (mF1 fLenT (mVar 11))) (tgN 5) (bV (mOp fEq (mOp fIxT (mVar 11) (mVar 5)) (mC (.str ("x" : Str))))) (mVar 5) [5])))))) (fun _ => (sIf (xbOf (bNot (bV (mCall F_law_same (mCons (mVar 9) (mCons (mTup (mCons (mC (.str ("table" : Str))) (mCons (mCall F_law_told_many (mCons (mOp fIx (mVar 3) (mC (.int 0))) mNil)) (mCons (mF1 fTup (mVar 10)) mNil)))) mNil)))))) (sRet (xOf (mC (.bl false)))) sNext)))))))))))
def X_chg : XS := (sSeq (sFor (xRng (xCall T_law_draw (xCons (xOf (mVar 1)) (xCons (xOf (mC (.int 3))) xNil)))) (tgN 5) (sAsg (xCall T_law_other_lines (xCons (xOf (mVar 1)) (xCons (xOf (mVar 3)) xNil))) (tgN 3))) (sSeq (sAsg (xOrV (xOf (mOp fEq (mF1 fLen (mVar 3)) (mC (.int 0)))) (xOrV (xOf (mOp fEq (mOp fIx (mVar 3) (mOp fSub (mF1 fLen (mVar 3)) (mC (.int 1)))) (mC (.str ("" : Str))))) (xOp fGt (xCall T_law_draw (xCons (xOf (mVar 1)) (xCons (xOf (mC (.int 5))) xNil))) (xOf (mC (.int 0)))))) (tgN 6)) (sSeq (sAsg (xOf (mJoin (mC (.str ("\n" : Str))) (mLstOf (mVar 3)))) (tgN 7)) (sSeq (sIf (xbOf (bAnd (bV (mVar 6)) (bV (mOp fGt (mF1 fLen (mVar 3)) (mC (.int 0)))))) (sAsg (xOf (mOp fAdd (mVar 7) (mC (.str ("\n" : Str))))) (tgN 7)) sNext) (sSeq (sAsg (xOf (mCall F_law_text_fault (mCons (mVar 3) (mCons (mVar 6) mNil)))) (tgN 8)) (GE.sTry2 "TextFault" 12 8 F_law_same (GE.sSeqE (GE.sSetE (GE.xCallE T_read (xCons (xOf (mVar 7)) xNil)) 9) (GE.sSeqE (fun _ => (sIf (xbOf (bV (mOp fNotN (mVar 8) (mC .non)))) (sRet (xOf (mC (.bl false)))) sNext)) (GE.sSeqE (fun _ => (sAsg (xNew (xaOf (mLst mNil))) (tgN 10))) (GE.sSeqE (fun _ => (sFor (xSeq (xNew (xaOf (mSlL (mVar 3) (some (mC (.int 1))) none)))) (tgN 11) (sAppP (mVar 10) (xOf (mTupL (mComp (iRng (mF1 fLenT (mVar 11))) (tgN 5) (bV (mOp fEq (mOp fIxT (mVar 11) (mVar 5)) (mC (.str ("x" : Str))))) (mVar 5) [5])))))) (fun _ => (sIf (xbOf (bNot (bV (mCall F_law_same (mCons (mVar 9) (mCons (mTup (mCons (mC (.str ("table" : Str))) (mCons (mCall F_law_told_many (mCons (mOp fIx (mVar 3) (mC (.int 0))) mNil)) (mCons (mF1 fTup (mVar 10)) mNil)))) mNil)))))) (sRet (xOf (mC (.bl false)))) sNext))))))))))))
def X_end : XP := (xOrV (xOf (mOp fEq (mF1 fLen (mVar 3)) (mC (.int 0)))) (xOrV (xOf (mOp fEq (mOp fIx (mVar 3) (mOp fSub (mF1 fLen (mVar 3)) (mC (.int 1)))) (mC (.str ("" : Str))))) (xOp fGt (xCall T_law_draw (xCons (xOf (mVar 1)) (xCons (xOf (mC (.int 5))) xNil))) (xOf (mC (.int 0))))))
def Inv (n : Nat) (env : EV) (s : SS) : Prop := ∃ (x2 x3 x4 x5 x6 x7 x8 x9 x10 x11 x12 : Option D), env = [none, some (.ref n), x2, x3, x4, x5, x6, x7, x8, x9, x10, x11, x12] ∧ Boxed s n
theorem rowF_word {m : Nat} : ∀ {t : List (List Nat)} {i : Nat} {f : Nat × Str}, rowF m i t = some f → f.2 = ("unknown sign" : Str) ∨ f.2 = ("wrong length" : Str)
  | [], _, _, h => by cases h
  | a :: t, i, f, h => by
    rw [rowF_cons] at h
    split at h
    · exact .inl (by rw [← Option.some.inj h])
    · split at h
      · exact rowF_word h
      · exact .inr (by rw [← Option.some.inj h])
theorem fault_word {ls : List (List Nat)} {e : Bool} {f : Nat × Str} (h : faultM ls e = some f) : f.2 = ("expected marks" : Str) ∨ f.2 = ("unknown sign" : Str) ∨ f.2 = ("wrong length" : Str) ∨ f.2 = ("unended" : Str) := by
  cases ls with
  | nil => exact .inl (by rw [← Option.some.inj h])
  | cons a t =>
    cases ht : told a with
    | none => rw [fault_no ht] at h; exact .inl (by rw [← Option.some.inj h])
    | some m =>
      cases hr : rowF m 0 t with
      | some g => rw [fault_row ht hr] at h; rw [← Option.some.inj h]; exact .inr ((rowF_word hr).elim .inl fun z => .inr (.inl z))
      | none =>
        rw [fault_end ht hr] at h
        cases e with
        | true => cases h
        | false => exact .inr (.inr (.inr (by rw [← Option.some.inj h])))
theorem fault_good {ls : List (List Nat)} {e : Bool} {f : Nat × Str} (h : faultM ls e = some f) : D.good (.str f.2) = true := by
  rcases fault_word h with w | w | w | w <;> (rw [w]; decide +kernel)
theorem fit_s {x : Str} (k : Nat) (h : D.good (.str x) = true) : D.fit k (.str x) = true := by unfold D.fit; exact h
theorem fit_n (k g : Nat) : D.fit k (nI g) = true := by unfold nI D.fit; rfl
section
variable {K : DE} {n q b : Nat} {ls : List (List Nat)} {s : SS} {ended : Bool} {x2 x4 x5 x9 x10 x11 x12 : Option D}
theorem hnd_e {f : Nat × Str} (hf : faultM ls ended = some f) {y : Option D} : GE.hndM 8 F_law_same (nI f.1, .str f.2) [none, some (.ref n), x2, some (.ref q), x4, x5, some (.bl ended), y, some (retO fltD (faultM ls ended)), x9, x10, x11, none] s = some true := by
  rw [hf]
  unfold GE.hndM
  have e : F_law_same [.tup [nI f.1, .str f.2], fltD f] s = some (.bl true) := sameF_refl (d := fltD f) (fit_two (k := 7) (fit_n 7 _) (fit_s 7 (fault_good hf)))
  show (match some (fltD f) with | some due => if due.isN = true then none else (match F_law_same [.tup [nI f.1, .str f.2], due] s with | some (.bl b) => some b | _ => none) | none => none) = _
  show (if (fltD f).isN = true then none else (match F_law_same [.tup [nI f.1, .str f.2], fltD f] s with | some (.bl b) => some b | _ => none)) = _
  rw [if_neg (show ¬ (fltD f).isN = true from by show ¬ false = true; decide), e]
theorem set2 (s : SS) (a b c : Cell) : ((s ++ [a]) ++ [b]).set s.length c = (s ++ [c]) ++ [b] := by
  rw [List.set_append_left _ _ (by rw [List.length_append]; show _ < _ + 1; omega), setApp]
theorem get2 (s : SS) (a b : Cell) : ((s ++ [a]) ++ [b])[s.length]? = some a := by
  rw [List.getElem?_append_left (by rw [List.length_append]; show _ < _ + 1; omega)]
  exact getApp _ _
theorem get3 (s : SS) (a b : Cell) : ((s ++ [a]) ++ [b])[s.length + 1]? = some b := by
  have := getApp (s ++ [a]) b
  rwa [List.length_append] at this
theorem try_ok (B : Boxed s n) (c : s[q]? = some (.lst (ls.map strD))) (ok : OkL b ls) (hb : b ≤ 10) (hE : ended = false → ∃ xs x, ls = xs ++ [x] ∧ x ≠ []) (k1 : ∀ env s1, Inv n env s1 → K.nx env s1) :
    X_try K [none, some (.ref n), x2, some (.ref q), x4, x5, some (.bl ended), some (strD (textL ls ended)), some (retO fltD (faultM ls ended)), x9, x10, x11, x12] s := by
  have hl := ok.1
  have okl : ∀ l ∈ ls, okC l ∧ l.length ≤ 1000 := fun l h => ⟨(ok.2 l h).2, by have := (ok.2 l h).1; omega⟩
  have tl : (textL ls ended).length ≤ 900000 := by
    have g := glue_total (b := 20 + b) (c := 10) (ls := ls) fun l h => (ok.2 l h).1
    have : ls.length * (20 + b + 1) ≤ 20 * 31 := Nat.mul_le_mul (by omega) (by omega)
    unfold textL
    split
    · rw [List.length_append]; show _ + 1 ≤ _; omega
    · omega
  refine ⟨strD (textL ls ended), rfl, read_ev okl (by omega) tl (text_split (fun l h => (okl l h).1) hE) hE (fun s1 hf u => ?_) fun f s1 hf u => ?_⟩
  · rw [hf]
    refine ⟨false, rfl, iteF ?_⟩
    cases ls with
    | nil => cases hf
    | cons h t =>
      cases ht : told h with
      | none => rw [fault_no ht] at hf; cases hf
      | some m =>
        have c1 := u.get c
        have hm := told_lt ht
        have hh : h ∈ h :: t := List.mem_cons_self
        rw [List.length_cons] at hl
        refine ⟨[], rfl, _, rfl, ?_⟩
        have c2 := (Up.app s1 [Cell.lst []]).get c1
        refine ⟨t.map strD, slL1 rfl c2, _, _, seqI_lst (getApp _ _), ?_⟩
        refine for_ls (ro := some (s1 ++ [Cell.lst []]).length) (f := strD) (items := t) (fun done env s' => (∃ y5 y11, env = [none, some (.ref n), x2, some (.ref q), x4, y5, some (.bl ended), some (strD (textL (h :: t) ended)), some .non, some (tableL (h :: t)), some (.ref s1.length), y11, x12]) ∧ s' = (s1 ++ [Cell.lst ((done.map marksL).map dN)]) ++ [Cell.lst (t.map strD)]) ?_ ?_ ?_ ⟨⟨_, _, rfl⟩, rfl⟩
        · rintro done env s' ⟨_, rfl⟩
          show _ = _
          rw [List.length_append]
          exact (get3 _ _ _).trans (get3 _ _ _).symm
        · rintro done l todo env s' he ⟨⟨y5, y11, rfl⟩, rfl⟩
          have hlm : l ∈ t := by rw [he]; exact List.mem_append_right _ List.mem_cons_self
          have okt := okl l (List.mem_cons_of_mem _ hlm)
          have hd : done.length < t.length := by rw [he, List.length_append, List.length_cons]; omega
          refine ⟨[none, some (.ref n), x2, some (.ref q), x4, y5, some (.bl ended), some (strD (textL (h :: t) ended)), some .non, some (tableL (h :: t)), some (.ref s1.length), some (strD l), x12], rfl, fun K' k' _ _ _ => ⟨s1.length, _, rfl, get2 _ _ _, dN (marksL l), ?_, _, get2 _ _ _, by rw [List.length_map, List.length_map]; omega, ?_⟩⟩
          · refine mTupL_e ((comp_fi (f := nI) (g := nI) (p := fun k => decide (l[k]? = some 120)) (l := List.range l.length) (iRng_nat (n := l.length) ((f1_e (x := strD l) rfl).trans (fLenT_e (by omega))) (by omega)) fun k hk => ?_).trans rfl)
            have hk' := List.mem_range.mp hk
            refine ⟨_, rfl, bV_e ((mOp_e ((mOp_e (x := strD l) rfl rfl).trans (fIxT_e (i := k) (by omega) (List.getElem?_eq_getElem hk'))) rfl).trans ?_), fun _ => rfl⟩
            rw [lit_x]
            refine (eq_S (fun c hc => by rw [List.mem_singleton.mp hc]; exact okt.1.lt _ (List.getElem_mem _)) (by decide)).trans ?_
            rw [List.getElem?_eq_getElem hk', show decide ([l[k]] = [120]) = decide (some l[k] = some 120) from decide_eq_decide.mpr ⟨fun h => by rw [(List.cons.inj h).1], fun h => by rw [Option.some.inj h]⟩]
          · rw [set2]
            refine k' _ _ ⟨⟨_, _, rfl⟩, ?_⟩
            simp only [List.map_append, List.map_cons, List.map_nil]
        · rintro env s' ⟨⟨y5, y11, rfl⟩, rfl⟩
          have c3 : ((s1 ++ [Cell.lst ((t.map marksL).map dN)]) ++ [Cell.lst (t.map strD)])[q]? = some (.lst ((h :: t).map strD)) := ((Up.app _ _).trans (Up.app _ _)).get c1
          have e1 : mCall F_law_told_many (mCons (mOp fIx (mVar 3) (mC (.int 0))) mNil) [none, some (.ref n), x2, some (.ref q), x4, y5, some (.bl ended), some (strD (textL (h :: t) ended)), some .non, some (tableL (h :: t)), some (.ref s1.length), y11, x12] ((s1 ++ [Cell.lst ((t.map marksL).map dN)]) ++ [Cell.lst (t.map strD)]) = some (nI m) := (mCall1 (x := strD h) ((mOp_e rfl rfl).trans (getR (f := strD) (l := h :: t) (i := 0) c3 rfl))).trans ((told_eval (okl h hh).1 (okl h hh).2).trans (by rw [ht]; rfl))
          have et : tableL (h :: t) = tblD m (t.map marksL) := by show tblD ((told h).getD 0) (t.map marksL) = _; rw [ht]; rfl
          refine ⟨false, bNot_e (b := true) (bV_e ((mCall2 (x := tableL (h :: t)) (y := tblD m (t.map marksL)) rfl (mTup_e (mCons_e rfl (mCons_e e1 (mCons1 (tupR rfl (get2 _ _ _))))) (by show 3 ≤ 1000; decide))).trans ?_)), iteF (k1 _ _ ⟨_, _, _, _, _, _, _, _, _, _, _, rfl, B.up (u.trans ((Up.app _ _).trans (Up.app _ _)))⟩)⟩
          rw [et]
          refine sameF_refl (d := tblD m (t.map marksL)) (fit_tbl (by rw [List.length_map]; omega) (fun r hr => ?_) 5)
          obtain ⟨l, hlm, rfl⟩ := List.mem_map.mp hr
          have := (okl l (List.mem_cons_of_mem _ hlm)).2
          unfold marksL
          have := List.length_filter_le (fun k => decide (l[k]? = some 120)) (List.range l.length)
          rw [List.length_range] at this
          omega
  · exact ⟨rfl, true, hnd_e hf, fun _ => k1 _ _ ⟨_, _, _, _, _, _, _, _, _, _, _, rfl, B.up u⟩, fun z => by cases z⟩
theorem end_ok {R : D → SS → Prop} {env : EV} (h1 : mVar 1 env s = some (.ref n)) (h3 : mVar 3 env s = some (.ref q)) (h1' : ∀ s, mVar 1 env s = some (.ref n)) (B : Boxed s n) (c : s[q]? = some (.lst (ls.map strD))) (ok : OkL b ls)
    (h : ∀ (ended : Bool) s1, (ended = false → ∃ xs x, ls = xs ++ [x] ∧ x ≠ []) → Boxed s1 n → Ev n s s1 → R (.bl ended) s1) : X_end env s R := by
  refine ⟨.bl (decide (ls.length = 0)), (mOp_e (lenR (f := strD) h3 c) (y := nI 0) rfl).trans (fEqK _ _ _), _, rfl, ?_⟩
  by_cases l0 : ls.length = 0
  · rw [decide_eq_true l0]
    exact iteT (h true s (fun z => by cases z) B (Ev.refl _ _))
  · rw [decide_eq_false l0]
    refine iteF ?_
    obtain ⟨xs, x, rfl⟩ : ∃ xs x, ls = xs ++ [x] := by
      rcases List.eq_nil_or_concat ls with z | z
      · rw [z] at l0; exact absurd rfl l0
      · obtain ⟨a, x, z⟩ := z; exact ⟨a, x, by rw [z, List.concat_eq_append]⟩
    have hx := (ok.2 x (List.mem_append_right _ List.mem_cons_self)).2
    have ix : mOp fIx (mVar 3) (mOp fSub (mF1 fLen (mVar 3)) (mC (.int 1))) env s = some (strD x) := by
      have e : mOp fSub (mF1 fLen (mVar 3)) (mC (.int 1)) env s = some (nI xs.length) := by
        refine (mOp_e (lenR (f := strD) h3 c) (y := .int 1) rfl).trans ?_
        show some (D.int (((xs ++ [x]).length : Int) - 1)) = some (.int (xs.length : Int))
        rw [List.length_append]
        congr 2
        show ((xs.length + 1 : Nat) : Int) - 1 = _
        omega
      exact (mOp_e h3 e).trans (getR (f := strD) (l := xs ++ [x]) c (by rw [List.getElem?_append_right (Nat.le_refl _), Nat.sub_self]; rfl))
    refine ⟨.bl (decide (x = [])), (mOp_e ix rfl).trans (by rw [lit_e]; exact eq_S hx.lt (by intro _ h; cases h)), _, rfl, ?_⟩
    by_cases x0 : x = []
    · rw [decide_eq_true x0]
      exact iteT (h true s (fun z => by cases z) B (Ev.refl _ _))
    · rw [decide_eq_false x0]
      refine iteF ⟨.ref n, h1, .int 5, rfl, n, 5, rfl, by decide, B, fun v s1 hv B1 E1 => ⟨_, rfl, .bl (decide (0 < v)), ?_, h _ s1 (fun _ => ⟨xs, x, rfl, x0⟩) B1 E1⟩⟩
      show some (D.bl (decide ((v : Int) > ((0 : Nat) : Int)))) = _
      rw [show decide ((v : Int) > ((0 : Nat) : Int)) = decide (0 < v) from decide_eq_decide.mpr ⟨fun h => by omega, fun h => by omega⟩]
theorem tail_ok (hq : q ≠ n) (B : Boxed s n) (c : s[q]? = some (.lst (ls.map strD))) (ok : OkL b ls) (hb : b ≤ 10) {x6 x7 x8 : Option D} (k1 : ∀ env s1, Inv n env s1 → K.nx env s1) :
    X_tail K [none, some (.ref n), x2, some (.ref q), x4, x5, x6, x7, x8, x9, x10, x11, x12] s := by
  have hl := ok.1
  refine end_ok (q := q) (ls := ls) rfl rfl (fun _ => rfl) B c ok fun ended s1 hE B1 E1 => ⟨_, rfl, ?_⟩
  have c1 := E1.keep c hq
  refine ⟨strD (glue 10 ls), ?_, _, rfl, ?_⟩
  · unfold mJoin mLstOf
    show (match some (D.str ("\n" : Str)) with | some (.str sep) => (match (match some (D.ref q) with | some d => seqOf s1 d | none => none) with | some es => joinD sep es | none => none) | _ => none) = _
    have e : seqOf s1 (.ref q) = some (ls.map strD) := by unfold seqOf; simp only [c1]
    show (match seqOf s1 (.ref q) with | some es => joinD ("\n" : Str) es | none => none) = _
    rw [e]
    show joinD ("\n" : Str) (ls.map strD) = _
    rw [lit_nl, join_S (by omega) (fun l h => by have := (ok.2 l h).1; omega) (by show 1 ≤ 1; decide), join_nl]
    rfl
  have gl : (glue 10 ls).length ≤ 100000 := by
    have g := glue_total (b := 20 + b) (c := 10) (ls := ls) fun l h => (ok.2 l h).1
    have : ls.length * (20 + b + 1) ≤ 20 * 31 := Nat.mul_le_mul (by omega) (by omega)
    omega
  have okl : ∀ l ∈ ls, okC l ∧ l.length ≤ 1000 := fun l h => ⟨(ok.2 l h).2, by have := (ok.2 l h).1; omega⟩
  refine ⟨ended && decide (0 < ls.length), bAnd_e (bV_e rfl) fun _ => bV_e ((mOp_e (lenR (f := strD) rfl c1) (y := nI 0) rfl).trans ?_), ?_⟩
  · show some (D.bl (decide ((ls.length : Int) > ((0 : Nat) : Int)))) = _
    rw [show decide ((ls.length : Int) > ((0 : Nat) : Int)) = decide (0 < ls.length) from decide_eq_decide.mpr ⟨fun h => by omega, fun h => by omega⟩]
  by_cases hc : ended = true ∧ ls ≠ []
  · have e : (ended && decide (0 < ls.length)) = true := by rw [hc.1, decide_eq_true (List.length_pos_iff.mpr hc.2)]; rfl
    rw [e]
    have et : textL ls ended = glue 10 ls ++ [10] := if_pos hc
    refine iteT ⟨strD (textL ls ended), (mOp_e rfl rfl).trans (by rw [et, lit_nl]; exact add_mkS (by show _ + 1 ≤ _; omega)), _, rfl, ?_⟩
    exact ⟨_, (mCall2 rfl rfl).trans (fault_eval okl (by omega) c1), _, rfl, try_ok B1 c1 ok hb hE k1⟩
  · have e : (ended && decide (0 < ls.length)) = false := by
      rw [Bool.and_eq_false_iff, decide_eq_false_iff_not]
      by_cases z : ended = true
      · exact .inr fun y => hc ⟨z, List.length_pos_iff.mp y⟩
      · exact .inl (Bool.eq_false_iff.mpr z)
    rw [e]
    have et : textL ls ended = glue 10 ls := if_neg hc
    refine iteF ⟨_, (mCall2 rfl rfl).trans (fault_eval okl (by omega) c1), _, rfl, ?_⟩
    have := try_ok (K := K) (x2 := x2) (x4 := x4) (x5 := x5) (x9 := x9) (x10 := x10) (x11 := x11) (x12 := x12) B1 c1 ok hb hE k1
    rw [et] at this
    exact this
end
/-! ### wide lines -/
def rep15 : List Nat := [120, 46, 46, 120, 46, 46, 120, 46, 46, 120, 46, 46, 120, 46, 46]
theorem rep_eq : Txt.mul ("x.." : Str) 5 = mkS rep15 := by decide +kernel
theorem rep_e {env : EV} {s : SS} : mOp GE.fMulS (mC (.str ("x.." : Str))) (mC (.int 5)) env s = some (strD rep15) := by
  show (if (1 : Int) < 5 ∧ (5 : Int) ≤ 1000 ∧ (("x.." : Str)).length ≤ 1000 then some (D.str (Txt.mul ("x.." : Str) 5)) else none) = _
  rw [if_pos ⟨by decide, by decide, by decide +kernel⟩, rep_eq]
  rfl
theorem cut_ok (lo hi : Option Int) : (cutG rep15 lo hi).length ≤ 15 ∧ okC (cutG rep15 lo hi) := by
  refine ⟨cutG_length rep15 lo hi, fun c hc => ?_⟩
  have : c ∈ rep15 := by unfold cutG at hc; exact List.mem_of_mem_drop (List.mem_of_mem_take hc)
  have all : ∀ c ∈ rep15, c < 200 ∧ c ≠ 10 := by decide
  exact all c this
theorem wide_go {a0 a1 a2 a3 a6 a7 a8 a9 a10 a11 a12 : Option D} {w : Nat} {st0 : SS} : ∀ (l : List Nat) (s : SS) (R : List D → SS → Prop), (∀ ws : List (List Nat), ws.length = l.length → (∀ x ∈ ws, x.length ≤ 15 ∧ okC x) → R (ws.map strD) s) →
    xGo (tgN 5) (xbOf bYes) (xOf (mSl (mOp GE.fMulS (mC (.str ("x.." : Str))) (mC (.int 5))) (some (mVar 5)) (some (mOp fAdd (mVar 5) (mVar 4))))) [a0, a1, a2, a3, some (nI w), none, a6, a7, a8, a9, a10, a11, a12] st0 none (l.map nI) s R
  | [], s, R, h => ⟨trivial, h [] rfl fun _ z => nomatch z⟩
  | k :: l, s, R, h => by
    refine ⟨trivial, _, rfl, true, rfl, iteT ⟨_, sl_S (l := rep15) rep_e (mPart_e (i := (k : Int)) rfl) (mPart_e (i := (k : Int) + (w : Int)) rfl) (by decide), ?_⟩⟩
    refine wide_go l s _ fun ws h1 h2 => h (_ :: ws) (by rw [List.length_cons, List.length_cons, h1]) fun x hx => ?_
    rcases List.mem_cons.mp hx with rfl | hx
    · exact cut_ok _ _
    · exact h2 x hx
theorem ints_nat (v : Nat) : intsD 0 ((v : Int)).toNat = (List.range v).map nI := by
  unfold intsD
  rw [Int.toNat_natCast]
  exact List.map_congr_left fun k _ => by show D.int (0 + (k : Int)) = D.int (k : Int); rw [Int.zero_add]
theorem chg_ok {K : DE} {n q : Nat} {ls : List (List Nat)} {s : SS} {x2 x4 x5 x6 x7 x8 x9 x10 x11 x12 : Option D} (hq : q ≠ n) (B : Boxed s n) (c : s[q]? = some (.lst (ls.map strD))) (ok : OkL 0 ls) (k1 : ∀ env s1, Inv n env s1 → K.nx env s1) :
    X_chg K [none, some (.ref n), x2, some (.ref q), x4, x5, x6, x7, x8, x9, x10, x11, x12] s := by
  refine ⟨.ref n, rfl, .int 3, rfl, n, 3, rfl, by decide, B, fun v s1 hv B1 E1 => ⟨(v : Int), rfl, by omega, by omega, ?_⟩⟩
  rw [ints_nat]
  refine for_rg (n := v) (fun i env s => ∃ q ls x5, env = [none, some (.ref n), x2, some (.ref q), x4, x5, x6, x7, x8, x9, x10, x11, x12] ∧ q ≠ n ∧ Boxed s n ∧ s[q]? = some (.lst (ls.map strD)) ∧ OkL i ls) ?_ ?_ ⟨q, ls, _, rfl, hq, B1, E1.keep c hq, ok⟩
  · rintro i env s hi ⟨q, ls, x5, rfl, hq, B, c, ok⟩
    exact ⟨_, rfl, fun K' k' _ _ _ => ⟨.ref n, rfl, .ref q, rfl, other_ev B c hq ok (by omega) fun ls' p s' ok' hp B' c' => ⟨_, rfl, k' _ _ ⟨p, ls', _, rfl, hp, B', c', ok'⟩⟩⟩⟩
  · rintro env s ⟨q, ls, x5, rfl, hq, B, c, ok⟩
    exact tail_ok hq B c ok (by omega) k1
theorem law_true (ns : List Int) (hns : ns.length ≤ 63) : T_law ns [] [] fun d _ => d = .bl true := by
  refine ⟨rfl, ?_⟩
  show X_law ns _ [none, none, none, none, none, none, none, none, none, none, none, none, none] []
  refine ⟨.int 0, rfl, .int 63, rfl, 0, 63, rfl, by decide, by decide, fun st0 n _ _ _ hB0 => ⟨_, rfl, ?_⟩⟩
  refine ⟨_, none, iRng_nat (n := 6) rfl (by omega), ?_⟩
  refine for_rg (fun i env s => Inv n env s) ?_ ?_ ⟨_, _, _, _, _, _, _, _, _, _, _, rfl, hB0⟩
  · rintro i env s hi ⟨x2, x3, x4, x5, x6, x7, x8, x9, x10, x11, x12, rfl, B⟩
    refine ⟨_, rfl, fun K k1 kc _ _ => ?_⟩
    refine ⟨.ref n, rfl, .int 5, rfl, .int 5, rfl, n, 5, 5, rfl, by decide, by decide, B, fun many rows s1 hm hr hT B1 E1 => lines_ev (by omega) (by omega) fun ls s2 ok es => ⟨_, rfl, ?_⟩⟩
    have c2 : s2[s1.length]? = some (.lst (ls.map strD)) := by rw [es]; exact getApp _ _
    have B2 : Boxed s2 n := by rw [es]; exact B1.up (Up.app _ _)
    have hq1 : s1.length ≠ n := by have := B1.lt; omega
    refine ⟨.ref n, rfl, .int 5, rfl, n, 5, rfl, by decide, B2, fun v s3 hv B3 E3 => ⟨.int 0, rfl, .bl (decide (v = 0)), fEqK s3 v 0, _, rfl, ?_⟩⟩
    by_cases h : v = 0
    · rw [decide_eq_true h]
      refine iteT ⟨.int 10, rfl, .ref n, rfl, .int 5, rfl, n, 5, rfl, by decide, B3, fun w s4 hw B4 E4 => ⟨nI (10 + w), ?_, _, rfl, ?_⟩⟩
      · show some (D.int (10 + (w : Int))) = some (D.int ((10 + w : Nat) : Int))
        congr 2
      · refine ⟨[strD (headN (10 + w))], ?_, .ref n, rfl, .int 2, rfl, n, 2, rfl, by decide, B4.up (Up.app _ _), fun v2 s5 hv2 B5 E5 => ⟨(v2 : Int), rfl, by omega, by omega, ?_⟩⟩
        · unfold mLst
          rw [mCons1 (head_e (k := 10 + w) (by omega) rfl)]
          rfl
        rw [ints_nat]
        refine wide_go (List.range v2) s5 _ fun ws h1 h2 => ?_
        rw [List.length_range] at h1
        have hlt : n < s4.length := B4.lt
        have c5 : s5[s4.length]? = some (.lst [strD (headN (10 + w))]) := E5.keep (getApp _ _) (by omega)
        have hd := head_ok (k := 10 + w) (by omega)
        refine ⟨_, _, _, _, rfl, rfl, (Up.app _ _).get c5, getApp _ _, by rw [List.length_map]; show 1 + _ ≤ _; omega, _, rfl, ?_⟩
        refine chg_ok (ls := headN (10 + w) :: ws) ?_ (B5.up ((Up.app _ _).trans (Up.app _ _))) (getApp _ _) ⟨by rw [List.length_cons]; omega, fun l hl => ?_⟩ k1
        · have := B5.lt
          rw [List.length_append]
          omega
        · rcases List.mem_cons.mp hl with rfl | hl
          · exact ⟨by omega, hd.2⟩
          · have := h2 l hl
            exact ⟨by omega, this.2⟩
    · rw [decide_eq_false h]
      exact iteF (chg_ok hq1 B3 (E3.keep c2 hq1) ok k1)
  · rintro env s ⟨x2, x3, x4, x5, x6, x7, x8, x9, x10, x11, x12, rfl, B⟩
    exact ⟨_, rfl, rfl⟩
end Lk01

set_option Elab.async false
set_option linter.all false
set_option maxRecDepth 100000
set_option maxHeartbeats 4000000
namespace Lk01
open PySem PySem.Spec PyProof PyProof.Rows L2 GX GD GF
/-! the fault TextFault, from the facts of the machine -/
theorem sc_TextFault : FnScope [("self" : Str), ("line" : Str), ("reason" : Str)] [("self" : Str), ("line" : Str), ("reason" : Str)] (defScope (inClass (top 2) 0)) := ⟨rfl, rfl, rfl, by decide +kernel, rfl, by decide +kernel, by decide +kernel⟩
theorem fault_of {P : Program} {wl : World} {K : PySem.W.Frag} {h : Heap} {mg : Str → Option Value} {base : Heap} {nm : Nat → Nat → Option Str} {tabs : List (Addr × Addr)} {C B fI c : Addr} {oc kV dc pm ct mc : Value} {od an : Option Addr} {sl : Array (Option Value)}
    (KX : K.In h) (G : h.Ns mainGlobals mg)
    (ac : PySem.W.nsIn K mainGlobals "TextFault" = some (some (.ref C))) (ab : PySem.W.nsIn K mainGlobals "ConceptFault" = some (some (.ref B)))
    (l1 : K.lookup fI = some ⟨oc, od, .func (PySem.W.fnOf "__init__" "TextFault.__init__" (defArgs (inClass (top 2) 0)) (defBody (inClass (top 2) 0)) (defScope (inClass (top 2) 0)) .none kV dc pm an (.ref c) ct), sl⟩) (c1 : PySem.W.codeIn K (.ref c) "TextFault.__init__" = true)
    (rd : PySem.W.readsIn K B mc = true) (ga : PySem.W.specialIn K (.ref B) "__getattribute__" = some (some (.builtin "type.__getattribute__"))) (at_ : PySem.W.findCls K (.ref B) mc "__init__" = some (.val (.builtin "ValueError.__init__")))
    (oe : ∃ nm q N bs bm sn sub ab col dd k0 k1 k2 k3 k5, K.lookup C = some (excClassObj nm q C N bs bm true sn sub ab col dd k0 k1 k2 k3 k5 "ValueError.__new__") ∧ PySem.HandSPX.refsVE bm = true)
    (sa : PySem.W.findIn K (.ref C) "__setattr__" = some (some (.builtin "object.__setattr__"))) (sb : PySem.W.subIn K (.ref C) (.type "BaseException") = some true) (ty : PySem.W.typeIn K (.ref C) = some (.type "type")) (kc : PySem.W.keepIn K (.ref C) = true)
    (hg : PySem.W.findIn K (.ref C) "__getattribute__" = some (some (.builtin "BaseException.__getattribute__"))) (hk : PySem.W.findIn K (.ref C) "__getattr__" = some none) (hd : PySem.W.hasDictIn K C = true)
    (ha : PySem.W.findIn K (.ref C) "__class__" = some (some (.builtin "object.__class__"))) (hn : PySem.W.specialIn K (.builtin "object.__class__") "__get__" = some (some (.builtin "getset_descriptor.__get__"))) (ht : PySem.W.takesIn K (.builtin "object.__class__") = some true) (hm : PySem.W.mroIn K C (.type "object") = some true)
    (no : PySem.W.findIn K (.ref C) "reason" = some none) (kb : PySem.W.kitOne K (.ref C) (.ref B) = some true) (kv : PySem.W.kitOne K (.ref C) (.type "ValueError") = some true)
    (iC : PySem.W.findIn K (.ref C) "__init__" = some (some (.ref fI))) (tI : PySem.W.typeIn K (.ref fI) = some (.type "function")) (ex : PySem.W.exmOne K (.ref C) (.ref C) = some true) (nl : PySem.W.findIn K (.ref C) "line" = some none) :
    GE.FltD P wl ⟨K, base, nm, tabs, clsOf mg⟩ mg 1 "TextFault" "ConceptFault" :=
  have d := cls_at KX G ac
  GE.flt_of2 (w := ⟨K, base, nm, tabs, clsOf mg⟩) (st := inClass (top 2) 0) ⟨oc, od, kV, dc, pm, an, ct, sl, rfl, l1, c1⟩ rfl sc_TextFault (fun _ _ _ _ _ _ us hl => match us, hl with | [_, _, _], _ => rfl) (by first | exact Or.inl rfl | exact Or.inr (Or.inl rfl)) (by first | exact Or.inl rfl | exact Or.inr (Or.inl rfl)) (by first | exact Or.inl rfl | exact Or.inr (Or.inl rfl))
    (fun X e => by unfold Gl Env.kindOf; rw [e]; rfl) (by decide +kernel) (fun _ => rfl) (fun _ => rfl) (fun _ => rfl) (fun _ => ⟨_, rfl⟩) d.2 d.1 (cls_at KX G ab).1 ⟨rd, ga⟩ at_ ⟨oe, sa, sb, ty, kc⟩ nl ⟨⟨hg, hk, sb, hd, ha, hn, ht, hm⟩, ⟨hg, hk, sb, hd⟩, no, kb, kv⟩ iC tI ex
theorem fltn_of {K : PySem.W.Frag} {h : Heap} {mg : Str → Option Value} {base : Heap} {nm : Nat → Nat → Option Str} {tabs : List (Addr × Addr)} {C T : Addr} (KX : K.In h) (G : h.Ns mainGlobals mg) (ac : PySem.W.nsIn K mainGlobals "TextFault" = some (some (.ref C))) (tn : PySem.W.nsIn K mainGlobals "ThingFault" = some (some (.ref T))) (kt : PySem.W.kitOne K (.ref C) (.ref T) = some false) : GE.FltN ⟨K, base, nm, tabs, clsOf mg⟩ mg "TextFault" "ThingFault" := ⟨C, T, (cls_at KX G ac).2, (cls_at KX G tn).1, kt⟩
end Lk01

set_option Elab.async false
set_option linter.all false
set_option maxRecDepth 100000
set_option maxHeartbeats 4000000
namespace Lk01
open PySem PySem.Spec PyProof PyProof.Rows L2 GX GD GF
theorem mk {w : World} {K : PySem.W.Frag} {h : Heap} {mg : Str → Option Value} {fa f_0 c_0 P_0 f_1 c_1 P_1 f_2 c_2 P_2 f_3 c_3 P_3 f_4 c_4 P_4 f_5 c_5 P_5 f_6 c_6 P_6 f_7 c_7 P_7 f_8 c_8 P_8 f_9 c_9 P_9 f_10 c_10 P_10 f_11 c_11 P_11 f_12 c_12 P_12 f_13 c_13 P_13 C_TextFault B_TextFault fi_TextFault ci_TextFault T_TextFault : Addr} {oc_0 kV_0 dc_0 pm_0 ct_0 e_0 : Value} {od_0 an_0 dd_0 : Option Addr} {sl_0 sm_0 : Array (Option Value)} {vs_0 : Array Value} {oc_1 kV_1 dc_1 pm_1 ct_1 e_1 : Value} {od_1 an_1 dd_1 : Option Addr} {sl_1 sm_1 : Array (Option Value)} {vs_1 : Array Value} {oc_2 kV_2 dc_2 pm_2 ct_2 e_2 : Value} {od_2 an_2 dd_2 : Option Addr} {sl_2 sm_2 : Array (Option Value)} {vs_2 : Array Value} {oc_3 kV_3 dc_3 pm_3 ct_3 e_3 : Value} {od_3 an_3 dd_3 : Option Addr} {sl_3 sm_3 : Array (Option Value)} {vs_3 : Array Value} {oc_4 kV_4 dc_4 pm_4 ct_4 e_4 : Value} {od_4 an_4 dd_4 : Option Addr} {sl_4 sm_4 : Array (Option Value)} {vs_4 : Array Value} {oc_5 kV_5 dc_5 pm_5 ct_5 e_5 : Value} {od_5 an_5 dd_5 : Option Addr} {sl_5 sm_5 : Array (Option Value)} {vs_5 : Array Value} {oc_6 kV_6 dc_6 pm_6 ct_6 e_6 : Value} {od_6 an_6 dd_6 : Option Addr} {sl_6 sm_6 : Array (Option Value)} {vs_6 : Array Value} {oc_7 kV_7 dc_7 pm_7 ct_7 e_7 : Value} {od_7 an_7 dd_7 : Option Addr} {sl_7 sm_7 : Array (Option Value)} {vs_7 : Array Value} {oc_8 kV_8 dc_8 pm_8 ct_8 e_8 : Value} {od_8 an_8 dd_8 : Option Addr} {sl_8 sm_8 : Array (Option Value)} {vs_8 : Array Value} {oc_9 kV_9 dc_9 pm_9 ct_9 e_9 : Value} {od_9 an_9 dd_9 : Option Addr} {sl_9 sm_9 : Array (Option Value)} {vs_9 : Array Value} {oc_10 kV_10 dc_10 pm_10 ct_10 e_10 : Value} {od_10 an_10 dd_10 : Option Addr} {sl_10 sm_10 : Array (Option Value)} {vs_10 : Array Value} {oc_11 kV_11 dc_11 pm_11 ct_11 e_11 : Value} {od_11 an_11 dd_11 : Option Addr} {sl_11 sm_11 : Array (Option Value)} {vs_11 : Array Value} {oc_12 kV_12 dc_12 pm_12 ct_12 e_12 : Value} {od_12 an_12 dd_12 : Option Addr} {sl_12 sm_12 : Array (Option Value)} {vs_12 : Array Value} {oc_13 kV_13 dc_13 pm_13 ct_13 e_13 : Value} {od_13 an_13 dd_13 : Option Addr} {sl_13 sm_13 : Array (Option Value)} {vs_13 : Array Value} {oc_TextFault kV_TextFault dc_TextFault pm_TextFault ct_TextFault : Value} {od_TextFault an_TextFault : Option Addr} {sl_TextFault : Array (Option Value)} (KX : K.In h) (G : h.Ns mainGlobals mg) (L : Laid PySem.Challenge.pw_formalconcepts_k01_the_first_fault_of_a mg h) (hfa : mg "law" = some (.ref fa)) (fac_TextFault : PySem.W.nsIn K mainGlobals "TextFault" = some (some (.ref C_TextFault))) (fab_TextFault : PySem.W.nsIn K mainGlobals "ConceptFault" = some (some (.ref B_TextFault))) (fl1_TextFault : K.lookup fi_TextFault = some ⟨oc_TextFault, od_TextFault, .func (PySem.W.fnOf "__init__" "TextFault.__init__" (defArgs (inClass (top 2) 0)) (defBody (inClass (top 2) 0)) (defScope (inClass (top 2) 0)) .none kV_TextFault dc_TextFault pm_TextFault an_TextFault (.ref ci_TextFault) ct_TextFault), sl_TextFault⟩) (fc1_TextFault : PySem.W.codeIn K (.ref ci_TextFault) "TextFault.__init__" = true) (frd_TextFault : PySem.W.readsIn K B_TextFault (.type "type") = true) (fga_TextFault : PySem.W.specialIn K (.ref B_TextFault) "__getattribute__" = some (some (.builtin "type.__getattribute__"))) (fat_TextFault : PySem.W.findCls K (.ref B_TextFault) (.type "type") "__init__" = some (.val (.builtin "ValueError.__init__"))) (foe_TextFault : ∃ nm q N bs bm sn sub ab col dd k0 k1 k2 k3 k5, K.lookup C_TextFault = some (excClassObj nm q C_TextFault N bs bm true sn sub ab col dd k0 k1 k2 k3 k5 "ValueError.__new__") ∧ PySem.HandSPX.refsVE bm = true) (fsa_TextFault : PySem.W.findIn K (.ref C_TextFault) "__setattr__" = some (some (.builtin "object.__setattr__"))) (fsb_TextFault : PySem.W.subIn K (.ref C_TextFault) (.type "BaseException") = some true) (fty_TextFault : PySem.W.typeIn K (.ref C_TextFault) = some (.type "type")) (fkc_TextFault : PySem.W.keepIn K (.ref C_TextFault) = true) (fhg_TextFault : PySem.W.findIn K (.ref C_TextFault) "__getattribute__" = some (some (.builtin "BaseException.__getattribute__"))) (fhk_TextFault : PySem.W.findIn K (.ref C_TextFault) "__getattr__" = some none) (fhd_TextFault : PySem.W.hasDictIn K C_TextFault = true) (fha_TextFault : PySem.W.findIn K (.ref C_TextFault) "__class__" = some (some (.builtin "object.__class__"))) (fhn_TextFault : PySem.W.specialIn K (.builtin "object.__class__") "__get__" = some (some (.builtin "getset_descriptor.__get__"))) (fht_TextFault : PySem.W.takesIn K (.builtin "object.__class__") = some true) (fhm_TextFault : PySem.W.mroIn K C_TextFault (.type "object") = some true) (fno_TextFault : PySem.W.findIn K (.ref C_TextFault) "reason" = some none) (fkb_TextFault : PySem.W.kitOne K (.ref C_TextFault) (.ref B_TextFault) = some true) (fkv_TextFault : PySem.W.kitOne K (.ref C_TextFault) (.type "ValueError") = some true) (fiC_TextFault : PySem.W.findIn K (.ref C_TextFault) "__init__" = some (some (.ref fi_TextFault))) (ftI_TextFault : PySem.W.typeIn K (.ref fi_TextFault) = some (.type "function")) (fex_TextFault : PySem.W.exmOne K (.ref C_TextFault) (.ref C_TextFault) = some true) (fnl_TextFault : PySem.W.findIn K (.ref C_TextFault) "line" = some none) (ftn_TextFault : PySem.W.nsIn K mainGlobals "ThingFault" = some (some (.ref T_TextFault))) (fkt_TextFault : PySem.W.kitOne K (.ref C_TextFault) (.ref T_TextFault) = some false) (a0 : PySem.W.nsIn K mainGlobals "read_many" = some (some (.ref f_0))) (l0 : K.lookup f_0 = some ⟨oc_0, od_0, .func (PySem.W.fnOf "read_many" "read_many" (defArgs (top 6)) (defBody (top 6)) (defScope (top 6)) .none kV_0 dc_0 pm_0 an_0 (.ref c_0) ct_0), sl_0⟩) (k0 : PySem.W.codeIn K (.ref c_0) "read_many" = true) (g0 : PySem.W.keepIn K (.ref f_0) = true) (t0 : K.lookup c_0 = some ⟨e_0, dd_0, .fields vs_0, sm_0⟩) (p0 : vs_0[11]? = some (.ref P_0)) (n0 : K.lookup P_0 = none) (a1 : PySem.W.nsIn K mainGlobals "read" = some (some (.ref f_1))) (l1 : K.lookup f_1 = some ⟨oc_1, od_1, .func (PySem.W.fnOf "read" "read" (defArgs (top 7)) (defBody (top 7)) (defScope (top 7)) .none kV_1 dc_1 pm_1 an_1 (.ref c_1) ct_1), sl_1⟩) (k1 : PySem.W.codeIn K (.ref c_1) "read" = true) (g1 : PySem.W.keepIn K (.ref f_1) = true) (t1 : K.lookup c_1 = some ⟨e_1, dd_1, .fields vs_1, sm_1⟩) (p1 : vs_1[11]? = some (.ref P_1)) (n1 : K.lookup P_1 = none) (a2 : PySem.W.nsIn K mainGlobals "_law_draw" = some (some (.ref f_2))) (l2 : K.lookup f_2 = some ⟨oc_2, od_2, .func (PySem.W.fnOf "_law_draw" "_law_draw" (defArgs (top 9)) (defBody (top 9)) (defScope (top 9)) .none kV_2 dc_2 pm_2 an_2 (.ref c_2) ct_2), sl_2⟩) (k2 : PySem.W.codeIn K (.ref c_2) "_law_draw" = true) (g2 : PySem.W.keepIn K (.ref f_2) = true) (t2 : K.lookup c_2 = some ⟨e_2, dd_2, .fields vs_2, sm_2⟩) (p2 : vs_2[11]? = some (.ref P_2)) (n2 : K.lookup P_2 = none) (a3 : PySem.W.nsIn K mainGlobals "_law_cell" = some (some (.ref f_3))) (l3 : K.lookup f_3 = some ⟨oc_3, od_3, .func (PySem.W.fnOf "_law_cell" "_law_cell" (defArgs (top 10)) (defBody (top 10)) (defScope (top 10)) .none kV_3 dc_3 pm_3 an_3 (.ref c_3) ct_3), sl_3⟩) (k3 : PySem.W.codeIn K (.ref c_3) "_law_cell" = true) (g3 : PySem.W.keepIn K (.ref f_3) = true) (t3 : K.lookup c_3 = some ⟨e_3, dd_3, .fields vs_3, sm_3⟩) (p3 : vs_3[11]? = some (.ref P_3)) (n3 : K.lookup P_3 = none) (a4 : PySem.W.nsIn K mainGlobals "_law_digits" = some (some (.ref f_4))) (l4 : K.lookup f_4 = some ⟨oc_4, od_4, .func (PySem.W.fnOf "_law_digits" "_law_digits" (defArgs (top 11)) (defBody (top 11)) (defScope (top 11)) .none kV_4 dc_4 pm_4 an_4 (.ref c_4) ct_4), sl_4⟩) (k4 : PySem.W.codeIn K (.ref c_4) "_law_digits" = true) (g4 : PySem.W.keepIn K (.ref f_4) = true) (t4 : K.lookup c_4 = some ⟨e_4, dd_4, .fields vs_4, sm_4⟩) (p4 : vs_4[11]? = some (.ref P_4)) (n4 : K.lookup P_4 = none) (a5 : PySem.W.nsIn K mainGlobals "_law_box" = some (some (.ref f_5))) (l5 : K.lookup f_5 = some ⟨oc_5, od_5, .func (PySem.W.fnOf "_law_box" "_law_box" (defArgs (top 12)) (defBody (top 12)) (defScope (top 12)) .none kV_5 dc_5 pm_5 an_5 (.ref c_5) ct_5), sl_5⟩) (k5 : PySem.W.codeIn K (.ref c_5) "_law_box" = true) (g5 : PySem.W.keepIn K (.ref f_5) = true) (t5 : K.lookup c_5 = some ⟨e_5, dd_5, .fields vs_5, sm_5⟩) (p5 : vs_5[11]? = some (.ref P_5)) (n5 : K.lookup P_5 = none) (a6 : PySem.W.nsIn K mainGlobals "_law_some" = some (some (.ref f_6))) (l6 : K.lookup f_6 = some ⟨oc_6, od_6, .func (PySem.W.fnOf "_law_some" "_law_some" (defArgs (top 13)) (defBody (top 13)) (defScope (top 13)) .none kV_6 dc_6 pm_6 an_6 (.ref c_6) ct_6), sl_6⟩) (k6 : PySem.W.codeIn K (.ref c_6) "_law_some" = true) (g6 : PySem.W.keepIn K (.ref f_6) = true) (t6 : K.lookup c_6 = some ⟨e_6, dd_6, .fields vs_6, sm_6⟩) (p6 : vs_6[11]? = some (.ref P_6)) (n6 : K.lookup P_6 = none) (a7 : PySem.W.nsIn K mainGlobals "_law_table" = some (some (.ref f_7))) (l7 : K.lookup f_7 = some ⟨oc_7, od_7, .func (PySem.W.fnOf "_law_table" "_law_table" (defArgs (top 14)) (defBody (top 14)) (defScope (top 14)) .none kV_7 dc_7 pm_7 an_7 (.ref c_7) ct_7), sl_7⟩) (k7 : PySem.W.codeIn K (.ref c_7) "_law_table" = true) (g7 : PySem.W.keepIn K (.ref f_7) = true) (t7 : K.lookup c_7 = some ⟨e_7, dd_7, .fields vs_7, sm_7⟩) (p7 : vs_7[11]? = some (.ref P_7)) (n7 : K.lookup P_7 = none) (a8 : PySem.W.nsIn K mainGlobals "_law_same" = some (some (.ref f_8))) (l8 : K.lookup f_8 = some ⟨oc_8, od_8, .func (PySem.W.fnOf "_law_same" "_law_same" (defArgs (top 15)) (defBody (top 15)) (defScope (top 15)) .none kV_8 dc_8 pm_8 an_8 (.ref c_8) ct_8), sl_8⟩) (k8 : PySem.W.codeIn K (.ref c_8) "_law_same" = true) (g8 : PySem.W.keepIn K (.ref f_8) = true) (t8 : K.lookup c_8 = some ⟨e_8, dd_8, .fields vs_8, sm_8⟩) (p8 : vs_8[11]? = some (.ref P_8)) (n8 : K.lookup P_8 = none) (a9 : PySem.W.nsIn K mainGlobals "_law_lines" = some (some (.ref f_9))) (l9 : K.lookup f_9 = some ⟨oc_9, od_9, .func (PySem.W.fnOf "_law_lines" "_law_lines" (defArgs (top 16)) (defBody (top 16)) (defScope (top 16)) .none kV_9 dc_9 pm_9 an_9 (.ref c_9) ct_9), sl_9⟩) (k9 : PySem.W.codeIn K (.ref c_9) "_law_lines" = true) (g9 : PySem.W.keepIn K (.ref f_9) = true) (t9 : K.lookup c_9 = some ⟨e_9, dd_9, .fields vs_9, sm_9⟩) (p9 : vs_9[11]? = some (.ref P_9)) (n9 : K.lookup P_9 = none) (a10 : PySem.W.nsIn K mainGlobals "_law_other_lines" = some (some (.ref f_10))) (l10 : K.lookup f_10 = some ⟨oc_10, od_10, .func (PySem.W.fnOf "_law_other_lines" "_law_other_lines" (defArgs (top 17)) (defBody (top 17)) (defScope (top 17)) .none kV_10 dc_10 pm_10 an_10 (.ref c_10) ct_10), sl_10⟩) (k10 : PySem.W.codeIn K (.ref c_10) "_law_other_lines" = true) (g10 : PySem.W.keepIn K (.ref f_10) = true) (t10 : K.lookup c_10 = some ⟨e_10, dd_10, .fields vs_10, sm_10⟩) (p10 : vs_10[11]? = some (.ref P_10)) (n10 : K.lookup P_10 = none) (a11 : PySem.W.nsIn K mainGlobals "_law_told_many" = some (some (.ref f_11))) (l11 : K.lookup f_11 = some ⟨oc_11, od_11, .func (PySem.W.fnOf "_law_told_many" "_law_told_many" (defArgs (top 18)) (defBody (top 18)) (defScope (top 18)) .none kV_11 dc_11 pm_11 an_11 (.ref c_11) ct_11), sl_11⟩) (k11 : PySem.W.codeIn K (.ref c_11) "_law_told_many" = true) (g11 : PySem.W.keepIn K (.ref f_11) = true) (t11 : K.lookup c_11 = some ⟨e_11, dd_11, .fields vs_11, sm_11⟩) (p11 : vs_11[11]? = some (.ref P_11)) (n11 : K.lookup P_11 = none) (a12 : PySem.W.nsIn K mainGlobals "_law_text_fault" = some (some (.ref f_12))) (l12 : K.lookup f_12 = some ⟨oc_12, od_12, .func (PySem.W.fnOf "_law_text_fault" "_law_text_fault" (defArgs (top 19)) (defBody (top 19)) (defScope (top 19)) .none kV_12 dc_12 pm_12 an_12 (.ref c_12) ct_12), sl_12⟩) (k12 : PySem.W.codeIn K (.ref c_12) "_law_text_fault" = true) (g12 : PySem.W.keepIn K (.ref f_12) = true) (t12 : K.lookup c_12 = some ⟨e_12, dd_12, .fields vs_12, sm_12⟩) (p12 : vs_12[11]? = some (.ref P_12)) (n12 : K.lookup P_12 = none) (a13 : PySem.W.nsIn K mainGlobals "law" = some (some (.ref f_13))) (l13 : K.lookup f_13 = some ⟨oc_13, od_13, .func (PySem.W.fnOf "law" "law" (defArgs (top 20)) (defBody (top 20)) (defScope (top 20)) .none kV_13 dc_13 pm_13 an_13 (.ref c_13) ct_13), sl_13⟩) (k13 : PySem.W.codeIn K (.ref c_13) "law" = true) (g13 : PySem.W.keepIn K (.ref f_13) = true) (t13 : K.lookup c_13 = some ⟨e_13, dd_13, .fields vs_13, sm_13⟩) (p13 : vs_13[11]? = some (.ref P_13)) (n13 : K.lookup P_13 = none) (b_ValueError : PySem.W.nsIn K mainGlobals "ValueError" = some none) (b_any : PySem.W.nsIn K mainGlobals "any" = some none) (b_bool : PySem.W.nsIn K mainGlobals "bool" = some none) (b_enumerate : PySem.W.nsIn K mainGlobals "enumerate" = some none) (b_int : PySem.W.nsIn K mainGlobals "int" = some none) (b_isinstance : PySem.W.nsIn K mainGlobals "isinstance" = some none) (b_len : PySem.W.nsIn K mainGlobals "len" = some none) (b_range : PySem.W.nsIn K mainGlobals "range" = some none) (b_str : PySem.W.nsIn K mainGlobals "str" = some none) (b_tuple : PySem.W.nsIn K mainGlobals "tuple" = some none) {tt_DIGITS : Tok} (x_DIGITS : PySem.W.nsIn K mainGlobals "DIGITS" = some (some (.str ("0123456789" : Str) tt_DIGITS))) :
    LawG PySem.Challenge.rw_formalconcepts_k01_the_first_fault_of_a w K 13 63 mg fa h := by
  have d0 := DK.of (x := "read_many") (st := top 6) KX G L (by decide +kernel) a0 l0 k0 g0 t0 p0 n0
  have d1 := DK.of (x := "read") (st := top 7) KX G L (by decide +kernel) a1 l1 k1 g1 t1 p1 n1
  have d2 := DK.of (x := "_law_draw") (st := top 9) KX G L (by decide +kernel) a2 l2 k2 g2 t2 p2 n2
  have d3 := DK.of (x := "_law_cell") (st := top 10) KX G L (by decide +kernel) a3 l3 k3 g3 t3 p3 n3
  have d4 := DK.of (x := "_law_digits") (st := top 11) KX G L (by decide +kernel) a4 l4 k4 g4 t4 p4 n4
  have d5 := DK.of (x := "_law_box") (st := top 12) KX G L (by decide +kernel) a5 l5 k5 g5 t5 p5 n5
  have d6 := DK.of (x := "_law_some") (st := top 13) KX G L (by decide +kernel) a6 l6 k6 g6 t6 p6 n6
  have d7 := DK.of (x := "_law_table") (st := top 14) KX G L (by decide +kernel) a7 l7 k7 g7 t7 p7 n7
  have d8 := DK.of (x := "_law_same") (st := top 15) KX G L (by decide +kernel) a8 l8 k8 g8 t8 p8 n8
  have d9 := DK.of (x := "_law_lines") (st := top 16) KX G L (by decide +kernel) a9 l9 k9 g9 t9 p9 n9
  have d10 := DK.of (x := "_law_other_lines") (st := top 17) KX G L (by decide +kernel) a10 l10 k10 g10 t10 p10 n10
  have d11 := DK.of (x := "_law_told_many") (st := top 18) KX G L (by decide +kernel) a11 l11 k11 g11 t11 p11 n11
  have d12 := DK.of (x := "_law_text_fault") (st := top 19) KX G L (by decide +kernel) a12 l12 k12 g12 t12 p12 n12
  have d13 := DK.of (x := "law") (st := top 20) KX G L (by decide +kernel) a13 l13 k13 g13 t13 p13 n13
  refine law_of (nm := NM) (T := T_law) (cs := [(c_0, P_0), (c_1, P_1), (c_2, P_2), (c_3, P_3), (c_4, P_4), (c_5, P_5), (c_6, P_6), (c_7, P_7), (c_8, P_8), (c_9, P_9), (c_10, P_10), (c_11, P_11), (c_12, P_12), (c_13, P_13)]) (List.forall_mem_cons.mpr ⟨d0.tab, List.forall_mem_cons.mpr ⟨d1.tab, List.forall_mem_cons.mpr ⟨d2.tab, List.forall_mem_cons.mpr ⟨d3.tab, List.forall_mem_cons.mpr ⟨d4.tab, List.forall_mem_cons.mpr ⟨d5.tab, List.forall_mem_cons.mpr ⟨d6.tab, List.forall_mem_cons.mpr ⟨d7.tab, List.forall_mem_cons.mpr ⟨d8.tab, List.forall_mem_cons.mpr ⟨d9.tab, List.forall_mem_cons.mpr ⟨d10.tab, List.forall_mem_cons.mpr ⟨d11.tab, List.forall_mem_cons.mpr ⟨d12.tab, List.forall_mem_cons.mpr ⟨d13.tab, fun _ z => nomatch z⟩⟩⟩⟩⟩⟩⟩⟩⟩⟩⟩⟩⟩⟩) (List.forall_mem_cons.mpr ⟨d0.free, List.forall_mem_cons.mpr ⟨d1.free, List.forall_mem_cons.mpr ⟨d2.free, List.forall_mem_cons.mpr ⟨d3.free, List.forall_mem_cons.mpr ⟨d4.free, List.forall_mem_cons.mpr ⟨d5.free, List.forall_mem_cons.mpr ⟨d6.free, List.forall_mem_cons.mpr ⟨d7.free, List.forall_mem_cons.mpr ⟨d8.free, List.forall_mem_cons.mpr ⟨d9.free, List.forall_mem_cons.mpr ⟨d10.free, List.forall_mem_cons.mpr ⟨d11.free, List.forall_mem_cons.mpr ⟨d12.free, List.forall_mem_cons.mpr ⟨d13.free, fun _ z => nomatch z⟩⟩⟩⟩⟩⟩⟩⟩⟩⟩⟩⟩⟩⟩) (List.forall_mem_cons.mpr ⟨d0.code, List.forall_mem_cons.mpr ⟨d1.code, List.forall_mem_cons.mpr ⟨d2.code, List.forall_mem_cons.mpr ⟨d3.code, List.forall_mem_cons.mpr ⟨d4.code, List.forall_mem_cons.mpr ⟨d5.code, List.forall_mem_cons.mpr ⟨d6.code, List.forall_mem_cons.mpr ⟨d7.code, List.forall_mem_cons.mpr ⟨d8.code, List.forall_mem_cons.mpr ⟨d9.code, List.forall_mem_cons.mpr ⟨d10.code, List.forall_mem_cons.mpr ⟨d11.code, List.forall_mem_cons.mpr ⟨d12.code, List.forall_mem_cons.mpr ⟨d13.code, fun _ z => nomatch z⟩⟩⟩⟩⟩⟩⟩⟩⟩⟩⟩⟩⟩⟩) hfa (fun base hB hC => all_ok ⟨PySem.W.mg_none_of KX G b_ValueError, PySem.W.mg_none_of KX G b_any, PySem.W.mg_none_of KX G b_bool, PySem.W.mg_none_of KX G b_enumerate, PySem.W.mg_none_of KX G b_int, PySem.W.mg_none_of KX G b_isinstance, PySem.W.mg_none_of KX G b_len, PySem.W.mg_none_of KX G b_range, PySem.W.mg_none_of KX G b_str, PySem.W.mg_none_of KX G b_tuple⟩ ⟨hB, fun _ _ => rfl, ⟨_, PySem.W.mg_of KX G x_DIGITS⟩⟩ (fault_of KX G fac_TextFault fab_TextFault fl1_TextFault fc1_TextFault frd_TextFault fga_TextFault fat_TextFault foe_TextFault fsa_TextFault fsb_TextFault fty_TextFault fkc_TextFault fhg_TextFault fhk_TextFault fhd_TextFault fha_TextFault fhn_TextFault fht_TextFault fhm_TextFault fno_TextFault fkb_TextFault fkv_TextFault fiC_TextFault ftI_TextFault fex_TextFault fnl_TextFault) (fltn_of KX G fac_TextFault ftn_TextFault fkt_TextFault) (d0.dc base _ _ (by simp) (hC (c_0, P_0) (by simp))) (d1.dc base _ _ (by simp) (hC (c_1, P_1) (by simp))) (d2.dc base _ _ (by simp) (hC (c_2, P_2) (by simp))) (d3.dc base _ _ (by simp) (hC (c_3, P_3) (by simp))) (d4.dc base _ _ (by simp) (hC (c_4, P_4) (by simp))) (d5.dc base _ _ (by simp) (hC (c_5, P_5) (by simp))) (d6.dc base _ _ (by simp) (hC (c_6, P_6) (by simp))) (d7.dc base _ _ (by simp) (hC (c_7, P_7) (by simp))) (d8.dc base _ _ (by simp) (hC (c_8, P_8) (by simp))) (d9.dc base _ _ (by simp) (hC (c_9, P_9) (by simp))) (d10.dc base _ _ (by simp) (hC (c_10, P_10) (by simp))) (d11.dc base _ _ (by simp) (hC (c_11, P_11) (by simp))) (d12.dc base _ _ (by simp) (hC (c_12, P_12) (by simp))) (d13.dc base _ _ (by simp) (hC (c_13, P_13) (by simp)))) law_true
end Lk01

open PySem PySem.W PyProof.Rows in
set_option maxRecDepth 100000 in
set_option maxHeartbeats 0 in
theorem PySem.Challenge.cw_formalconcepts_k01_the_first_fault_of_a_holds : PySem.Challenge.rw_formalconcepts_k01_the_first_fault_of_a.Holds := by
  w_on; o_law; k_head; (case hw => w_witness2)
  k_fill
  refine GD.walkG (l := PySem.Challenge.rw_formalconcepts_k01_the_first_fault_of_a) (n := 63) (k := 13) rfl (by decide) rfl ⟨rfl, by decide, by decide⟩ (fun w h Y => PySem.W.kIn_of Y) ?F
  case F =>
    intro w mg fa h _ KX G hmg L
    refine' Lk01.mk KX G L hmg ?zzcfac_TextFault ?zzcfab_TextFault ?zzcfl1_TextFault ?zzcfc1_TextFault ?zzcfrd_TextFault ?zzcfga_TextFault ?zzcfat_TextFault ?zzcfoe_TextFault ?zzcfsa_TextFault ?zzcfsb_TextFault ?zzcfty_TextFault ?zzcfkc_TextFault ?zzcfhg_TextFault ?zzcfhk_TextFault ?zzcfhd_TextFault ?zzcfha_TextFault ?zzcfhn_TextFault ?zzcfht_TextFault ?zzcfhm_TextFault ?zzcfno_TextFault ?zzcfkb_TextFault ?zzcfkv_TextFault ?zzcfiC_TextFault ?zzcftI_TextFault ?zzcfex_TextFault ?zzcfnl_TextFault ?zzcftn_TextFault ?zzcfkt_TextFault ?zza0 ?zzl0 ?zzk0 ?zzg0 ?zzt0 ?zzp0 ?zzn0 ?zza1 ?zzl1 ?zzk1 ?zzg1 ?zzt1 ?zzp1 ?zzn1 ?zza2 ?zzl2 ?zzk2 ?zzg2 ?zzt2 ?zzp2 ?zzn2 ?zza3 ?zzl3 ?zzk3 ?zzg3 ?zzt3 ?zzp3 ?zzn3 ?zza4 ?zzl4 ?zzk4 ?zzg4 ?zzt4 ?zzp4 ?zzn4 ?zza5 ?zzl5 ?zzk5 ?zzg5 ?zzt5 ?zzp5 ?zzn5 ?zza6 ?zzl6 ?zzk6 ?zzg6 ?zzt6 ?zzp6 ?zzn6 ?zza7 ?zzl7 ?zzk7 ?zzg7 ?zzt7 ?zzp7 ?zzn7 ?zza8 ?zzl8 ?zzk8 ?zzg8 ?zzt8 ?zzp8 ?zzn8 ?zza9 ?zzl9 ?zzk9 ?zzg9 ?zzt9 ?zzp9 ?zzn9 ?zza10 ?zzl10 ?zzk10 ?zzg10 ?zzt10 ?zzp10 ?zzn10 ?zza11 ?zzl11 ?zzk11 ?zzg11 ?zzt11 ?zzp11 ?zzn11 ?zza12 ?zzl12 ?zzk12 ?zzg12 ?zzt12 ?zzp12 ?zzn12 ?zza13 ?zzl13 ?zzk13 ?zzg13 ?zzt13 ?zzp13 ?zzn13 ?zzb_ValueError ?zzb_any ?zzb_bool ?zzb_enumerate ?zzb_int ?zzb_isinstance ?zzb_len ?zzb_range ?zzb_str ?zzb_tuple ?zzx_DIGITS
    (case zzcfac_TextFault => k_is)
    (case zzcfab_TextFault => k_is)
    (case zzcfiC_TextFault => k_is)
    (case zzcfl1_TextFault => k_is)
    (case zzcfc1_TextFault => k_is)
    (case zzcfrd_TextFault => k_is)
    (case zzcfga_TextFault => k_is)
    (case zzcfat_TextFault => k_is)
    (case zzcfoe_TextFault => exact GD.fo_of (by kernel_rfl))
    (case zzcfsa_TextFault => k_is)
    (case zzcfsb_TextFault => k_is)
    (case zzcfty_TextFault => k_is)
    (case zzcfkc_TextFault => k_is)
    (case zzcfhg_TextFault => k_is)
    (case zzcfhk_TextFault => k_is)
    (case zzcfhd_TextFault => k_is)
    (case zzcfha_TextFault => k_is)
    (case zzcfhn_TextFault => k_is)
    (case zzcfht_TextFault => k_is)
    (case zzcfhm_TextFault => k_is)
    (case zzcfno_TextFault => k_is)
    (case zzcfkb_TextFault => kit_is)
    (case zzcfkv_TextFault => kit_is)
    (case zzcftI_TextFault => k_is)
    (case zzcfex_TextFault => kts_exm)
    (case zzcfnl_TextFault => k_is)
    (case zzcftn_TextFault => k_is)
    (case zzcfkt_TextFault => kit_is)
    (case zza0 => k_is)
    (case zzl0 => k_is)
    (case zzk0 => k_is)
    (case zzg0 => k_is)
    (case zzt0 => k_is)
    (case zzp0 => rfl)
    (case zzn0 => rfl)
    (case zza1 => k_is)
    (case zzl1 => k_is)
    (case zzk1 => k_is)
    (case zzg1 => k_is)
    (case zzt1 => k_is)
    (case zzp1 => rfl)
    (case zzn1 => rfl)
    (case zza2 => k_is)
    (case zzl2 => k_is)
    (case zzk2 => k_is)
    (case zzg2 => k_is)
    (case zzt2 => k_is)
    (case zzp2 => rfl)
    (case zzn2 => rfl)
    (case zza3 => k_is)
    (case zzl3 => k_is)
    (case zzk3 => k_is)
    (case zzg3 => k_is)
    (case zzt3 => k_is)
    (case zzp3 => rfl)
    (case zzn3 => rfl)
    (case zza4 => k_is)
    (case zzl4 => k_is)
    (case zzk4 => k_is)
    (case zzg4 => k_is)
    (case zzt4 => k_is)
    (case zzp4 => rfl)
    (case zzn4 => rfl)
    (case zza5 => k_is)
    (case zzl5 => k_is)
    (case zzk5 => k_is)
    (case zzg5 => k_is)
    (case zzt5 => k_is)
    (case zzp5 => rfl)
    (case zzn5 => rfl)
    (case zza6 => k_is)
    (case zzl6 => k_is)
    (case zzk6 => k_is)
    (case zzg6 => k_is)
    (case zzt6 => k_is)
    (case zzp6 => rfl)
    (case zzn6 => rfl)
    (case zza7 => k_is)
    (case zzl7 => k_is)
    (case zzk7 => k_is)
    (case zzg7 => k_is)
    (case zzt7 => k_is)
    (case zzp7 => rfl)
    (case zzn7 => rfl)
    (case zza8 => k_is)
    (case zzl8 => k_is)
    (case zzk8 => k_is)
    (case zzg8 => k_is)
    (case zzt8 => k_is)
    (case zzp8 => rfl)
    (case zzn8 => rfl)
    (case zza9 => k_is)
    (case zzl9 => k_is)
    (case zzk9 => k_is)
    (case zzg9 => k_is)
    (case zzt9 => k_is)
    (case zzp9 => rfl)
    (case zzn9 => rfl)
    (case zza10 => k_is)
    (case zzl10 => k_is)
    (case zzk10 => k_is)
    (case zzg10 => k_is)
    (case zzt10 => k_is)
    (case zzp10 => rfl)
    (case zzn10 => rfl)
    (case zza11 => k_is)
    (case zzl11 => k_is)
    (case zzk11 => k_is)
    (case zzg11 => k_is)
    (case zzt11 => k_is)
    (case zzp11 => rfl)
    (case zzn11 => rfl)
    (case zza12 => k_is)
    (case zzl12 => k_is)
    (case zzk12 => k_is)
    (case zzg12 => k_is)
    (case zzt12 => k_is)
    (case zzp12 => rfl)
    (case zzn12 => rfl)
    (case zza13 => k_is)
    (case zzl13 => k_is)
    (case zzk13 => k_is)
    (case zzg13 => k_is)
    (case zzt13 => k_is)
    (case zzp13 => rfl)
    (case zzn13 => rfl)
    (case zzb_ValueError => k_is)
    (case zzb_any => k_is)
    (case zzb_bool => k_is)
    (case zzb_enumerate => k_is)
    (case zzb_int => k_is)
    (case zzb_isinstance => k_is)
    (case zzb_len => k_is)
    (case zzb_range => k_is)
    (case zzb_str => k_is)
    (case zzb_tuple => k_is)
    (case zzx_DIGITS => k_is)
