import PyProof.Rows.All
import Wide.All
import OpenK.AllK
import Wide.FinOn
import HandS.ForMost
import HandS.GenList
import HandS.Lambda
import PyProof.ConsumeS
import PyProof.TupleOfGen
import KE.GoesEnum
import HandS.Zip
import HandS.DictComp
import KE.KeyNested
import HandS.IsInst
import HandS.TupAny
import HandS.Deep
import HandS.SortInts
import HandS.SetFor
import HandS.Strs
import HandS.Words
import HandS.EndOwn
import PyProof.JoinWalk
import KE.KSetDisp
import HandS.ClsMeth
import HandS.Steps
import HandS.Conv
import HandS.SortRule
import HandS.Small
import KE.DatumOrd
import KE.KRevSl
import HandS.Style
import KE.SortData
import HandS.Dict
import HandS.SortKw
import KE.DataMinMax
import KE.SortKeyHeap
import PyProof.ReprRoads
import PyProof.Rows.RegFStrParts
import PyProof.Rows.ReprOcc
import HandS.FStr
import HandS.TupSets
import HandS.TryOnly
import KE.DataEq
import HandS.Zip0
import KE.KDictZip
import HandS.ExcInit
import HandS.ExcIs
import HandS.ExcField
import KE.KExcIs
import PySem.Challenge.RW_formalconcepts_k70_an_expert_is_asked
set_option Elab.async false
set_option linter.all false
set_option maxRecDepth 100000
set_option maxHeartbeats 2000000
namespace GX
open PySem PySem.Spec PyProof.Rows L2 GenW

/-! ## 1. code objects and their tables -/
/-- the object at c is a code object whose table stands at P -/
def CodeG (c P : Addr) : HO := .ext fun h => PySem.W.CodeHd h c P
/-- a table's entry at a place: a generator expression's code object with its own table, or a lambda's -/
def EntryOk (nm : Nat → Nat → Option Str) (H : Hp) (pos : Pos) (c : Addr) : Prop :=
  match nm pos.line pos.col with
  | none => ∃ P', H c = some (CodeG c P') ∧ ∃ ps', H P' = some (.tbl ps')
  | some q => H c = some (LamX.CodeO c q)
def AllTabs (nm : Nat → Nat → Option Str) (H : Hp) : Prop := ∀ P ps, H P = some (.tbl ps) → TriplesOk ps.toList ∧ ∀ (pos : Pos) (cv : Value), codeAmong pos ps.toList = some cv → ∃ c, cv = .ref c ∧ EntryOk nm H pos c
/-- the code object that runs: written ahead of the law, or made on the way -/
def CodeAt (base : Heap) (H : Hp) (c P : Addr) : Prop := PySem.W.CodeHd base c P ∨ H c = some (CodeG c P)

section
variable {X : Cx} {pins : List (Addr × Obj)} {σ : L2.St} {H : Hp} {s : Shared}
theorem codeAt_hd {c P : Addr} (I : Inv X pins σ H s) (h : CodeAt X.base H c P) : PySem.W.CodeHd s.heap c P := by
  rcases h with h | h
  · exact h.keeps I.bk
  · have q := I.hok c _ h
    exact q.1
/-- behind the making of a new code object at c with its table at P', entered into the table at P -/
theorem inv_code {P c P' : Addr} {ps more : Array Value} {h' : Heap} {t' : Nat} (I : Inv X pins σ H s) (hP : H P = some (.tbl ps)) (k : ∀ b o, b ≠ P → s.heap.get? b = some o → h'.get? b = some o)
    (hm : h'.get? P = some { cls := .none, data := .fields (ps ++ more) }) (hc : s.heap.objs.size ≤ c) (hP' : s.heap.objs.size ≤ P') (hne : c ≠ P') (ho : PySem.W.CodeHd h' c P')
    (hp' : h'.get? P' = some { cls := .none, data := .fields #[] }) :
    Inv X pins σ (upd (upd (upd H P (.tbl (ps ++ more))) c (CodeG c P')) P' (.tbl #[])) { s with heap := h', toks := t' } := by
  have nC : H c = none := I.hok.fresh hc
  have nP' : H P' = none := I.hok.fresh hP'
  have nPc : P ≠ c := ne_of_none hP nC
  have nPP : P ≠ P' := ne_of_none hP nP'
  have at_ : ∀ b, b ≠ P → b ≠ c → b ≠ P' → upd (upd (upd H P (.tbl (ps ++ more))) c (CodeG c P')) P' (.tbl #[]) b = H b := fun b h1 h2 h3 => by rw [upd_ne h3, upd_ne h2, upd_ne h1]
  have atP : upd (upd (upd H P (.tbl (ps ++ more))) c (CodeG c P')) P' (.tbl #[]) P = some (.tbl (ps ++ more)) := by rw [upd_ne nPP, upd_ne nPc, upd_same]
  have nP : ∀ b u, H b = some u → (∀ q, u ≠ .tbl q) → b ≠ P := fun b u e q z => by
    rw [z, hP] at e
    exact q ps (Option.some.inj e).symm
  have nN : ∀ b, H b = none → b ≠ P := fun b e z => by
    rw [z, hP] at e
    cases e
  have lt' : ∀ b o, s.heap.get? b = some o → b ≠ c ∧ b ≠ P' := fun b o e => ⟨fun z => by
    rw [z] at e
    exact Nat.lt_irrefl _ (Nat.lt_of_lt_of_le (Heap.lt_size e) hc), fun z => by
    rw [z] at e
    exact Nat.lt_irrefl _ (Nat.lt_of_lt_of_le (Heap.lt_size e) hP')⟩
  have sm : ∀ b u, H b = some u → b ≠ c ∧ b ≠ P' := fun b u e => ⟨ne_of_none e nC, ne_of_none e nP'⟩
  refine I.step (g' := s.gens) (d' := s.drawn) (ch := []) (fun b hb => absurd hb (by simp)) (fun b o _ _ _ e n => k b o (nN b n) e) (fun b o _ _ _ e n => ⟨o.slots, k b o (nN b n) e⟩)
    (fun b o _ e n => by rw [at_ b (nN b n) (lt' b o e).1 (lt' b o e).2]; exact n) (fun b o _ e => ?_) (fun b xs e => by rw [at_ b (nP b _ e (fun q z => by cases z)) (sm b _ e).1 (sm b _ e).2]; exact e) (fun b o u e => by rw [at_ b (nP b _ e (fun q z => by cases z)) (sm b _ e).1 (sm b _ e).2]; exact e) (fun b qs e => ?_) (fun m hn => ?_) (fun b u e => ?_) I.bare
  · by_cases hb : b = P
    · rw [hb]
      exact ⟨_, hm⟩
    · exact ⟨o, k b o hb e⟩
  · by_cases hb : b = P
    · rw [hb, hP] at e
      cases e
      rw [hb, atP]
      exact ⟨more, rfl⟩
    · rw [at_ b hb (sm b _ e).1 (sm b _ e).2, e]
      exact ⟨#[], by simp⟩
  · obtain ⟨ob, es, ep, ho, r⟩ := hn
    exact ⟨ob, es, ep, k _ ob (nN _ I.free) ho, r⟩
  · by_cases hb3 : b = P'
    · rw [hb3, upd_same] at e
      cases e
      rw [hb3]
      exact hp'
    by_cases hb : b = c
    · rw [hb, upd_ne hne, upd_same] at e
      cases e
      rw [hb]
      obtain ⟨o, vs, file, tf, flags, tg, inF, text, tt, e1, r⟩ := id ho
      exact ⟨ho, ⟨o, e1⟩, fun h1 h2 ⟨o, vs, file, tf, flags, tg, inF, text, tt, e1, r⟩ st => ⟨o, vs, file, tf, flags, tg, inF, text, tt, st _ e1, r⟩⟩
    · by_cases hb2 : b = P
      · rw [hb2, atP] at e
        cases e
        rw [hb2]
        exact hm
      · rw [at_ b hb2 hb hb3] at e
        refine (I.hok b u e).stay (fun d v hd q => k d v ?_ q) (fun d q => by rw [at_ d (nP d _ q (fun q z => by cases z)) (sm d _ q).1 (sm d _ q).2]; exact q) fun d xs q => by rw [at_ d (nP d _ q (fun q z => by cases z)) (sm d _ q).1 (sm d _ q).2]; exact q
        rcases hd with z | z
        · rw [z]
          exact hb2
        · exact nP d _ z (fun q z => by cases z)
end

/-- all but the tables stay, and these grow -/
structure Grown (H H' : Hp) : Prop where
  keep : ∀ b o, H b = some o → (∀ ps, o ≠ .tbl ps) → H' b = some o
  tab : ∀ b ps, H b = some (.tbl ps) → ∃ ps', H' b = some (.tbl ps')
theorem Grown.refl (H : Hp) : Grown H H := ⟨fun _ _ e _ => e, fun _ ps e => ⟨ps, e⟩⟩
theorem Grown.trans {H H1 H2 : Hp} (a : Grown H H1) (b : Grown H1 H2) : Grown H H2 :=
  ⟨fun c o e n => b.keep c o (a.keep c o e n) n, fun c ps e => let ⟨ps1, e1⟩ := a.tab c ps e; b.tab c ps1 e1⟩
theorem codeG_ne {c P : Addr} (ps : Array Value) : CodeG c P ≠ .tbl ps := fun z => by
  unfold CodeG at z
  cases z
theorem Grown.entry {nm : Nat → Nat → Option Str} {H H' : Hp} (g : Grown H H') {pos : Pos} {c : Addr} (h : EntryOk nm H pos c) : EntryOk nm H' pos c := by
  unfold EntryOk at h ⊢
  split
  · rename_i e
    rw [e] at h
    obtain ⟨P', h1, ps', h2⟩ := h
    exact ⟨P', g.keep _ _ h1 codeG_ne, g.tab _ _ h2⟩
  · rename_i q e
    rw [e] at h
    exact g.keep _ _ h LamX.codeO_ne

theorem among_pos {pos p' : Pos} {c cv : Value} (l : List Value) (h : TriplesOk l) (hc : codeAmong p' (l ++ [rawInt pos.line, rawInt pos.col, c]) = some cv) : codeAmong p' l = some cv ∨ (cv = c ∧ p'.line = pos.line ∧ p'.col = pos.col) := by
  fun_induction TriplesOk l with
  | case1 =>
    simp only [List.nil_append, rawInt, codeAmong] at hc
    split at hc
    · rename_i q
      refine .inr ⟨(Option.some.inj hc).symm, ?_⟩
      simp at q
      omega
    · cases hc
  | case2 a t b u x rest ih =>
    simp only [List.cons_append, codeAmong] at hc ⊢
    split at hc
    · rename_i q
      rw [if_pos q]
      exact .inl hc
    · rename_i q
      rw [if_neg q]
      exact ih h hc
  | case3 l h1 h2 => exact h.elim

section
variable {X : Cx} {pins : List (Addr × Obj)} {σ : L2.St} {H : Hp} {s : Shared}
/-- the code object of a generator expression: made, or found -/
theorem gen_code {nm : Nat → Nat → Option Str} {c P : Addr} {pos : Pos} {q : Str} {scope : Scope} {E : Value → Shared → Prop} {Q : Value → Shared → Prop} (I : Inv X pins σ H s) (hcode : X.env.code = .ref c) (C : CodeAt X.base H c P)
    (hP : ∃ ps, H P = some (.tbl ps)) (T : AllTabs nm H) (hn : nm pos.line pos.col = none)
    (h : ∀ (c' P' : Addr) (H1 : Hp) (s' : Shared), Inv X pins σ H1 s' → Grown H H1 → AllTabs nm H1 → s'.gens = s.gens → (∀ b o, b ≠ P → s.heap.get? b = some o → s'.heap.get? b = some o) → (∃ o, s'.heap.get? P = some o ∧ ∀ v, o.data ≠ .cell v) → s.heap.objs.size ≤ s'.heap.objs.size → (∀ b o, s.heap.get? b = some o → H b = none → H1 b = none) → H1 c' = some (CodeG c' P') → (∃ ps', H1 P' = some (.tbl ps')) → Q (.ref c') s') :
    wpAny (model X.prog X.w) X.A (genexprCode X.env pos q scope) Q E s := by
  obtain ⟨ps, hP⟩ := hP
  obtain ⟨ht, ha⟩ := T P ps hP
  have hd := codeAt_hd I C
  have hPh : s.heap.get? P = some (PySem.W.tabObj ps) := I.hok P _ hP
  cases hf : codeAmong pos ps.toList with
  | none =>
    refine wpAny_genexprCodeX hcode (hd.code hPh ht) (hd.tab hPh) hf fun c' h' tk hx hge hlt hco hrec htab hnew => ?_
    obtain ⟨P', hP', hic, hit⟩ := hnew
    have hcd : PySem.W.CodeHd h' c' P' := PySem.W.CodeHd.of hic hit
    have hne : c' ≠ P' := by
      obtain ⟨_, _, _, _, _, _, _, _, _, _, _, _, _, _, _, _, _, _, hne⟩ := hcd
      exact hne
    have nC : H c' = none := I.hok.fresh hge
    have nP' : H P' = none := I.hok.fresh hP'
    have I1 := inv_code (t' := tk) I hP (fun b o hb e => hx b o hb e) htab.2 hge hP' hne hcd hit.2
    have nPc : P ≠ c' := ne_of_none hP nC
    have nPP : P ≠ P' := ne_of_none hP nP'
    have G : Grown H (upd (upd (upd H P (.tbl (ps ++ #[rawInt pos.line, rawInt pos.col, .ref c']))) c' (CodeG c' P')) P' (.tbl #[])) := by
      refine ⟨fun b o e n => ?_, fun b qs e => ?_⟩
      · rw [upd_ne (ne_of_none e nP'), upd_ne (ne_of_none e nC), upd_ne (fun z => n ps (Option.some.inj (e.symm.trans (by rw [z]; exact hP))))]
        exact e
      · by_cases hb : b = P
        · rw [hb, upd_ne nPP, upd_ne nPc, upd_same]
          exact ⟨_, rfl⟩
        · rw [upd_ne (ne_of_none e nP'), upd_ne (ne_of_none e nC), upd_ne hb]
          exact ⟨_, e⟩
    refine h c' P' _ _ I1 G (fun Q' qs e => ?_) rfl (fun b o hb e => hx b o hb e) ⟨_, htab.2, fun v z => by cases z⟩ (Nat.le_trans hge (Nat.le_of_lt hlt)) (fun b o e n => by
      have lb := Heap.lt_size e
      rw [upd_ne (Nat.ne_of_lt (Nat.lt_of_lt_of_le lb hP')), upd_ne (Nat.ne_of_lt (Nat.lt_of_lt_of_le lb hge)), upd_ne (fun z => by rw [z, hP] at n; cases n)]
      exact n) (by rw [upd_ne hne, upd_same]) ⟨#[], upd_same⟩
    by_cases hb3 : Q' = P'
    · rw [hb3, upd_same] at e
      cases e
      exact ⟨True.intro, fun pos cv hcv => by simp [codeAmong] at hcv⟩
    rw [upd_ne hb3] at e
    by_cases hb2 : Q' = c'
    · rw [hb2, upd_same] at e
      exact absurd (Option.some.inj e) (codeG_ne qs)
    rw [upd_ne hb2] at e
    by_cases hb1 : Q' = P
    · rw [hb1, upd_same] at e
      cases e
      have eL : (ps ++ #[rawInt pos.line, rawInt pos.col, .ref c']).toList = ps.toList ++ [rawInt pos.line, rawInt pos.col, .ref c'] := by simp
      refine ⟨by rw [eL]; exact PySem.TriplesOk_snoc _ _ _ _ ht, fun p2 cv hcv => ?_⟩
      rw [eL] at hcv
      rcases among_pos _ ht hcv with z | ⟨z, z1, z2⟩
      · obtain ⟨c0, e1, e2⟩ := ha p2 cv z
        exact ⟨c0, e1, G.entry e2⟩
      · refine ⟨c', z, ?_⟩
        unfold EntryOk
        rw [z1, z2, hn]
        exact ⟨P', by rw [upd_ne hne, upd_same], #[], upd_same⟩
    · rw [upd_ne hb1] at e
      obtain ⟨t1, t2⟩ := T Q' qs e
      refine ⟨t1, fun p2 cv hcv => ?_⟩
      obtain ⟨c0, e1, e2⟩ := t2 p2 cv hcv
      exact ⟨c0, e1, G.entry e2⟩
  | some cv =>
    obtain ⟨c', e, he⟩ := ha pos cv hf
    subst e
    unfold EntryOk at he
    rw [hn] at he
    obtain ⟨P', h1, h2⟩ := he
    exact wpAny_genexprCode_hit hcode (hd.code hPh ht) hf (h c' P' H s I (Grown.refl H) T rfl (fun b o _ e => e) ⟨_, hPh, fun v z => by cases z⟩ (Nat.le_refl _) (fun _ _ _ n => n) h1 h2)
end
end GX

set_option Elab.async false
set_option linter.all false
set_option maxRecDepth 100000
set_option maxHeartbeats 2000000
namespace GX
open PySem PySem.Spec PyProof.Rows L2 GenW

/-! ## 2. the frame of a generator expression -/
structure GenOk (N : List Str) (sc scope : Scope) (own : List (Str × Nat)) : Prop extends BlkOk N sc scope own where
  co : scope.isCoroutine = false
  dot : scope.names.lookup (".0" : Str) = some NameKind.local
def genC (N : List Str) (sc scope : Scope) (own : List (Str × Nat)) : Bool := blkC N sc scope own && !scope.isCoroutine && decide (scope.names.lookup (".0" : Str) = some NameKind.local)
theorem genOk_by {N : List Str} {sc scope : Scope} {own : List (Str × Nat)} (h : genC N sc scope own = true) : GenOk N sc scope own := by
  unfold genC at h
  simp only [Bool.and_eq_true, Bool.not_eq_true', decide_eq_true_eq] at h
  exact { blkOk_by h.1.1 with co := h.1.2, dot := h.2 }

theorem newEnv_gen {M : Model} {A : Around} {E : Value → Shared → Prop} {s : Shared} {scope : Scope} {globals : Addr} {closure : List (Str × Addr)} {qual : Str} {code it : Value} {bi : Addr} {Q : Env → Shared → Prop}
    (hk : scope.kind = .function) (h0 : scope.names.lookup (".0" : Str) = some NameKind.local)
    (h : ∀ h5 tk, h5.Ns s.heap.objs.size (fun y => if y = ".0" then some it else none) → Heap.SameBut s.heap.objs.size (pushCells (s.heap.push { cls := .type "frame", data := .dict #[] }) scope.names) h5 →
      Q (newEnv scope s.heap.objs.size globals (cellsFrom (s.heap.objs.size + 1) scope.names closure) qual none code none bi) { s with heap := h5, toks := tk }) :
    wpAny M A (newFunctionEnv scope globals closure [(".0", it)] qual none code none bi) Q E s := by
  simp only [newFunctionEnv, Option.isSome_none, Bool.false_eq_true, if_false]
  refine wpAny_bind (wpAny_alloc ?_)
  refine wpAny_bind (wpAny_layCells _ (fun n k c => rfl) scope.names closure _ _ ?_)
  rw [show ({ s with heap := s.heap.push { cls := .type "frame", data := .dict #[] } } : Shared).heap.objs.size = s.heap.objs.size + 1 from Heap.size_push ..]
  rw [List.forIn_cons]
  refine wpAny_bind (wpAny_bind (wpAny_bind (wpAny_storeName_local (m := fun _ => none) (by exact h0) ?_ (fun h5 hn5 hs5 => ?_) (by show (scope.kind == ScopeKind.class || _) = false; rw [hk]; rfl))))
  · exact (Heap.Ns.new s.heap (.type "frame")).keeps fun b o e => pushCells_keeps _ _ _ _ e
  · refine wpAny_pure ?_
    dsimp only
    rw [List.forIn_nil]
    exact wpAny_pure (wpAny_pure (h h5 _ hn5 hs5))

abbrev genv (X : Cx) (scope : Scope) (cells : List (Str × Addr)) (L : Addr) (code : Value) : Env := newEnv scope L X.env.globals cells (X.env.qual ++ "<genexpr>.") none code none builtinsNs
abbrev gcx (X : Cx) (s : Shared) (H : Hp) (ge : Env) (fp : List Addr) (A : Around) (pn : List (Addr × Obj)) : Cx :=
  { X with s_0 := s, H_0 := H, env := ge, outer := X.stack, stack := ge :: X.stack, A := A.deeper ge, ex := fp, fn := fun x => ge.scope.names.lookup x == some .cell, calm := true, pn := pn, xe := fun _ _ => False }

section
variable {X : Cx} {pins : List (Addr × Obj)} {σ : L2.St} {H : Hp} {s : Shared}
theorem gen_start {scope : Scope} {own : List (Str × Nat)} {fp : List Addr} {A : Around} {code : Value} {h5 : Heap} {tk : Nat} {m5 : Str → Option Value} (I : Inv X pins σ H s) (ok : GenOk X.N X.env.scope scope own) (hN : X.N.Nodup) (hfp : ∀ b ∈ fp, FpOk X pins H b ∧ b < s.heap.objs.size)
    (hh : A.handled = none) (hfr : A.frames = some X.stack) (hn5 : h5.Ns s.heap.objs.size m5) (hs5 : Heap.SameBut s.heap.objs.size (pushCells (s.heap.push { cls := .type "frame", data := .dict #[] }) scope.names) h5) :
    Inv (gcx X s H (genv X scope (cellsFrom (s.heap.objs.size + 1) scope.names (cloFrom X.env.cells scope.names [])) s.heap.objs.size code) fp A []) [] (wipe σ (own.map (·.2))) H { s with heap := h5, toks := tk } := by
  have hfree : ∀ y ∈ scope.names, y.2 = .free → ∃ c, X.env.cells.lookup y.1 = some c := fun y hy e => by
    rcases ok.free y hy e with k | k
    · exact I.ok.has _ (.inl k)
    · exact I.ok.has _ (.inr k)
  generalize hcenv : genv X scope (cellsFrom (s.heap.objs.size + 1) scope.names (cloFrom X.env.cells scope.names [])) s.heap.objs.size code = cenv
  have kp : ∀ b o, s.heap.get? b = some o → h5.get? b = some o := fun b o e => hs5.extBut b o (Nat.ne_of_lt (Heap.lt_size e)) (pushCells_keeps _ _ _ _ (Heap.get?_push_of_some _ e))
  have hL : cenv.locals = s.heap.objs.size := by rw [← hcenv]; rfl
  have hcl : cenv.cells = cellsFrom (s.heap.objs.size + 1) scope.names (cloFrom X.env.cells scope.names []) := by rw [← hcenv]; rfl
  have hsc : cenv.scope = scope := by rw [← hcenv]; rfl
  rw [← Heap.size_push s.heap { cls := .type "frame", data := .dict #[] }] at hcl
  have cm : ∀ {y c}, (y, c) ∈ cloFrom X.env.cells scope.names [] → X.env.cells.lookup y = some c ∧ c < s.heap.objs.size := fun {y c} hm => by
    rcases cloFrom_mem hm with hm | ⟨h1, rfl⟩
    · cases hm
    · obtain ⟨c, hc⟩ := hfree _ h1 rfl
      rw [hc]
      obtain ⟨w, z⟩ := I.cell _ _ hc
      exact ⟨rfl, z.lt⟩
  have mem : ∀ {y c}, cenv.cells.lookup y = some c → (X.env.cells.lookup y = some c ∧ c < s.heap.objs.size) ∨ (s.heap.objs.size + 1 ≤ c ∧ CellAt h5 c none) := fun {y c} e => by
    rw [hcl] at e
    rcases cells_mem (PySem.mem_of_lookup e) with hm | ⟨_, h2, h3⟩
    · exact .inl (cm hm)
    · rw [Heap.size_push] at h2
      exact .inr ⟨h2, h3.sameBut hs5 (Nat.ne_of_gt h2)⟩
  have look : ∀ {y}, scope.names.lookup y = some .free → ∃ c, cenv.cells.lookup y = some c ∧ X.env.cells.lookup y = some c := fun {y} hl => by
    have hy : (y, NameKind.free) ∈ scope.names := PySem.mem_of_lookup hl
    obtain ⟨c', e'⟩ := mem_lookup (cells_acc (names := scope.names) (n := (s.heap.push { cls := .type "frame", data := .dict #[] }).objs.size) (cloFrom_has (cells := X.env.cells) (acc := []) hy))
    rw [← hcl] at e'
    refine ⟨c', e', ?_⟩
    rw [hcl] at e'
    rcases cells_mem (PySem.mem_of_lookup e') with hm | ⟨h1, _, _⟩
    · exact (cm hm).1
    · have := ok.uniq _ h1
      rw [hl] at this; cases this
  have okB : (gcx X s H cenv fp A []).Ok := by
    refine ⟨I.ok.mod, by show cenv.scope.kind = _; rw [hsc]; exact ok.kind, by show cenv.globals = _; rw [← hcenv]; exact I.ok.glob, by show cenv.builtins = _; rw [← hcenv]; rfl, by show s.heap.objs.size ≤ cenv.locals; rw [hL]; exact Nat.le_refl _,
      fun y z c e1 e2 => ?_, fun y hy => ?_, fun y c z e => ?_, fun _ => hh, Around.frames_deeper hfr, .inr ⟨rfl, by show cenv.frame = some cenv.locals; rw [← hcenv]; rfl⟩, fun b hb => ⟨?_, fun y c e z => ?_⟩, I.bs, Nat.le_trans I.ok.bsz I.sz, fun b o e hb => ?_, fun b hb z => ?_, I.stack, I.stkFree⟩
    · have e1 : cenv.cells.lookup y = some c := e1
      have e2 : cenv.cells.lookup z = some c := e2
      rw [hcl] at e1 e2
      refine cells_inj (fun p hp => ?_) (fun y z c a b => I.ok.inj y z c (cm a).1 (cm b).1) (PySem.mem_of_lookup e1) (PySem.mem_of_lookup e2)
      rw [Heap.size_push]
      exact Nat.lt_succ_of_lt (cm (y := p.1) (c := p.2) hp).2
    · show ∃ c, cenv.cells.lookup y = some c
      have hy : cenv.scope.names.lookup y = some .cell ∨ cenv.scope.names.lookup y = some .free := hy
      rw [hsc] at hy
      rcases hy with e | e
      · obtain ⟨c, hm⟩ := cells_has (n := (s.heap.push { cls := .type "frame", data := .dict #[] }).objs.size) (acc := cloFrom X.env.cells scope.names []) (PySem.mem_of_lookup e)
        obtain ⟨c', e'⟩ := mem_lookup hm
        exact ⟨c', by rw [hcl]; exact e'⟩
      · obtain ⟨c, h1, _⟩ := look e
        exact ⟨c, h1⟩
    · have z : (cenv.scope.names.lookup y == some NameKind.cell) = true := z
      rw [hsc] at z
      have z : scope.names.lookup y = some .cell := by simpa using z
      have e : cenv.cells.lookup y = some c := e
      rw [hcl] at e
      rcases cells_mem (PySem.mem_of_lookup e) with hm | ⟨_, h2, _⟩
      · rcases cloFrom_mem hm with hm | ⟨h1, _⟩
        · cases hm
        · have q := ok.uniq _ h1
          rw [z] at q; cases q
      · rw [Heap.size_push] at h2
        exact Nat.le_of_succ_le h2
    · show b ≠ cenv.locals
      rw [hL]; exact Nat.ne_of_lt (hfp b hb).2
    · have e : cenv.cells.lookup y = some c := e
      rcases mem e with ⟨h1, _⟩ | ⟨h1, _⟩
      · exact (hfp b hb).1.2.2.2.2.1 y c h1 z
      · have h2 : s.heap.objs.size + 1 ≤ b := by rw [← z]; exact h1
        exact absurd (Nat.lt_of_lt_of_le (hfp b hb).2 (Nat.le_of_succ_le h2)) (Nat.lt_irrefl _)
    · rcases (hfp b hb).1.2.2.2.1 with z | z
      · exact I.ok.noex b o e z
      · exact absurd (Nat.lt_of_lt_of_le (Heap.lt_size e) (Nat.le_trans I.ok.bsz z)) (Nat.lt_irrefl _)
    · rcases List.mem_cons.mp (I.stkSub b z) with z | z
      · exact (hfp b hb).1.2.1 z
      · exact (hfp b hb).1.2.2.1 z
  refine ⟨okB, rfl, I.bare, Un.kept kp, ⟨m5, ?_, fun i y av e1 e2 e3 => ?_⟩, fun y c e => ?_, ?_, fun y c e => ?_, fun p hp => ?_, I.hok.kept kp, by rw [wipe_length]; exact I.len⟩
  · show Heap.Ns _ cenv.locals _
    rw [hL]
    exact hn5
  · obtain ⟨e2, hne⟩ := wipe_some e2
    have e3 : Vis cenv.scope y := e3
    rw [hsc] at e3
    have no : ∀ k', scope.names.lookup y = some k' → ¬ (k' = .local ∨ k' = .cell) := fun k' e hh => by
      rcases ok.own _ (PySem.mem_of_lookup e) hh with e' | e'
      · obtain ⟨p, hp, hpy⟩ := List.mem_map.mp e'
        have e3 := ok.ix p hp
        have : p.1 = y := hpy
        rw [this] at e3
        exact hne (List.mem_map.mpr ⟨p, hp, nodup_ix hN e3 e1⟩)
      · exact e' (List.mem_of_getElem? e1)
    have hfr' : scope.names.lookup y = some .free := by
      rcases e3 with e3 | e3 | e3
      · exact absurd (.inl rfl) (no _ e3)
      · exact absurd (.inr rfl) (no _ e3)
      · exact e3
    obtain ⟨m, hn, hl⟩ := I.loc
    have hvis : Vis X.env.scope y := (ok.free _ (PySem.mem_of_lookup hfr') rfl).elim (fun k => .inr (.inl k)) (fun k => .inr (.inr k))
    obtain ⟨w, r, q⟩ := hl i y av e1 e2 hvis
    refine ⟨w, r, .inr ⟨.inr (by show cenv.scope.names.lookup y = _; rw [hsc]; exact hfr'), ?_⟩⟩
    obtain ⟨c, h1, h2⟩ := look hfr'
    rcases q with ⟨k, _⟩ | ⟨_, c', e', z⟩
    · have k : X.env.scope.names.lookup y = some .local := k
      rcases ok.free _ (PySem.mem_of_lookup hfr') rfl with k' | k' <;> rw [show X.env.scope.names.lookup y = _ from k'] at k <;> cases k
    · rw [h2] at e'; cases e'
      exact ⟨c, h1, z.keeps kp⟩
  · have e : cenv.cells.lookup y = some c := e
    rcases mem e with ⟨h1, _⟩ | ⟨_, z⟩
    · obtain ⟨w, z⟩ := I.cell y c h1
      exact ⟨w, z.keeps kp⟩
    · exact ⟨_, z⟩
  · show H cenv.locals = none
    rw [hL]; exact I.hok.fresh (Nat.le_refl _)
  · have e : cenv.cells.lookup y = some c := e
    rcases mem e with ⟨h1, _⟩ | ⟨h1, _⟩
    · exact I.freeC y c h1
    · exact I.hok.fresh (Nat.le_of_succ_le h1)
  · exact absurd (show p ∈ ([] : List (Addr × Obj)) ++ [] from hp) (by simp)

/-- pins more in the context, if they hold -/
theorem Inv.pinX {X : Cx} {s0 : Shared} {H0 H' : Hp} {ge : Env} {fp : List Addr} {A : Around} {pn pins : List (Addr × Obj)} {σ : L2.St} {s1 : Shared}
    (I : Inv (gcx X s0 H0 ge fp A []) [] σ H' s1)
    (h : ∀ p ∈ pn ++ pins, s1.heap.get? p.1 = some p.2 ∧ H' p.1 = none ∧ p.1 ≠ ge.locals ∧ p.1 ∉ frs X.stack ∧ ∀ v, p.2.data ≠ .cell v) :
    Inv (gcx X s0 H0 ge fp A pn) pins σ H' s1 :=
  ⟨⟨I.ok.mod, I.ok.kind, I.ok.glob, I.ok.blt, I.ok.above, I.ok.inj, I.ok.has, I.ok.cab, I.ok.hd, I.ok.frames, I.ok.stk, I.ok.exf, I.ok.bs, I.ok.bsz, I.ok.noex, I.ok.exfs, I.ok.funs, I.ok.frf⟩, I.os, I.bare, I.base, I.loc, I.cell, I.free, I.freeC, h, I.hok, I.len⟩
end
end GX

set_option Elab.async false
set_option linter.all false
set_option maxRecDepth 100000
set_option maxHeartbeats 2000000
namespace GX
open PySem PySem.Spec PyProof.Rows L2 GenW

/-! ## 3. the generator's run -/
/-- what is known of a generator expression's run: W ys i m H ahead of turn i, ys handed out so far, m a measure; alive: it is asked on behind ys; fin: its end -/
structure GWs where
  W : List V → Nat → Nat → Hp → Prop
  alive : List V → Prop
  fin : List V → Hp → Prop
def GTurn (J : It) (g : TG) (tt : TT) (te : TE) (vs : List Nat) (σ : L2.St) (G : GWs) : Prop := ∀ ys i m H, G.alive ys → G.W ys i m H →
  (J.stop i H ∧ G.fin ys H) ∨ (J.go i H ∧ ∃ (NF : Hp → Prop) (NY : V → Hp → Prop), (∀ H', NF H' → ∃ m', m' < m ∧ G.W ys (i + 1) m' H') ∧ (∀ y H', NY y H' → ∃ m', m' < m ∧ G.W (ys ++ [y]) (i + 1) m' H') ∧
    ∀ x H', J.yld i H x H' → g x (wipe σ vs) H' fun σ2 H2 => wipe σ2 vs = wipe σ vs ∧ tt σ2 H2 fun b H3 => if b = true then te σ2 H3 fun y H4 => ys.length < sizeLine ∧ NY y H4 else NF H3)
/-- the consumer's own objects stand -/
def OwnC (cs : List Addr) (h : Heap) : Prop := ∀ b ∈ cs, ∃ o, h.get? b = some o ∧ ∀ v, o.data ≠ .cell v
/-- the consumer's objects tell ys, by themselves -/
def ConC (cs : List Addr) (C : List V → Heap → Prop) : Prop := ∀ ys h h', C ys h → (∀ b ∈ cs, ∀ o, h.get? b = some o → h'.get? b = some o) → C ys h'
/-- while the generator sleeps -/
structure Woke (cs : List Addr) (C : List V → Heap → Prop) (ys : List V) (s s' : Shared) : Prop where
  os : s'.os = s.os
  bare : AllBare s'.gens
  keep : ∀ b o, b ∉ cs → s.heap.get? b = some o → s'.heap.get? b = some o
  own : OwnC cs s'.heap
  con : C ys s'.heap
/-- the end of a run -/
def RX (P : Program) (w : World) (outer : List Env) (H : Hp) (s : Shared) (ex cs : List Addr) (C : List V → Heap → Prop) (G : GWs) (n : Nat) (s1 : Shared) : Prop :=
  ∃ H' ys, (n + ys.length = sizeLine + 1 ∧ 1 ≤ n) ∧ s1.os = s.os ∧ AllBare s1.gens ∧ Un (frs outer) ex H H' s.heap s1.heap ∧ HOk P w H' s1.heap ∧ (∀ b ∈ cs, H' b = none) ∧ C ys s1.heap ∧ OwnC cs s1.heap ∧ G.alive ys ∧ G.fin ys H'
/-- an item is handed out -/
def YX (P : Program) (w : World) (outer : List Env) (H : Hp) (s : Shared) (ex cs : List Addr) (C : List V → Heap → Prop) (a : Addr) (g : Nat) (G : GWs) : Protocol := fun n s₀ v s1 kap =>
  ∃ H' ys y, (n + ys.length = sizeLine ∧ ys.length < sizeLine) ∧ s1.os = s.os ∧ AllBare s1.gens ∧ s1.heap.NoLimit ∧ s1.heap.IsGen a g ∧ Un (frs outer) ex H H' s.heap s1.heap ∧ HOk P w H' s1.heap ∧ (∀ b ∈ cs, H' b = none) ∧ C ys s1.heap ∧ OwnC cs s1.heap ∧ G.alive ys ∧ RelV y v ∧
    (∃ i m, G.W (ys ++ [y]) i m H') ∧ ∀ s', Woke cs C (ys ++ [y]) s1 s' → G.alive (ys ++ [y]) → kap (.send .none) s'
abbrev RX' (P : Program) (w : World) (outer : List Env) (H : Hp) (s : Shared) (ex cs : List Addr) (C : List V → Heap → Prop) (G : GWs) : GenEnd := fun n s₀ r s1 => ((r = .ok (.ret .none) ∨ r = .ok .next) ∧ RX P w outer H s ex cs C G n s1) ∨ ∃ e, r = .error e ∧ False

theorem over_gen {A : Around} {elt : Expr} {gens : List Comprehension} {scope : Scope} {pos : Pos} {it acc : Value} {env : Env} : A.over (.compLoop (.GeneratorExp elt gens scope pos) 0 it acc env) [] = A.deeper env := by
  first
    | rfl
    | (obtain ⟨hd, d, fr, gs, u⟩ := A; simp [Around.over, Around.deeper, marksOver, frameCount, unitsOf, envsOf, guardsOf, pushEnvs, pushGuards, Code.envs, Code.env?, Code.isFrame, Code.guards, Code.isGuard, Code.weight, Code.frames, Code.isCreation, Code.isCaller, Code.cUnits])
section
variable {X : Cx} {s0 : Shared} {H0 : Hp} {ge : Env} {fp cs : List Addr} {A : Around} {a : Addr} {go : Obj} {gn : Nat}
/-- woken again: the consumer's objects may have changed -/
theorem inv_woken {cob : List (Addr × Obj)} {C : List V → Heap → Prop} {σ : L2.St} {H : Hp} {s s' : Shared} {ys : List V} (I : Inv (gcx X s0 H0 ge fp A [(a, go)]) cob σ H s) (hcob : ∀ b ∈ cs, ∃ p ∈ cob, p.1 = b) (hac : a ∉ cs) (hfc : ∀ b ∈ fp, b ∉ cs)
    (hlo : ∀ b ∈ cs, s0.heap.objs.size ≤ b) (z : Woke cs C ys s s') :
    ∃ cob', (∀ b ∈ cs, ∃ p ∈ cob', p.1 = b) ∧ (∀ p ∈ cob', p.1 ∈ cs) ∧ Inv (gcx X s0 H0 ge fp A [(a, go)]) cob' σ H s' := by
  have at_ : ∀ b ∈ cs, ∃ o, s.heap.get? b = some o ∧ H b = none ∧ b ≠ ge.locals ∧ b ∉ frs X.stack ∧ ∀ v, o.data ≠ .cell v := fun b hb => by
    obtain ⟨p, hp, e⟩ := hcob b hb
    obtain ⟨h1, h2, h3, h4, h5⟩ := I.pin p (List.mem_append_right _ hp)
    rw [e] at h1 h2 h3 h4
    exact ⟨p.2, h1, h2, h3, h4, h5⟩
  have nt : ∀ b u, H b = some u → b ∉ cs := fun b u q hb => by
    obtain ⟨_, _, n, _⟩ := at_ b hb
    rw [n] at q
    cases q
  have I0 : Inv (gcx X s0 H0 ge fp A [(a, go)]) [] σ H s := I.pins_of fun p hp => I.pin p (List.mem_append_left _ (by simpa using hp))
  obtain ⟨z1, z2, z3, z4, z5⟩ := z
  obtain ⟨hh, g, d, t, o⟩ := s'
  have ho : o = s.os := z1
  subst ho
  have J : Inv (gcx X s0 H0 ge fp A [(a, go)]) [] σ H { s with heap := hh, gens := g, drawn := d, toks := t } := by
    refine I0.step (g' := g) (t' := t) (d' := d) (ch := cs) (fun b hb => ?_)
      (fun b ob _ _ hc q _ => z3 b ob hc q) (fun b ob _ _ hc q _ => ⟨ob.slots, z3 b ob hc q⟩) (fun _ _ _ _ n => n) (fun b ob hc q => ⟨ob, z3 b ob hc q⟩)
      (fun _ _ q => q) (fun _ _ _ q => q) (fun b ps q => ⟨#[], by rw [q]; simp⟩) (fun m hm => ?_) (fun b u q => ?_) z2
    · obtain ⟨ob, e1, e2, e3, e4, e5⟩ := at_ b hb
      refine ⟨.inr (hlo b hb), e3, fun x c e q => ?_, fun p hp q => ?_⟩
      · obtain ⟨v, o', ho', hd'⟩ := I0.cell x c e
        rw [q, e1] at ho'
        cases ho'
        exact e5 v hd'
      · have hp : p ∈ [(a, go)] ++ ([] : List (Addr × Obj)) := hp
        have e : p = (a, go) := by simpa using hp
        rw [e] at q
        exact hac (by rw [show a = b from q]; exact hb)
    · obtain ⟨ob, es, ep, ho, r⟩ := hm
      refine ⟨ob, es, ep, z3 _ ob (fun hb => ?_) ho, r⟩
      obtain ⟨_, _, _, e3, _⟩ := at_ _ hb
      exact e3 rfl
    · refine (I0.hok b u q).stay (fun c v hc y => z3 c v ?_ y) (fun _ y => y) fun _ _ y => y
      rcases hc with y | y
      · rw [y]; exact nt b u q
      · exact nt c _ y
  refine ⟨pinsAt cs hh, fun b hb => ?_, fun p hp => (of_pinsAt hp).1, J.pins_of fun p hp => ?_⟩
  · obtain ⟨ob, e, _⟩ := z4 b hb
    exact ⟨(b, ob), mem_pinsAt hb e, rfl⟩
  · obtain ⟨hb, e⟩ := of_pinsAt hp
    obtain ⟨ob, _, e2, e3, e4, _⟩ := at_ p.1 hb
    obtain ⟨ob', e', d'⟩ := z4 p.1 hb
    have e' : hh.get? p.1 = some ob' := e'
    rw [e] at e'
    cases e'
    exact ⟨e, e2, e3, e4, d'⟩

theorem seg_gloop {elt tg iter : Expr} {ifs : List Expr} {scope : Scope} {pos : Pos} {it : Addr} {J : It} {tn : Nat → Heap → Prop} {g : TG} {tt : TT} {te : TE} {vs : List Nat} {σ : L2.St} {G : GWs} {C : List V → Heap → Prop}
    (T : Turn X.prog X.w X.K tg J fp it tn) (hco : ge.scope.isCoroutine = false) (hg0 : go.cls = .type "generator" ∧ (∃ nm qn, go.data = .fields #[.int gn 0, nm, qn]) ∧ go.slots = #[])
    (hg : PG (gcx X s0 H0 ge fp A [(a, go)]) tg g) (ht : PTs (gcx X s0 H0 ge fp A [(a, go)]) ifs tt) (he : PE (gcx X s0 H0 ge fp A [(a, go)]) elt te)
    (turn : GTurn J g tt te vs σ G) (hfa : ∀ b ∈ fp, b ≠ a) (hac : a ∉ cs) (hfc : ∀ b ∈ fp, b ∉ cs) (hlo : ∀ b ∈ cs, s0.heap.objs.size ≤ b) (hC : ConC cs C) :
    ∀ (m n i : Nat) (ys : List V) (H : Hp) (cob : List (Addr × Obj)) (s₀ s : Shared), (n + ys.length = sizeLine + 1 ∧ 1 ≤ n) → G.alive ys → G.W ys i m H → (∀ b ∈ cs, ∃ p ∈ cob, p.1 = b) → (∀ p ∈ cob, p.1 ∈ cs) → Inv (gcx X s0 H0 ge fp A [(a, go)]) cob (wipe σ vs) H s → tn i s.heap → (∀ b ∈ fp, H b = none) → C ys s.heap →
      Seg (model X.prog X.w) A (RX' X.prog X.w X.stack H0 s0 fp cs C G) (YX X.prog X.w X.stack H0 s0 fp cs C a gn G) n s₀
        (.compLoop (.GeneratorExp elt [⟨tg, iter, ifs, 0⟩] scope pos) 0 (.ref it) .none ge) ((model X.prog X.w).den (.compLoop (.GeneratorExp elt [⟨tg, iter, ifs, 0⟩] scope pos) 0 (.ref it) .none ge)) [] s := by
  have ov : A.over (.compLoop (.GeneratorExp elt [⟨tg, iter, ifs, 0⟩] scope pos) 0 (.ref it) .none ge) [] = A.deeper ge := over_gen
  have stat : ∀ {cob : List (Addr × Obj)} {σ' : L2.St} {H' : Hp} {s' : Shared}, Inv (gcx X s0 H0 ge fp A [(a, go)]) cob σ' H' s' → (∀ p ∈ cob, p.1 ∈ cs) → (∀ b ∈ fp, H' b = none) → (∀ b ∈ fp, b ≠ a) → ∀ b ∈ fp, FpOk (gcx X s0 H0 ge fp A [(a, go)]) cob H' b := fun {cob σ' H' s'} I' hcc hn hfa b hb =>
    ⟨hn b hb, (I'.ok.exf b hb).1, I'.ok.exfs b hb, .inl hb, fun x c e => (I'.ok.exf b hb).2 x c e, fun p hp z => by
      rcases List.mem_append.mp hp with hp | hp
      · have hp : p ∈ [(a, go)] := hp
        have e : p = (a, go) := by simpa using hp
        rw [e] at z
        exact hfa b hb z.symm
      · exact hfc b hb (by rw [← z]; exact hcc p hp)⟩
  intro m
  induction m using Nat.strongRecOn with
  | ind m ih =>
  intro n i ys H cob s₀ s hn hal hW hcb hcc I st nf hCs
  show Seg _ A _ _ _ s₀ _ ((compTurn (.GeneratorExp elt [⟨tg, iter, ifs, 0⟩] scope pos) 0 (.ref it) .none ge).onRaise (leaving ge)) [] s
  rw [compTurn_gen, Sem.onRaise_eq_wrap]
  refine seg_bind_wrap (wpAny_standAt ?_)
  have done_of : ∀ {ys : List V} {n : Nat} {H1 : Hp} {s1 : Shared} {cob : List (Addr × Obj)} {σ1 : L2.St}, (∀ b ∈ cs, ∃ p ∈ cob, p.1 = b) → Inv (gcx X s0 H0 ge fp A [(a, go)]) cob σ1 H1 s1 → (∀ b ∈ cs, H1 b = none) ∧ OwnC cs s1.heap := fun {ys n H1 s1 cob σ1} hcb I1 => by
    refine ⟨fun b hb => ?_, fun b hb => ?_⟩
    · obtain ⟨p, hp, e⟩ := hcb b hb
      have q := (I1.pin p (List.mem_append_right _ hp)).2.1
      rw [e] at q
      exact q
    · obtain ⟨p, hp, e⟩ := hcb b hb
      obtain ⟨q, _, _, _, d⟩ := I1.pin p (List.mem_append_right _ hp)
      rw [e] at q
      exact ⟨p.2, q, d⟩
  have conK : ∀ {ys : List V} {H1 : Hp} {s s1 : Shared} {cob pl : List (Addr × Obj)} {σ σ1 : L2.St} {H : Hp}, (∀ b ∈ cs, ∃ p ∈ cob, p.1 = b) → Inv (gcx X s0 H0 ge fp A [(a, go)]) cob σ H s → C ys s.heap → Inv (gcx X s0 H0 ge fp A [(a, go)]) (cob ++ pl) σ1 H1 s1 → C ys s1.heap := fun {ys H1 s s1 cob pl σ σ1 H} hcb I hCs I1 => by
    refine hC ys _ _ hCs fun b hb o e => ?_
    obtain ⟨p, hp, e'⟩ := hcb b hb
    have q0 := (I.pin p (List.mem_append_right _ hp)).1
    have q := (I1.pin p (List.mem_append_right _ (List.mem_append_left _ hp))).1
    rw [e', e] at q0
    cases q0
    rw [e'] at q
    exact q
  rcases turn ys i m H hal hW with ⟨stop, hfin⟩ | ⟨go', NF, NY, hNF, hNY, step⟩
  · have td := T.done (gcx X s0 H0 ge fp A [(a, go)]) rfl rfl rfl rfl i cob s _ H (fun _ _ => False) I (stat I hcc nf hfa) st stop
    refine seg_bind_wrap ?_
    rw [ov]
    refine wpAny_mono td (fun r s6 ⟨hr, I6⟩ => ?_) fun _ _ q => q.elim
    subst hr
    obtain ⟨d1, d2⟩ := done_of (ys := ys) (n := n) hcb I6
    exact seg_end (.ok .next) (.inl ⟨.inr rfl, H, ys, hn, I6.os, I6.bare, I6.base, I6.hok, d1, conK (pl := []) hcb I hCs (by rw [List.append_nil]; exact I6), d2, hal, hfin⟩)
  · have ti := T.item (gcx X s0 H0 ge fp A [(a, go)]) rfl rfl rfl rfl i cob s _ H (fun _ _ => False) I (stat I hcc nf hfa) st go'
    refine seg_bind_wrap ?_
    rw [ov]
    refine wpAny_mono ti (fun r s6 ⟨u, hr, h6⟩ => ?_) fun _ _ q => q.elim
    subst hr
    refine seg_bind_wrap ?_
    rw [ov]
    refine wpAny_mono h6 (fun _ s7 ⟨x, H7, I7, r7, y7, st7, n7⟩ => ?_) fun _ _ q => q.elim
    have I7' := I7.pinned (stat I7 hcc n7 hfa) (T.obj _ _ st7)
    refine seg_bind_wrap ?_
    rw [ov]
    refine wpAny_mono (hg.run _ s7 _ H7 x u _ I7' r7 (step x H7 y7)) (fun _ s8 ⟨σ8, H8, I8, hw8, q8⟩ => ?_) fun _ _ q => False.elim q
    refine seg_bind_wrap ?_
    rw [ov]
    refine wpAny_mono (ht.run _ s8 σ8 H8 _ I8 q8) (fun b s9 ⟨H9, I9, q9⟩ => ?_) fun _ _ q => False.elim q
    have hl : (wipe σ vs).length = σ8.length := by rw [← hw8, wipe_length]
    -- back at the loop's head
    have back : ∀ {H' : Hp} {s' : Shared} {cob' : List (Addr × Obj)}, Inv (gcx X s0 H0 ge fp A [(a, go)]) (cob' ++ pinsAt fp s7.heap) σ8 H' s' → Inv (gcx X s0 H0 ge fp A [(a, go)]) cob' (wipe σ vs) H' s' ∧ tn (i + 1) s'.heap ∧ (∀ b ∈ fp, H' b = none) := fun {H' s' cob'} I' => by
      have pin' : ∀ b ∈ fp, ∀ o, s7.heap.get? b = some o → s'.heap.get? b = some o ∧ H' b = none := fun b hb o e =>
        let z := I'.pin (b, o) (List.mem_append_right _ (List.mem_append_right _ (mem_pinsAt hb e)))
        ⟨z.1, z.2.1⟩
      refine ⟨(I'.unpinned).weak hl (fun j v e => ?_), T.keep _ _ _ st7 fun b hb o e => (pin' b hb o e).1, fun b hb => ?_⟩
      · rw [← hw8] at e
        exact (wipe_some e).1
      · obtain ⟨o, e, _⟩ := T.obj _ _ st7 b hb
        exact (pin' b hb o e).2
    cases b with
    | false =>
      simp only [Bool.false_eq_true, if_false] at q9 ⊢
      obtain ⟨m', hm, w'⟩ := hNF _ q9
      obtain ⟨b1, b2, b3⟩ := back I9
      exact seg_again rfl (ih m' hm n (i + 1) ys H9 cob s₀ s9 hn hal w' hcb hcc b1 b2 b3 (conK hcb I hCs I9))
    | true =>
      simp only [if_true] at q9 ⊢
      have hy : ∀ v, yieldOut ge v = yieldValue v := fun v => by simp only [yieldOut, hco, Bool.false_eq_true, if_false]
      simp only [hy]
      rw [Sem.bind_eq_wrap', Sem.bind_eq_wrap', Sem.wrap_wrap, Sem.wrap_wrap]
      refine seg_wrap ?_
      rw [ov]
      refine wpAny_mono (he.run _ s9 σ8 H9 _ I9 q9) (fun z s10 ⟨yv, H10, I10, r10, hlt, ny⟩ => ?_) fun _ _ q => False.elim q
      obtain ⟨m', hm, w'⟩ := hNY _ _ ny
      obtain ⟨n', rfl⟩ : ∃ k, n = k + 1 := ⟨n - 1, by omega⟩
      obtain ⟨b1, b2, b3⟩ := back I10
      obtain ⟨d1, d2⟩ := done_of (ys := ys) (n := n') hcb I10.unpinned
      have hC10 : C ys s10.heap := conK hcb I hCs I10
      have hgen : s10.heap.IsGen a gn := by
        obtain ⟨c1, ⟨nm, qn, c2⟩, c3⟩ := hg0
        exact ⟨go, nm, qn, (I10.pin (a, go) (List.mem_append_left _ (List.mem_singleton.mpr rfl))).1, c1, c2, c3⟩
      refine seg_at (seg_yield rfl rfl rfl ⟨H10, ys, yv, ⟨by omega, hlt⟩, I10.os, I10.bare, I10.nolimit, hgen, I10.base, I10.hok, d1, hC10, d2, hal, r10, ⟨_, _, w'⟩, fun s' wk hal' => ?_⟩)
      obtain ⟨cob', e1, e2, I11⟩ := inv_woken b1 hcb hac hfc hlo wk
      refine seg_again rfl (ih m' hm n' (i + 1) (ys ++ [yv]) H10 cob' s' s' (by rw [List.length_append, List.length_singleton]; exact ⟨by omega, by omega⟩) hal' w' e1 e2 I11 (T.keep _ _ _ b2 fun b hb o e => wk.keep b o (hfc b hb) e) b3 wk.con)
end
end GX

set_option Elab.async false
set_option linter.all false
set_option maxRecDepth 100000
set_option maxHeartbeats 2000000
namespace GX
open PySem PySem.Spec PyProof.Rows L2 GenW

/-! ## 4. a generator expression's value -/
def GMadeX (P : Program) (w : World) (k : Nat) (outer : List Env) (H : Hp) (s : Shared) (ex : List Addr) (G : GWs) (u : Value) (s' : Shared) : Prop :=
  ∃ (a : Addr) (g : Nat) (c : Code), u = .ref a ∧ s.heap.objs.size ≤ a ∧ a < s'.heap.objs.size ∧ s'.heap.IsGen a g ∧ s'.gens[g]? = some (.fresh c) ∧ s'.os = s.os ∧ AllBare s'.gens ∧ s'.heap.NoLimit ∧ (∀ b o, s.heap.get? b = some o → s'.heap.get? b = some o) ∧
    G.alive [] ∧ ∀ (A : Around) (cs : List Addr) (C : List V → Heap → Prop) (s2 : Shared), Room (k + 1) A → A.frames = some outer → (∀ b ∈ cs, s'.heap.objs.size ≤ b) → ConC cs C → (∀ b o, s'.heap.get? b = some o → s2.heap.get? b = some o) → OwnC cs s2.heap → C [] s2.heap → s2.os = s.os → AllBare s2.gens →
      Seg (model P w) A (RX' P w outer H s ex cs C G) (YX P w outer H s ex cs C a g G) (sizeLine + 1) s2 c ((model P w).den c) [] s2
abbrev TGx := L2.St → Hp → (GWs → Hp → Prop) → Prop
structure PGx (X : Cx) (k : Nat) (e : Expr) (tg : TGx) : Prop where
  run : ∀ (pins : List (Addr × Obj)) (s : Shared) (σ : L2.St) (H : Hp) (R : GWs → Hp → Prop), Inv X pins σ H s → tg σ H R → wpAny (model X.prog X.w) X.A (eval e X.env)
    (fun u s' => ∃ H1 sc ex G, Inv X pins σ H1 sc ∧ ExOk X pins ex ∧ GMadeX X.prog X.w k X.stack H1 sc ex G u s' ∧ R G H1) X.xe s
def tGen (B : Heap) (nm : Nat → Nat → Option Str) (c : Addr) (wi : TI) (g : TG) (tt : Addr → TT) (te : Addr → TE) (vs : List Nat) : TGx := fun σ H R => wi σ H fun J H1 =>
  (∃ P, CodeAt B H1 c P ∧ ∃ ps, H1 P = some (.tbl ps)) ∧ AllTabs nm H1 ∧ ∀ (H2 : Hp) (c' P' : Addr), Grown H1 H2 → AllTabs nm H2 → H2 c' = some (CodeG c' P') → (∃ ps', H2 P' = some (.tbl ps')) →
    ∃ G : GWs, G.alive [] ∧ (∃ m, G.W [] 0 m H2) ∧ GTurn J g (tt c') (te c') vs σ G ∧ R G H2
/-- the main module's builtins -/
def Bm (base : Heap) (mg : Str → Option Value) : Prop := ∃ (bm : Addr) (ob : Obj), mg "__builtins__" = some (.ref bm) ∧ bm ≠ builtinsNs ∧ base.get? bm = some ob ∧ ob.cls = .type "module" ∧ ob.dict = some builtinsNs ∧ ob.data = .plain

section
variable {X : Cx}
theorem pgx_gen {elt tg iter : Expr} {ifs : List Expr} {scope : Scope} {own : List (Str × Nat)} {pos : Pos} {wi : TI} {g : TG} {tt : Addr → TT} {te : Addr → TE} {c : Addr} {nm : Nat → Nat → Option Str} {k : Nat}
    (hc : X.calm = true) (hN : X.N.Nodup) (hr : Room 0 X.A) (hcode : X.env.code = .ref c) (hb : Bm X.base X.mg) (hn : nm pos.line pos.col = none) (hi : PI X tg iter wi) (ok : GenOk X.N X.env.scope scope own)
    (hg : ∀ (s : Shared) (H : Hp) (cells : List (Str × Addr)) (L c' : Addr) (fp : List Addr) (A : Around) (pn : List (Addr × Obj)), PG (gcx X s H (genv X scope cells L (.ref c')) fp A pn) tg g)
    (ht : ∀ (s : Shared) (H : Hp) (cells : List (Str × Addr)) (L c' : Addr) (fp : List Addr) (A : Around) (pn : List (Addr × Obj)), Room k (A.deeper (genv X scope cells L (.ref c'))) → PTs (gcx X s H (genv X scope cells L (.ref c')) fp A pn) ifs (tt c'))
    (he : ∀ (s : Shared) (H : Hp) (cells : List (Str × Addr)) (L c' : Addr) (fp : List Addr) (A : Around) (pn : List (Addr × Obj)), Room k (A.deeper (genv X scope cells L (.ref c'))) → PE (gcx X s H (genv X scope cells L (.ref c')) fp A pn) elt (te c'))
    (hs : ∀ x, genFold iter X.env x = pure x := by intro _; rfl) :
    PGx X k (.GeneratorExp elt [⟨tg, iter, ifs, 0⟩] scope pos) (tGen X.base nm c wi g tt te (own.map (·.2))) := by
  refine ⟨fun pins s σ H R I h => ?_⟩
  have hfree : ∀ y ∈ scope.names, y.2 = .free → ∃ c, X.env.cells.lookup y.1 = some c := fun y hy e => by
    rcases ok.free y hy e with k | k
    · exact I.ok.has _ (.inl k)
    · exact I.ok.has _ (.inr k)
  rw [eval_GeneratorExp1 _ _ _ _ _ _ _ ok.co]
  refine wpAny_bind (thn (hi.run pins s σ H _ I h) fun xv s1 hx => ?_)
  refine wpAny_bind (wpAny_standAt ?_)
  refine wpAny_bind (wpAny_of_eq (hs xv) ?_)
  refine wpAny_bind (wpAny_holding (thn hx fun itv s2 h2 => ?_))
  obtain ⟨it, fp, tn, J, H2, e, I2, T, st2, f2, hCode, hTabs, hG⟩ := h2
  subst e
  obtain ⟨P, hCA, hPt⟩ := hCode
  refine wpAny_bind (wpAny_enterFrame I2.nolimit hr.depth ?_)
  rw [closure_ok hfree]
  refine wpAny_bind (wpAny_pure ?_)
  refine wpAny_bind (gen_code I2 hcode hCA hPt hTabs hn fun c' P' H3 s3 I3 G3 T3 eg3 k3 hP3 sz3 nn3 hc3 hp3 => ?_)
  obtain ⟨bm, ob, b1, b2, b3, b4, b5, b6⟩ := hb
  refine wpAny_bind (wpAny_builtinsFor (m := X.mg) (by rw [I3.ok.glob]; exact I3.mod.glob.keeps I3.bk) b1 b2 (I3.bk _ _ b3) b4 b5 b6 ?_)
  refine wpAny_bind (newEnv_gen ok.kind ok.dot fun h5 tk5 hn5 hs5 => ?_)
  obtain ⟨G, hal, ⟨m0, w0⟩, turn, hR⟩ := hG H3 c' P' G3 T3 hc3 hp3
  simp only [newGenerator, newFields]
  refine wpAny_bind (wpAny_newGen (wpAny_bind (wpAny_mkText (wpAny_bind (wpAny_mkText (wpAny_newObj_type ?_ (by size_fits)))))))
  -- the iterator's objects
  have fex : ∀ b ∈ fp, ∃ o, s2.heap.get? b = some o := fun b hb => by
    obtain ⟨o, e, _⟩ := T.obj _ _ st2 b hb
    exact ⟨o, e⟩
  have sz2 : ∀ b ∈ fp, b < s2.heap.objs.size := fun b hb => let ⟨o, e⟩ := fex b hb; Heap.lt_size e
  have fnP : ∀ b ∈ fp, b ≠ P := fun b hb z => by
    obtain ⟨ps, hps⟩ := hPt
    have q := (f2 b hb).1
    rw [z, hps] at q
    cases q
  have f3 : ∀ b ∈ fp, FpOk X pins H3 b ∧ b < s3.heap.objs.size := fun b hb => by
    obtain ⟨o, e⟩ := fex b hb
    exact ⟨⟨nn3 b o e (f2 b hb).1, (f2 b hb).2⟩, Nat.lt_of_lt_of_le (sz2 b hb) sz3⟩
  have st3 : tn 0 s3.heap := T.keep _ _ _ st2 fun b hb o e => k3 b o (fnP b hb) e
  have ex3 : ExOk X pins fp := fun b hb => ⟨(f3 b hb).1.2.2.2.1, (f3 b hb).1.2.1, (f3 b hb).1.2.2.2.2.1, (f3 b hb).1.2.2.2.2.2⟩
  have kp5 : ∀ b o, s3.heap.get? b = some o → h5.get? b = some o := fun b o e => hs5.extBut b o (Nat.ne_of_lt (Heap.lt_size e)) (pushCells_keeps _ _ _ _ (Heap.get?_push_of_some _ e))
  have lt5 : s3.heap.objs.size < h5.objs.size := hn5.lt
  have key : ∀ (gob : Obj) (tk2 : Nat), gob.cls = .type "generator" → (∃ nm qn, gob.data = .fields #[.int s3.gens.size 0, nm, qn]) → gob.slots = #[] → (∀ h : Heap, (h.push gob).get? h.objs.size = some gob) →
      GMadeX X.prog X.w k X.stack H3 s3 fp G (.ref h5.objs.size) { s3 with gens := s3.gens.push (.fresh (.compStart (.GeneratorExp elt [⟨tg, iter, ifs, 0⟩] scope pos) 0 (.ref it) .none (genv X scope (cellsFrom (s3.heap.objs.size + 1) scope.names (cloFrom X.env.cells scope.names [])) s3.heap.objs.size (.ref c')))), toks := tk2, heap := h5.push gob } := by
    intro gob tk2 gc gd gs gp
    obtain ⟨gnm, gqn, gd'⟩ := id gd
    have hpushed : (h5.push gob).get? h5.objs.size = some gob := gp _
    have kp6 : ∀ b o, s3.heap.get? b = some o → (h5.push gob).get? b = some o := fun b o e => Heap.get?_push_of_some _ (kp5 b o e)
    refine ⟨h5.objs.size, s3.gens.size, _, rfl, Nat.le_of_lt lt5, ?_, ⟨gob, gnm, gqn, hpushed, gc, gd', gs⟩, Array.getElem?_push_size .., rfl, AllBare.push I3.bare rfl, I3.nolimit.keeps kp6, kp6, hal, ?_⟩
    · show _ < (h5.push gob).objs.size
      rw [Heap.size_push]; exact Nat.lt_succ_self _
    intro Aw cs C s7 hrw hfr hcs hC hk7 hown hC0 hos hba
    have I5 := gen_start (code := .ref c') (tk := tk5) I3 { ok with } hN f3 hrw.hd hfr hn5 hs5
    generalize hge : genv X scope (cellsFrom (s3.heap.objs.size + 1) scope.names (cloFrom X.env.cells scope.names [])) s3.heap.objs.size (.ref c') = ge at I5 ⊢
    have kp7 : ∀ b o, h5.get? b = some o → s7.heap.get? b = some o := fun b o e => hk7 b o (Heap.get?_push_of_some _ e)
    have I7 : Inv (gcx X s3 H3 ge fp Aw []) [] (wipe σ (own.map (·.2))) H3 s7 := I5.call' (ch := []) hos (Un.kept kp7) (I5.hok.kept kp7) hba fun b z => by simp at z
    have young : ∀ b, h5.objs.size ≤ b → H3 b = none ∧ b ≠ ge.locals ∧ b ∉ frs X.stack ∧ s3.heap.objs.size ≤ b := fun b hb =>
      ⟨I5.hok.fresh hb, by rw [← hge]; exact Nat.ne_of_gt (Nat.lt_of_lt_of_le lt5 hb), I5.nofs hb, Nat.le_trans (Nat.le_of_lt lt5) hb⟩
    have hcs5 : ∀ b ∈ cs, h5.objs.size < b := fun b hb => by
      have q : (h5.push gob).objs.size ≤ b := hcs b hb
      rw [Heap.size_push] at q
      exact q
    have hgnc : ∀ v, gob.data ≠ .cell v := fun v z => by rw [gd'] at z; cases z
    have pinned : Inv (gcx X s3 H3 ge fp Aw [(h5.objs.size, gob)]) (pinsAt cs s7.heap) (wipe σ (own.map (·.2))) H3 s7 := Inv.pinX I7 fun p hp => by
      rcases List.mem_append.mp hp with z | z
      · rw [List.mem_singleton.mp z]
        obtain ⟨y1, y2, y3, _⟩ := young h5.objs.size (Nat.le_refl _)
        exact ⟨hk7 _ _ hpushed, y1, y2, y3, hgnc⟩
      · obtain ⟨hb, e⟩ := of_pinsAt z
        obtain ⟨y1, y2, y3, _⟩ := young p.1 (Nat.le_of_lt (hcs5 p.1 hb))
        obtain ⟨o, e', d⟩ := hown p.1 hb
        rw [e] at e'
        cases e'
        exact ⟨e, y1, y2, y3, d⟩
    have st7 : tn 0 s7.heap := T.keep _ _ _ st3 fun b _ o e => kp7 b o (kp5 b o e)
    have roomB : Room k (Aw.deeper ge) := hrw.deeper _
    have loop := seg_gloop (X := X) (s0 := s3) (H0 := H3) (ge := ge) (fp := fp) (cs := cs) (A := Aw) (a := h5.objs.size) (go := gob) (gn := s3.gens.size) (elt := elt) (tg := tg) (iter := iter) (ifs := ifs) (scope := scope) (pos := pos) (it := it) (C := C) (G := G)
      T (by rw [← hge]; exact ok.co) ⟨gc, gd, gs⟩ (by rw [← hge]; exact hg _ _ _ _ _ _ _ _) (by rw [← hge] at roomB ⊢; exact ht _ _ _ _ _ _ _ _ roomB) (by rw [← hge] at roomB ⊢; exact he _ _ _ _ _ _ _ _ roomB) turn
      (fun b hb => Nat.ne_of_lt (Nat.lt_trans (f3 b hb).2 lt5)) (fun z => Nat.lt_irrefl _ (hcs5 _ z)) (fun b hb z => Nat.lt_irrefl _ (Nat.lt_trans (Nat.lt_trans (f3 b hb).2 lt5) (hcs5 b z))) (fun b hb => Nat.le_trans (Nat.le_of_lt lt5) (Nat.le_of_lt (hcs5 b hb))) hC
      m0 (sizeLine + 1) 0 [] H3 (pinsAt cs s7.heap) s7 s7 ⟨Nat.add_zero _, Nat.le_add_left _ _⟩ hal w0 (fun b hb => by obtain ⟨o, e, _⟩ := hown b hb; exact ⟨(b, o), mem_pinsAt hb e, rfl⟩) (fun p hp => (of_pinsAt hp).1) pinned st7 (fun b hb => (f3 b hb).1.1) hC0
    show Seg _ Aw _ _ _ s7 _ ((compStart (.GeneratorExp elt [⟨tg, iter, ifs, 0⟩] scope pos) 0 (.ref it) .none ge).onRaise (leaving ge)) [] s7
    unfold compStart
    rw [Sem.onRaise_eq_wrap]
    show Seg _ Aw _ _ _ s7 _ ((ask >>= _).wrap _ _ _ _) [] s7
    refine seg_bind_wrap (wpAny_askSetting ?_)
    split
    · exact seg_again rfl loop
    · first
        | exact seg_bind_wrap (wpAny_rule (seg_bind_wrap (wpAny_standAt (seg_bind_wrap (T.self _ 0 s7 _ _ st7 (seg_again rfl loop))))))
        | (refine seg_bind_wrap (wpAny_rule ?_); show Seg _ Aw _ _ _ s7 _ ((standAt iter.pos >>= _).wrap _ _ _ _) [] s7; exact seg_bind_wrap (wpAny_standAt (seg_bind_wrap (T.self _ 0 s7 _ _ st7 (seg_again rfl loop)))))
  refine ⟨H3, s3, fp, G, I3, ex3, ?_, hR⟩
  have e5 : genv X scope (cellsFrom (s3.heap.objs.size + 1) scope.names (cloFrom X.env.cells scope.names [])) s3.heap.objs.size (.ref c') = newEnv scope s3.heap.objs.size X.env.globals (cellsFrom (s3.heap.objs.size + 1) scope.names (cloFrom X.env.cells scope.names [])) (X.env.qual ++ "<genexpr>.") none (.ref c') none builtinsNs := rfl
  exact key _ _ rfl ⟨_, _, rfl⟩ rfl fun h => Heap.get?_push_size _ rfl
end
end GX

set_option Elab.async false
set_option linter.all false
set_option maxRecDepth 100000
set_option maxHeartbeats 2000000
namespace GX
open PySem PySem.Spec PyProof.Rows L2 GenW

/-! ## 5. who asks the generator -/
section
variable {P : Program} {w : World} {outer : List Env} {H : Hp} {sc : Shared} {ex cs : List Addr} {C : List V → Heap → Prop} {G : GWs} {a : Addr} {g : Nat}
/-- the generator waits to be asked: n items at most are left -/
def Waits (P : Program) (w : World) (outer : List Env) (H : Hp) (sc : Shared) (ex cs : List Addr) (C : List V → Heap → Prop) (G : GWs) (a : Addr) (g : Nat) (A : Around) (n : Nat) (s : Shared) : Prop :=
  s.heap.IsGen a g ∧ s.heap.NoLimit ∧ ∃ gs, s.gens[g]? = some gs ∧ gs.Goes (model P w) A.in1 (RX' P w outer H sc ex cs C G) (YX P w outer H sc ex cs C a g G) n (.send .none) (s.setGen g .running)
/-- it is asked once -/
theorem next_X {A : Around} {E : Value → Shared → Prop} {n : Nat} {s : Shared} {Q : Option Value → Shared → Prop} (hh : A.handled = none) (hd : A.depth < recursionLimit) (hw : Waits P w outer H sc ex cs C G a g A n s) (hcs : cStatics ∉ cs) (hac : a ∉ cs)
    (hY : ∀ (v : Value) (s1 : Shared) (y : V) (ys : List V) (H' : Hp) (m : Nat), n = m + 1 → m + ys.length = sizeLine → ys.length < sizeLine → s1.os = sc.os → AllBare s1.gens → Un (frs outer) ex H H' sc.heap s1.heap → HOk P w H' s1.heap → (∀ b ∈ cs, H' b = none) → C ys s1.heap → OwnC cs s1.heap → G.alive ys → RelV y v → (∃ i k, G.W (ys ++ [y]) i k H') →
      (∀ s2 : Shared, s2.gens = s1.gens → Woke cs C (ys ++ [y]) s1 s2 → G.alive (ys ++ [y]) → Waits P w outer H sc ex cs C G a g A m s2) → Q (some v) s1)
    (hF : ∀ (s1 : Shared) (ys : List V) (H' : Hp), (n + ys.length = sizeLine + 1 ∧ 1 ≤ n) → s1.os = sc.os → AllBare s1.gens → Un (frs outer) ex H H' sc.heap s1.heap → HOk P w H' s1.heap → (∀ b ∈ cs, H' b = none) → C ys s1.heap → OwnC cs s1.heap → G.alive ys → G.fin ys H' → Q none s1) (hC : ConC cs C) :
    wpAny (model P w) A (pyNext (.ref a)) Q E s := by
  obtain ⟨hg, hl, gs, hgs, hgo⟩ := hw
  have hgl : g < s.gens.size := (Array.getElem?_eq_some_iff.mp hgs).1
  refine wpAny_gsz (n := g + 1) hgl (next_genG (F := fun n _ s1 => RX P w outer H sc ex cs C G n s1) (Er := fun _ _ => False) hh hl hd hg hgs hgo (fun v s₁ gs' hbare hv => ?_) (fun s₁ hp h' hk => ?_) fun e s₁ he => he.elim)
  · intro hsz
    obtain ⟨H', ys, y, ⟨hn, hlt⟩, os1, hb1, hl1, hg1, un, hok, hcn, hCy, hown, hal, rv, hW, hkap⟩ := hv
    cases n with
    | zero =>
      exfalso
      have hn' : 0 - 1 + ys.length = sizeLine := hn
      omega
    | succ m =>
      have hsz1 : g < s₁.gens.size := by
        have q : (s₁.setGen g gs').gens.size = s₁.gens.size := setGen_size _ _ _
        have hsz' : g + 1 ≤ (s₁.setGen g gs').gens.size := hsz
        omega
      refine hY v (s₁.setGen g gs') y ys H' m rfl hn hlt os1 (allBare_setGen hb1 hbare) un hok hcn hCy hown hal rv hW fun s2 eg wk hal2 => ⟨?_, ?_, gs', ?_, ?_⟩
      · obtain ⟨o, nm, qn, ho, r⟩ := hg1
        exact ⟨o, nm, qn, wk.keep a o hac ho, r⟩
      · obtain ⟨mc, hns, hnn⟩ := hl1
        exact ⟨mc, hns.at' fun o e => wk.keep _ o hcs e, hnn⟩
      · rw [eg]
        exact setGen_at hsz1
      · refine hkap (s2.setGen g .running) ⟨wk.os, allBare_setGen wk.bare rfl, wk.keep, wk.own, wk.con⟩ hal2
  · intro _
    obtain ⟨H', ys, hn, os1, hb1, un, hok, hcn, hCy, hown, hal, hfin⟩ := hp
    refine hF _ ys H' hn os1 (allBare_setGen (s := s₁) hb1 rfl) (un.trans (Un.kept hk)) (hok.kept hk) hcn (hC _ _ _ hCy fun b _ o e => hk b o e) (fun b hb => ?_) hal hfin
    obtain ⟨o, e, d⟩ := hown b hb
    exact ⟨o, hk b o e, d⟩

/-- all(g): the turns -/
theorem all_X {A : Around} {R : Result → Shared → Prop} {Qt Qf : Hp → Prop} (hh : A.handled = none) (hd : A.depth < recursionLimit)
    (hyes : ∀ ys y i k H', G.alive ys → G.W (ys ++ [y]) i k H' → ∃ c : Bool, y = .bl c ∧ (c = true → G.alive (ys ++ [y])) ∧ (c = false → Qf H')) (hfin : ∀ ys H', G.alive ys → G.fin ys H' → Qt H')
    (hend : ∀ (b : Bool) (s' : Shared) (H' : Hp), s'.os = sc.os → AllBare s'.gens → Un (frs outer) ex H H' sc.heap s'.heap → HOk P w H' s'.heap → (if b = true then Qt H' else Qf H') → R (.ok (.ret (.bool b))) s') :
    ∀ (n : Nat) (s : Shared), Waits P w outer H sc ex [] (fun _ _ => True) G a g A.in1 n s → codeAny (model P w) A (.builtin "all.loop" ⟨[.ref a], []⟩) R s := by
  intro n
  induction n with
  | zero =>
    intro s hw
    refine codeAny_builtin F.entry_all_loop ?_
    rw [Around.under_plainId F.plain_all_loop _]
    show wpAny _ A.in1 (pyNext (.ref a) >>= _) _ _ s
    refine wpAny_bind (next_X (A := A.in1) hh hd hw (by simp) (by simp) (fun v s1 y ys H' m e => by omega) (fun s1 ys H' _ os1 hb1 un hok _ _ _ hal hf => ?_) fun _ _ _ _ _ => trivial)
    exact wpAny_bind (wpAny_rule (wpAny_pure (hend true s1 H' os1 hb1 un hok (by rw [if_pos rfl]; exact hfin ys H' hal hf))))
  | succ n ih =>
    intro s hw
    refine codeAny_builtin F.entry_all_loop ?_
    rw [Around.under_plainId F.plain_all_loop _]
    show wpAny _ A.in1 (pyNext (.ref a) >>= _) _ _ s
    refine wpAny_bind (next_X (A := A.in1) hh hd hw (by simp) (by simp) (fun v s1 y ys H' m e _ _ os1 hb1 un hok _ _ _ hal rv hW hk => ?_) (fun s1 ys H' _ os1 hb1 un hok _ _ _ hal hf => ?_) fun _ _ _ _ _ => trivial)
    · obtain ⟨i, k, hW⟩ := hW
      obtain ⟨c, rfl, h1, h2⟩ := hyes ys y i k H' hal hW
      obtain rfl : v = Value.bool c := rv
      obtain rfl : n = m := by omega
      refine wpAny_bind (wpAny_holding (wpAny_truthy_bool ?_))
      refine wpAny_bind (wpAny_letGo ?_)
      cases c with
      | true =>
        simp only [if_true]
        refine wpAny_pure ⟨plainId_quiet F.plain_all_loop _, ih s1 (hk s1 rfl ⟨rfl, hb1, fun _ _ _ e => e, fun b hb => by simp at hb, trivial⟩ (h1 rfl))⟩
      | false =>
        simp only [Bool.false_eq_true, if_false]
        exact wpAny_bind (wpAny_rule (wpAny_pure (hend false s1 H' os1 hb1 un hok (by rw [if_neg Bool.false_ne_true]; exact h2 rfl))))
    · exact wpAny_bind (wpAny_rule (wpAny_pure (hend true s1 H' os1 hb1 un hok (by rw [if_pos rfl]; exact hfin ys H' hal hf))))
/-- a list that is filled from g tells what came -/
def ConL (S : Addr) (ys : List V) (h : Heap) : Prop := ∃ acc c, h.get? S = some (lstObj acc c) ∧ Vals ys acc.toList
theorem conL_ok {S : Addr} : ConC [S] (ConL S) := fun ys h h' ⟨acc, c, e, r⟩ k => ⟨acc, c, k S (List.mem_singleton.mpr rfl) _ e, r⟩
/-- list.extend(g): the turns -/
theorem ext_X {A : Around} {R : Result → Shared → Prop} {S : Addr} {res : Value} (hh : A.handled = none) (hd : A.depth < recursionLimit) (hSa : S ≠ a) (hSc : S ≠ cStatics) (hal1 : ∀ ys, G.alive ys)
    (hend : ∀ s' acc c H' ys, s'.heap.get? S = some (lstObj acc c) → Vals ys acc.toList → ys.length ≤ sizeLine → s'.os = sc.os → AllBare s'.gens → Un (frs outer) ex H H' sc.heap s'.heap → HOk P w H' s'.heap → H' S = none → G.fin ys H' → R (.ok (.ret res)) s') :
    ∀ (n : Nat) (s : Shared), Waits P w outer H sc ex [S] (ConL S) G a g A.in1 n s → codeAny (model P w) A (.builtin "list.extend.loop" ⟨[.ref S, .ref a, res], []⟩) R s := by
  have fin : ∀ {n : Nat} (s1 : Shared) (ys : List V) (H' : Hp), (n + ys.length = sizeLine + 1 ∧ 1 ≤ n) → s1.os = sc.os → AllBare s1.gens → Un (frs outer) ex H H' sc.heap s1.heap → HOk P w H' s1.heap → (∀ b ∈ [S], H' b = none) → ConL S ys s1.heap → ys.length ≤ sizeLine → G.fin ys H' → R (.ok (.ret res)) s1 := fun s1 ys H' _ os1 hb1 un hok hcn hC hl hf => by
    obtain ⟨acc, c, e, r⟩ := hC
    exact hend s1 acc c H' ys e r hl os1 hb1 un hok (hcn S (List.mem_singleton.mpr rfl)) hf
  have hcs : cStatics ∉ [S] := fun z => hSc (List.mem_singleton.mp z).symm
  have hac : a ∉ [S] := fun z => hSa (List.mem_singleton.mp z).symm
  intro n
  induction n with
  | zero =>
    intro s hw
    refine codeAny_builtin F.entry_extend_loop ?_
    rw [Around.under_plainId F.plain_extend_loop _]
    show wpAny _ A.in1 (pyNext (.ref a) >>= _) _ _ s
    refine wpAny_bind (next_X (A := A.in1) hh hd hw hcs hac (fun v s1 y ys H' m e => by omega) (fun s1 ys H' hn os1 hb1 un hok hcn hC hown hal hf => ?_) conL_ok)
    exact absurd hn.2 (by decide)
  | succ n ih =>
    intro s hw
    refine codeAny_builtin F.entry_extend_loop ?_
    rw [Around.under_plainId F.plain_extend_loop _]
    show wpAny _ A.in1 (pyNext (.ref a) >>= _) _ _ s
    refine wpAny_bind (next_X (A := A.in1) hh hd hw hcs hac (fun v s1 y ys H' m e hn hlt os1 hb1 un hok hcn hC hown hal rv hW hk => ?_) (fun s1 ys H' hn os1 hb1 un hok hcn hC hown hal hf => ?_) conL_ok)
    · obtain ⟨acc, c, hS1, r⟩ := hC
      have hasz : acc.size = ys.length := by
        have e1 := r.length
        have e2 : acc.toList.length = acc.size := by simp
        omega
      obtain rfl : n = m := by omega
      show wpAny _ A.in1 (updateSeq S (·.push v) >>= _) _ _ _
      refine wpAny_bind ?_
      refine wpAny_updateSeq hS1 rfl (wpAny_pure ⟨plainId_quiet F.plain_extend_loop _, ?_⟩) (by omega) (by show (acc.push v).size ≤ sizeLine + 1; rw [Array.size_push]; omega)
      have hS2 := Heap.get?_update_self (Obj.mapSeq (·.push v)) hS1 rfl
      refine ih _ (hk _ rfl ⟨rfl, hb1, fun b o hb e => (Heap.get?_update_other _ _ (fun z => hb (List.mem_singleton.mpr z.symm))).trans e, fun b hb => ?_, ?_⟩ (hal1 _))
      · rw [List.mem_singleton.mp hb]
        exact ⟨_, hS2, fun v z => by cases z⟩
      · refine ⟨acc.push v, _, hS2, ?_⟩
        rw [Array.toList_push]
        exact r.append (.cons rv .nil)
    · exact wpAny_pure (fin (n := n + 1) s1 ys H' hn os1 hb1 un hok hcn hC (by omega) hf)
end
end GX

set_option Elab.async false
set_option linter.all false
set_option maxRecDepth 100000
set_option maxHeartbeats 2000000
namespace GX
open PySem PySem.Spec PyProof.Rows L2 GenW

/-! ## 6. all(g), any(g), tuple(g) -/
section
variable {P : Program} {w : World} {outer : List Env} {H : Hp} {sc s : Shared} {ex : List Addr} {G : GWs} {k : Nat} {u : Value}
/-- the first waking -/
theorem waits0 {A : Around} {cs : List Addr} {C : List V → Heap → Prop} {s2 : Shared} {a : Addr} {g : Nat} {c : Code} (hr : Room (k + 2) A) (hfr : A.frames = some outer) (hg : s.heap.IsGen a g) (hgs : s.gens[g]? = some (.fresh c)) (hos : s.os = sc.os) (hb : AllBare s.gens) (hl : s.heap.NoLimit)
    (wake : ∀ (A : Around) (cs : List Addr) (C : List V → Heap → Prop) (s2 : Shared), Room (k + 1) A → A.frames = some outer → (∀ b ∈ cs, s.heap.objs.size ≤ b) → ConC cs C → (∀ b o, s.heap.get? b = some o → s2.heap.get? b = some o) → OwnC cs s2.heap → C [] s2.heap → s2.os = sc.os → AllBare s2.gens →
      Seg (model P w) A (RX' P w outer H sc ex cs C G) (YX P w outer H sc ex cs C a g G) (sizeLine + 1) s2 c ((model P w).den c) [] s2)
    (hcs : ∀ b ∈ cs, s.heap.objs.size ≤ b) (hC : ConC cs C) (k2 : ∀ b o, s.heap.get? b = some o → s2.heap.get? b = some o) (hown : OwnC cs s2.heap) (hC0 : C [] s2.heap) (eos : s2.os = s.os) (egs : s2.gens = s.gens) :
    Waits P w outer H sc ex cs C G a g A (sizeLine + 1) s2 := by
  refine ⟨hg.keeps k2, hl.keeps k2, .fresh c, by rw [egs]; exact hgs, rfl, ?_⟩
  exact wake A.in1 cs C (s2.setGen g .running) hr.in1 hfr hcs hC k2 hown hC0 (eos.trans hos) (allBare_setGen (by rw [egs]; exact hb) rfl)

theorem call_allX {A : Around} {E : Value → Shared → Prop} {Q : Value → Shared → Prop} {Qt Qf : Hp → Prop} (hr : Room (k + 3) A) (hfr : A.frames = some outer) (h : GMadeX P w k outer H sc ex G u s)
    (hyes : ∀ ys y i k H', G.alive ys → G.W (ys ++ [y]) i k H' → ∃ c : Bool, y = .bl c ∧ (c = true → G.alive (ys ++ [y])) ∧ (c = false → Qf H')) (hfin : ∀ ys H', G.alive ys → G.fin ys H' → Qt H')
    (hend : ∀ (b : Bool) (s' : Shared) (H' : Hp), s'.os = sc.os → AllBare s'.gens → Un (frs outer) ex H H' sc.heap s'.heap → HOk P w H' s'.heap → (if b = true then Qt H' else Qf H') → Q (.bool b) s') :
    wpAny (model P w) A (call (.builtin "all") [u]) Q E s := by
  obtain ⟨a, g, c, rfl, ha1, ha2, hg, hgs, hos, hb, hl, hkp, hal, wake⟩ := h
  refine call_function_tree F.kind_all F.plain_all F.entry_all (F.args_all1 _) ?_
  unfold Builtin.«all»
  refine wpAny_bind (m := oneArg "all" _) (wpAny_pure ?_)
  refine wpAny_bind (wpAny_pyIter_gen hg ?_)
  refine wpAny_pure ⟨plainId_quiet F.plain_all_loop _, all_X (P := P) (w := w) (outer := outer) (H := H) (sc := sc) (ex := ex) (G := G) (a := a) (g := g) (A := A) (Qt := Qt) (Qf := Qf) hr.hd (by have := hr.dp; show A.depth < _; omega) hyes hfin (fun b s' H' q1 q2 q3 q4 q5 => hend b s' H' q1 q2 q3 q4 q5) (sizeLine + 1) s ?_⟩
  exact waits0 (A := A.in1) hr.in1 hfr hg hgs hos hb hl wake (fun b hb => by simp at hb) (fun _ _ _ _ _ => trivial) (fun _ _ e => e) (fun b hb => by simp at hb) trivial rfl rfl
/-- all items of g in a new list of the machine's own -/
theorem collect_X {A : Around} {E : Value → Shared → Prop} {Q : List Value → Shared → Prop} (hr : Room (k + 3) A) (hfr : A.frames = some outer) (h : GMadeX P w k outer H sc ex G u s) (hal1 : ∀ ys, G.alive ys)
    (hQ : ∀ (s' : Shared) (vs : List Value) (H' : Hp) (ys : List V), Vals ys vs → ys.length ≤ sizeLine → s'.os = sc.os → AllBare s'.gens → Un (frs outer) ex H H' sc.heap s'.heap → HOk P w H' s'.heap → G.fin ys H' → Q vs s') :
    wpAny (model P w) A (collect u) Q E s := by
  obtain ⟨a, g, c, rfl, ha1, ha2, hg, hgs, hos, hb, hl, hkp, hal, wake⟩ := h
  have hSa : s.heap.objs.size ≠ a := Nat.ne_of_gt ha2
  have hcl : cStatics < s.heap.objs.size := let ⟨_, hn, _⟩ := hl; hn.lt
  have hSc : s.heap.objs.size ≠ cStatics := Nat.ne_of_gt hcl
  unfold collect
  refine wpAny_bind (wpAny_runValue (codeAny_builtin F.entry_proto_collect ?_))
  rw [Around.under_plainId F.plain_proto_collect _]
  show wpAny _ A.in1 (newList [] >>= fun l => again (.builtin "list.__iadd__" ⟨[l, .ref a], []⟩)) _ _ s
  refine wpAny_bind (wpAny_newObj_type ?_)
  refine wpAny_pure ⟨plainId_quiet F.plain_list_iadd _, codeAny_builtin F.entry_list_iadd ?_⟩
  rw [Around.under_plainId F.plain_list_iadd _]
  show wpAny _ A.in1 (Builtin.List.listExtendWith (.ref s.heap.objs.size) (.ref a) (.ref s.heap.objs.size)) _ _ _
  unfold Builtin.List.listExtendWith
  have up : ∀ (h : Heap) (f : Obj → Obj), (∀ b o, s.heap.get? b = some o → h.get? b = some o) → ∀ b o, s.heap.get? b = some o → (h.update s.heap.objs.size f).get? b = some o := fun h f q b o e =>
    (Heap.get?_update_other _ _ (Ne.symm (Nat.ne_of_lt (Heap.lt_size e)))).trans (q b o e)
  have k1 : ∀ b o, s.heap.get? b = some o → (s.heap.push { cls := .type "list", data := .seq ([] : List Value).toArray }).get? b = some o := fun b o e => Heap.get?_push_of_some _ e
  have gty : ∀ {h : Heap}, (∀ b o, s.heap.get? b = some o → h.get? b = some o) → h.IsGen a g := fun {h} q => hg.keeps q
  refine wpAny_bind (wpAny_typeOf (Heap.IsGen.typeIs (s := { s with heap := _ }) (gty k1)) ?_)
  have h1 : Builtin.List.listSameRef (.ref s.heap.objs.size) (.ref a) = false := by simp [Builtin.List.listSameRef, hSa]
  have h2 : (Value.type "generator" == Value.type "list") = false := by decide
  have h3 : (Value.type "generator" == Value.type "tuple") = false := by decide
  simp only [h1, h2, h3, Bool.or_false, Bool.false_eq_true, if_false]
  refine wpAny_bind (wpAny_pyIter_gen (s := { s with heap := _ }) (gty k1) ?_)
  refine wpAny_bind (wpAny_holding ?_)
  unfold Builtin.List.listLengthHint
  refine wpAny_bind (wpAny_specialOf (Heap.IsGen.typeIs (s := { s with heap := _ }) (gty k1)) F.gen_no_len ?_)
  show wpAny _ A.in1 (specialOf (Value.ref a) (Str.ofString "__length_hint__") >>= _) _ _ _
  refine wpAny_bind (wpAny_specialOf (Heap.IsGen.typeIs (s := { s with heap := _ }) (gty k1)) F.gen_no_hint ?_)
  refine wpAny_pure ?_
  show wpAny _ A.in1 (rule "list.extend.makes-room" >>= fun _ => Builtin.List.listTouch (.ref s.heap.objs.size) >>= fun _ =>
    again (.builtin "list.extend.loop" ⟨[.ref s.heap.objs.size, .ref a, .ref s.heap.objs.size], []⟩)) _ _ _
  refine wpAny_bind (wpAny_rule ?_)
  have hS₁ : (s.heap.push { cls := .type "list", data := .seq ([] : List Value).toArray }).get? s.heap.objs.size = some { cls := .type "list", data := .seq ([] : List Value).toArray } := Heap.get?_push_size _ rfl
  refine wpAny_bind ?_
  show wpAny _ A.in1 (updateSeq s.heap.objs.size (·.push .none) >>= fun _ => updateSeq s.heap.objs.size (·.pop)) _ _ _
  refine wpAny_bind (wpAny_updateSeq hS₁ rfl ?_)
  have hS₂ := Heap.get?_update_self (Obj.mapSeq (·.push Value.none)) hS₁ rfl
  refine wpAny_updateSeq (hz := by seq_fits) hS₂ rfl ?_
  have hS₃ := Heap.get?_update_self (Obj.mapSeq (·.pop)) hS₂ rfl
  have k4 := up _ (Obj.mapSeq (·.pop)) (up _ (Obj.mapSeq (·.push Value.none)) k1)
  refine wpAny_pure ⟨plainId_quiet F.plain_extend_loop _, ?_⟩
  refine ext_X (A := A) (G := G) (res := .ref s.heap.objs.size) hr.hd (by have := hr.dp; show A.depth < _; omega) hSa hSc hal1 (fun s' acc c' H' ys e r hl2 q3 q4 q5 q6 q7 q8 => ?_) (sizeLine + 1) _ (waits0 (A := A.in1) hr.in1 hfr hg hgs hos hb hl wake (fun b hb => by rw [List.mem_singleton.mp hb]; exact Nat.le_refl _) conL_ok k4 (fun b hb => ?_) ?_ rfl rfl)
  · show wpAny _ A (load s.heap.objs.size >>= _) _ _ s'
    refine wpAny_bind (wpAny_load e ?_)
    exact wpAny_pure (hQ s' acc.toList H' ys r hl2 q3 q4 q5 q6 q8)
  · rw [List.mem_singleton.mp hb]
    exact ⟨_, hS₃, fun v z => by cases z⟩
  · exact ⟨_, _, hS₃, .nil⟩

theorem code_tuple_newX {A : Around} {E : Value → Shared → Prop} {Q₁ : Value → Shared → Prop} (hr : Room (k + 4) A) (hfr : A.frames = some outer) (h : GMadeX P w k outer H sc ex G u s) (hal1 : ∀ ys, G.alive ys)
    (hQ : ∀ (s' : Shared) (vs : List Value) (H' : Hp) (ys : List V), Vals ys vs → ys.length ≤ sizeLine → s'.os = sc.os → AllBare s'.gens → Un (frs outer) ex H H' sc.heap s'.heap → HOk P w H' s'.heap → G.fin ys H' → Q₁ (.ref s'.heap.objs.size) { s' with heap := s'.heap.push { cls := .type "tuple", data := .seq vs.toArray } }) :
    codeAny (model P w) A (.call (.builtin "tuple.__new__") ⟨[.type "tuple", u], []⟩) (wants Q₁ E) s := by
  obtain ⟨a, g, c, rfl, _, _, hg, _⟩ := id h
  refine codeAny_of_tree ?_
  show wpAny _ A.in1 (do checkBuiltinCall "tuple.__new__" ⟨[.type "tuple", .ref a], []⟩; again (.builtin "tuple.__new__" ⟨[.type "tuple", .ref a], []⟩)) _ _ s
  refine wpAny_bind (wpAny_of_eq (F.newCall_tuple_1 _) (wpAny_pure ⟨plainId_quiet F.plain_tuple_new _, codeAny_builtin F.entry_tuple_new ?_⟩))
  rw [Around.under_plainId F.plain_tuple_new _]
  have hsub := sub_tuple_self
  have hinit := init_tuple_lookup
  have hmh := madeHere_tuple
  have hTI : s.TypeIs (.ref a) "generator" := hg.typeIs
  wp_walk using wpAny_typeOf hTI, collect_X (A := A.in1) hr.in1 hfr h hal1
  intro s' vs H' ys r hl q3 q4 q5 q6 q8
  show wpAny _ _ (Builtin.Tuple.tupleExact vs.toArray >>= fun v => ret v) _ _ _
  unfold Builtin.Tuple.tupleExact
  refine wpAny_bind (wpAny_newObj_type ?_ (by show vs.toArray.size ≤ sizeLine; rw [List.size_toArray, ← r.length]; exact hl))
  refine wpAny_pure ?_
  exact hQ s' vs H' ys r hl q3 q4 q5 q6 q8
theorem call_tupleX {A : Around} {E : Value → Shared → Prop} {Q : Value → Shared → Prop} (hr : Room (k + 5) A) (hfr : A.frames = some outer) (h : GMadeX P w k outer H sc ex G u s) (hal1 : ∀ ys, G.alive ys)
    (hQ : ∀ (s' : Shared) (vs : List Value) (H' : Hp) (ys : List V), Vals ys vs → ys.length ≤ sizeLine → s'.os = sc.os → AllBare s'.gens → Un (frs outer) ex H H' sc.heap s'.heap → HOk P w H' s'.heap → G.fin ys H' → Q (.ref s'.heap.objs.size) { s' with heap := s'.heap.push { cls := .type "tuple", data := .seq vs.toArray } }) :
    wpAny (model P w) A (call (.type "tuple") [u]) Q E s := by
  refine callType_codes (Q₁ := fun obj s₁ => s₁.TypeIs obj "tuple" ∧ Q obj s₁) F.called_tuple (F.typeCall_tuple_1 _) F.entry_object_init
    (code_tuple_newX hr.in1 hfr h hal1 fun s' vs H' ys r hl q3 q4 q5 q6 q8 => ⟨⟨_, Heap.get?_push_size _ rfl, rfl⟩, hQ s' vs H' ys r hl q3 q4 q5 q6 q8⟩) fun obj s₁ h₁ => ?_
  exact ⟨h₁.1, F.args_object_init_2 obj _, object_init_meets F.called_tuple.init.lookup F.called_tuple.made (by decide) P w A.in1 _ s₁ ⟨h₁.1, rfl, h₁.2⟩⟩
end

section
variable {X : Cx} {k : Nat} {e : Expr} {tg : TGx} {p pos : Pos}
/-- behind the asking: the def's own frame -/
theorem asked {pins : List (Addr × Obj)} {σ : L2.St} {H H' : Hp} {sc s' : Shared} {ex : List Addr} (I : Inv X pins σ H sc) (hex : ExOk X pins ex) (os : s'.os = sc.os) (hb : AllBare s'.gens) (un : Un (frs X.stack) ex H H' sc.heap s'.heap) (hok : HOk X.prog X.w H' s'.heap) : Inv X pins σ H' s' :=
  I.call' (ch := ex) os un hok hb hex
def tAllX (tg : TGx) : TE := fun σ H Q => tg σ H fun G _ =>
  (∀ ys y i k H', G.alive ys → G.W (ys ++ [y]) i k H' → ∃ c : Bool, y = .bl c ∧ (c = true → G.alive (ys ++ [y])) ∧ (c = false → Q (.bl false) H')) ∧ ∀ ys H', G.alive ys → G.fin ys H' → Q (.bl true) H'
def tTupX (tg : TGx) : TE := fun σ H Q => tg σ H fun G _ => (∀ ys, G.alive ys) ∧ ∀ ys H', G.fin ys H' → ys.length ≤ sizeLine → ∀ p, H' p = none → Q (.ref p) (upd H' p (.tup ys))
theorem pe_allX (h : PGx X k e tg) (hr : Room (k + 3) X.A) (hg : Gl X "all") (hm : X.mg "all" = none) (hb : bootBuiltins "all" = some (.builtin "all") := by decide +kernel)
    (he : starEach [e] X.env = (false, eval e X.env) :: starEach [] X.env := by rfl) : PE X (.Call (.Name "all" p) [e] [] pos) (tAllX tg) := by
  refine ⟨fun pins s σ H Q I hq => ?_⟩
  refine wpAny_Call_Name_kw (ld_blt I hg hm hb ?_)
  refine PyProof.Rows.callWith_builtin1 ?_ he (by rfl)
  rw [he]
  show wpAny _ _ (spliced ((false, eval e X.env) :: backTo pos (starEach [] X.env))) _ _ s
  refine Calls.spliced_cons (thn (h.run pins s σ H _ I hq) fun u s1 ⟨H1, sc, ex, G, I1, hex, hG, hy, hf⟩ => ?_)
  refine Calls.spliced_nil ?_
  refine call_allX hr I1.ok.frames hG hy hf fun b s' H' q1 q2 q3 q4 q5 => ?_
  refine ⟨.bl b, H', asked I1 hex q1 q2 q3 q4, rfl, ?_⟩
  cases b with
  | true => simpa using q5
  | false => simpa using q5
theorem pe_tupX (h : PGx X k e tg) (hr : Room (k + 5) X.A) (hg : Gl X "tuple") (hm : X.mg "tuple" = none) (hb : bootBuiltins "tuple" = some (.type "tuple") := by decide +kernel)
    (he : starEach [e] X.env = (false, eval e X.env) :: starEach [] X.env := by rfl) : PE X (.Call (.Name "tuple" p) [e] [] pos) (tTupX tg) := by
  refine ⟨fun pins s σ H Q I hq => ?_⟩
  refine wpAny_Call_Name_kw (ld_blt I hg hm hb ?_)
  refine PyProof.Rows.callWith_type1 ?_ he rfl
  rw [he]
  show wpAny _ _ (spliced ((false, eval e X.env) :: backTo pos (starEach [] X.env))) _ _ s
  refine Calls.spliced_cons (thn (h.run pins s σ H _ I hq) fun u s1 ⟨H1, sc, ex, G, I1, hex, hG, hal, hf⟩ => ?_)
  refine Calls.spliced_nil ?_
  refine call_tupleX hr I1.ok.frames hG hal fun s' vs H' ys r hl q1 q2 q3 q4 q5 => ?_
  have I2 : Inv X pins σ H' s' := asked I1 hex q1 q2 q3 q4
  have hf2 : H' s'.heap.objs.size = none := I2.hok.fresh (Nat.le_refl _)
  refine ⟨.ref s'.heap.objs.size, upd H' s'.heap.objs.size (.tup ys), I2.laid (t' := s'.toks) (fun b u e => Heap.get?_push_of_some _ e) (Nat.le_refl _) ?_, rfl, hf ys H' q5 hl _ hf2⟩
  exact ⟨hl, vs, r, ⟨_, Heap.get?_push_size _ rfl, rfl, _, rfl⟩⟩
end
end GX

set_option Elab.async false
set_option linter.all false
set_option maxRecDepth 100000
set_option maxHeartbeats 2000000
namespace GX
open PySem PySem.Spec PyProof.Rows L2 GenW

/-! ## 7. enumerate(t), t a tuple -/
theorem meets_enumerate_newT (t : Addr) (items : Array Value) :
    Meets (Builtin.«enumerate.__new__» ⟨[.type "enumerate", .ref t], []⟩) (fun _ R s => s.heap.IsTuple t items ∧
      R (.ok (.ret (.ref (s.heap.push { cls := .type "tuple_iterator", data := .fields #[.ref t, .int 0 0] }).objs.size)))
        { s with heap := (s.heap.push { cls := .type "tuple_iterator", data := .fields #[.ref t, .int 0 0] }).push { cls := .type "enumerate", data := .fields #[.none, .bool false, .ref s.heap.objs.size, rawInt 0, .none, .none] } }) :=
  .of_wp fun prog w A R s h => by
    obtain ⟨hp, g, d, tk, os⟩ := s; obtain ⟨h1, h⟩ := h
    have hsub := sub_enumerate
    have q1 : ∀ {A' : Around} {E : Value → Shared → Prop} {Q : Value → Shared → Prop}, Q (.ref hp.objs.size) ⟨hp.push { cls := .type "tuple_iterator", data := .fields #[.ref t, .int 0 0] }, g, d, tk, os⟩ → wpAny (model prog w) A' (pyIter (.ref t)) Q E ⟨hp, g, d, tk, os⟩ :=
      fun q => (begins_tuple t items).iter prog w _ _ ⟨hp, g, d, tk, os⟩ _ h1 q
    wp_walk using q1
    refine wpAny_stack_any fun st => wpAny_pure ?_
    split
    · rename_i c _ _ _ _ _
      cases (c == Value.type "enumerate")
      · wp_walk using q1
        exact ⟨_, rfl, h⟩
      · wp_walk using q1
        exact ⟨_, rfl, h⟩
    · wp_walk using q1
      exact ⟨_, rfl, h⟩
section
variable {prog : Program} {w : World} {A : Around} {E : Value → Shared → Prop} {s : Shared}
theorem call_enumerate_tuple {t : Addr} {items : Array Value} {Q : Value → Shared → Prop} (hT : s.heap.IsTuple t items)
    (h : ∀ h', IsEnum h' (s.heap.objs.size + 1) s.heap.objs.size 0 .none → h'.IsTupleIter s.heap.objs.size t 0 → h'.objs.size = s.heap.objs.size + 2 →
      (∀ b o, s.heap.get? b = some o → h'.get? b = some o) → Q (.ref (s.heap.objs.size + 1)) { s with heap := h' }) :
    wpAny (model prog w) A (call (.type "enumerate") [.ref t]) Q E s := by
  refine callType_new F.called_enumerate (by decide) (F.typeCall_enumerate_1 _) (F.newCall_enumerate_1 _) (fun obj => F.args_object_init_2 obj _) F.entry_enumerate_new
    (meets_enumerate_newT t items) ⟨hT, ?_⟩
  have hz : (s.heap.push { cls := .type "tuple_iterator", data := .fields #[.ref t, .int 0 0] }).objs.size = s.heap.objs.size + 1 := Heap.size_push ..
  show _ ∧ _
  rw [hz]
  have he : IsEnum ((s.heap.push { cls := .type "tuple_iterator", data := .fields #[.ref t, .int 0 0] }).push
      { cls := .type "enumerate", data := .fields #[.none, .bool false, .ref s.heap.objs.size, rawInt 0, .none, .none] }) (s.heap.objs.size + 1) s.heap.objs.size 0 .none := by
    have := Heap.get?_push_size (s.heap.push { cls := .type "tuple_iterator", data := .fields #[.ref t, .int 0 0] })
      (o := { cls := .type "enumerate", data := .fields #[.none, .bool false, .ref s.heap.objs.size, rawInt 0, .none, .none] }) rfl
    rw [hz] at this; exact this
  refine ⟨⟨_, he, rfl⟩, h _ he ⟨_, Heap.get?_push_of_some _ (Heap.get?_push_size _ rfl), rfl, rfl⟩ (by rw [Heap.size_push, hz]) fun b o x => Heap.get?_push_of_some _ (Heap.get?_push_of_some _ x)⟩
end
def IteT (K : PySem.W.Frag) (a : Addr) : It :=
  ⟨fun i H => ∃ (xs : List V) (x : V), SqT K H a xs ∧ xs[i]? = some x, fun i H v H' => ∃ T x, v = .ref T ∧ H T = none ∧ H' = upd H T (.tup [.int (i : Nat), x]) ∧ ∀ xs, SqT K H a xs → xs[i]? = some x, fun i H => ∃ xs : List V, SqT K H a xs ∧ xs.length ≤ i⟩
theorem turn_enumT {P : Program} {w : World} {K : PySem.W.Frag} {elts : List Expr} {kk : Nat} {tpos : Pos} (a e it : Addr) (hae : a ≠ e) (hai : a ≠ it) :
    Turn P w K (.Tuple elts kk tpos) (IteT K a) [e, it] e (fun i h => (∃ old, IsEnum h e it ((i : Nat) : Int) old) ∧ h.IsTupleIter it a i ∧ e ≠ it) where
  mem := by simp
  obj := fun i h st b hb => by
    obtain ⟨⟨old, he⟩, ⟨o, ho, hc, hd⟩, _⟩ := st
    have e' : b = e ∨ b = it := by simpa using hb
    rcases e' with z | z
    · rw [z]; exact ⟨_, he, fun v q => nomatch q⟩
    · rw [z]; exact ⟨o, ho, fun v q => by rw [hd] at q; cases q⟩
  keep := fun i h h' st k => let ⟨⟨old, he⟩, hi, hne⟩ := st; ⟨⟨old, k e (by simp) _ he⟩, hi.at fun o q => k it (by simp) o q, hne⟩
  item := by
    intro X hP hw hK hc i pins s σ H E I hf st hg
    subst hP hw hK
    obtain ⟨⟨old, he⟩, hit, hne⟩ := st
    obtain ⟨xs, x, hq, hx⟩ := hg
    obtain ⟨its, rv, p, hz⟩ := I.tuple hq
    obtain ⟨u, hu, ru⟩ := rv.get hx
    have hel : e < s.heap.objs.size := Heap.lt_size he
    have hil : it < s.heap.objs.size := by obtain ⟨_, q, _⟩ := hit; exact Heap.lt_size q
    have hlt : i < its.toArray.size := by
      have q := (List.getElem?_eq_some_iff.mp hu).1
      simpa using q
    have D := Draws.tuple (prog := X.prog) (w := X.w) (A := X.A.in1) (I.ok.hd hc) it a hai its.toArray
    refine wpAny_pyNext_enum_itemD D he ⟨hit, p⟩ hlt hne (by simp [Ne.symm hae, hne]) fun x' h' tk hP ho hst' hT hsz hk => ?_
    obtain rfl : x' = u := by
      have q : its.toArray[i]? = some u := by simpa using hu
      exact Option.some.inj (hP.symm.trans q)
    obtain ⟨hit', _⟩ := hst'
    refine ⟨_, rfl, wpAny_letOwnedTupleGo_enum (s := { s with heap := h', toks := tk + 1 }) ho fun h'' he' sb => ?_⟩
    have hT2 : h''.get? s.heap.objs.size = some { cls := .type "tuple", data := .seq #[.int i tk, x'] } := (sb.2 _ (Nat.ne_of_gt hel)).trans hT
    have new : ObjOk X.prog X.w (upd H s.heap.objs.size (.tup [.int (i : Nat), x])) h'' s.heap.objs.size (.tup [.int (i : Nat), x]) :=
      ⟨by show 2 ≤ sizeLine; decide, [.int i tk, x'], .cons ⟨_, rfl⟩ (.cons ru .nil), ⟨_, hT2, rfl, _, rfl⟩⟩
    have I1 : Inv X pins σ (upd H s.heap.objs.size (.tup [.int (i : Nat), x])) { s with heap := h'', toks := tk + 1 } :=
      I.turnedNew (ch := [e, it]) (fun b ob hb q => (sb.2 b (fun z => hb (by simp [z]))).trans (hk b ob (fun z => hb (by simp [z])) (fun z => hb (by simp [z])) q)) hf (Nat.le_refl _) new
    refine ⟨.ref s.heap.objs.size, _, I1, rfl, ⟨_, x, rfl, I.hok.fresh (Nat.le_refl _), rfl, fun ys hy => by rw [I.tuple_inj hy hq]; exact hx⟩, ⟨⟨x', ?_⟩, hit'.at fun o q => (sb.2 it (Ne.symm hne)).trans q, hne⟩, fun b hb => ?_⟩
    · have e1 : ((i + 1 : Nat) : Int) = (i : Int) + 1 := by omega
      rw [e1]; exact he'
    · have hb' : b < s.heap.objs.size := by
        have e' : b = e ∨ b = it := by simpa using hb
        rcases e' with z | z
        · rw [z]; exact hel
        · rw [z]; exact hil
      rw [upd_ne (Nat.ne_of_lt hb')]
      exact (hf b hb).1
  done := by
    intro X hP hw hK hc i pins s σ H E I hf st hg
    subst hP hw hK
    obtain ⟨⟨old, he⟩, hit, hne⟩ := st
    obtain ⟨xs, hq, hx⟩ := hg
    obtain ⟨its, rv, p, hz⟩ := I.tuple hq
    obtain ⟨f0, f1, f2, f3, f4, f5⟩ := hf it (by simp)
    have hl := rv.length
    have hh : X.A.in1.handled = none := I.ok.hd hc
    have hT : s.TypeIs (.ref e) "enumerate" := ⟨_, he, rfl⟩
    unfold pyNext
    refine wpAny_bind (wpAny_attempt (wpAny_callSpecial?_slot (name := Str.ofString "__next__") hT F.slot_enumerate_next
      (wpAny_call_entry F.slot_enumerate_next hT F.entry_enumerate_next ?_ (F.args_enumerate_next_1 _))))
    show wpAny _ _ (field (.ref e) 2 >>= _) _ _ _
    refine wpAny_bind (wpAny_field he rfl (x := .ref it) rfl ?_)
    refine wpAny_bind (wpAny_nextOf_tuple_end hh hit (show s.heap.IsTuple a its.toArray from p) (by simp; omega) fun h' x he' hx' => ?_)
    obtain ⟨o, ho, hcc⟩ := hx'
    refine wpAny_bind (wpAny_isInstance (T := "StopIteration") (b := true) ⟨o, ho, hcc⟩ isSubtype_stop ?_)
    exact wpAny_pure ⟨rfl, I.turned (t' := s.toks) (fun b o hb q => he' b o hb q) f0 f1 f3 f4 f5⟩
  self := fun A i s Q E st h => let ⟨⟨_, he⟩, _⟩ := st; wpAny_pyIter_enum he h
/-- enumerate over a list or a tuple -/
def iEnumA (K : PySem.W.Frag) (ta : TA) : TI := fun σ H R => ta σ H fun vs H1 => ∃ a xs, vs = [.ref a] ∧ ((SqL K H1 a xs ∧ R (Ite K a) H1) ∨ (SqT K H1 a xs ∧ R (IteT K a) H1))
theorem pi_enumA {X : Cx} {e : Expr} {ta : TA} {p pos tpos : Pos} {elts : List Expr} {kk : Nat} (hg : Gl X "enumerate") (hm : X.mg "enumerate" = none) (ha : PA X [e] ta) (hs : starEach [e] X.env = [(false, eval e X.env)] := by rfl) :
    PI X (.Tuple elts kk tpos) (.Call (.Name "enumerate" p) [e] [] pos) (iEnumA X.K ta) := by
  refine ⟨fun pins s σ H R I h => ?_⟩
  refine Call_ (ld_blt I hg hm boot_enumerate (PyProof.Rows.callWith_type1 (thn (ha.run pos pins s σ H _ I h) fun us s1 ⟨vs, H1, I1, r1, q1⟩ => ?_) hs rfl))
  obtain ⟨a, xs, ex, q1⟩ := q1
  subst ex
  cases r1 with
  | cons r rr =>
    cases rr
    cases r
    have fr : ∀ b, b ∈ [s1.heap.objs.size + 1, s1.heap.objs.size] → FpOk X pins H1 b := fun b hb => by
      have e' : b = s1.heap.objs.size + 1 ∨ b = s1.heap.objs.size := by simpa using hb
      have hle : s1.heap.objs.size ≤ b := by
        rcases e' with z | z
        · rw [z]; exact Nat.le_add_right _ _
        · rw [z]; exact Nat.le_refl _
      exact I1.fpOk hle (I1.hok.fresh hle)
    rcases q1 with ⟨hq, q⟩ | ⟨hq, q⟩
    · obtain ⟨its, rv, p', hz⟩ := I1.list hq
      refine call_enumerate_list p'.isList fun h' he hit hsz hk => wpAny_pyIter_enum he ?_
      have I2 : Inv X pins σ H1 { s1 with heap := h' } := I1.kept (t' := s1.toks) hk
      exact ⟨s1.heap.objs.size + 1, [s1.heap.objs.size + 1, s1.heap.objs.size], _, _, H1, rfl, I2, turn_enum a (s1.heap.objs.size + 1) s1.heap.objs.size, ⟨⟨.none, he⟩, hit, Nat.succ_ne_self _⟩, fr, q⟩
    · obtain ⟨its, rv, p', hz⟩ := I1.tuple hq
      have hlt : a < s1.heap.objs.size := by obtain ⟨o, ho, _⟩ := id p'; exact Heap.lt_size ho
      refine call_enumerate_tuple (show s1.heap.IsTuple a its.toArray from p') fun h' he hit hsz hk => wpAny_pyIter_enum he ?_
      have I2 : Inv X pins σ H1 { s1 with heap := h' } := I1.kept (t' := s1.toks) hk
      exact ⟨s1.heap.objs.size + 1, [s1.heap.objs.size + 1, s1.heap.objs.size], _, _, H1, rfl, I2, turn_enumT a (s1.heap.objs.size + 1) s1.heap.objs.size (Nat.ne_of_lt (Nat.lt_succ_of_lt hlt)) (Nat.ne_of_lt hlt), ⟨⟨.none, he⟩, hit, Nat.succ_ne_self _⟩, fr, q⟩
end GX

set_option Elab.async false
set_option linter.all false
set_option maxRecDepth 100000
set_option maxHeartbeats 2000000
namespace GX
open PySem PySem.Spec PyProof.Rows L2 GenW
/-! ## 7. generator expressions of two clauses: their turns -/
section
variable {elt tg0 iter0 tg1 iter1 : Expr} {ifs0 ifs1 : List Expr} {scope : Scope} {pos : Pos} {it acc : Value} {env : Env}
end
end GX

set_option Elab.async false
set_option linter.all false
set_option maxRecDepth 100000
set_option maxHeartbeats 2000000
namespace GX
open PySem PySem.Spec PyProof.Rows L2 GenW
/-! ## 8. generator expressions of two clauses: the run -/
def GTurn2 (J : It) (g : TG) (tt : TT) (wi1 : TI) (g1 : TG) (tt1 : TT) (te : TE) (vs vs1 : List Nat) (σ : L2.St) (W0 : List V → Nat → Nat → Hp → Prop) (G : GWs) : Prop := ∀ ys i m H, G.alive ys → W0 ys i m H →
  (J.stop i H ∧ G.fin ys H) ∨ (J.go i H ∧ ∃ NX : List V → Hp → Prop, (∀ ys' H', NX ys' H' → ∃ m', m' < m ∧ W0 ys' (i + 1) m' H') ∧
    ∀ x H', J.yld i H x H' → g x (wipe σ vs) H' fun σ2 H2 => wipe σ2 vs = wipe σ vs ∧ tt σ2 H2 fun b H3 => if b = true then wi1 σ2 H3 fun J1 H4 => ∃ W1 : List V → Nat → Nat → Hp → Prop, (∃ k, W1 ys 0 k H4) ∧ ∀ ys1 j k H, G.alive ys1 → W1 ys1 j k H →
      (J1.stop j H ∧ NX ys1 H) ∨ (J1.go j H ∧ ∃ (NF : Hp → Prop) (NY : V → Hp → Prop), (∀ H', NF H' → ∃ k', k' < k ∧ W1 ys1 (j + 1) k' H') ∧ (∀ y H', NY y H' → (∃ i m, G.W (ys1 ++ [y]) i m H') ∧ ∃ k', k' < k ∧ W1 (ys1 ++ [y]) (j + 1) k' H') ∧
        ∀ x1 H', J1.yld j H x1 H' → g1 x1 (wipe σ2 vs1) H' fun σ3 H5 => wipe σ3 vs1 = wipe σ2 vs1 ∧ tt1 σ3 H5 fun b1 H6 => if b1 = true then te σ3 H6 fun y H7 => ys1.length < sizeLine ∧ NY y H7 else NF H6)
    else NX ys H3)
section
variable {X : Cx} {s0 : Shared} {H0 : Hp} {ge : Env} {fp cs : List Addr} {A : Around} {a : Addr} {go : Obj} {gn : Nat}
end
end GX

set_option Elab.async false
set_option linter.all false
set_option maxRecDepth 100000
set_option maxHeartbeats 2000000
namespace GX
open PySem PySem.Spec PyProof.Rows L2 GenW
/-! ## 9. generator expressions of two clauses: the outer run, the value -/
section
variable {X : Cx} {s0 : Shared} {H0 : Hp} {ge : Env} {fp cs : List Addr} {A : Around} {a : Addr} {go : Obj} {gn : Nat}
end
def tGen2 (B : Heap) (nm : Nat → Nat → Option Str) (c : Addr) (wi : TI) (g : TG) (tt : Addr → TT) (wi1 : Addr → TI) (g1 : TG) (tt1 : Addr → TT) (te : Addr → TE) (vs vs1 : List Nat) : TGx := fun σ H R => wi σ H fun J H1 =>
  (∃ P, CodeAt B H1 c P ∧ ∃ ps, H1 P = some (.tbl ps)) ∧ AllTabs nm H1 ∧ ∀ (H2 : Hp) (c' P' : Addr), Grown H1 H2 → AllTabs nm H2 → H2 c' = some (CodeG c' P') → (∃ ps', H2 P' = some (.tbl ps')) →
    ∃ (W0 : List V → Nat → Nat → Hp → Prop) (G : GWs), G.alive [] ∧ (∃ m, W0 [] 0 m H2) ∧ GTurn2 J g (tt c') (wi1 c') g1 (tt1 c') (te c') vs vs1 σ W0 G ∧ R G H2
section
variable {X : Cx}
end
end GX

set_option Elab.async false
set_option linter.all false
set_option maxRecDepth 100000
set_option maxHeartbeats 2000000
namespace GX
open PySem PySem.Spec PyProof.Rows L2
/-! ## 9. comprehensions of any number of clauses: one clause's loop around what is done at its end -/
/-- what a clause's turn does, its end being t -/
def TurnIs (e : Expr) (k : Nat) (p : Pos) (tg : Expr) (ifs : List Expr) (t : Sem PySem.Fin) (it acc : Value) (env : Env) : Prop :=
  compTurn e k it acc env = (standAt p >>= fun _ => pyNext it >>= fun r => match r with | none => pure (.done .next) | some v => letOwnedTupleGo tg it v >>= fun _ => assign tg env v >>= fun _ => (forIn ifs true fun c r => if r = true then do let ok ← isTrue c env (eval c env); pure (ForInStep.yield ok) else pure (ForInStep.yield r)) >>= fun ok => if ok = true then t else again (.compLoop e k it acc env))
def CallTurn (Y : Cx) (e : Expr) (k : Nat) : Prop := ∀ it acc, Y.A.under (.compLoop e k it acc Y.env) = Y.A ∧ (Code.compLoop e k it acc Y.env).quiet = true ∧ (model Y.prog Y.w).den (.compLoop e k it acc Y.env) = (compTurn e k it acc Y.env).onRaise (fun x => do noteFrame x Y.env; theTreesLotGoes x)
section
variable {Y : Cx} {e tg : Expr} {ifs : List Expr} {k : Nat} {p : Pos} {it acc : Value}
/-- a clause's end, within a block -/
structure PBd (Y : Cx) (c : Code) (t : Sem PySem.Fin) (tb : L2.St → Hp → (Hp → Prop) → Prop) (vs : List Nat) : Prop where
  run : ∀ (pins : List (Addr × Obj)) (s : Shared) (σ : L2.St) (H : Hp) (N : Hp → Prop), Inv Y pins σ H s → tb σ H N → wpAny (model Y.prog Y.w) Y.A t (fun f s' => f = .again c ∧ ∃ H', Inv Y pins (wipe σ vs) H' s' ∧ N H') (fun _ _ => False) s
/-- how a clause within another one starts -/
def StartIs (e : Expr) (k : Nat) (it acc : Value) (Y : Cx) : Prop := ∀ (s : Shared) (R : Result → Shared → Prop), codeAny (model Y.prog Y.w) Y.A (.compLoop e k it acc Y.env) R s → wpAny (model Y.prog Y.w) Y.A (pyIter it) (fun it' s' => codeAny (model Y.prog Y.w) Y.A (.compLoop e k it' acc Y.env) R s') (notedBy (model Y.prog Y.w) Y.A Y.env fun x s' => R (.error x) s') s → codeAny (model Y.prog Y.w) Y.A (.compStart e k it acc Y.env) R s
end
/-! ### what stands at the innermost clause's end -/
section
variable {Y : Cx} {c : Code}
end
end GX

set_option Elab.async false
set_option linter.all false
set_option maxRecDepth 100000
set_option maxHeartbeats 2000000
namespace GX
open PySem PySem.Spec PyProof.Rows L2
/-! ## 10. comprehensions of any number of clauses: the whole -/
/-- what is known of a comprehension's first clause, whatever stands behind it -/
structure Comp1 (e : Expr) (mk : Sem Value) (o0 : HO) (ob : Obj) (iter : Expr) (tg : Expr) (ifs : List Expr) (tail : Value → Value → Env → Sem PySem.Fin) : Prop where
  cl : ∃ rest, clausesOf e = ⟨tg, iter, ifs, 0⟩ :: rest
  mkd : ∀ (P : Program) (w : World) (A : Around) (E : Value → Shared → Prop) (s : Shared) (Q : Value → Shared → Prop), Q (.ref s.heap.objs.size) { s with heap := s.heap.push ob } → wpAny (model P w) A mk Q E s
  new : ∀ (P : Program) (w : World) (H : Hp) (h : Heap), sysModules < h.objs.size → ObjOk P w H (h.push ob) h.objs.size o0
  call : ∀ Y, CallTurn Y e 0
  turn : ∀ it acc env, TurnIs e 0 iter.pos tg ifs (tail it acc env) it acc env
  start : ∀ Y it acc, StartIs e 0 it acc Y
section
variable {X : Cx}
end
end GX

set_option Elab.async false
set_option linter.all false
set_option maxRecDepth 100000
set_option maxHeartbeats 2000000
namespace GX
open PySem PySem.Spec PyProof.Rows L2
/-! ## 11. list comprehensions of three clauses, dict comprehensions of one and two -/
section
variable {elt kx vx t0 i0 t1 i1 t2 i2 : Expr} {f0 f1 f2 : List Expr} {scope : Scope} {pos : Pos}
abbrev TBd := Addr → L2.St → Hp → (Hp → Prop) → Prop
/-- what is done at the end of the first clause, in any block context -/
structure BdOk (e : Expr) (tail : Value → Value → Env → Sem PySem.Fin) (Y : Cx) (tb : TBd) (vs : List Nat) (k : Nat) : Prop where
  run : ∀ it D, PBd Y (.compLoop e k it (.ref D) Y.env) (tail it (.ref D) Y.env) (tb D) vs
end
end GX

set_option Elab.async false
set_option linter.all false
set_option maxRecDepth 100000
set_option maxHeartbeats 2000000
namespace GX
open PySem PySem.Spec PyProof.Rows L2
/-! ## 14. dicts whose keys are tuples of tuples of numbers -/
mutual
def KeyV (H : Hp) : NestedKey → V → Prop
  | .none, _ => False
  | .num i, v => v = .int i
  | .text _, _ => False
  | .tup ks, v => ∃ b xs, v = .ref b ∧ H b = some (.tup xs) ∧ KeyVs H ks xs
def KeyVs (H : Hp) : List NestedKey → List V → Prop
  | [], xs => xs = []
  | k :: ks, xs => ∃ y ys, xs = y :: ys ∧ KeyV H k y ∧ KeyVs H ks ys
end
section
variable {H H' : Hp} {P : Program} {w w' : World} {h : Heap}
mutual
theorem keyV_mono (ht : ∀ b ys, H b = some (.tup ys) → H' b = some (.tup ys)) : ∀ (k : NestedKey) (v : V), KeyV H k v → KeyV H' k v
  | .none, _, z => by unfold KeyV at z; exact z.elim
  | .num i, v, z => by unfold KeyV at z ⊢; exact z
  | .text _, _, z => by unfold KeyV at z; exact z.elim
  | .tup ks, v, z => by
    unfold KeyV at z ⊢
    obtain ⟨b, xs, e, hb, r⟩ := z
    exact ⟨b, xs, e, ht _ _ hb, keyVs_mono ht ks xs r⟩
theorem keyVs_mono (ht : ∀ b ys, H b = some (.tup ys) → H' b = some (.tup ys)) : ∀ (ks : List NestedKey) (xs : List V), KeyVs H ks xs → KeyVs H' ks xs
  | [], xs, z => by unfold KeyVs at z ⊢; exact z
  | k :: ks, xs, z => by
    unfold KeyVs at z ⊢
    obtain ⟨y, ys, e, h1, h2⟩ := z
    exact ⟨y, ys, e, keyV_mono ht k y h1, keyVs_mono ht ks ys h2⟩
end
mutual
theorem keyV_hash (w w' : World) : ∀ (k : NestedKey) (v : V), KeyV H k v → k.hash w = k.hash w'
  | .none, _, z => by unfold KeyV at z; exact z.elim
  | .num i, v, z => by rw [NestedKey.hash, NestedKey.hash]
  | .text _, _, z => by unfold KeyV at z; exact z.elim
  | .tup ks, v, z => by
    unfold KeyV at z
    obtain ⟨b, xs, e, hb, r⟩ := z
    rw [NestedKey.hash, NestedKey.hash, keyVs_hash w w' ks xs r]
theorem keyVs_hash (w w' : World) : ∀ (ks : List NestedKey) (xs : List V), KeyVs H ks xs → NestedKey.hashes w ks = NestedKey.hashes w' ks
  | [], xs, z => by rw [NestedKey.hashes, NestedKey.hashes]
  | k :: ks, xs, z => by
    unfold KeyVs at z
    obtain ⟨y, ys, e, h1, h2⟩ := z
    rw [NestedKey.hashes, NestedKey.hashes, keyV_hash w w' k y h1, keyVs_hash w w' ks ys h2]
end
mutual
theorem key_nested (ok : HOk P w H h) : ∀ (k : NestedKey) (v : V) (u : Value), KeyV H k v → RelV v u → NestedIs h k u
  | .none, _, _, z, _ => by unfold KeyV at z; exact z.elim
  | .num i, v, u, z, r => by
    unfold KeyV at z
    subst z
    obtain ⟨t, rfl⟩ := (show ∃ t, u = Value.int i t from r)
    exact .int i t
  | .text _, _, _, z, _ => by unfold KeyV at z; exact z.elim
  | .tup ks, v, u, z, r => by
    unfold KeyV at z
    obtain ⟨b, xs, e, hb, q⟩ := z
    subst e
    cases (show u = Value.ref b from r)
    obtain ⟨_, its, rs, o, h1, h2, n, h3⟩ := (show ObjOk P w H h b (.tup xs) from ok b _ hb)
    exact .tup h1 h2 h3 (keys_nested ok ks xs its q rs)
theorem keys_nested (ok : HOk P w H h) : ∀ (ks : List NestedKey) (xs : List V) (us : List Value), KeyVs H ks xs → Vals xs us → NestedAll h ks us
  | [], xs, us, z, r => by
    unfold KeyVs at z
    subst z
    cases r
    exact .nil
  | k :: ks, xs, us, z, r => by
    unfold KeyVs at z
    obtain ⟨y, ys, e, h1, h2⟩ := z
    subst e
    cases r with
    | cons r1 r2 => exact .cons (key_nested ok k y _ h1 r1) (keys_nested ok ks ys _ h2 r2)
end
end
abbrev NX := NestedKey × Addr × Value
def entN (w : World) (x : NX) : DictEntry := ⟨x.1.hash w, .ref x.2.1, x.2.2⟩
/-- the dict at a that holds xs -/
def NDf (a : Addr) (xs : List NX) : Heap → Prop := fun h => ∃ o es ep w, h.get? a = some o ∧ o.ExactDict ∧ o.data = .dict es ep ∧ es.toList = xs.map (entN w)
def NDO (a : Addr) (xs : List NX) : HO := .ext (NDf a xs)
/-- what is told of an object with fields -/
def FldX (φ : Heap → Prop) : Prop := ∀ h, φ h → ∃ (c : Addr) (oc : Obj) (vs : Array Value), h.get? c = some oc ∧ oc.data = .fields vs
abbrev KN (H : Hp) : List (NestedKey × V) → List NX → Prop := Paired fun p q => p.1 = q.1 ∧ (p.1.depth ≤ 8 ∧ KeyV H p.1 (.ref q.2.1)) ∧ RelV p.2 q.2.2
def DctN (H : Hp) (a : Addr) (kvs : List (NestedKey × V)) : Prop := (H a = some (.dT []) ∧ kvs = []) ∨ ∃ xs, H a = some (NDO a xs) ∧ ¬ FldX (NDf a xs) ∧ kvs.length ≤ sizeLine ∧ (a == sysModules) = false ∧ (xs.map (·.1)).Nodup ∧ KN H kvs xs
section
variable {H H' : Hp} {kvs : List (NestedKey × V)} {xs : List NX} {a b : Addr} {k : NestedKey}
theorem KN.val (r : KN H kvs xs) (k : NestedKey) : RelO (valV kvs k) ((atKey xs k).map (·.2)) := by
  induction r with
  | nil => exact True.intro
  | @cons p q ps qs h t ih =>
    obtain ⟨h1, _, h2⟩ := h
    by_cases e : p.1 = k
    · have e' : q.1 = k := h1.symm.trans e
      have b : atKey (q :: qs) k = some q.2 := by simp [atKey, List.find?_cons, e']
      rw [valV_pos e, b]; exact h2
    · have e' : ¬ q.1 = k := fun z => e (h1.trans z)
      have b : atKey (q :: qs) k = atKey qs k := by simp [atKey, List.find?_cons, e']
      rw [valV_neg e, b]; exact ih
theorem KN.repl (r : KN H kvs xs) (k : NestedKey) {y : V} {u : Value} (ry : RelV y u) :
    KN H (kvs.map fun kv => if kv.1 = k then (kv.1, y) else kv) (xs.map (putAt k u)) := by
  induction r with
  | nil => exact .nil
  | @cons p q ps qs h t ih =>
    rw [List.map_cons, List.map_cons]
    refine .cons ?_ ih
    obtain ⟨h1, h2, h3⟩ := h
    unfold putAt
    by_cases e : p.1 = k
    · rw [if_pos e, if_pos (h1.symm.trans e)]; exact ⟨h1, h2, ry⟩
    · rw [if_neg e, if_neg (fun z => e (h1.trans z))]; exact ⟨h1, h2, h3⟩
theorem KN.put (r : KN H kvs xs) (k : NestedKey) {b : Addr} {y : V} {u : Value} (hb : k.depth ≤ 8 ∧ KeyV H k (.ref b)) (ry : RelV y u) :
    KN H (putK kvs k y) (storedH xs k b u) := by
  have e : (kvs.any fun kv => decide (kv.1 = k)) = (atKey xs k).isSome := by
    rw [valV_any, (r.val k).isSome_eq, Option.isSome_map]
  unfold putK storedH
  rw [e]
  by_cases q : (atKey xs k).isSome = true
  · rw [if_pos q, if_pos q]; exact r.repl k ry
  · rw [if_neg q, if_neg q]; exact Paired.snoc r ⟨rfl, hb, ry⟩
theorem KN.keeps (r : KN H kvs xs) (ht : ∀ b ys, H b = some (.tup ys) → H' b = some (.tup ys)) : KN H' kvs xs :=
  Paired.mapP r fun _ _ z => ⟨z.1, ⟨z.2.1.1, keyV_mono ht _ _ z.2.1.2⟩, z.2.2⟩
theorem DctN.keeps (d : DctN H a kvs) (ht : ∀ b ys, H b = some (.tup ys) → H' b = some (.tup ys)) (e : H' a = H a) : DctN H' a kvs := by
  rcases d with ⟨h, z⟩ | ⟨xs, h, nf, z, hd, hn, r⟩
  · exact .inl ⟨e.trans h, z⟩
  · exact .inr ⟨xs, e.trans h, nf, z, hd, hn, r.keeps ht⟩
end
section
variable {Y : Cx} {c : Code}
end
end GX

set_option Elab.async false
set_option linter.all false
set_option maxRecDepth 100000
set_option maxHeartbeats 2000000
namespace GD
open PySem PySem.Spec PyProof.Rows L2 GX

/-! ## 1. data -/
/-- a value as data: a tuple by its items, a list (or another thing that may change) by its place in the store -/
inductive D where
  | non | bl (b : Bool) | int (i : Int) | str (x : Str) | tup (l : List D) | ref (n : Nat)
instance : Inhabited D := ⟨.non⟩
inductive Cell where
  | lst (l : List D)
  | frz (l : List D)
  | dic (l : List (List L2.Key × D))
  | obj (c : Str) (l : List (Str × D))
  | dicN (l : List (NestedKey × D))
abbrev EV := List (Option D)
abbrev SS := List Cell
mutual
inductive Rep (ι : List Addr) (H : Hp) : V → D → Prop
  | non : Rep ι H .non .non
  | bl (b : Bool) : Rep ι H (.bl b) (.bl b)
  | int (i : Int) : Rep ι H (.int i) (.int i)
  | str (x : Str) : Rep ι H (.str x) (.str x)
  | tup {a : Addr} {vs : List V} {ds : List D} : H a = some (.tup vs) → ds.length ≤ sizeLine → Reps ι H vs ds → Rep ι H (.ref a) (.tup ds)
  | ref {n : Nat} {a : Addr} : ι[n]? = some a → Rep ι H (.ref a) (.ref n)
inductive Reps (ι : List Addr) (H : Hp) : List V → List D → Prop
  | nil : Reps ι H [] []
  | cons {v : V} {vs : List V} {d : D} {ds : List D} : Rep ι H v d → Reps ι H vs ds → Reps ι H (v :: vs) (d :: ds)
end
/-- what never changes -/
def Fixed : HO → Prop
  | .lst _ => False
  | .dK _ => False
  | .dT _ => False
  | .set _ _ => False
  | .ins _ _ _ => False
  | .xd _ => False
  | .tbl _ => False
  | .ext φ => FldX φ
  | _ => True
/-- what stood stands, but for what the store holds (there what never changes stands) and code tables, which grow -/
structure Kp (ι : List Addr) (H H' : Hp) : Prop where
  keep : ∀ b o, H b = some o → (∀ ps, o ≠ .tbl ps) → (b ∈ ι → Fixed o) → H' b = some o
  tab : ∀ b ps, H b = some (.tbl ps) → ∃ ps', H' b = some (.tbl ps')
theorem fixed_tbl {o : HO} (h : Fixed o) : ∀ ps, o ≠ .tbl ps := fun ps z => by rw [z] at h; exact h
theorem Kp.fix {ι : List Addr} {H H' : Hp} (k : Kp ι H H') {b : Addr} {o : HO} (h : H b = some o) (f : Fixed o) : H' b = some o := k.keep b o h (fixed_tbl f) fun _ => f
theorem Kp.refl {ι : List Addr} (H : Hp) : Kp ι H H := ⟨fun _ _ e _ _ => e, fun _ ps e => ⟨ps, e⟩⟩
theorem Kp.trans {ι : List Addr} {H H1 H2 : Hp} (a : Kp ι H H1) (b : Kp ι H1 H2) : Kp ι H H2 :=
  ⟨fun c o e n f => b.keep c o (a.keep c o e n f) n f, fun c ps e => let ⟨ps1, e1⟩ := a.tab c ps e; b.tab c ps1 e1⟩
/-- the store has grown by what was new -/
theorem Kp.trans2 {ι ι1 : List Addr} {H H1 H2 : Hp} (a : Kp ι H H1) (b : Kp ι1 H1 H2) (n : ∀ c ∈ ι1, c ∈ ι ∨ H c = none) : Kp ι H H2 :=
  ⟨fun c o e m f => b.keep c o (a.keep c o e m f) m fun hc => f ((n c hc).elim id fun z => by rw [z] at e; cases e), fun c ps e => let ⟨ps1, e1⟩ := a.tab c ps e; b.tab c ps1 e1⟩
theorem Kp.fresh {ι : List Addr} {H H' : Hp} (a : Kp ι H H') {c : Addr} (hi : c ∉ ι) (h : H' c = none) : H c = none := by
  cases e : H c with
  | none => rfl
  | some o =>
    by_cases ht : ∃ ps, o = .tbl ps
    · obtain ⟨ps, rfl⟩ := ht
      obtain ⟨ps', e'⟩ := a.tab c ps e
      rw [h] at e'
      cases e'
    · rw [a.keep c o e (fun ps z => ht ⟨ps, z⟩) fun z => absurd z hi] at h
      cases h
theorem Kp.of {ι : List Addr} {H H' : Hp} (h : ∀ b o, H b = some o → H' b = some o) : Kp ι H H' := ⟨fun b o e _ _ => h b o e, fun b ps e => ⟨ps, h b _ e⟩⟩
theorem Kp.new {ι : List Addr} {H : Hp} {p : Addr} {o : HO} (h : H p = none) : Kp ι H (upd H p o) := .of fun b u e => by
  rw [upd_ne (ne_of_none e h)]
  exact e
theorem Kp.grown {ι : List Addr} {H H' : Hp} (g : Grown H H') : Kp ι H H' := ⟨fun b o e n _ => g.keep b o e n, g.tab⟩
theorem Kp.code {ι : List Addr} {H H' : Hp} (k : Kp ι H H') {c P : Addr} (h : H c = some (CodeG c P)) : H' c = some (CodeG c P) := k.fix h (by unfold CodeG; exact fun _ ⟨o, vs, _, _, _, _, _, _, _, e1, _, e2, _⟩ => ⟨_, o, vs, e1, e2⟩)
/-- a list of the store is written -/
theorem Kp.wr {ι : List Addr} {H : Hp} {p : Addr} {xs : List V} {o : HO} (h : H p = some (.lst xs)) (hp : p ∈ ι) : Kp ι H (upd H p o) := by
  refine ⟨fun b u e n f => ?_, fun b ps e => ⟨ps, ?_⟩⟩
  · rw [upd_ne]
    · exact e
    · intro z
      subst z
      rw [h] at e
      cases e
      exact f hp
  · rw [upd_ne]
    · exact e
    · intro z
      rw [z, h] at e
      cases e

section
variable {ι ι' ιk : List Addr} {H H' : Hp}
theorem pre_get (p : ι <+: ι') {n : Nat} {a : Addr} (h : ι[n]? = some a) : ι'[n]? = some a := by
  obtain ⟨t, rfl⟩ := p
  rw [List.getElem?_append_left (List.getElem?_eq_some_iff.mp h).1]
  exact h
mutual
theorem Rep.mono (k : Kp ιk H H') (p : ι <+: ι') : ∀ {v : V} {d : D}, Rep ι H v d → Rep ι' H' v d
  | _, _, .non => .non
  | _, _, .bl b => .bl b
  | _, _, .int i => .int i
  | _, _, .str x => .str x
  | _, _, .tup h l r =>   .tup (k.fix h trivial) l (Reps.mono k p r)
  | _, _, .ref h => .ref (pre_get p h)
theorem Reps.mono (k : Kp ιk H H') (p : ι <+: ι') : ∀ {vs : List V} {ds : List D}, Reps ι H vs ds → Reps ι' H' vs ds
  | _, _, .nil => .nil
  | _, _, .cons r t => .cons (Rep.mono k p r) (Reps.mono k p t)
end
theorem Rep.kp (k : Kp ι H H') {v : V} {d : D} (r : Rep ι H v d) : Rep ι H' v d := r.mono k (List.prefix_refl _)
theorem Reps.kp (k : Kp ι H H') {vs : List V} {ds : List D} (r : Reps ι H vs ds) : Reps ι H' vs ds := r.mono k (List.prefix_refl _)
theorem Reps.length : ∀ {vs : List V} {ds : List D}, Reps ι H vs ds → vs.length = ds.length
  | _, _, .nil => rfl
  | _, _, .cons _ t => by rw [List.length_cons, List.length_cons, Reps.length t]
theorem Reps.get : ∀ {vs : List V} {ds : List D} {i : Nat} {v : V}, Reps ι H vs ds → vs[i]? = some v → ∃ d, ds[i]? = some d ∧ Rep ι H v d
  | _, _, _, _, .nil, e => by simp at e
  | _, _, 0, _, .cons r _, e => by simp at e; subst e; exact ⟨_, rfl, r⟩
  | _, _, i + 1, v, .cons _ t, e => by
    obtain ⟨d, h1, h2⟩ := Reps.get (i := i) (v := v) t (by simpa using e)
    exact ⟨d, by simpa using h1, h2⟩
theorem Reps.get' : ∀ {vs : List V} {ds : List D} {i : Nat} {d : D}, Reps ι H vs ds → ds[i]? = some d → ∃ v, vs[i]? = some v ∧ Rep ι H v d
  | _, _, _, _, .nil, e => by simp at e
  | _, _, 0, _, .cons r _, e => by simp at e; subst e; exact ⟨_, rfl, r⟩
  | _, _, i + 1, d, .cons _ t, e => by
    obtain ⟨v, h1, h2⟩ := Reps.get' (i := i) (d := d) t (by simpa using e)
    exact ⟨v, by simpa using h1, h2⟩
theorem Reps.append : ∀ {vs ws : List V} {ds es : List D}, Reps ι H vs ds → Reps ι H ws es → Reps ι H (vs ++ ws) (ds ++ es)
  | _, _, _, _, .nil, s => s
  | _, _, _, _, .cons r t, s => .cons r (Reps.append t s)
theorem Reps.set {v : V} {d : D} (r : Rep ι H v d) : ∀ {vs : List V} {ds : List D} (i : Nat), Reps ι H vs ds → Reps ι H (vs.set i v) (ds.set i d)
  | _, _, _, .nil => .nil
  | _, _, 0, .cons _ t => .cons r t
  | _, _, i + 1, .cons q t => .cons q (Reps.set r i t)
theorem Reps.take : ∀ {vs : List V} {ds : List D} (n : Nat), Reps ι H vs ds → Reps ι H (vs.take n) (ds.take n)
  | _, _, 0, _ => .nil
  | _, _, _ + 1, .nil => .nil
  | _, _, n + 1, .cons r t => .cons r (Reps.take n t)
theorem Reps.drop : ∀ {vs : List V} {ds : List D} (n : Nat), Reps ι H vs ds → Reps ι H (vs.drop n) (ds.drop n)
  | _, _, 0, r => r
  | _, _, _ + 1, .nil => .nil
  | _, _, n + 1, .cons _ t => Reps.drop n t
theorem Reps.one {v : V} {d : D} (r : Rep ι H v d) : Reps ι H [v] [d] := .cons r .nil
theorem Reps.ints : ∀ {vs : List V} {ns : List Int}, Reps ι H vs (ns.map D.int) → vs = ns.map V.int
  | _, [], h => by cases h; rfl
  | _, n :: ns, h => by
    cases h with
    | cons r t =>
      cases r
      rw [Reps.ints t]
      rfl
theorem Reps.of_ints : ∀ {ns : List Int}, Reps ι H (ns.map V.int) (ns.map D.int)
  | [] => .nil
  | _ :: _ => .cons (.int _) Reps.of_ints
-- the places in a datum lie in the store
mutual
def D.lo (n : Nat) : D → Bool
  | .ref m => decide (m < n)
  | .tup l => D.loAll n l
  | _ => true
def D.loAll (n : Nat) : List D → Bool
  | [] => true
  | d :: ds => D.lo n d && D.loAll n ds
end
mutual
theorem Rep.low : ∀ {v : V} {d : D}, Rep ι H v d → D.lo ι.length d = true
  | _, _, .non => rfl
  | _, _, .bl b => rfl
  | _, _, .int i => rfl
  | _, _, .str x => rfl
  | _, _, .tup h l r => by unfold D.lo; exact Reps.low r
  | _, _, .ref h => by unfold D.lo; exact decide_eq_true (List.getElem?_eq_some_iff.mp h).1
theorem Reps.low : ∀ {vs : List V} {ds : List D}, Reps ι H vs ds → D.loAll ι.length ds = true
  | _, _, .nil => by unfold D.loAll; rfl
  | _, _, .cons r t => by unfold D.loAll; rw [Rep.low r, Reps.low t]; rfl
end
-- a datum that needs the older places alone
mutual
theorem Rep.cut (p : ι <+: ι') : ∀ {v : V} {d : D}, Rep ι' H v d → D.lo ι.length d = true → Rep ι H v d
  | _, _, .non, _ => .non
  | _, _, .bl b, _ => .bl b
  | _, _, .int i, _ => .int i
  | _, _, .str x, _ => .str x
  | _, _, .tup h l r, q => .tup h l (Reps.cut p r (by unfold D.lo at q; exact q))
  | _, _, .ref h, q => .ref (by
      unfold D.lo at q
      have q := of_decide_eq_true q
      obtain ⟨t, rfl⟩ := p
      rw [List.getElem?_append_left q] at h
      exact h)
theorem Reps.cut (p : ι <+: ι') : ∀ {vs : List V} {ds : List D}, Reps ι' H vs ds → D.loAll ι.length ds = true → Reps ι H vs ds
  | _, _, .nil, _ => .nil
  | _, _, .cons r t, q => by
    unfold D.loAll at q
    rw [Bool.and_eq_true] at q
    exact .cons (Rep.cut p r q.1) (Reps.cut p t q.2)
end
end

/-! ## 2. the store -/
/-- what is fixed through the law -/
structure Ws where
  K : PySem.W.Frag
  base : Heap
  nm : Nat → Nat → Option Str
  tabs : List (Addr × Addr)
  cls : Str → Option Addr := fun _ => none
/-- and the code object that runs -/
structure Wd where
  s : Ws
  c : Addr
  fx : List (Nat × V) := []
  sq : List (Addr × List Int) := []
  lm : List (Addr × Expr × List D) := []
  gn : Bool := true
/-- pairs: the same names or keys, values that stand for data -/
structure PairsR {κ : Type} (ι : List Addr) (H : Hp) (vs : List (κ × V)) (ds : List (κ × D)) : Prop where
  keys : vs.map (·.1) = ds.map (·.1)
  vals : Reps ι H (vs.map (·.2)) (ds.map (·.2))
theorem PairsR.mono {κ : Type} {ι ι' ιk : List Addr} {H H' : Hp} {vs : List (κ × V)} {ds : List (κ × D)} (h : PairsR ι H vs ds) (k : Kp ιk H H') (p : ι <+: ι') : PairsR ι' H' vs ds := ⟨h.keys, h.vals.mono k p⟩
def CellR (w : Ws) (ι : List Addr) (H : Hp) (a : Addr) : Cell → Prop
  | .lst ds => ∃ vs, H a = some (.lst vs) ∧ ds.length ≤ sizeLine ∧ Reps ι H vs ds
  | .frz ds => ∃ o vs, H a = some (.frz o (.lst vs)) ∧ ds.length ≤ sizeLine ∧ Reps ι H vs ds
  | .dic ds => ∃ vs, H a = some (.dT vs) ∧ ds.length ≤ sizeLine ∧ PairsR ι H vs ds
  | .obj x ds => ∃ C dx vs, H a = some (.ins C dx vs) ∧ w.cls x = some C ∧ PairsR ι H vs ds
  | .dicN ds => ∃ vs, DctN H a vs ∧ ds.length ≤ sizeLine ∧ PairsR ι H vs ds
structure SR (w : Ws) (ι : List Addr) (st : SS) (H : Hp) : Prop where
  len : ι.length = st.length
  nd : ι.Nodup
  cell : ∀ (n : Nat) (a : Addr) (c : Cell), ι[n]? = some a → st[n]? = some c → CellR w ι H a c
  tabs : AllTabs w.nm H
  tab : ∀ p ∈ w.tabs, ∃ ps, H p.2 = some (.tbl ps)
section
variable {w : Ws} {ι ι' ιk : List Addr} {st : SS} {H H' : Hp} {a : Addr}
theorem CellR.ext {c : Cell} (h : CellR w ι H a c) (k : Kp ιk H H') (p : ι <+: ι') (e : H' a = H a) : CellR w ι' H' a c := by
  cases c with
  | lst ds =>
    obtain ⟨vs, h1, l, h2⟩ := h
    exact ⟨vs, e.trans h1, l, h2.mono k p⟩
  | frz ds =>
    obtain ⟨o, vs, h1, l, h2⟩ := h
    exact ⟨o, vs, e.trans h1, l, h2.mono k p⟩
  | dic ds =>
    obtain ⟨vs, h1, l, h2⟩ := h
    exact ⟨vs, e.trans h1, l, h2.mono k p⟩
  | obj x ds =>
    obtain ⟨C, dx, vs, h1, l, h2⟩ := h
    exact ⟨C, dx, vs, e.trans h1, l, h2.mono k p⟩
  | dicN ds =>
    obtain ⟨vs, h1, l, h2⟩ := h
    exact ⟨vs, h1.keeps (fun b ys eb => k.fix eb True.intro) e, l, h2.mono k p⟩
/-- new things are tracked -/
theorem SR.ext (s : SR w ι st H) (k : ∀ b o, H b = some o → H' b = some o) (n : ∀ b, b ∈ ι → H' b = H b) (t : ∀ P ps, H' P = some (.tbl ps) → H P = some (.tbl ps)) : SR w ι st H' := by
  refine ⟨s.len, s.nd, fun n' a c h1 h2 => (s.cell n' a c h1 h2).ext (ιk := ι) (.of k) (List.prefix_refl _) (n a (List.mem_of_getElem? h1)), fun P ps e => ?_, fun P hP => ?_⟩
  · obtain ⟨q1, q2⟩ := s.tabs P ps (t P ps e)
    refine ⟨q1, fun pos cv hcv => ?_⟩
    obtain ⟨c, e1, e2⟩ := q2 pos cv hcv
    exact ⟨c, e1, (Grown.entry (H := H) (H' := H') ⟨fun b o e _ => k b o e, fun b ps e => ⟨ps, k b _ e⟩⟩ e2)⟩
  · obtain ⟨ps, e⟩ := s.tab P hP
    exact ⟨ps, k _ _ e⟩
theorem SR.new (s : SR w ι st H) {p : Addr} {o : HO} (hp : H p = none) (ho : ∀ ps, o ≠ .tbl ps) (hi : p ∉ ι) : SR w ι st (upd H p o) := by
  refine s.ext (fun b u e => by rw [upd_ne (ne_of_none e hp)]; exact e) (fun b hb => upd_ne fun z => hi (z ▸ hb)) fun P ps e => ?_
  by_cases hP : P = p
  · rw [hP, upd_same] at e
    exact absurd (Option.some.inj e) (ho ps)
  · rw [upd_ne hP] at e
    exact e
/-- where only code tables have grown -/
theorem SR.grown (s : SR w ι st H) (g : Grown H H') (T : AllTabs w.nm H') (n : ∀ b, b ∈ ι → H' b = H b) : SR w ι st H' :=
  ⟨s.len, s.nd, fun n' a c h1 h2 => (s.cell n' a c h1 h2).ext (ιk := ι) (.grown g) (List.prefix_refl _) (n a (List.mem_of_getElem? h1)), T, fun P hP => let ⟨ps, e⟩ := s.tab P hP; g.tab _ _ e⟩
end
theorem allTabs_kp {nm : Nat → Nat → Option Str} {ι : List Addr} {H H' : Hp} (T : AllTabs nm H) (k : Kp ι H H') (t : ∀ P ps, H' P = some (.tbl ps) → H P = some (.tbl ps)) : AllTabs nm H' := by
  intro P ps e
  obtain ⟨q1, q2⟩ := T P ps (t P ps e)
  refine ⟨q1, fun pos cv hcv => ?_⟩
  obtain ⟨c, e1, e2⟩ := q2 pos cv hcv
  refine ⟨c, e1, ?_⟩
  unfold EntryOk at e2 ⊢
  split
  · rename_i e
    rw [e] at e2
    obtain ⟨P', h1, ps', h2⟩ := e2
    exact ⟨P', k.code h1, k.tab _ _ h2⟩
  · rename_i q e
    rw [e] at e2
    exact k.fix e2 (by unfold LamX.CodeO; exact fun _ ⟨oc, vs, _, e1, e2, _⟩ => ⟨_, oc, vs, e1, e2⟩)
section
variable {w : Ws} {ι : List Addr} {st : SS} {H : Hp} {p : Addr}
/-- a list that the store does not hold is written -/
theorem SR.put (s : SR w ι st H) {xs ys : List V} (hp : H p = some (.lst xs)) (hi : p ∉ ι) : SR w ι st (upd H p (.lst ys)) := by
  have k : Kp [p] H (upd H p (.lst ys)) := Kp.wr hp (List.mem_singleton.mpr rfl)
  refine ⟨s.len, s.nd, fun n' a c h1 h2 => (s.cell n' a c h1 h2).ext k (List.prefix_refl _) (upd_ne fun z => hi (z ▸ List.mem_of_getElem? h1)), allTabs_kp s.tabs k fun P ps e => ?_, fun q hq => let ⟨ps, e⟩ := s.tab q hq; k.tab _ _ e⟩
  by_cases hP : P = p
  · rw [hP, upd_same] at e
    cases e
  · rw [upd_ne hP] at e
    exact e
theorem Reps.put {ds : List D} {vs xs ys : List V} (r : Reps ι H vs ds) (hp : H p = some (.lst xs)) : Reps ι (upd H p (.lst ys)) vs ds := r.mono (Kp.wr (ι := [p]) hp (List.mem_singleton.mpr rfl)) (List.prefix_refl _)
theorem Rep.put {d : D} {v : V} {xs ys : List V} (r : Rep ι H v d) (hp : H p = some (.lst xs)) : Rep ι (upd H p (.lst ys)) v d := r.mono (Kp.wr (ι := [p]) hp (List.mem_singleton.mpr rfl)) (List.prefix_refl _)
/-- what was new is written -/
theorem Kp.put {H1 : Hp} {o : HO} (k : Kp ι H H1) (hp : H p = none) : Kp ι H (upd H1 p o) := by
  refine ⟨fun b u e n f => ?_, fun b ps e => ?_⟩
  · rw [upd_ne (ne_of_none e hp)]
    exact k.keep b u e n f
  · obtain ⟨ps', e'⟩ := k.tab b ps e
    exact ⟨ps', by rw [upd_ne (ne_of_none e hp)]; exact e'⟩
theorem nodup_ix : ∀ {l : List Addr} {i j : Nat} {a : Addr}, l.Nodup → l[i]? = some a → l[j]? = some a → i = j
  | [], _, _, _, _, h, _ => by simp at h
  | x :: xs, 0, 0, _, _, _, _ => rfl
  | x :: xs, 0, j + 1, a, hn, h1, h2 => by
    simp at h1 h2 hn
    subst h1
    exact absurd (List.mem_of_getElem? h2) hn.1
  | x :: xs, i + 1, 0, a, hn, h1, h2 => by
    simp at h1 h2 hn
    subst h2
    exact absurd (List.mem_of_getElem? h1) hn.1
  | x :: xs, i + 1, j + 1, a, hn, h1, h2 => by
    simp at h1 h2 hn
    rw [nodup_ix hn.2 h1 h2]
/-- a list of the store is written -/
theorem SR.wr (s : SR w ι st H) {n : Nat} {ds : List D} {vs : List V} (hn : ι[n]? = some p) (hx : ∃ xs, H p = some (.lst xs)) (hl : ds.length ≤ sizeLine) (r : Reps ι H vs ds) : SR w ι (st.set n (.lst ds)) (upd H p (.lst vs)) := by
  obtain ⟨xs, hp⟩ := hx
  have k : Kp [p] H (upd H p (.lst vs)) := Kp.wr hp (List.mem_singleton.mpr rfl)
  refine ⟨by rw [List.length_set]; exact s.len, s.nd, fun m a c h1 h2 => ?_, allTabs_kp s.tabs k fun P ps e => ?_, fun q hq => let ⟨ps, e⟩ := s.tab q hq; k.tab _ _ e⟩
  · by_cases hm : n = m
    · subst hm
      rw [hn] at h1
      cases h1
      have hlt : n < st.length := by rw [← s.len]; exact (List.getElem?_eq_some_iff.mp hn).1
      rw [List.getElem?_set_self hlt] at h2
      cases h2
      exact ⟨vs, upd_same, hl, r.put hp⟩
    · rw [List.getElem?_set_ne hm] at h2
      refine (s.cell m a c h1 h2).ext k (List.prefix_refl _) (upd_ne fun z => hm ?_)
      subst z
      exact nodup_ix s.nd hn h1
  · by_cases hP : P = p
    · rw [hP, upd_same] at e
      cases e
    · rw [upd_ne hP] at e
      exact e
/-- a list goes into the store -/
theorem SR.add (s : SR w ι st H) {ds : List D} {vs : List V} (hp : H p = some (.lst vs)) (hi : p ∉ ι) (hl : ds.length ≤ sizeLine) (r : Reps ι H vs ds) : SR w (ι ++ [p]) (st ++ [.lst ds]) H := by
  refine ⟨by rw [List.length_append, List.length_append, s.len]; rfl, ?_, fun m a c h1 h2 => ?_, s.tabs, s.tab⟩
  · rw [List.nodup_append]
    exact ⟨s.nd, by simp, fun a ha b hb => by rw [List.mem_singleton.mp hb]; exact fun z => hi (z ▸ ha)⟩
  · have k : Kp ι H H := Kp.refl H
    have hpre : ι <+: ι ++ [p] := List.prefix_append _ _
    by_cases hm : m < ι.length
    · rw [List.getElem?_append_left hm] at h1
      rw [List.getElem?_append_left (by rw [← s.len]; exact hm)] at h2
      exact (s.cell m a c h1 h2).ext k hpre rfl
    · have hlt := (List.getElem?_eq_some_iff.mp h1).1
      rw [List.length_append, List.length_singleton] at hlt
      have e : m = ι.length := by omega
      subst e
      rw [List.getElem?_append_right (Nat.le_refl _), Nat.sub_self] at h1
      rw [s.len, List.getElem?_append_right (Nat.le_refl _), Nat.sub_self] at h2
      cases h1; cases h2
      exact ⟨vs, hp, hl, r.mono k hpre⟩
end
/-- the code object that runs has its table -/
def Cod (w : Wd) (H : Hp) : Prop := w.gn = true → ∃ P, CodeAt w.s.base H w.c P ∧ ∃ ps, H P = some (.tbl ps)
theorem Cod.kp {w : Wd} {ι : List Addr} {H H' : Hp} (h : Cod w H) (k : Kp ι H H') : Cod w H' := by
  intro hg
  obtain ⟨P, h1, ps, h2⟩ := h hg
  refine ⟨P, ?_, k.tab _ _ h2⟩
  rcases h1 with h1 | h1
  · exact .inl h1
  · exact .inr (k.code h1)
/-! ## 3. lambdas that are at hand -/
/-- the object at a is just o -/
def PinO (a : Addr) (o : Obj) : HO := .frz o (.own a)
/-- the captured names of a lambda, in its scope's order -/
def freeN (scope : Scope) : List Str := (scope.names.filter fun y => decide (y.2 = .free)).map (·.1)
inductive CapsAt (H : Hp) (cl : List (Str × Addr)) : List Str → List V → Prop
  | nil : CapsAt H cl [] []
  | cons {y : Str} {ys : List Str} {c : Addr} {o : Obj} {u : Value} {v : V} {vs : List V} : cl.lookup y = some c → H c = some (PinO c o) → o.data = .cell (some u) → RelV v u → CapsAt H cl ys vs → CapsAt H cl (y :: ys) (v :: vs)
/-- the function object at f is that of the lambda l, with what it captured -/
structure LamAt (H : Hp) (f : Addr) (l : Expr) (vs : List V) : Prop where
  ex : ∃ (params : Arguments) (body : Expr) (scope : Scope) (pos : Pos) (qual : Str) (cl : List (Str × Addr)) (pm ctv : Value) (c' : Addr), l = .Lambda params body scope pos ∧ H f = some (PinO f (PySem.W.kla_obj "<lambda>" qual params body scope cl pm c' ctv)) ∧ H c' = some (LamX.CodeO c' qual) ∧
    CapsAt H cl (freeN scope) vs ∧ (∀ x c, cl.lookup x = some c → x ∈ freeN scope) ∧ ∀ x y c, cl.lookup x = some c → cl.lookup y = some c → x = y
theorem Kp.pin {ι : List Addr} {H H' : Hp} (k : Kp ι H H') {a b : Addr} {o : Obj} (h : H a = some (PinO b o)) : H' a = some (PinO b o) := k.fix h trivial
theorem CapsAt.kp {ι : List Addr} {H H' : Hp} {cl : List (Str × Addr)} (k : Kp ι H H') : ∀ {ys : List Str} {vs : List V}, CapsAt H cl ys vs → CapsAt H' cl ys vs
  | _, _, .nil => .nil
  | _, _, .cons h1 h2 h3 h4 t => .cons h1 (k.pin h2) h3 h4 (CapsAt.kp k t)
theorem LamAt.kp {ι : List Addr} {H H' : Hp} {f : Addr} {l : Expr} {vs : List V} (h : LamAt H f l vs) (k : Kp ι H H') : LamAt H' f l vs := by
  obtain ⟨params, body, scope, pos, qual, cl, pm, ctv, c', h1, h2, h3, h4, h5⟩ := h.ex
  exact ⟨params, body, scope, pos, qual, cl, pm, ctv, c', h1, k.pin h2, k.fix h3 (by unfold LamX.CodeO; exact fun _ ⟨oc, vs, _, e1, e2, _⟩ => ⟨_, oc, vs, e1, e2⟩), h4.kp k, h5⟩
structure LamR (ι : List Addr) (H : Hp) (f : Addr) (l : Expr) (caps : List D) : Prop where
  ex : ∃ vs, LamAt H f l vs ∧ Reps ι H vs caps
theorem LamR.mono {ι ι' ιk : List Addr} {H H' : Hp} {f : Addr} {l : Expr} {caps : List D} (h : LamR ι H f l caps) (k : Kp ιk H H') (p : ι <+: ι') : LamR ι' H' f l caps := let ⟨vs, h1, h2⟩ := h.ex; ⟨vs, h1.kp k, h2.mono k p⟩
end GD

set_option Elab.async false
set_option linter.all false
set_option maxRecDepth 100000
set_option maxHeartbeats 2000000
namespace GD
open PySem PySem.Spec PyProof.Rows L2 GX

/-! ## 3. readings over data -/
structure Fit (X : Cx) (w : Wd) : Prop where
  k : X.K = w.s.K
  b : X.base = w.s.base
  c : X.env.code = .ref w.c
/-- a list of ints that nobody writes -/
def Scr (K : PySem.W.Frag) (H : Hp) (a : Addr) (ns : List Int) : Prop := (∃ o, H a = some (.frz o (.lst (ns.map V.int)))) ∨ ∀ H', SqL K H' a (ns.map V.int)
theorem Scr.sql {K : PySem.W.Frag} {H : Hp} {a : Addr} {ns : List Int} (h : Scr K H a ns) : SqL K H a (ns.map V.int) := h.elim (fun ⟨o, e⟩ => .inl (.inr ⟨o, e⟩)) fun h => h H
theorem Scr.kp {K : PySem.W.Frag} {ι : List Addr} {H H' : Hp} {a : Addr} {ns : List Int} (k : Kp ι H H') (h : Scr K H a ns) : Scr K H' a ns := h.elim (fun ⟨o, e⟩ => .inl ⟨o, k.fix e trivial⟩) .inr
structure EnvR (w : Wd) (ι : List Addr) (env : EV) (σ : L2.St) (H : Hp) : Prop where
  len : env.length = σ.length
  at_ : ∀ (i : Nat) (d : D), env[i]? = some (some d) → ∃ v, σ[i]? = some (some v) ∧ Rep ι H v d
  cod : Cod w H
  fx : ∀ p ∈ w.fx, σ[p.1]? = some (some p.2)
  sq : ∀ p ∈ w.sq, Scr w.s.K H p.1 p.2
  lm : ∀ p ∈ w.lm, LamR ι H p.1 p.2.1 p.2.2
theorem EnvR.mono {w : Wd} {ι ι' ιk : List Addr} {env : EV} {σ : L2.St} {H H' : Hp} (e : EnvR w ι env σ H) (k : Kp ιk H H') (p : ι <+: ι') : EnvR w ι' env σ H' :=
  ⟨e.len, fun i d h => let ⟨v, h1, h2⟩ := e.at_ i d h; ⟨v, h1, h2.mono k p⟩, e.cod.kp k, e.fx, fun p h => (e.sq p h).kp k, fun q h => (e.lm q h).mono k p⟩
theorem EnvR.kp {w : Wd} {ι : List Addr} {env : EV} {σ : L2.St} {H H' : Hp} (e : EnvR w ι env σ H) (k : Kp ι H H') : EnvR w ι env σ H' := e.mono k (List.prefix_refl _)
theorem EnvR.set {w : Wd} {ι : List Addr} {env : EV} {σ : L2.St} {H : Hp} {v : V} {d : D} (e : EnvR w ι env σ H) (i : Nat) (r : Rep ι H v d) (hfx : ∀ p ∈ w.fx, p.1 ≠ i) : EnvR w ι (env.set i (some d)) (σ.set i (some v)) H := by
  refine ⟨by rw [List.length_set, List.length_set]; exact e.len, fun j x h => ?_, e.cod, fun p hp => by rw [List.getElem?_set_ne (Ne.symm (hfx p hp))]; exact e.fx p hp, e.sq, e.lm⟩
  by_cases hj : i = j
  · subst hj
    by_cases hl : i < env.length
    · rw [List.getElem?_set_self hl] at h
      cases h
      exact ⟨v, List.getElem?_set_self (by rw [← e.len]; exact hl), r⟩
    · rw [List.getElem?_eq_none (by rw [List.length_set]; omega)] at h
      cases h
  · rw [List.getElem?_set_ne hj] at h ⊢
    exact e.at_ j x h

abbrev MP := EV → SS → Option D
abbrev MB := EV → SS → Option Bool
abbrev ML := EV → SS → Option (List D)
def tP (w : Wd) (m : MP) : TE := fun σ H Q => ∃ ι env st d, EnvR w ι env σ H ∧ SR w.s ι st H ∧ m env st = some d ∧ ∀ v H', Kp ι H H' → Rep ι H' v d → SR w.s ι st H' → Q v H'
def tBo (w : Wd) (m : MB) : TT := fun σ H Q => ∃ ι env st b, EnvR w ι env σ H ∧ SR w.s ι st H ∧ m env st = some b ∧ ∀ H', Kp ι H H' → SR w.s ι st H' → Q b H'
def tAs (w : Wd) (m : ML) : TA := fun σ H Q => ∃ ι env st ds, EnvR w ι env σ H ∧ SR w.s ι st H ∧ m env st = some ds ∧ ∀ vs H', Kp ι H H' → Reps ι H' vs ds → SR w.s ι st H' → Q vs H'
/-- a new list that nobody holds -/
def tLs (w : Wd) (m : ML) : TE := fun σ H Q => ∃ ι env st ds, EnvR w ι env σ H ∧ SR w.s ι st H ∧ m env st = some ds ∧
  ∀ p vs H', Kp ι H H' → H' p = some (.lst vs) → H p = none → ds.length ≤ sizeLine → Reps ι H' vs ds → SR w.s ι st H' → Q (.ref p) H'
theorem PE.mo {X : Cx} {e : Expr} {t t' : TE} (h : PE X e t) (q : ∀ σ H Q, t' σ H Q → t σ H Q) : PE X e t' := ⟨fun pins s σ H Q I h' => h.run pins s σ H Q I (q σ H Q h')⟩
theorem PT.mo {X : Cx} {e : Expr} {t t' : TT} (h : PT X e t) (q : ∀ σ H Q, t' σ H Q → t σ H Q) : PT X e t' := ⟨fun pins s σ H Q I h' => h.run pins s σ H Q I (q σ H Q h')⟩
theorem PW.mo {X : Cx} {e : Expr} {t t' : TT} (h : PW X e t) (q : ∀ σ H Q, t' σ H Q → t σ H Q) : PW X e t' := ⟨fun whole pins s σ H Q I h' => h.run whole pins s σ H Q I (q σ H Q h')⟩
theorem PA.mo {X : Cx} {es : List Expr} {t t' : TA} (h : PA X es t) (q : ∀ σ H Q, t' σ H Q → t σ H Q) : PA X es t' := ⟨fun pos pins s σ H Q I h' => h.run pos pins s σ H Q I (q σ H Q h')⟩
theorem nin_of {w : Ws} {ι : List Addr} {st : SS} {H : Hp} (s : SR w ι st H) {p : Addr} (h : H p = none) : p ∉ ι := fun hm => by
  obtain ⟨n, hn, e⟩ := List.getElem_of_mem hm
  have e1 : ι[n]? = some p := by rw [List.getElem?_eq_getElem hn, e]
  have hl : n < st.length := by rw [← s.len]; exact hn
  have q := s.cell n p st[n] e1 (List.getElem?_eq_getElem hl)
  cases hc : st[n] with
  | lst ds =>
    rw [hc] at q
    obtain ⟨vs, h1, _⟩ := q
    rw [h] at h1
    cases h1
  | frz ds =>
    rw [hc] at q
    obtain ⟨o, vs, h1, _⟩ := q
    rw [h] at h1
    cases h1
  | dic ds =>
    rw [hc] at q
    obtain ⟨vs, h1, _⟩ := q
    rw [h] at h1
    cases h1
  | obj x ds =>
    rw [hc] at q
    obtain ⟨C, dx, vs, h1, _⟩ := q
    rw [h] at h1
    cases h1
  | dicN ds =>
    rw [hc] at q
    obtain ⟨vs, h1, _⟩ := q
    rcases h1 with ⟨h1, _⟩ | ⟨xs, h1, _⟩ <;> rw [h] at h1 <;> cases h1

section
variable {X : Cx} {w : Wd} {pos : Pos}
/-! ### names, constants, displays -/
def mVar (i : Nat) : MP := fun env _ => match env[i]? with | some (some d) => some d | _ => none
theorem dp_var (i : Nat) {x : Str} (hN : X.N[i]? = some x := by rfl) (hv : Vis X.env.scope x := by first | exact Or.inl rfl | exact Or.inr (Or.inl rfl) | exact Or.inr (Or.inr rfl)) (hd : (x == ("__debug__" : Str)) = false := by decide)
    (hcd : (x == ("__classdict__" : Str)) = false := by decide) : PE X (.Name x pos) (tP w (mVar i)) := by
  refine PE.mo (pe_var hN hv hd hcd) fun σ H Q ⟨ι, env, st, d, he, hs, hm, q⟩ => ?_
  unfold mVar at hm
  split at hm
  · rename_i d' e
    cases hm
    obtain ⟨v, e1, r⟩ := he.at_ i _ e
    exact ⟨v, e1, q v H (Kp.refl H) r hs⟩
  · cases hm
def mC (d : D) : MP := fun _ _ => some d
theorem dp_int {i : Int} {j : Nat} : PE X (.Constant (.int i) j pos) (tP w (mC (.int i))) :=
  PE.mo pe_int fun σ H Q ⟨ι, env, st, d, he, hs, hm, q⟩ => by cases hm; exact q _ H (Kp.refl H) (.int i) hs
theorem dp_bl {i : Bool} {j : Nat} : PE X (.Constant (.bool i) j pos) (tP w (mC (.bl i))) :=
  PE.mo pe_bl fun σ H Q ⟨ι, env, st, d, he, hs, hm, q⟩ => by cases hm; exact q _ H (Kp.refl H) (.bl i) hs
theorem dp_str {x : Str} {j : Nat} : PE X (.Constant (.str x) j pos) (tP w (mC (.str x))) :=
  PE.mo pe_str fun σ H Q ⟨ι, env, st, d, he, hs, hm, q⟩ => by cases hm; exact q _ H (Kp.refl H) (.str x) hs
theorem dp_non {j : Nat} : PE X (.Constant .none j pos) (tP w (mC .non)) :=
  PE.mo pe_non fun σ H Q ⟨ι, env, st, d, he, hs, hm, q⟩ => by cases hm; exact q _ H (Kp.refl H) .non hs
def mNil : ML := fun _ _ => some []
def mCons (m : MP) (r : ML) : ML := fun env st => match m env st, r env st with | some d, some ds => some (d :: ds) | _, _ => none
theorem da_nil : PA X [] (tAs w mNil) := PA.mo pa_nil fun σ H Q ⟨ι, env, st, d, he, hs, hm, q⟩ => by cases hm; exact q _ H (Kp.refl H) .nil hs
theorem da_cons {e : Expr} {es : List Expr} {m : MP} {r : ML} (ha : PE X e (tP w m)) (hr : PA X es (tAs w r)) (hs : starEach (e :: es) X.env = (false, eval e X.env) :: starEach es X.env := by rfl) : PA X (e :: es) (tAs w (mCons m r)) := by
  refine PA.mo (pa_cons ha hr hs) fun σ H Q ⟨ι, env, st, ds, he, hst, hm, q⟩ => ?_
  unfold mCons at hm
  split at hm
  · rename_i d ds' e1 e2
    cases hm
    exact ⟨ι, env, st, d, he, hst, e1, fun x H1 k1 r1 s1 => ⟨ι, env, st, ds', he.kp k1, s1, e2, fun xs H2 k2 r2 s2 => q _ _ (k1.trans k2) (.cons (r1.kp k2) r2) s2⟩⟩
  · cases hm
def mTup (r : ML) : MP := fun env st => match r env st with | some ds => if ds.length ≤ 1000 then some (.tup ds) else none | none => none
theorem small_size {n : Nat} (h : n ≤ 1000) : n ≤ sizeLine := Nat.le_trans h (by decide)
theorem dp_tup {es : List Expr} {r : ML} {x1 : Nat} (h : PA X es (tAs w r)) : PE X (.Tuple es x1 pos) (tP w (mTup r)) := by
  refine PE.mo (pe_tup h) fun σ H Q ⟨ι, env, st, d, he, hst, hm, q⟩ => ?_
  unfold mTup at hm
  split at hm
  · rename_i ds e1
    split at hm
    · rename_i hl
      cases hm
      refine ⟨ι, env, st, ds, he, hst, e1, fun xs H1 k1 r1 s1 => ⟨by rw [r1.length]; exact small_size hl, fun p hp => ?_⟩⟩
      exact q _ _ (k1.trans (Kp.new hp)) (.tup upd_same (small_size hl) (r1.kp (Kp.new hp))) (s1.new hp (fun _ z => by cases z) (nin_of s1 hp))
    · cases hm
  · cases hm
def mLst (r : ML) : ML := fun env st => match r env st with | some ds => if ds.length ≤ 1000 then some ds else none | none => none
theorem dl_lst {es : List Expr} {r : ML} (h : PA X es (tAs w r)) : PE X (.List es pos) (tLs w (mLst r)) := by
  refine PE.mo (pe_lst h) fun σ H Q ⟨ι, env, st, ds, he, hst, hm, q⟩ => ?_
  unfold mLst at hm
  split at hm
  · rename_i ds' e1
    split at hm
    · rename_i hl
      cases hm
      refine ⟨ι, env, st, _, he, hst, e1, fun xs H1 k1 r1 s1 => ⟨by rw [r1.length]; exact small_size hl, fun p hp => ?_⟩⟩
      exact q p xs _ (k1.trans (Kp.new hp)) upd_same (k1.fresh (nin_of s1 hp) hp) (small_size hl) (r1.kp (Kp.new hp)) (s1.new hp (fun _ z => by cases z) (nin_of s1 hp))
    · cases hm
  · cases hm

/-! ### operators -/
abbrev F2 := SS → D → D → Option D
def mOp (f : F2) (a b : MP) : MP := fun env st => match a env st, b env st with | some x, some y => f st x y | _, _ => none
/-- an operator's rule over data -/
def OpP (w : Wd) (f : F2) (r : R2) : Prop := ∀ (ι : List Addr) (st : SS) (H : Hp) (x y : V) (dx dy d : D) (Q : VK), SR w.s ι st H → Rep ι H x dx → Rep ι H y dy → f st dx dy = some d → (∀ v H', Kp ι H H' → Rep ι H' v d → SR w.s ι st H' → Q v H') → r x y H Q
theorem OpR.or2 {f : Value → Value → Sem Value} {r r' : R2} (h : OpR X f r) (h' : OpR X f r') : OpR X f (fun x y H Q => r x y H Q ∨ r' x y H Q) := by
  intro pins s σ H x y v u Q I rx ry hr
  rcases hr with hr | hr
  · exact h pins s σ H x y v u Q I rx ry hr
  · exact h' pins s σ H x y v u Q I rx ry hr
theorem op_read {f : F2} {r : R2} {ma mb : MP} (hr : OpP w f r) (σ : L2.St) (H : Hp) (Q : VK) : tP w (mOp f ma mb) σ H Q → tOp r (tP w ma) (tP w mb) σ H Q := by
  rintro ⟨ι, env, st, d, he, hst, hm, q⟩
  unfold mOp at hm
  split at hm
  · rename_i dx dy e1 e2
    exact ⟨ι, env, st, dx, he, hst, e1, fun x H1 k1 r1 s1 => ⟨ι, env, st, dy, he.kp k1, s1, e2, fun y H2 k2 r2 s2 => hr ι st H2 x y dx dy d Q s2 (r1.kp k2) r2 hm fun v H3 k3 r3 s3 => q v H3 ((k1.trans k2).trans k3) r3 s3⟩⟩
  · cases hm
theorem dp_bin {op : Operator} {f : F2} {r : R2} {a b : Expr} {ma mb : MP} (ho : OpR X (binaryOp op) r) (hr : OpP w f r) (ha : PE X a (tP w ma)) (hb : PE X b (tP w mb)) : PE X (.BinOp a op b pos) (tP w (mOp f ma mb)) :=
  PE.mo (pe_op ho ha hb) (op_read hr)
theorem dp_cmp {op : CmpOp} {f : F2} {r : R2} {a b : Expr} {ma mb : MP} (ho : OpR X (compareOp op) r) (hr : OpP w f r) (ha : PE X a (tP w ma)) (hb : PE X b (tP w mb)) (hm : behindInMarks op b = false := by rfl) : PE X (.Compare a [op] [b] pos) (tP w (mOp f ma mb)) :=
  PE.mo (pe_cmpR ho ha hb hm) (op_read hr)
theorem sqt_of {K : PySem.W.Frag} {H : Hp} {a : Addr} {vs : List V} (h : H a = some (.tup vs)) : SqT K H a vs := .inl (.inl h)
theorem sql_of {K : PySem.W.Frag} {H : Hp} {a : Addr} {vs : List V} (h : H a = some (.lst vs)) : SqL K H a vs := .inl (.inl h)
/-- + -/
def fAdd : F2 := fun _ x y => match x, y with
  | .int i, .int j => some (.int (i + j))
  | .tup a, .tup b => if a.length + b.length ≤ 1000000 then some (.tup (a ++ b)) else none
  | .str a, .str b => if a.length + b.length ≤ 1000000 then some (.str (a ++ b)) else none
  | _, _ => none
def rAddU (K : PySem.W.Frag) : R2 := fun x y H Q => (rI0 fun i j => .int (i + j)) x y H Q ∨ (rCatA K x y H Q ∨ ∃ i j, x = .str i ∧ y = .str j ∧ i.length + j.length ≤ sizeLine ∧ Q (.str (i ++ j)) H)
theorem big_size {n : Nat} (h : n ≤ 1000000) : n ≤ sizeLine := Nat.le_trans h (by decide)
theorem oAdd : OpR X (binaryOp .Add) (rAddU X.K) := OpR.or2 op_add (OpR.or2 op_catA op_add_str)
theorem qAdd {K : PySem.W.Frag} : OpP w fAdd (rAddU K) := by
  intro ι st H x y dx dy d Q s rx ry hf q
  unfold fAdd at hf
  split at hf
  · cases hf; cases rx; cases ry
    exact .inl ⟨_, _, rfl, rfl, q _ H (Kp.refl H) (.int _) s⟩
  · split at hf
    · rename_i a b hl
      cases hf
      cases rx with
      | tup h1 l1 r1 =>
        cases ry with
        | tup h2 l2 r2 =>
          have e1 := r1.length
          have e2 := r2.length
          refine .inr (.inl ⟨_, _, _, _, rfl, rfl, sqt_of h1, sqt_of h2, by rw [e1, e2]; exact big_size hl, fun z => ?_, fun z1 z2 => ?_, fun z1 z2 p hp => ?_⟩)
          · subst z
            cases r1
            exact q _ H (Kp.refl H) (.tup h2 l2 r2) s
          · subst z2
            cases r2
            rw [List.append_nil] at q
            exact q _ H (Kp.refl H) (.tup h1 l1 r1) s
          · exact q _ _ (Kp.new hp) (.tup upd_same (by rw [List.length_append]; exact big_size hl) ((r1.append r2).kp (Kp.new hp))) (s.new hp (fun _ z => by cases z) (nin_of s hp))
    · cases hf
  · split at hf
    · rename_i a b hl
      cases hf; cases rx; cases ry
      exact .inr (.inr ⟨_, _, rfl, rfl, big_size hl, q _ H (Kp.refl H) (.str _) s⟩)
    · cases hf
  · cases hf
def fI (g : Int → Int → Option D) : F2 := fun _ x y => match x, y with | .int i, .int j => g i j | _, _ => none
theorem qI {C : Int → Int → Prop} {g : Int → Int → V} {k : Int → Int → Option D} (hk : ∀ i j d, k i j = some d → C i j ∧ (∀ ι H, Rep ι H (g i j) d)) : OpP w (fI k) (rI C g) := by
  intro ι st H x y dx dy d Q s rx ry hf q
  unfold fI at hf
  split at hf
  · cases rx; cases ry
    obtain ⟨h1, h2⟩ := hk _ _ _ hf
    exact ⟨_, _, rfl, rfl, h1, q _ H (Kp.refl H) (h2 _ _) s⟩
  · cases hf
theorem qI0 {g : Int → Int → V} {k : Int → Int → Option D} (hk : ∀ i j d, k i j = some d → (∀ ι H, Rep ι H (g i j) d)) : OpP w (fI k) (rI0 g) := by
  intro ι st H x y dx dy d Q s rx ry hf q
  unfold fI at hf
  split at hf
  · cases rx; cases ry
    exact ⟨_, _, rfl, rfl, q _ H (Kp.refl H) (hk _ _ _ hf _ _) s⟩
  · cases hf
def fSub : F2 := fI fun i j => some (.int (i - j))
theorem qSub : OpP w fSub (rI0 fun i j => .int (i - j)) := qI0 fun i j d h ι H => by cases h; exact .int _
def fMul : F2 := fI fun i j => if i.natAbs < 2 ^ 60 ∨ j.natAbs < 2 ^ 60 then some (.int (i * j)) else none
theorem qMul : OpP w fMul (rI CMul fun i j => .int (i * j)) := qI fun i j d h => by
  split at h
  · rename_i hc
    cases h
    refine ⟨?_, fun ι H => .int _⟩
    rcases hc with hc | hc
    · exact .inl (by omega)
    · exact .inr (by omega)
  · cases h
def fMod : F2 := fI fun i j => if 0 < j then some (.int (i % j)) else none
theorem qMod : OpP w fMod (rI (fun _ j => 0 < j) fun i j => .int (i % j)) := qI fun i j d h => by
  split at h
  · rename_i hc
    cases h
    exact ⟨hc, fun ι H => .int _⟩
  · cases h
def fDiv : F2 := fI fun i j => if 0 < j ∧ j < 1073741824 then some (.int (i / j)) else none
theorem qDiv : OpP w fDiv (rI CDiv fun i j => .int (i / j)) := qI fun i j d h => by
  split at h
  · rename_i hc
    cases h
    exact ⟨hc, fun ι H => .int _⟩
  · cases h
def fLt : F2 := fI fun i j => some (.bl (decide (i < j)))
def fGt : F2 := fI fun i j => some (.bl (decide (i > j)))
def fGe : F2 := fI fun i j => some (.bl (decide (i ≥ j)))
end
end GD

set_option Elab.async false
set_option linter.all false
set_option maxRecDepth 100000
set_option maxHeartbeats 2000000
namespace GD
open PySem PySem.Spec PyProof.Rows L2 GX

/-! ### comparing -/
mutual
def D.py : D → PyData
  | .non => .none
  | .bl b => .bool b
  | .int i => .int i
  | .str x => .str x
  | .tup l => .tuple (D.pys l)
  | .ref _ => .none
def D.pys : List D → List PyData
  | [] => []
  | d :: ds => D.py d :: D.pys ds
end
mutual
def D.imm : D → Bool
  | .tup l => D.imms l
  | .ref _ => false
  | _ => true
def D.imms : List D → Bool
  | [] => true
  | d :: ds => D.imm d && D.imms ds
end
theorem D.pys_eq (l : List D) : D.pys l = l.map D.py := by
  induction l with
  | nil => rfl
  | cons d ds ih => rw [D.pys, ih]; rfl
mutual
theorem dp_py {K : PySem.W.Frag} {ι : List Addr} {H : Hp} : ∀ {v : V} {d : D}, Rep ι H v d → D.imm d = true → Dp K H v (D.py d)
  | _, _, .non, _ => .non
  | _, _, .bl b, _ => .bl b
  | _, _, .int i, _ => .int i
  | _, _, .str x, _ => .str x
  | _, _, .tup h l r, q => by
    unfold D.py
    exact .tup (sqt_of h) (dp_pys r (by unfold D.imm at q; exact q))
  | _, _, .ref h, q => by unfold D.imm at q; cases q
theorem dp_pys {K : PySem.W.Frag} {ι : List Addr} {H : Hp} : ∀ {vs : List V} {ds : List D}, Reps ι H vs ds → D.imms ds = true → DpAll K H vs (D.pys ds)
  | _, _, .nil, _ => by unfold D.pys; exact .nil
  | _, _, .cons r t, q => by
    unfold D.imms at q
    rw [Bool.and_eq_true] at q
    unfold D.pys
    exact .cons (dp_py r q.1) (dp_pys t q.2)
end
def D.good (d : D) : Bool := D.imm d && SeqAt.shaped (D.py d)
section
variable {X : Cx} {w : Wd} {pos : Pos}
def fEq : F2 := fun _ x y => if x.good = true ∧ y.good = true then some (.bl (PyData.eqv x.py y.py)) else none
def fNe : F2 := fun _ x y => if x.good = true ∧ y.good = true then some (.bl (!PyData.eqv x.py y.py)) else none
theorem good_and {d : D} (h : d.good = true) : D.imm d = true ∧ SeqAt.shaped (D.py d) = true := by
  unfold D.good at h
  rw [Bool.and_eq_true] at h
  exact h
theorem qEq {K : PySem.W.Frag} : OpP w fEq (rEqD K) := by
  intro ι st H x y dx dy d Q s rx ry hf q
  unfold fEq at hf
  split at hf
  · rename_i hg
    cases hf
    obtain ⟨a1, a2⟩ := good_and hg.1
    obtain ⟨b1, b2⟩ := good_and hg.2
    exact ⟨_, _, dp_py rx a1, dp_py ry b1, a2, b2, q _ H (Kp.refl H) (.bl _) s⟩
  · cases hf
theorem qNe {K : PySem.W.Frag} : OpP w fNe (rNeD K) := by
  intro ι st H x y dx dy d Q s rx ry hf q
  unfold fNe at hf
  split at hf
  · rename_i hg
    cases hf
    obtain ⟨a1, a2⟩ := good_and hg.1
    obtain ⟨b1, b2⟩ := good_and hg.2
    exact ⟨_, _, dp_py rx a1, dp_py ry b1, a2, b2, q _ H (Kp.refl H) (.bl _) s⟩
  · cases hf
/-- x in t, t a tuple of data of any depth -/
def rInT (K : PySem.W.Frag) : R2 := fun x y H Q => ∃ d ds, Dp K H x d ∧ Dp K H y (.tuple ds) ∧ SeqAt.shaped d = true ∧ SeqAt.shaped (.tuple ds) = true ∧ Q (.bl (ds.any fun z => PyData.eqv z d)) H
def rNotInT (K : PySem.W.Frag) : R2 := fun x y H Q => ∃ d ds, Dp K H x d ∧ Dp K H y (.tuple ds) ∧ SeqAt.shaped d = true ∧ SeqAt.shaped (.tuple ds) = true ∧ Q (.bl (!ds.any fun z => PyData.eqv z d)) H
theorem op_inT (hu : X.A.units + 65 < cLine) : OpR X (compareOp .In) (rInT X.K) := by
  intro pins s σ H x y v u Q I rx ry h
  obtain ⟨d, ds, hd, he, sd, se, q⟩ := h
  obtain ⟨as, r1⟩ := Dp.reads I d x v hd rx
  obtain ⟨bs, r2⟩ := Dp.reads I (.tuple ds) y u he ry
  exact SeqAt.in_tuple_reads r2 r1 (SeqAt.canLay_of_shaped se) (SeqAt.canLay_of_shaped sd) (room_in_shaped sd hu) ⟨.bl _, H, I, rfl, q⟩
theorem op_notInT (hu : X.A.units + 65 < cLine) : OpR X (compareOp .NotIn) (rNotInT X.K) := by
  intro pins s σ H x y v u Q I rx ry h
  obtain ⟨d, ds, hd, he, sd, se, q⟩ := h
  obtain ⟨as, r1⟩ := Dp.reads I d x v hd rx
  obtain ⟨bs, r2⟩ := Dp.reads I (.tuple ds) y u he ry
  exact SeqAt.notIn_tuple_reads r2 r1 (SeqAt.canLay_of_shaped se) (SeqAt.canLay_of_shaped sd) (room_in_shaped sd hu) ⟨.bl _, H, I, rfl, q⟩
def inD (x : D) (ds : List D) : Bool := (D.pys ds).any fun z => PyData.eqv z x.py
/-- the items of a tuple, or of a list in the store -/
def seqOf (st : SS) : D → Option (List D)
  | .tup ds => some ds
  | .ref n => match st[n]? with
    | some (.lst ds) => some ds
    | some (.frz ds) => some ds
    | _ => none
  | _ => none
def fIn : F2 := fun st x y => match seqOf st y with
  | some ds => if x.good = true ∧ (D.tup ds).good = true then some (.bl (inD x ds)) else none
  | none => none
def fNotIn : F2 := fun st x y => match seqOf st y with
  | some ds => if x.good = true ∧ (D.tup ds).good = true then some (.bl (!inD x ds)) else none
  | none => none
theorem shaped_list {ds : List PyData} (h : SeqAt.shaped (.tuple ds) = true) : SeqAt.shaped (.list ds) = true := by
  unfold SeqAt.shaped at h ⊢
  simpa [PyData.canLay0, PyData.depth] using h
theorem seq_cases {ι : List Addr} {st : SS} {H : Hp} {y : V} {dy : D} {ds : List D} {K : PySem.W.Frag} (s : SR w.s ι st H) (ry : Rep ι H y dy) (h : seqOf st dy = some ds) :
    ∃ a vs, y = .ref a ∧ Reps ι H vs ds ∧ ds.length ≤ sizeLine ∧ (SqL K H a vs ∨ (dy = .tup ds ∧ H a = some (.tup vs))) := by
  unfold seqOf at h
  split at h
  · cases h
    cases ry with
    | tup h1 l1 r1 => exact ⟨_, _, rfl, r1, l1, .inr ⟨rfl, h1⟩⟩
  · split at h
    · rename_i n _ _ e
      cases h
      cases ry with
      | ref hn =>
        obtain ⟨vs, h1, l, h2⟩ := s.cell n _ _ hn e
        exact ⟨_, vs, rfl, h2, l, .inl (.inl (.inl h1))⟩
    · rename_i n _ _ e
      cases h
      cases ry with
      | ref hn =>
        obtain ⟨o, vs, h1, l, h2⟩ := s.cell n _ _ hn e
        exact ⟨_, vs, rfl, h2, l, .inl (.inl (.inr ⟨o, h1⟩))⟩
    · cases h
  · cases h
theorem qIn {K : PySem.W.Frag} : OpP w fIn (fun x y H Q => rInD K x y H Q ∨ rInT K x y H Q) := by
  intro ι st H x y dx dy d Q s rx ry hf q
  unfold fIn at hf
  split at hf
  · rename_i ds e
    split at hf
    · rename_i hg
      cases hf
      obtain ⟨a1, a2⟩ := good_and hg.1
      obtain ⟨b1, b2⟩ := good_and hg.2
      unfold D.imm at b1
      unfold D.py at b2
      obtain ⟨a, vs, rfl, rs, _, hh⟩ := seq_cases (K := K) s ry e
      rcases hh with h1 | ⟨rfl, h1⟩
      · exact .inl ⟨_, _, dp_py rx a1, .lst h1 (dp_pys rs b1), a2, shaped_list b2, q _ H (Kp.refl H) (.bl _) s⟩
      · exact .inr ⟨_, _, dp_py rx a1, .tup (sqt_of h1) (dp_pys rs b1), a2, b2, q _ H (Kp.refl H) (.bl _) s⟩
    · cases hf
  · cases hf
theorem qNotIn {K : PySem.W.Frag} : OpP w fNotIn (fun x y H Q => rNotInD K x y H Q ∨ rNotInT K x y H Q) := by
  intro ι st H x y dx dy d Q s rx ry hf q
  unfold fNotIn at hf
  split at hf
  · rename_i ds e
    split at hf
    · rename_i hg
      cases hf
      obtain ⟨a1, a2⟩ := good_and hg.1
      obtain ⟨b1, b2⟩ := good_and hg.2
      unfold D.imm at b1
      unfold D.py at b2
      obtain ⟨a, vs, rfl, rs, _, hh⟩ := seq_cases (K := K) s ry e
      rcases hh with h1 | ⟨rfl, h1⟩
      · exact .inl ⟨_, _, dp_py rx a1, .lst h1 (dp_pys rs b1), a2, shaped_list b2, q _ H (Kp.refl H) (.bl _) s⟩
      · exact .inr ⟨_, _, dp_py rx a1, .tup (sqt_of h1) (dp_pys rs b1), a2, b2, q _ H (Kp.refl H) (.bl _) s⟩
    · cases hf
  · cases hf
def D.isN : D → Bool
  | .non => true
  | _ => false
def fIsN : F2 := fun _ x y => match y with | .non => some (.bl x.isN) | _ => none
def fNotN : F2 := fun _ x y => match y with | .non => some (.bl (!x.isN)) | _ => none
theorem isN_dec {ι : List Addr} {H : Hp} {x : V} {d : D} (r : Rep ι H x d) : decide (x = .non) = d.isN := by
  cases r <;> simp [D.isN]
theorem qIsN : OpP w fIsN (fun x y H Q => y = .non ∧ Q (.bl (decide (x = .non))) H) := by
  intro ι st H x y dx dy d Q s rx ry hf q
  unfold fIsN at hf
  split at hf
  · cases hf; cases ry
    rw [isN_dec rx]
    exact ⟨rfl, q _ H (Kp.refl H) (.bl _) s⟩
  · cases hf
theorem qNotN : OpP w fNotN (fun x y H Q => y = .non ∧ Q (.bl (!decide (x = .non))) H) := by
  intro ι st H x y dx dy d Q s rx ry hf q
  unfold fNotN at hf
  split at hf
  · cases hf; cases ry
    rw [isN_dec rx]
    exact ⟨rfl, q _ H (Kp.refl H) (.bl _) s⟩
  · cases hf
section
variable {a b : Expr} {ma mb : MP}
theorem dp_add (ha : PE X a (tP w ma)) (hb : PE X b (tP w mb)) : PE X (.BinOp a .Add b pos) (tP w (mOp fAdd ma mb)) := dp_bin oAdd qAdd ha hb
theorem dp_sub (ha : PE X a (tP w ma)) (hb : PE X b (tP w mb)) : PE X (.BinOp a .Sub b pos) (tP w (mOp fSub ma mb)) := dp_bin op_sub qSub ha hb
theorem dp_mul (ha : PE X a (tP w ma)) (hb : PE X b (tP w mb)) : PE X (.BinOp a .Mult b pos) (tP w (mOp fMul ma mb)) := dp_bin op_mul qMul ha hb
theorem dp_mod (ha : PE X a (tP w ma)) (hb : PE X b (tP w mb)) : PE X (.BinOp a .Mod b pos) (tP w (mOp fMod ma mb)) := dp_bin op_mod qMod ha hb
theorem dp_div (ha : PE X a (tP w ma)) (hb : PE X b (tP w mb)) : PE X (.BinOp a .FloorDiv b pos) (tP w (mOp fDiv ma mb)) := dp_bin op_fdiv qDiv ha hb
theorem dp_ge (ha : PE X a (tP w ma)) (hb : PE X b (tP w mb)) : PE X (.Compare a [.GtE] [b] pos) (tP w (mOp fGe ma mb)) := dp_cmp op_ge (qI0 fun i j d h ι H => by cases h; exact .bl _) ha hb (nomark _)
theorem dp_eq (hu : Room 0 X.A) (ha : PE X a (tP w ma)) (hb : PE X b (tP w mb)) : PE X (.Compare a [.Eq] [b] pos) (tP w (mOp fEq ma mb)) := dp_cmp (op_eqD hu.units) qEq ha hb (nomark _)
theorem units65 {A : Around} {k : Nat} (h : Room k A) : A.units + 65 < cLine := by have := h.un; omega
theorem dp_in (hu : Room 0 X.A) (ha : PE X a (tP w ma)) (hb : PE X b (tP w mb)) (hm : behindInMarks .In b = false := by rfl) : PE X (.Compare a [.In] [b] pos) (tP w (mOp fIn ma mb)) := dp_cmp (OpR.or2 (op_inD (units65 hu)) (op_inT (units65 hu))) qIn ha hb hm
theorem dp_isN (ha : PE X a (tP w ma)) (hb : PE X b (tP w mb)) : PE X (.Compare a [.Is] [b] pos) (tP w (mOp fIsN ma mb)) := dp_cmp op_isN qIsN ha hb (nomark _)
end
/-! ### and, or, not, tests -/
section
variable {a b c : Expr} {rest : List Expr} {ma mb : MP} {ba bb : MB}
def mAnd (a b : MP) : MP := fun env st => match a env st with | some (.bl true) => b env st | some (.bl false) => some (.bl false) | _ => none
def mOr (a b : MP) : MP := fun env st => match a env st with | some (.bl true) => some (.bl true) | some (.bl false) => b env st | _ => none
def mNot (a : MP) : MP := fun env st => match a env st with | some (.bl b) => some (.bl (!b)) | _ => none
theorem dp_and (ha : PE X a (tP w ma)) (hb : PE X (.BoolOp .And (b :: rest) pos) (tP w mb)) : PE X (.BoolOp .And (a :: b :: rest) pos) (tP w (mAnd ma mb)) := by
  refine PE.mo (pe_and ha hb) fun σ H Q ⟨ι, env, st, d, he, hs, hm, q⟩ => ?_
  unfold mAnd at hm
  split at hm
  · rename_i e
    refine ⟨ι, env, st, _, he, hs, e, fun x H1 k1 r1 s1 => ?_⟩
    cases r1
    exact ⟨true, rfl, iteT ⟨ι, env, st, d, he.kp k1, s1, hm, fun v H2 k2 r2 s2 => q v H2 (k1.trans k2) r2 s2⟩⟩
  · rename_i e
    cases hm
    refine ⟨ι, env, st, _, he, hs, e, fun x H1 k1 r1 s1 => ?_⟩
    cases r1
    exact ⟨false, rfl, iteF (q _ H1 k1 (.bl _) s1)⟩
  · cases hm
theorem dp_or (ha : PE X a (tP w ma)) (hb : PE X (.BoolOp .Or (b :: rest) pos) (tP w mb)) : PE X (.BoolOp .Or (a :: b :: rest) pos) (tP w (mOr ma mb)) := by
  refine PE.mo (pe_or ha hb) fun σ H Q ⟨ι, env, st, d, he, hs, hm, q⟩ => ?_
  unfold mOr at hm
  split at hm
  · rename_i e
    cases hm
    refine ⟨ι, env, st, _, he, hs, e, fun x H1 k1 r1 s1 => ?_⟩
    cases r1
    exact ⟨true, rfl, iteT (q _ H1 k1 (.bl _) s1)⟩
  · rename_i e
    refine ⟨ι, env, st, _, he, hs, e, fun x H1 k1 r1 s1 => ?_⟩
    cases r1
    exact ⟨false, rfl, iteF ⟨ι, env, st, d, he.kp k1, s1, hm, fun v H2 k2 r2 s2 => q v H2 (k1.trans k2) r2 s2⟩⟩
  · cases hm
theorem dp_one {op : BoolOp} (h : PE X a (tP w ma)) : PE X (.BoolOp op [a] pos) (tP w ma) := pe_one h
theorem dp_not (ha : PE X a (tP w ma)) : PE X (.UnaryOp .Not a pos) (tP w (mNot ma)) := by
  refine PE.mo (pe_not ha) fun σ H Q ⟨ι, env, st, d, he, hs, hm, q⟩ => ?_
  unfold mNot at hm
  split at hm
  · rename_i b e
    cases hm
    refine ⟨ι, env, st, _, he, hs, e, fun x H1 k1 r1 s1 => ?_⟩
    cases r1
    exact ⟨b, rfl, q _ H1 k1 (.bl _) s1⟩
  · cases hm
def bV (m : MP) : MB := fun env st => match m env st with | some (.bl b) => some b | _ => none
def bAnd (a b : MB) : MB := fun env st => match a env st with | some true => b env st | some false => some false | none => none
def bOr (a b : MB) : MB := fun env st => match a env st with | some true => some true | some false => b env st | none => none
def bNot (a : MB) : MB := fun env st => match a env st with | some b => some (!b) | none => none
theorem db_val (h : PE X a (tP w ma)) (he : ∀ whole, isTrue a X.env whole = (do let v ← whole; standAt a.pos; holding [v] (truthy v)) := by intro _; rfl) : PT X a (tBo w (bV ma)) := by
  refine PT.mo (pt_val h he) fun σ H Q ⟨ι, env, st, b, hen, hs, hm, q⟩ => ?_
  unfold bV at hm
  split at hm
  · rename_i b' e
    cases hm
    refine ⟨ι, env, st, _, hen, hs, e, fun x H1 k1 r1 s1 => ?_⟩
    cases r1
    exact ⟨_, rfl, q H1 k1 s1⟩
  · cases hm
theorem db_and1 (ha : PT X a (tBo w ba)) : PW X (.BoolOp .And [a] pos) (tBo w ba) := pw_and1 ha
theorem db_or1 (ha : PT X a (tBo w ba)) : PW X (.BoolOp .Or [a] pos) (tBo w ba) := pw_or1 ha
theorem db_and (ha : PT X a (tBo w ba)) (hb : PW X (.BoolOp .And (b :: rest) pos) (tBo w bb)) : PW X (.BoolOp .And (a :: b :: rest) pos) (tBo w (bAnd ba bb)) := by
  refine PW.mo (pw_and ha hb) fun σ H Q ⟨ι, env, st, d, he, hs, hm, q⟩ => ?_
  unfold bAnd at hm
  split at hm
  · rename_i e
    exact ⟨ι, env, st, _, he, hs, e, fun H1 k1 s1 => iteT ⟨ι, env, st, d, he.kp k1, s1, hm, fun H2 k2 s2 => q H2 (k1.trans k2) s2⟩⟩
  · rename_i e
    cases hm
    exact ⟨ι, env, st, _, he, hs, e, fun H1 k1 s1 => iteF (q H1 k1 s1)⟩
  · cases hm
theorem db_or (ha : PT X a (tBo w ba)) (hb : PW X (.BoolOp .Or (b :: rest) pos) (tBo w bb)) : PW X (.BoolOp .Or (a :: b :: rest) pos) (tBo w (bOr ba bb)) := by
  refine PW.mo (pw_or ha hb) fun σ H Q ⟨ι, env, st, d, he, hs, hm, q⟩ => ?_
  unfold bOr at hm
  split at hm
  · rename_i e
    cases hm
    exact ⟨ι, env, st, _, he, hs, e, fun H1 k1 s1 => iteT (q H1 k1 s1)⟩
  · rename_i e
    exact ⟨ι, env, st, _, he, hs, e, fun H1 k1 s1 => iteF ⟨ι, env, st, d, he.kp k1, s1, hm, fun H2 k2 s2 => q H2 (k1.trans k2) s2⟩⟩
  · cases hm
theorem db_not (ha : PT X a (tBo w ba)) : PT X (.UnaryOp .Not a pos) (tBo w (bNot ba)) := by
  refine PT.mo (pt_not ha) fun σ H Q ⟨ι, env, st, d, he, hs, hm, q⟩ => ?_
  unfold bNot at hm
  split at hm
  · rename_i b e
    cases hm
    exact ⟨ι, env, st, _, he, hs, e, fun H1 k1 s1 => q H1 k1 s1⟩
  · cases hm
def mIf (c : MB) (a b : MP) : MP := fun env st => match c env st with | some true => a env st | some false => b env st | none => none
theorem dp_if {bc : MB} (hc : PT X c (tBo w bc)) (ha : PE X a (tP w ma)) (hb : PE X b (tP w mb)) : PE X (.IfExp c a b pos) (tP w (mIf bc ma mb)) := by
  refine PE.mo (pe_ifExp hc ha hb) fun σ H Q ⟨ι, env, st, d, he, hs, hm, q⟩ => ?_
  unfold mIf at hm
  split at hm
  · rename_i e
    exact ⟨ι, env, st, _, he, hs, e, fun H1 k1 s1 => iteT ⟨ι, env, st, d, he.kp k1, s1, hm, fun v H2 k2 r2 s2 => q v H2 (k1.trans k2) r2 s2⟩⟩
  · rename_i e
    exact ⟨ι, env, st, _, he, hs, e, fun H1 k1 s1 => iteF ⟨ι, env, st, d, he.kp k1, s1, hm, fun v H2 k2 r2 s2 => q v H2 (k1.trans k2) r2 s2⟩⟩
  · cases hm
end
/-! ### items, lengths, calls -/
section
variable {a b e : Expr} {es : List Expr} {ma mb : MP} {x : Str} {p : Pos}
def fIx : F2 := fun st x y => match seqOf st x, y with
  | some ds, .int i => atI ds i
  | _, _ => none
theorem atI_map {ι : List Addr} {H : Hp} {vs : List V} {ds : List D} {i : Int} {d : D} (r : Reps ι H vs ds) (h : atI ds i = some d) : ∃ v, atI vs i = some v ∧ Rep ι H v d := by
  unfold atI at h ⊢
  rw [r.length]
  cases hi : ixN ds.length i with
  | none => rw [hi] at h; cases h
  | some j =>
    rw [hi] at h
    exact r.get' h
theorem qIx {K : PySem.W.Frag} : OpP w fIx (rIx K) := by
  intro ι st H x y dx dy d Q s rx ry hf q
  unfold fIx at hf
  split at hf
  · rename_i ds i e
    cases ry
    obtain ⟨a, vs, rfl, rs, _, hh⟩ := seq_cases (K := K) s rx e
    obtain ⟨v, hv, rv⟩ := atI_map rs hf
    rcases hh with h1 | ⟨rfl, h1⟩
    · exact .inl ⟨_, _, _, _, rfl, rfl, h1, hv, q _ H (Kp.refl H) rv s⟩
    · exact .inr (.inl ⟨_, _, _, _, rfl, rfl, sqt_of h1, hv, q _ H (Kp.refl H) rv s⟩)
  · cases hf
theorem dp_ix (ha : PE X a (tP w ma)) (hb : PE X b (tP w mb)) (hs : PlainIx b := by intro _ _; rfl) : PE X (.Subscript a b pos) (tP w (mOp fIx ma mb)) := PE.mo (pe_ix ix_seq ha hb hs) (op_read qIx)
/-- a built-in of one argument, by values -/
abbrev F1 := SS → D → Option D
def mF1 (f : F1) (m : MP) : MP := fun env st => match m env st with | some d => f st d | none => none
def fLen : F1 := fun st d => match seqOf st d with
  | some ds => some (.int ds.length)
  | none => none
theorem dp_len (hg : Gl X "len") (hm : X.mg "len" = none) (ha : PE X a (tP w ma)) (hs : starEach [a] X.env = (false, eval a X.env) :: starEach [] X.env := by rfl) : PE X (.Call (.Name "len" p) [a] [] pos) (tP w (mF1 fLen ma)) := by
  refine PE.mo (pe_callB call_len_seq hg hm PySem.boot_len (pa_cons ha pa_nil hs) (he := hs)) fun σ H Q ⟨ι, env, st, d, he, hst, hmm, q⟩ => ?_
  unfold mF1 at hmm
  split at hmm
  · rename_i dx e
    unfold fLen at hmm
    split at hmm
    · rename_i ds e2
      cases hmm
      refine ⟨ι, env, st, dx, he, hst, e, fun v H1 k1 r1 s1 => ?_⟩
      obtain ⟨a, vs, rfl, rs, _, hh⟩ := seq_cases (K := X.K) s1 r1 e2
      have el := rs.length
      rcases hh with h1 | ⟨rfl, h1⟩
      · exact ⟨a, vs, rfl, .inl h1, by rw [el]; exact q _ H1 k1 (.int _) s1⟩
      · exact ⟨a, vs, rfl, .inr (sqt_of h1), by rw [el]; exact q _ H1 k1 (.int _) s1⟩
    · cases hmm
  · cases hmm
/-- what a def over data promises -/
def spP (w : Ws) (F : List D → SS → Option D) : Sp := fun vs H Q _ => ∃ ι st ds d, Reps ι H vs ds ∧ SR w ι st H ∧ F ds st = some d ∧ ∀ v H', Kp ι H H' → Rep ι H' v d → SR w ι st H' → Q v H'
structure DefP (P : Program) (wl : World) (w : Ws) (mg : Str → Option Value) (k : Nat) (x : Str) (F : List D → SS → Option D) : Prop where
  ex : ∃ (f : Addr) (fd : FuncData) (ps : List Str), FnOk P wl w.K mg w.base CX0 k f fd ps (spP w F) ∧ mg x = some (.ref f) ∧ PySem.W.keepIn w.K (.ref f) = true ∧ Binds w.K fd ps []
def mCall (F : List D → SS → Option D) (r : ML) : MP := fun env st => match r env st with | some ds => F ds st | none => none
theorem dp_call {k : Nat} {F : List D → SS → Option D} {r : ML} (hf : Fit X w) (c : DefP X.prog X.w w.s X.mg k x F) (hr : Room k X.A) (hg : Gl X x) (ha : PA X (e :: es) (tAs w r))
    (hdb : (x == ("__debug__" : Str)) = false := by decide) (he : starEach (e :: es) X.env = (false, eval e X.env) :: starEach es X.env := by rfl) (hpl : (backTo pos (starEach es X.env)).any (·.1) = false := by rfl) :
    PE X (.Call (.Name x p) (e :: es) [] pos) (tP w (mCall F r)) := by
  obtain ⟨f, fd, ps, hF, hm, hk, hb⟩ := c.ex
  rw [← hf.k, ← hf.b] at hF
  rw [← hf.k] at hk hb
  refine PE.mo (pe_call (E := E0) hF hr hg hm hk hb .nil pass0 ha hdb he hpl) fun σ H Q ⟨ι, env, st, d, hen, hst, hmm, q⟩ => ?_
  unfold mCall at hmm
  split at hmm
  · rename_i ds e
    refine ⟨ι, env, st, ds, hen, hst, e, fun vs H1 k1 r1 s1 => ?_⟩
    show spP w.s F (vs ++ []) H1 Q E0
    rw [List.append_nil]
    exact ⟨ι, st, ds, d, r1, s1, hmm, fun v H2 k2 r2 s2 => q v H2 (k1.trans k2) r2 s2⟩
  · cases hmm
end
end
end GD

set_option Elab.async false
set_option linter.all false
set_option maxRecDepth 100000
set_option maxHeartbeats 2000000
namespace GD
open PySem PySem.Spec PyProof.Rows L2 GX

/-! ## 4. what is walked, by its data -/
def Hold (st : SS) (ro : Option Nat) (st' : SS) : Prop := match ro with | none => True | some n => st'[n]? = st[n]?
theorem Hold.refl {st : SS} {ro : Option Nat} : Hold st ro st := by cases ro <;> simp [Hold]
/-- the iterator J hands out ds, while what it walks stands -/
structure ItD (w : Wd) (ι : List Addr) (st : SS) (J : It) (ds : List D) (ro : Option Nat) (H0 : Hp) : Prop where
  run : ∀ (ι' : List Addr) (st' : SS) (H : Hp), Kp ι H0 H → ι <+: ι' → Hold st ro st' → SR w.s ι' st' H →
    (∀ i, i < ds.length → J.go i H) ∧ (∀ i x H', i < ds.length → J.yld i H x H' → ∃ d, ds[i]? = some d ∧ Rep ι' H' x d ∧ (∀ b o, H b = some o → H' b = some o) ∧ SR w.s ι' st' H') ∧ (∀ i, ds.length ≤ i → J.stop i H)
  len : ds.length ≤ sizeLine
abbrev MI := EV → SS → Option (List D × Option Nat)
def tI (w : Wd) (m : MI) : TI := fun σ H R => ∃ ι env st ds ro, EnvR w ι env σ H ∧ SR w.s ι st H ∧ m env st = some (ds, ro) ∧ ∀ J H', Kp ι H H' → SR w.s ι st H' → ItD w ι st J ds ro H' → R J H'
theorem PI.mo {X : Cx} {tg iter : Expr} {t t' : TI} (h : PI X tg iter t) (q : ∀ σ H R, t' σ H R → t σ H R) : PI X tg iter t' := ⟨fun pins s σ H R I h' => h.run pins s σ H R I (q σ H R h')⟩
section
variable {X : Cx} {w : Wd} {tg : Expr} {ι : List Addr} {st : SS} {H0 : Hp} {a : Addr} {K : PySem.W.Frag}
theorem itd_tup {vs : List V} {ds : List D} (h : H0 a = some (.tup vs)) (r : Reps ι H0 vs ds) (hl : ds.length ≤ sizeLine) : ItD w ι st (Itt K a) ds none H0 := by
  refine ⟨fun ι' st' H k p _ s => ⟨fun i hi => ?_, fun i x H' hi hy => ?_, fun i hi => ?_⟩, hl⟩
  · have q : i < vs.length := by rw [r.length]; exact hi
    exact ⟨vs, vs[i], sqt_of (k.fix h trivial), List.getElem?_eq_getElem q⟩
  · obtain ⟨e, hx⟩ := hy
    subst e
    obtain ⟨d, h1, h2⟩ := (r.mono k p).get (hx vs (sqt_of (k.fix h trivial)))
    exact ⟨d, h1, h2, fun _ _ e => e, s⟩
  · exact ⟨vs, sqt_of (k.fix h trivial), by rw [r.length]; exact hi⟩
theorem hold_cell {n : Nat} {ds : List D} {ι' : List Addr} {st' : SS} {H : Hp} (hn : ι[n]? = some a) (hc : st[n]? = some (.lst ds)) (p : ι <+: ι') (ho : Hold st (some n) st') (s : SR w.s ι' st' H) : ∃ vs, H a = some (.lst vs) ∧ Reps ι' H vs ds := by
  have e : st'[n]? = some (.lst ds) := by
    have q : st'[n]? = st[n]? := ho
    rw [q, hc]
  obtain ⟨vs, h1, _, h2⟩ := s.cell n a _ (pre_get p hn) e
  exact ⟨vs, h1, h2⟩
theorem itd_lst {n : Nat} {ds : List D} (hn : ι[n]? = some a) (hc : st[n]? = some (.lst ds)) (hl : ds.length ≤ sizeLine) : ItD w ι st (Itl K a) ds (some n) H0 := by
  refine ⟨fun ι' st' H k p ho s => ⟨fun i hi => ?_, fun i x H' hi hy => ?_, fun i hi => ?_⟩, hl⟩
  all_goals obtain ⟨vs, h1, r⟩ := hold_cell hn hc p ho s
  · have q : i < vs.length := by rw [r.length]; exact hi
    exact ⟨vs, vs[i], sql_of h1, List.getElem?_eq_getElem q⟩
  · obtain ⟨e, hx⟩ := hy
    subst e
    obtain ⟨d, h2, h3⟩ := r.get (hx vs (sql_of h1))
    exact ⟨d, h2, h3, fun _ _ e => e, s⟩
  · exact ⟨vs, sql_of h1, by rw [r.length]; exact hi⟩
def intsD (lo : Int) (n : Nat) : List D := (List.range n).map fun (k : Nat) => .int (lo + (k : Int))
theorem intsD_len (lo : Int) (n : Nat) : (intsD lo n).length = n := by simp [intsD]
theorem itd_rng {lo : Int} {n : Nat} (hl : n ≤ sizeLine) : ItD w ι st (Itr lo n) (intsD lo n) none H0 := by
  refine ⟨fun ι' st' H k p _ s => ⟨fun i hi => by rw [intsD_len] at hi; exact hi, fun i x H' hi hy => ?_, fun i hi => by rw [intsD_len] at hi; exact hi⟩, by rw [intsD_len]; exact hl⟩
  obtain ⟨e, hx⟩ := hy
  subst e hx
  rw [intsD_len] at hi
  exact ⟨.int (lo + i), by simp [intsD, hi], .int _, fun _ _ e => e, s⟩
/-- i, item -/
def enumD (ds : List D) : List D := ds.zipIdx.map fun (p : D × Nat) => .tup [.int (p.2 : Int), p.1]
theorem enumD_len (ds : List D) : (enumD ds).length = ds.length := by simp [enumD]
theorem enumD_get {ds : List D} {i : Nat} {d : D} (h : ds[i]? = some d) : (enumD ds)[i]? = some (.tup [.int (i : Int), d]) := by
  simp [enumD, h]
theorem new_pair {ι' : List Addr} {st' : SS} {H : Hp} {T : Addr} {x y : V} {dx dy : D} (s : SR w.s ι' st' H) (hT : H T = none) (r1 : Rep ι' H x dx) (r2 : Rep ι' H y dy) :
    Rep ι' (upd H T (.tup [x, y])) (.ref T) (.tup [dx, dy]) ∧ (∀ b o, H b = some o → upd H T (.tup [x, y]) b = some o) ∧ SR w.s ι' st' (upd H T (.tup [x, y])) :=
  ⟨.tup upd_same (by show 2 ≤ sizeLine; decide) (.cons (r1.kp (Kp.new hT)) (.cons (r2.kp (Kp.new hT)) .nil)), fun b o e => by rw [upd_ne (ne_of_none e hT)]; exact e, s.new hT (fun _ z => by cases z) (nin_of s hT)⟩
theorem itd_enumT {vs : List V} {ds : List D} (h : H0 a = some (.tup vs)) (r : Reps ι H0 vs ds) (hl : ds.length ≤ sizeLine) : ItD w ι st (IteT K a) (enumD ds) none H0 := by
  refine ⟨fun ι' st' H k p _ s => ⟨fun i hi => ?_, fun i x H' hi hy => ?_, fun i hi => ?_⟩, by rw [enumD_len]; exact hl⟩
  · rw [enumD_len] at hi
    have q : i < vs.length := by rw [r.length]; exact hi
    exact ⟨vs, vs[i], sqt_of (k.fix h trivial), List.getElem?_eq_getElem q⟩
  · obtain ⟨T, y, rfl, hT, rfl, hx⟩ := hy
    obtain ⟨d, h1, h2⟩ := (r.mono k p).get (hx vs (sqt_of (k.fix h trivial)))
    obtain ⟨q1, q2, q3⟩ := new_pair s hT (.int (i : Int)) h2
    exact ⟨_, enumD_get h1, q1, q2, q3⟩
  · rw [enumD_len] at hi
    exact ⟨vs, sqt_of (k.fix h trivial), by rw [r.length]; exact hi⟩
theorem itd_enumL {n : Nat} {ds : List D} (hn : ι[n]? = some a) (hc : st[n]? = some (.lst ds)) (hl : ds.length ≤ sizeLine) : ItD w ι st (Ite K a) (enumD ds) (some n) H0 := by
  refine ⟨fun ι' st' H k p ho s => ⟨fun i hi => ?_, fun i x H' hi hy => ?_, fun i hi => ?_⟩, by rw [enumD_len]; exact hl⟩
  all_goals obtain ⟨vs, h1, r⟩ := hold_cell hn hc p ho s
  · rw [enumD_len] at hi
    have q : i < vs.length := by rw [r.length]; exact hi
    exact ⟨vs, vs[i], sql_of h1, List.getElem?_eq_getElem q⟩
  · obtain ⟨T, y, rfl, hT, rfl, hx⟩ := hy
    obtain ⟨d, h2, h3⟩ := r.get (hx vs (sql_of h1))
    obtain ⟨q1, q2, q3⟩ := new_pair s hT (.int (i : Int)) h3
    exact ⟨_, enumD_get h2, q1, q2, q3⟩
  · rw [enumD_len] at hi
    exact ⟨vs, sql_of h1, by rw [r.length]; exact hi⟩
/-- over a list or a tuple -/
def iSeqU (K : PySem.W.Frag) (tl : TE) : TI := fun σ H R => tl σ H fun x H1 => ∃ a, x = .ref a ∧ (((∃ xs, SqL K H1 a xs) ∧ R (Itl K a) H1) ∨ ((∃ xs, SqT K H1 a xs) ∧ R (Itt K a) H1))
theorem pi_seqU {l : Expr} {tl : TE} (hl : PE X l tl) : PI X tg l (iSeqU X.K tl) := by
  refine ⟨fun pins s σ H R I h => ?_⟩
  refine thn (hl.run pins s σ H _ I h) fun v s1 ⟨x, H1, I1, r1, q1⟩ => ?_
  obtain ⟨a, e, q1⟩ := q1
  subst e
  cases r1
  rcases q1 with ⟨⟨xs, hq⟩, q⟩ | ⟨⟨xs, hq⟩, q⟩
  · obtain ⟨its, rv, p, hz⟩ := I1.list hq
    refine wpAny_pyIter_list p.isList ?_
    refine ⟨s1.heap.objs.size, [s1.heap.objs.size], _, _, H1, rfl, I1.kept (t' := s1.toks) fun b o e => Heap.get?_push_of_some _ e, turn_list a _, ⟨_, Heap.get?_push_size _ rfl, rfl, rfl⟩, fun b hb => ?_, q⟩
    have e : b = s1.heap.objs.size := by simpa using hb
    subst e
    exact I1.fpOk (Nat.le_refl _) (I1.hok.fresh (Nat.le_refl _))
  · obtain ⟨its, rv, p, hz⟩ := I1.tuple hq
    refine wpAny_pyIter_tuple (show s1.heap.IsTuple a its.toArray from p) ?_
    refine ⟨s1.heap.objs.size, [s1.heap.objs.size], _, _, H1, rfl, I1.kept (t' := s1.toks) fun b o e => Heap.get?_push_of_some _ e, turn_tuple a _, ⟨_, Heap.get?_push_size _ rfl, rfl, rfl⟩, fun b hb => ?_, q⟩
    have e : b = s1.heap.objs.size := by simpa using hb
    subst e
    exact I1.fpOk (Nat.le_refl _) (I1.hok.fresh (Nat.le_refl _))
/-- the items of a tuple, or of a list and its place -/
def seqI (st : SS) : D → Option (List D × Option Nat)
  | .tup ds => some (ds, none)
  | .ref n => match st[n]? with
    | some (.lst ds) => some (ds, some n)
    | _ => none
  | _ => none
theorem seqI_cases {y : V} {dy : D} {ds : List D} {ro : Option Nat} {H : Hp} (s : SR w.s ι st H) (ry : Rep ι H y dy) (h : seqI st dy = some (ds, ro)) :
    ∃ a vs, y = .ref a ∧ Reps ι H vs ds ∧ ds.length ≤ sizeLine ∧ ((∃ n, ro = some n ∧ ι[n]? = some a ∧ st[n]? = some (.lst ds) ∧ H a = some (.lst vs)) ∨ (ro = none ∧ H a = some (.tup vs))) := by
  unfold seqI at h
  split at h
  · cases h
    cases ry with
    | tup h1 l1 r1 => exact ⟨_, _, rfl, r1, l1, .inr ⟨rfl, h1⟩⟩
  · split at h
    · rename_i n _ _ e
      cases h
      cases ry with
      | ref hn =>
        obtain ⟨vs, h1, l, h2⟩ := s.cell n _ _ hn e
        exact ⟨_, vs, rfl, h2, l, .inl ⟨n, rfl, hn, e, h1⟩⟩
    · cases h
  · cases h
def iSeq (m : MP) : MI := fun env st => match m env st with | some d => seqI st d | none => none
theorem di_seq {l : Expr} {m : MP} (hl : PE X l (tP w m)) : PI X tg l (tI w (iSeq m)) := by
  refine PI.mo (pi_seqU hl) fun σ H R ⟨ι, env, st, ds, ro, he, hs, hm, q⟩ => ?_
  unfold iSeq at hm
  split at hm
  · rename_i d e
    refine ⟨ι, env, st, d, he, hs, e, fun v H1 k1 r1 s1 => ?_⟩
    obtain ⟨a, vs, rfl, rs, hl, hh⟩ := seqI_cases s1 r1 hm
    refine ⟨a, rfl, ?_⟩
    rcases hh with ⟨n, rfl, hn, hc, h1⟩ | ⟨rfl, h1⟩
    · exact .inl ⟨⟨vs, sql_of h1⟩, q _ H1 k1 s1 (itd_lst hn hc hl)⟩
    · exact .inr ⟨⟨vs, sqt_of h1⟩, q _ H1 k1 s1 (itd_tup h1 rs hl)⟩
  · cases hm
def iRng (m : MP) : MI := fun env st => match m env st with | some (.int n) => if n ≤ 1000000 ∧ -1000000 ≤ n then some (intsD 0 n.toNat, none) else none | _ => none
theorem di_rng {e : Expr} {m : MP} {p pos : Pos} (hg : Gl X "range") (hm : X.mg "range" = none) (ha : PE X e (tP w m)) (hs : starEach [e] X.env = [(false, eval e X.env)] := by rfl) : PI X tg (.Call (.Name "range" p) [e] [] pos) (tI w (iRng m)) := by
  refine PI.mo (pi_range1 hg hm (pa_cons ha pa_nil (by rw [hs]; rfl)) hs) fun σ H R ⟨ι, env, st, ds, ro, he, hst, hmm, q⟩ => ?_
  unfold iRng at hmm
  split at hmm
  · rename_i n e1
    split at hmm
    · rename_i hn
      cases hmm
      refine ⟨ι, env, st, _, he, hst, e1, fun v H1 k1 r1 s1 => ?_⟩
      cases r1
      refine ⟨n, rfl, by omega, by omega, q _ H1 k1 s1 (itd_rng (big_size (by omega)))⟩
    · cases hmm
  · cases hmm
def iRng2 (a b : MP) : MI := fun env st => match a env st, b env st with | some (.int m), some (.int n) => if (n ≤ 1000000 ∧ -1000000 ≤ n) ∧ m ≤ 1000000 ∧ 0 ≤ m then some (intsD m (n - m).toNat, none) else none | _, _ => none
theorem di_rng2 {e e2 : Expr} {m m2 : MP} {p pos : Pos} (hg : Gl X "range") (hm : X.mg "range" = none) (ha : PE X e (tP w m)) (hb : PE X e2 (tP w m2)) (hs : starEach [e, e2] X.env = [(false, eval e X.env), (false, eval e2 X.env)] := by rfl) (hs2 : starEach [e2] X.env = [(false, eval e2 X.env)] := by rfl) :
    PI X tg (.Call (.Name "range" p) [e, e2] [] pos) (tI w (iRng2 m m2)) := by
  refine PI.mo (pi_range2 hg hm (pa_cons ha (pa_cons hb pa_nil (by rw [hs2]; rfl)) (by rw [hs, hs2])) hs hs2) fun σ H R ⟨ι, env, st, ds, ro, he, hst, hmm, q⟩ => ?_
  unfold iRng2 at hmm
  split at hmm
  · rename_i i j e1 e2
    split at hmm
    · rename_i hn
      cases hmm
      refine ⟨ι, env, st, _, he, hst, e1, fun v H1 k1 r1 s1 => ?_⟩
      refine ⟨ι, env, st, _, he.kp k1, s1, e2, fun v2 H2 k2 r2 s2 => ?_⟩
      cases r1
      cases r2
      exact ⟨i, j, rfl, ⟨by omega, by omega, by omega, by omega⟩, q _ H2 (k1.trans k2) s2 (itd_rng (big_size (by omega)))⟩
    · cases hmm
  · cases hmm
def iEnum (m : MP) : MI := fun env st => match m env st with | some d => (match seqI st d with | some (ds, ro) => some (enumD ds, ro) | none => none) | none => none
theorem di_enum {elts : List Expr} {kk : Nat} {tpos : Pos} {e : Expr} {m : MP} {p pos : Pos} (hg : Gl X "enumerate") (hm : X.mg "enumerate" = none) (ha : PE X e (tP w m)) (hs : starEach [e] X.env = [(false, eval e X.env)] := by rfl) : PI X (.Tuple elts kk tpos) (.Call (.Name "enumerate" p) [e] [] pos) (tI w (iEnum m)) := by
  refine PI.mo (pi_enumA hg hm (pa_cons ha pa_nil (by rw [hs]; rfl)) hs) fun σ H R ⟨ι, env, st, ds, ro, he, hst, hmm, q⟩ => ?_
  unfold iEnum at hmm
  split at hmm
  · rename_i d e1
    split at hmm
    · rename_i ds' ro' e2
      cases hmm
      refine ⟨ι, env, st, d, he, hst, e1, fun v H1 k1 r1 s1 => ?_⟩
      obtain ⟨a, vs, rfl, rs, hl, hh⟩ := seqI_cases s1 r1 e2
      refine ⟨a, vs, rfl, ?_⟩
      rcases hh with ⟨n, rfl, hn, hc, h1⟩ | ⟨rfl, h1⟩
      · exact .inl ⟨sql_of h1, q _ H1 k1 s1 (itd_enumL hn hc hl)⟩
      · exact .inr ⟨sqt_of h1, q _ H1 k1 s1 (itd_enumT h1 rs hl)⟩
    · cases hmm
  · cases hmm

/-! ### targets -/
abbrev MT := D → EV → Option EV
def GT (w : Wd) (own : List Nat) (g : TG) (t : MT) : Prop := ∀ (ι : List Addr) (st : SS) (H : Hp) (σ : L2.St) (env : EV) (x : V) (d : D) (env' : EV) (Q : L2.St → Hp → Prop), EnvR w ι env σ H → SR w.s ι st H → Rep ι H x d → t d env = some env' →
  (∀ σ', EnvR w ι env' σ' H → wipe σ' own = wipe σ own → Q σ' H) → g x σ H Q
def tgN (i : Nat) : MT := fun d env => some (env.set i (some d))
theorem wipe_set {σ : L2.St} {x : Option V} : ∀ {own : List Nat} {i : Nat}, i ∈ own → wipe (σ.set i x) own = wipe σ own
  | o :: os, i, h => by
    unfold wipe
    by_cases hi : i ∈ os
    · rw [wipe_set hi]
    · have e : i = o := by
        rcases List.mem_cons.mp h with h | h
        · exact h
        · exact absurd h hi
      subst e
      have key : ∀ (os : List Nat), i ∉ os → (wipe (σ.set i x) os).set i none = (wipe σ os).set i none := by
        intro os
        induction os with
        | nil => intro _; unfold wipe; rw [List.set_set]
        | cons p ps ih =>
          intro hp
          unfold wipe
          have h1 : i ≠ p := fun z => hp (by rw [z]; exact List.mem_cons_self)
          have h2 : i ∉ ps := fun z => hp (List.mem_cons_of_mem _ z)
          rw [List.set_comm _ _ (Ne.symm h1), ih h2, List.set_comm _ _ h1]
      exact key os hi
theorem wipe_idem {σ : L2.St} : ∀ {own : List Nat} {os : List Nat}, (∀ i ∈ os, i ∈ own) → wipe (wipe σ os) own = wipe σ own
  | own, [], _ => rfl
  | own, o :: os, h => by
    show wipe ((wipe σ os).set o none) own = wipe σ own
    rw [wipe_set (h o List.mem_cons_self), wipe_idem fun i hi => h i (List.mem_cons_of_mem _ hi)]
theorem gt_name {own : List Nat} {i : Nat} (h : i ∈ own) (hfx : ∀ p ∈ w.fx, p.1 ≠ i := by intro _ h; cases h) : GT w own (gName i) (tgN i) := by
  intro ι st H σ env x d env' Q he hs r ht q
  cases ht
  exact q _ (he.set i r hfx) (wipe_set h)
/-- several targets -/
abbrev MTs := List D → EV → Option EV
def GTs (w : Wd) (own : List Nat) (g : TGs) (t : MTs) : Prop := ∀ (ι : List Addr) (st : SS) (H : Hp) (σ : L2.St) (env : EV) (xs : List V) (ds : List D) (env' : EV) (Q : L2.St → Hp → Prop), EnvR w ι env σ H → SR w.s ι st H → Reps ι H xs ds → t ds env = some env' →
  (∀ σ', EnvR w ι env' σ' H → wipe σ' own = wipe σ own → Q σ' H) → g xs σ H Q
def tgNil : MTs := fun ds env => match ds with | [] => some env | _ => none
def tgCons (t : MT) (u : MTs) : MTs := fun ds env => match ds with | d :: ds => (match t d env with | some env1 => u ds env1 | none => none) | [] => none
theorem gts_nil {own : List Nat} : GTs w own gNil tgNil := by
  intro ι st H σ env xs ds env' Q he hs r ht q
  unfold tgNil at ht
  split at ht
  · cases ht; cases r
    exact ⟨rfl, q _ he rfl⟩
  · cases ht
theorem gts_cons {own : List Nat} {g : TG} {t : MT} {gs : TGs} {u : MTs} (h1 : GT w own g t) (h2 : GTs w own gs u) : GTs w own (gCons g gs) (tgCons t u) := by
  intro ι st H σ env xs ds env' Q he hs r ht q
  unfold tgCons at ht
  split at ht
  · rename_i d ds'
    split at ht
    · rename_i env1 e1
      cases r with
      | cons r rr =>
        refine ⟨_, _, rfl, h1 ι st H σ env _ d env1 _ he hs r e1 fun σ1 he1 hw1 => ?_⟩
        exact h2 ι st H σ1 env1 _ ds' env' Q he1 hs rr ht fun σ2 he2 hw2 => q σ2 he2 (hw2.trans hw1)
    · cases ht
  · cases ht
def tgTup (n : Nat) (u : MTs) : MT := fun d env => match d with | .tup ds => if ds.length = n then u ds env else none | _ => none
theorem gt_tup {own : List Nat} {n : Nat} {gs : TGs} {u : MTs} (h : GTs w own gs u) : GT w own (gTup K n gs) (tgTup n u) := by
  intro ι st H σ env x d env' Q he hs r ht q
  unfold tgTup at ht
  split at ht
  · split at ht
    · rename_i hn
      cases r with
      | tup h1 l1 r1 => exact ⟨_, _, rfl, sqt_of h1, by rw [r1.length]; exact hn, h ι st H σ env _ _ env' Q he hs r1 ht q⟩
    · cases ht
  · cases ht
end
end GD

set_option Elab.async false
set_option linter.all false
set_option maxRecDepth 100000
set_option maxHeartbeats 2000000
namespace GD
open PySem PySem.Spec PyProof.Rows L2 GX

/-! ## 5. comprehensions -/
def ewipe (env : EV) : List Nat → EV
  | [] => env
  | v :: vs => (ewipe env vs).set v none
theorem EnvR.unset {w : Wd} {ι : List Addr} {env : EV} {σ : L2.St} {H : Hp} (e : EnvR w ι env σ H) (i : Nat) (hfx : ∀ p ∈ w.fx, p.1 ≠ i) : EnvR w ι (env.set i none) (σ.set i none) H := by
  refine ⟨by rw [List.length_set, List.length_set]; exact e.len, fun j x h => ?_, e.cod, fun p hp => by rw [List.getElem?_set_ne (Ne.symm (hfx p hp))]; exact e.fx p hp, e.sq, e.lm⟩
  by_cases hj : i = j
  · subst hj
    by_cases hl : i < env.length
    · rw [List.getElem?_set_self hl] at h
      cases h
    · rw [List.getElem?_eq_none (by rw [List.length_set]; omega)] at h
      cases h
  · rw [List.getElem?_set_ne hj] at h ⊢
    exact e.at_ j x h
theorem EnvR.wipe {w : Wd} {ι : List Addr} {env : EV} {σ : L2.St} {H : Hp} (e : EnvR w ι env σ H) : ∀ own : List Nat, (∀ v ∈ own, ∀ p ∈ w.fx, p.1 ≠ v) → EnvR w ι (ewipe env own) (L2.wipe σ own) H
  | [], _ => e
  | v :: vs, h => (EnvR.wipe e vs fun v hv => h v (List.mem_cons_of_mem _ hv)).unset v (h v List.mem_cons_self)
abbrev Wd.at (w : Wd) (c : Addr) : Wd := ⟨w.s, c, w.fx, w.sq, w.lm, true⟩
theorem EnvR.code {w : Wd} {ι : List Addr} {env : EV} {σ : L2.St} {H : Hp} {c P : Addr} (e : EnvR w ι env σ H) (h : H c = some (CodeG c P)) (t : ∃ ps, H P = some (.tbl ps)) : EnvR (w.at c) ι env σ H :=
  ⟨e.len, e.at_, fun _ => ⟨P, .inr h, t⟩, e.fx, e.sq, e.lm⟩
theorem EnvR.back {w : Wd} {ι : List Addr} {env : EV} {σ : L2.St} {H H' : Hp} {c : Addr} (e : EnvR (w.at c) ι env σ H) (h : Cod w H) : EnvR w ι env σ H := ⟨e.len, e.at_, h, e.fx, e.sq, e.lm⟩
def fGo (t : MT) (b : MB) (m : MP) (env : EV) (st : SS) : List D → Option (List D)
  | [] => some []
  | d :: ds => match t d env with
    | some env1 => (match b env1 st with
      | some true => (match m env1 st with
        | some y => (match fGo t b m env st ds with | some ys => some (y :: ys) | none => none)
        | none => none)
      | some false => fGo t b m env st ds
      | none => none)
    | none => none
def mComp (mi : MI) (t : MT) (b : MB) (m : MP) (own : List Nat) : ML := fun env st => match mi env st with | some (ds, _) => fGo t b m (ewipe env own) st ds | none => none
def bYes : MB := fun _ _ => some true
section
variable {X : Cx} {w : Wd} {pos : Pos} {tg iter elt c : Expr} {ifs : List Expr}
theorem PTs.mo {t t' : TT} (h : PTs X ifs t) (q : ∀ σ H Q, t' σ H Q → t σ H Q) : PTs X ifs t' := ⟨fun pins s σ H Q I h' => h.run pins s σ H Q I (q σ H Q h')⟩
theorem dts_nil : PTs X [] (tBo w bYes) := PTs.mo pts_nil fun σ H Q ⟨ι, env, st, b, he, hs, hm, q⟩ => by cases hm; exact q H (Kp.refl H) hs
theorem dts_one {b : MB} (h : PT X c (tBo w b)) : PTs X [c] (tBo w b) := pts_one h
theorem go_cons {t : MT} {b : MB} {m : MP} {env : EV} {st : SS} {d : D} {ds r : List D} (h : fGo t b m env st (d :: ds) = some r) :
    ∃ env1, t d env = some env1 ∧ ((b env1 st = some false ∧ fGo t b m env st ds = some r) ∨ (b env1 st = some true ∧ ∃ y ys, m env1 st = some y ∧ fGo t b m env st ds = some ys ∧ r = y :: ys)) := by
  unfold fGo at h
  split at h
  · rename_i env1 e1
    refine ⟨env1, e1, ?_⟩
    split at h
    · rename_i e2
      split at h
      · rename_i y e3
        split at h
        · rename_i ys e4
          cases h
          exact .inr ⟨e2, y, ys, e3, e4, rfl⟩
        · cases h
      · cases h
    · rename_i e2
      exact .inl ⟨e2, h⟩
    · cases h
  · cases h
theorem drop_cons' {ds : List D} {i : Nat} (h : i < ds.length) : ∃ d, ds[i]? = some d ∧ ds.drop i = d :: ds.drop (i + 1) := ⟨ds[i], List.getElem?_eq_getElem h, List.drop_eq_getElem_cons h⟩
theorem lc_read {mi : MI} {t : MT} {b : MB} {m : MP} {own : List Nat} {g : TG} (hfx : ∀ v ∈ own, ∀ p ∈ w.fx, p.1 ≠ v) (hg : GT w own g t) (σ : L2.St) (H : Hp) (Q : VK) :
    tLs w (mComp mi t b m own) σ H Q → tLc (tI w mi) g (tBo w b) (tP w m) own σ H Q := by
  rintro ⟨ι, env, st, es, he, hs, hm, q⟩
  unfold mComp at hm
  split at hm
  · rename_i ds ro hmi
    refine ⟨ι, env, st, ds, ro, he, hs, hmi, fun J H1 k1 s1 hJ D hD => ?_⟩
    have hDi : D ∉ ι := nin_of s1 hD
    have he1 := he.kp k1
    refine ⟨fun i mm H' => mm = ds.length - i ∧ i ≤ ds.length ∧ Kp ι H1 H' ∧ SR w.s ι st H' ∧ ∃ acc es1 es2, H' D = some (.lst acc) ∧ acc.length ≤ i ∧ Reps ι H' acc es1 ∧ fGo t b m (ewipe env own) st (ds.drop i) = some es2 ∧ es1 ++ es2 = es,
      ⟨ds.length, rfl, Nat.zero_le _, Kp.new hD, s1.new hD (fun _ z => by cases z) hDi, [], [], es, upd_same, Nat.zero_le _, .nil, hm, rfl⟩, ?_⟩
    rintro i mm H' ⟨rfl, hi, k2, s2, acc, es1, es2, hacc, hal, hr, hgo, rfl⟩
    obtain ⟨j1, j2, j3⟩ := hJ.run ι st H' k2 (List.prefix_refl _) Hold.refl s2
    by_cases hlt : i < ds.length
    · refine .inr ⟨j1 i hlt, fun H'' => i + 1 ≤ ds.length ∧ Kp ι H1 H'' ∧ SR w.s ι st H'' ∧ ∃ acc es1' es2', H'' D = some (.lst acc) ∧ acc.length ≤ i + 1 ∧ Reps ι H'' acc es1' ∧ fGo t b m (ewipe env own) st (ds.drop (i + 1)) = some es2' ∧ es1' ++ es2' = es1 ++ es2, fun H'' hn => ⟨_, by omega, rfl, hn⟩, fun x H2 hy => ?_⟩
      obtain ⟨d, hd, rd, kk, s3⟩ := j2 i x H2 hlt hy
      obtain ⟨d', hd', hdr⟩ := drop_cons' hlt
      rw [hd] at hd'
      cases hd'
      rw [hdr] at hgo
      obtain ⟨env1, ht, hcase⟩ := go_cons hgo
      have k3 : Kp ι H' H2 := .of kk
      refine hg ι st H2 _ _ x d env1 _ ((he1.kp (k2.trans k3)).wipe own hfx) s3 rd ht fun σ2 he2 hw2 => ⟨hw2.trans (wipe_idem fun _ h => h), ?_⟩
      rcases hcase with ⟨hb, hrest⟩ | ⟨hb, y, ys, hy1, hrest, rfl⟩
      · refine ⟨ι, env1, st, false, he2, s3, hb, fun H3 k4 s4 => iteF ⟨hlt, (k2.trans k3).trans k4, s4, acc, es1, _, k4.keep _ _ (kk _ _ hacc) (fun _ z => by cases z) (fun z => absurd z hDi), Nat.le_succ_of_le hal, (hr.kp k3).kp k4, hrest, rfl⟩⟩
      · refine ⟨ι, env1, st, true, he2, s3, hb, fun H3 k4 s4 => iteT ⟨ι, env1, st, y, he2.kp k4, s4, hy1, fun v H4 k5 r5 s5 => ?_⟩⟩
        have hD4 : H4 D = some (.lst acc) := k5.keep _ _ (k4.keep _ _ (kk _ _ hacc) (fun _ z => by cases z) (fun z => absurd z hDi)) (fun _ z => by cases z) (fun z => absurd z hDi)
        refine ⟨acc, hD4, Nat.lt_of_le_of_lt hal (Nat.lt_of_lt_of_le hlt hJ.len), hlt, (((k2.trans k3).trans k4).trans k5).put hD, s5.put hD4 hDi, acc ++ [v], es1 ++ [y], ys, upd_same, by rw [List.length_append]; simpa using hal, ?_, hrest, by simp⟩
        exact ((((hr.kp k3).kp k4).kp k5).append (.one r5)).put hD4
    · have e : i = ds.length := by omega
      subst e
      rw [List.drop_length] at hgo
      cases hgo
      rw [List.append_nil] at q
      exact .inl ⟨j3 _ (Nat.le_refl _), q D acc H' (k1.trans k2) hacc (k1.fresh hDi hD) (by rw [← hr.length]; exact Nat.le_trans hal hJ.len) hr s2⟩
  · cases hm
theorem dl_lc {scope : Scope} {own : List (Str × Nat)} {mi : MI} {t : MT} {b : MB} {m : MP} {g : TG} (hc : X.calm = true) (hN : X.N.Nodup) (hi : PI X tg iter (tI w mi)) (ok : BlkOk X.N X.env.scope scope own) (ht : GT w (own.map (·.2)) g t)
    (hg : ∀ (s : Shared) (H : Hp) (C : Addr) (cl : List (Str × Addr)) (fp : List Addr), PG (X.blk s H scope (compEnvC scope cl C X.env) fp) tg g) (hb : ∀ (s : Shared) (H : Hp) (C : Addr) (cl : List (Str × Addr)) (fp : List Addr), PTs (X.blk s H scope (compEnvC scope cl C X.env) fp) ifs (tBo w b))
    (he : ∀ (s : Shared) (H : Hp) (C : Addr) (cl : List (Str × Addr)) (fp : List Addr), PE (X.blk s H scope (compEnvC scope cl C X.env) fp) elt (tP w m)) (hs : ∀ x, foldedSetIterable iter X.env x = pure x := by intro _; rfl) (hfx : ∀ v ∈ own.map (·.2), ∀ p ∈ w.fx, p.1 ≠ v := by intro _ _ _ h; cases h) :
    PE X (.ListComp elt [⟨tg, iter, ifs, 0⟩] scope pos) (tLs w (mComp mi t b m (own.map (·.2)))) :=
  PE.mo (pe_lc hc hN hi ok hg hb he hs) (lc_read hfx ht)
/-! ### generator expressions -/
/-- all items hold: short of the first that does not -/
def allGo (t : MT) (b : MB) (m : MP) (env : EV) (st : SS) (stopAt : Bool) : List D → Option Bool
  | [] => some (!stopAt)
  | d :: ds => match t d env with
    | some env1 => (match b env1 st with
      | some true => (match m env1 st with
        | some (.bl x) => if x = stopAt then some stopAt else allGo t b m env st stopAt ds
        | _ => none)
      | some false => allGo t b m env st stopAt ds
      | none => none)
    | none => none
def mAll (stopAt : Bool) (mi : MI) (t : MT) (b : MB) (m : MP) (own : List Nat) : MP := fun env st => match mi env st with | some (ds, _) => (match allGo t b m (ewipe env own) st stopAt ds with | some x => some (.bl x) | none => none) | none => none
theorem all_cons {t : MT} {b : MB} {m : MP} {env : EV} {st : SS} {d : D} {ds : List D} {sa r : Bool} (h : allGo t b m env st sa (d :: ds) = some r) :
    ∃ env1, t d env = some env1 ∧ ((b env1 st = some false ∧ allGo t b m env st sa ds = some r) ∨ (b env1 st = some true ∧ ((m env1 st = some (.bl sa) ∧ r = sa) ∨ (m env1 st = some (.bl (!sa)) ∧ allGo t b m env st sa ds = some r)))) := by
  unfold allGo at h
  split at h
  · rename_i env1 e1
    refine ⟨env1, e1, ?_⟩
    split at h
    · rename_i e2
      refine .inr ⟨e2, ?_⟩
      split at h
      · rename_i x e3
        split at h
        · rename_i hx
          cases h
          subst hx
          exact .inl ⟨e3, rfl⟩
        · rename_i hx
          refine .inr ⟨?_, h⟩
          rw [e3]
          cases x <;> cases sa <;> simp_all
      · cases h
    · rename_i e2
      exact .inl ⟨e2, h⟩
    · cases h
  · cases h
theorem SR.grown' {w : Ws} {ι : List Addr} {st : SS} {H H' : Hp} (s : SR w ι st H) (g : Grown H H') (T : AllTabs w.nm H') : SR w ι st H' := s.grown g T fun b hb => by
  obtain ⟨n, hn, e⟩ := List.getElem_of_mem hb
  have e1 : ι[n]? = some b := by rw [List.getElem?_eq_getElem hn, e]
  have hl : n < st.length := by rw [← s.len]; exact hn
  have q := s.cell n b st[n] e1 (List.getElem?_eq_getElem hl)
  cases hc : st[n] with
  | lst ds =>
    rw [hc] at q
    obtain ⟨vs, h1, _⟩ := q
    rw [h1]
    exact g.keep _ _ h1 fun _ z => by cases z
  | frz ds =>
    rw [hc] at q
    obtain ⟨o, vs, h1, _⟩ := q
    rw [h1]
    exact g.keep _ _ h1 fun _ z => by cases z
  | dic ds =>
    rw [hc] at q
    obtain ⟨vs, h1, _⟩ := q
    rw [h1]
    exact g.keep _ _ h1 fun _ z => by cases z
  | obj x ds =>
    rw [hc] at q
    obtain ⟨C, dx, vs, h1, _⟩ := q
    rw [h1]
    exact g.keep _ _ h1 fun _ z => by cases z
  | dicN ds =>
    rw [hc] at q
    obtain ⟨vs, h1, _⟩ := q
    rcases h1 with ⟨h1, _⟩ | ⟨xs, h1, _⟩ <;> rw [h1] <;> exact g.keep _ _ h1 fun _ z => by cases z
def mGenT (mi : MI) (t : MT) (b : MB) (m : MP) (own : List Nat) : MP := fun env st => match mComp mi t b m own env st with | some es => some (.tup es) | none => none
theorem tup_read {mi : MI} {t : MT} {b : MB} {m : MP} {own : List Nat} {g : TG} {B : Heap} {nm : Nat → Nat → Option Str} {c : Addr} (eB : B = w.s.base) (en : nm = w.s.nm) (ec : c = w.c) (hgn : w.gn = true) (hfx : ∀ v ∈ own, ∀ p ∈ w.fx, p.1 ≠ v) (hg : ∀ c', GT (w.at c') own g t) (σ : L2.St) (H : Hp) (Q : VK) :
    tP w (mGenT mi t b m own) σ H Q → tTupX (tGen B nm c (tI w mi) g (fun c' => tBo (w.at c') b) (fun c' => tP (w.at c') m) own) σ H Q := by
  subst eB en ec
  rintro ⟨ι, env, st, dres, he, hs, hm, q⟩
  unfold mGenT at hm
  split at hm
  · rename_i es hm'
    cases hm
    have hm := hm'
    unfold mComp at hm
    split at hm
    · rename_i ds ro hmi
      refine ⟨ι, env, st, ds, ro, he, hs, hmi, fun J H1 k1 s1 hJ => ⟨(he.kp k1).cod hgn, s1.tabs, fun H2 c' P' g2 T2 hc' hp' => ?_⟩⟩
      have kg : Kp ι H1 H2 := Kp.grown g2
      have s2 := s1.grown' g2 T2
      have he2 : EnvR (w.at c') ι env σ H2 := ((he.kp k1).kp kg).code hc' hp'
      refine ⟨⟨fun ys i mm H' => mm = ds.length - i ∧ i ≤ ds.length ∧ ys.length ≤ i ∧ Kp ι H2 H' ∧ SR w.s ι st H' ∧ ∃ es1 es2, Reps ι H' ys es1 ∧ fGo t b m (ewipe env own) st (ds.drop i) = some es2 ∧ es1 ++ es2 = es, fun _ => True, fun ys H' => Kp ι H2 H' ∧ SR w.s ι st H' ∧ Reps ι H' ys es ∧ ys.length ≤ ds.length⟩,
        trivial, ⟨ds.length, rfl, Nat.zero_le _, Nat.zero_le _, Kp.refl _, s2, [], es, .nil, hm, rfl⟩, ?_, fun _ => trivial, fun ys H' ⟨k3, s3, r3, l3⟩ hl p hp => ?_⟩
      · rintro ys i mm H' _ ⟨rfl, hi, hyl, k2, s2', es1, es2, hr, hgo, rfl⟩
        obtain ⟨j1, j2, j3⟩ := hJ.run ι st H' (kg.trans k2) (List.prefix_refl _) Hold.refl s2'
        by_cases hlt : i < ds.length
        · refine .inr ⟨j1 i hlt, fun H'' => i + 1 ≤ ds.length ∧ ys.length ≤ i + 1 ∧ Kp ι H2 H'' ∧ SR w.s ι st H'' ∧ ∃ es1' es2', Reps ι H'' ys es1' ∧ fGo t b m (ewipe env own) st (ds.drop (i + 1)) = some es2' ∧ es1' ++ es2' = es1 ++ es2,
            fun y H'' => i + 1 ≤ ds.length ∧ (ys ++ [y]).length ≤ i + 1 ∧ Kp ι H2 H'' ∧ SR w.s ι st H'' ∧ ∃ es1' es2', Reps ι H'' (ys ++ [y]) es1' ∧ fGo t b m (ewipe env own) st (ds.drop (i + 1)) = some es2' ∧ es1' ++ es2' = es1 ++ es2,
            fun H'' hn => ⟨_, by omega, rfl, hn⟩, fun y H'' hn => ⟨_, by omega, rfl, hn⟩, fun x H3 hy => ?_⟩
          obtain ⟨d, hd, rd, kk, s3⟩ := j2 i x H3 hlt hy
          obtain ⟨d', hd', hdr⟩ := drop_cons' hlt
          rw [hd] at hd'
          cases hd'
          rw [hdr] at hgo
          obtain ⟨env1, ht, hcase⟩ := go_cons hgo
          have k3 : Kp ι H' H3 := .of kk
          refine hg c' ι st H3 _ _ x d env1 _ ((he2.kp (k2.trans k3)).wipe own hfx) s3 rd ht fun σ2 he3 hw2 => ⟨hw2.trans (wipe_idem fun _ h => h), ?_⟩
          rcases hcase with ⟨hb, hrest⟩ | ⟨hb, y, yss, hy1, hrest, rfl⟩
          · refine ⟨ι, env1, st, false, he3, s3, hb, fun H4 k4 s4 => iteF ⟨hlt, Nat.le_succ_of_le hyl, (k2.trans k3).trans k4, s4, es1, _, (hr.kp k3).kp k4, hrest, rfl⟩⟩
          · refine ⟨ι, env1, st, true, he3, s3, hb, fun H4 k4 s4 => iteT ⟨ι, env1, st, y, he3.kp k4, s4, hy1, fun v H5 k5 r5 s5 => ?_⟩⟩
            exact ⟨Nat.lt_of_le_of_lt hyl (Nat.lt_of_lt_of_le hlt hJ.len), hlt, by rw [List.length_append]; simpa using hyl, ((k2.trans k3).trans k4).trans k5, s5, es1 ++ [y], yss, (((hr.kp k3).kp k4).kp k5).append (.one r5), hrest, by simp⟩
        · have e : i = ds.length := by omega
          subst e
          rw [List.drop_length] at hgo
          cases hgo
          rw [List.append_nil]
          exact .inl ⟨j3 _ (Nat.le_refl _), k2, s2', hr, hyl⟩
      · refine q _ _ (((k1.trans kg).trans k3).trans (Kp.new hp)) (.tup upd_same (by rw [← r3.length]; exact hl) (r3.kp (Kp.new hp))) (s3.new hp (fun _ z => by cases z) (nin_of s3 hp))
    · cases hm
  · cases hm
theorem all_read {sa : Bool} {mi : MI} {t : MT} {b : MB} {m : MP} {own : List Nat} {g : TG} {B : Heap} {nm : Nat → Nat → Option Str} {c : Addr} (eB : B = w.s.base) (en : nm = w.s.nm) (ec : c = w.c) (hgn : w.gn = true) (hfx : ∀ v ∈ own, ∀ p ∈ w.fx, p.1 ≠ v) (hg : ∀ c', GT (w.at c') own g t) (σ : L2.St) (H : Hp) (Q : VK) :
    tP w (mAll sa mi t b m own) σ H Q → tGen B nm c (tI w mi) g (fun c' => tBo (w.at c') b) (fun c' => tP (w.at c') m) own σ H fun G _ =>
      (∀ ys y i k H', G.alive ys → G.W (ys ++ [y]) i k H' → ∃ c : Bool, y = .bl c ∧ (c = (!sa) → G.alive (ys ++ [y])) ∧ (c = sa → Q (.bl sa) H')) ∧ ∀ ys H', G.alive ys → G.fin ys H' → Q (.bl (!sa)) H' := by
  subst eB en ec
  rintro ⟨ι, env, st, dres, he, hs, hm, q⟩
  unfold mAll at hm
  split at hm
  · rename_i ds ro hmi
    split at hm
    · rename_i r hm'
      cases hm
      have hm := hm'
      refine ⟨ι, env, st, ds, ro, he, hs, hmi, fun J H1 k1 s1 hJ => ⟨(he.kp k1).cod hgn, s1.tabs, fun H2 c' P' g2 T2 hc' hp' => ?_⟩⟩
      have kg : Kp ι H1 H2 := Kp.grown g2
      have s2 := s1.grown' g2 T2
      have he2 : EnvR (w.at c') ι env σ H2 := ((he.kp k1).kp kg).code hc' hp'
      refine ⟨⟨fun ys i mm H' => mm = ds.length - i ∧ i ≤ ds.length ∧ ys.length ≤ i ∧ Kp ι H2 H' ∧ SR w.s ι st H' ∧ (∀ y, ys.getLast? = some y → ∃ x, y = .bl x) ∧ ((ys.getLast? = some (.bl sa) ∧ r = sa) ∨ (ys.getLast? ≠ some (.bl sa) ∧ allGo t b m (ewipe env own) st sa (ds.drop i) = some r)),
          fun ys => ys.getLast? ≠ some (.bl sa), fun ys H' => Kp ι H2 H' ∧ SR w.s ι st H' ∧ r = (!sa)⟩,
        by simp, ⟨ds.length, rfl, Nat.zero_le _, Nat.zero_le _, Kp.refl _, s2, by simp, .inr ⟨by simp, hm⟩⟩, ?_, ?_, ?_⟩
      · rintro ys i mm H' hal ⟨rfl, hi, hyl, k2, s2', hbl, hcase⟩
        have hgo : allGo t b m (ewipe env own) st sa (ds.drop i) = some r := hcase.elim (fun z => absurd z.1 hal) (·.2)
        obtain ⟨j1, j2, j3⟩ := hJ.run ι st H' (kg.trans k2) (List.prefix_refl _) Hold.refl s2'
        by_cases hlt : i < ds.length
        · refine .inr ⟨j1 i hlt, fun H'' => i + 1 ≤ ds.length ∧ ys.length ≤ i + 1 ∧ Kp ι H2 H'' ∧ SR w.s ι st H'' ∧ allGo t b m (ewipe env own) st sa (ds.drop (i + 1)) = some r,
            fun y H'' => i + 1 ≤ ds.length ∧ (ys ++ [y]).length ≤ i + 1 ∧ Kp ι H2 H'' ∧ SR w.s ι st H'' ∧ ∃ x, y = .bl x ∧ ((x = sa ∧ r = sa) ∨ (x = (!sa) ∧ allGo t b m (ewipe env own) st sa (ds.drop (i + 1)) = some r)),
            fun H'' hn => ⟨_, by omega, rfl, hn.1, hn.2.1, hn.2.2.1, hn.2.2.2.1, hbl, .inr ⟨hal, hn.2.2.2.2⟩⟩, fun y H'' hn => ⟨_, by omega, rfl, hn.1, hn.2.1, hn.2.2.1, hn.2.2.2.1, ?_⟩, fun x H3 hy => ?_⟩
          · obtain ⟨_, _, _, _, x, rfl, hx⟩ := hn
            refine ⟨fun y hy => ⟨x, by simpa using hy.symm⟩, ?_⟩
            rcases hx with ⟨rfl, hr⟩ | ⟨rfl, hr⟩
            · exact .inl ⟨by simp, hr⟩
            · exact .inr ⟨by simp, hr⟩
          · obtain ⟨d, hd, rd, kk, s3⟩ := j2 i x H3 hlt hy
            obtain ⟨d', hd', hdr⟩ := drop_cons' hlt
            rw [hd] at hd'
            cases hd'
            rw [hdr] at hgo
            obtain ⟨env1, ht, hcase⟩ := all_cons hgo
            have k3 : Kp ι H' H3 := .of kk
            refine hg c' ι st H3 _ _ x d env1 _ ((he2.kp (k2.trans k3)).wipe own hfx) s3 rd ht fun σ2 he3 hw2 => ⟨hw2.trans (wipe_idem fun _ h => h), ?_⟩
            rcases hcase with ⟨hb, hrest⟩ | ⟨hb, hy2⟩
            · refine ⟨ι, env1, st, false, he3, s3, hb, fun H4 k4 s4 => iteF ⟨hlt, Nat.le_succ_of_le hyl, (k2.trans k3).trans k4, s4, hrest⟩⟩
            · have done : ∀ (y : Bool) (hy1 : m env1 st = some (.bl y)), ((y = sa ∧ r = sa) ∨ (y = (!sa) ∧ allGo t b m (ewipe env own) st sa (ds.drop (i + 1)) = some r)) → _ := fun y hy1 hy3 =>
                (⟨ι, env1, st, true, he3, s3, hb, fun H4 k4 s4 => iteT ⟨ι, env1, st, .bl y, he3.kp k4, s4, hy1, fun v H5 k5 r5 s5 => by
                  cases r5
                  exact ⟨Nat.lt_of_le_of_lt hyl (Nat.lt_of_lt_of_le hlt hJ.len), hlt, by rw [List.length_append]; simpa using hyl, ((k2.trans k3).trans k4).trans k5, s5, y, rfl, hy3⟩⟩⟩ : tBo (w.at c') b σ2 H3 fun b' H4 => if b' = true then tP (w.at c') m σ2 H4 fun y H5 => ys.length < sizeLine ∧ (i + 1 ≤ ds.length ∧ (ys ++ [y]).length ≤ i + 1 ∧ Kp ι H2 H5 ∧ SR w.s ι st H5 ∧ ∃ x, y = .bl x ∧ ((x = sa ∧ r = sa) ∨ (x = (!sa) ∧ allGo t b m (ewipe env own) st sa (ds.drop (i + 1)) = some r))) else (i + 1 ≤ ds.length ∧ ys.length ≤ i + 1 ∧ Kp ι H2 H4 ∧ SR w.s ι st H4 ∧ allGo t b m (ewipe env own) st sa (ds.drop (i + 1)) = some r))
              rcases hy2 with ⟨hy1, hr⟩ | ⟨hy1, hr⟩
              · exact done _ hy1 (.inl ⟨rfl, hr⟩)
              · exact done _ hy1 (.inr ⟨rfl, hr⟩)
        · have e : i = ds.length := by omega
          subst e
          rw [List.drop_length] at hgo
          cases hgo
          exact .inl ⟨j3 _ (Nat.le_refl _), k2, s2', rfl⟩
      · rintro ys y i k H' hal ⟨_, _, _, k2, s2', hbl, hcase⟩
        obtain ⟨x, rfl⟩ := hbl y (by simp)
        refine ⟨x, rfl, fun hx => by subst hx; simp, fun hx => ?_⟩
        subst hx
        rcases hcase with ⟨_, rfl⟩ | ⟨hn, _⟩
        · exact q _ H' ((k1.trans kg).trans k2) (.bl _) s2'
        · exact absurd (by simp) hn
      · rintro ys H' hal ⟨k2, s2', rfl⟩
        exact q _ H' ((k1.trans kg).trans k2) (.bl _) s2'
    · cases hm
  · cases hm
/-- what a generator expression asks for -/
structure GenA (X : Cx) (w : Wd) (mi : MI) (t : MT) (b : MB) (m : MP) (own : List Nat) (k : Nat) (e : Expr) : Prop where
  ex : ∃ (g : TG), PGx X k e (tGen X.base w.s.nm w.c (tI w mi) g (fun c' => tBo (w.at c') b) (fun c' => tP (w.at c') m) own) ∧ (∀ c', GT (w.at c') own g t) ∧ ∀ v ∈ own, ∀ p ∈ w.fx, p.1 ≠ v
  gn : w.gn = true
theorem dg_gen {scope : Scope} {own : List (Str × Nat)} {mi : MI} {t : MT} {b : MB} {m : MP} {g : TG} {k : Nat}
    (hc : X.calm = true) (hN : X.N.Nodup) (hr : Room 0 X.A) (hf : Fit X w) (hbm : Bm X.base X.mg) (hn : w.s.nm pos.line pos.col = none) (hi : PI X tg iter (tI w mi)) (ok : GenOk X.N X.env.scope scope own) (ht : ∀ c', GT (w.at c') (own.map (·.2)) g t)
    (hg : ∀ (s : Shared) (H : Hp) (cells : List (Str × Addr)) (L c' : Addr) (fp : List Addr) (A : Around) (pn : List (Addr × Obj)), PG (gcx X s H (genv X scope cells L (.ref c')) fp A pn) tg g)
    (hb : ∀ (s : Shared) (H : Hp) (cells : List (Str × Addr)) (L c' : Addr) (fp : List Addr) (A : Around) (pn : List (Addr × Obj)), Room k (A.deeper (genv X scope cells L (.ref c'))) → Fit (gcx X s H (genv X scope cells L (.ref c')) fp A pn) (w.at c') → PTs (gcx X s H (genv X scope cells L (.ref c')) fp A pn) ifs (tBo (w.at c') b))
    (he : ∀ (s : Shared) (H : Hp) (cells : List (Str × Addr)) (L c' : Addr) (fp : List Addr) (A : Around) (pn : List (Addr × Obj)), Room k (A.deeper (genv X scope cells L (.ref c'))) → Fit (gcx X s H (genv X scope cells L (.ref c')) fp A pn) (w.at c') → PE (gcx X s H (genv X scope cells L (.ref c')) fp A pn) elt (tP (w.at c') m))
    (hs : ∀ x, genFold iter X.env x = pure x := by intro _; rfl) (hfx : ∀ v ∈ own.map (·.2), ∀ p ∈ w.fx, p.1 ≠ v := by intro _ _ _ h; cases h) (hgn : w.gn = true := by rfl) : GenA X w mi t b m (own.map (·.2)) k (.GeneratorExp elt [⟨tg, iter, ifs, 0⟩] scope pos) :=
  ⟨⟨g, pgx_gen hc hN hr hf.c hbm hn hi ok hg (fun s H cells L c' fp A pn hr => hb s H cells L c' fp A pn hr ⟨hf.k, hf.b, rfl⟩) (fun s H cells L c' fp A pn hr => he s H cells L c' fp A pn hr ⟨hf.k, hf.b, rfl⟩) hs, ht, hfx⟩, hgn⟩
section
variable {mi : MI} {t : MT} {b : MB} {m : MP} {own : List Nat} {k : Nat} {e : Expr} {p : Pos}
theorem dp_allG (hf : Fit X w) (hG : GenA X w mi t b m own k e) (hr : Room (k + 3) X.A) (hg : Gl X "all") (hm : X.mg "all" = none) (he : starEach [e] X.env = (false, eval e X.env) :: starEach [] X.env := by rfl) : PE X (.Call (.Name "all" p) [e] [] pos) (tP w (mAll false mi t b m own)) := by
  obtain ⟨g, hp, ht, hfx⟩ := hG.ex
  exact PE.mo (pe_allX hp hr hg hm (he := he)) fun σ H Q h => all_read (sa := false) hf.b rfl rfl hG.gn hfx ht σ H Q h
theorem dp_tupG (hf : Fit X w) (hG : GenA X w mi t b m own k e) (hr : Room (k + 5) X.A) (hg : Gl X "tuple") (hm : X.mg "tuple" = none) (he : starEach [e] X.env = (false, eval e X.env) :: starEach [] X.env := by rfl) : PE X (.Call (.Name "tuple" p) [e] [] pos) (tP w (mGenT mi t b m own)) := by
  obtain ⟨g, hp, ht, hfx⟩ := hG.ex
  exact PE.mo (pe_tupX hp hr hg hm (he := he)) fun σ H Q h => tup_read hf.b rfl rfl hG.gn hfx ht σ H Q h
end
end
end GD

set_option Elab.async false
set_option linter.all false
set_option maxRecDepth 100000
set_option maxHeartbeats 2000000
namespace GD
open PySem PySem.Spec PyProof.Rows L2 GX

/-! ## 6. readings with effects: what holds behind, by the store -/
structure Gr (ι : List Addr) (H : Hp) (ι' : List Addr) (H' : Hp) : Prop where
  pre : ι <+: ι'
  kp : Kp ι H H'
  new : ∀ c ∈ ι', c ∈ ι ∨ H c = none
theorem Gr.of {ι : List Addr} {H H' : Hp} (k : Kp ι H H') : Gr ι H ι H' := ⟨List.prefix_refl _, k, fun _ h => .inl h⟩
theorem Gr.refl {ι : List Addr} (H : Hp) : Gr ι H ι H := .of (Kp.refl H)
theorem Gr.trans {ι ι1 ι2 : List Addr} {H H1 H2 : Hp} (a : Gr ι H ι1 H1) (b : Gr ι1 H1 ι2 H2) : Gr ι H ι2 H2 := by
  refine ⟨a.pre.trans b.pre, a.kp.trans2 b.kp a.new, fun c hc => ?_⟩
  rcases b.new c hc with h | h
  · exact a.new c h
  · by_cases hi : c ∈ ι
    · exact .inl hi
    · exact .inr (a.kp.fresh hi h)
section
variable {w : Wd} {ι ι' : List Addr} {H H' : Hp}
theorem Rep.gr (g : Gr ι H ι' H') {v : V} {d : D} (r : Rep ι H v d) : Rep ι' H' v d := r.mono g.kp g.pre
theorem Reps.gr (g : Gr ι H ι' H') {vs : List V} {ds : List D} (r : Reps ι H vs ds) : Reps ι' H' vs ds := r.mono g.kp g.pre
theorem EnvR.gr (g : Gr ι H ι' H') {env : EV} {σ : L2.St} (e : EnvR w ι env σ H) : EnvR w ι' env σ H' := e.mono g.kp g.pre
end
abbrev XP := EV → SS → (D → SS → Prop) → Prop
abbrev XB := EV → SS → (Bool → SS → Prop) → Prop
abbrev XA := EV → SS → (List D → SS → Prop) → Prop
abbrev XI := EV → SS → (List D → Option Nat → SS → Prop) → Prop
def tX (w : Wd) (t : XP) : TE := fun σ H Q => ∃ ι env st R, EnvR w ι env σ H ∧ SR w.s ι st H ∧ t env st R ∧ ∀ d st' ι' v H', R d st' → Gr ι H ι' H' → Rep ι' H' v d → SR w.s ι' st' H' → Q v H'
def tXB (w : Wd) (t : XB) : TT := fun σ H Q => ∃ ι env st R, EnvR w ι env σ H ∧ SR w.s ι st H ∧ t env st R ∧ ∀ b st' ι' H', R b st' → Gr ι H ι' H' → SR w.s ι' st' H' → Q b H'
def tXA (w : Wd) (t : XA) : TA := fun σ H Q => ∃ ι env st R, EnvR w ι env σ H ∧ SR w.s ι st H ∧ t env st R ∧ ∀ ds st' ι' vs H', R ds st' → Gr ι H ι' H' → Reps ι' H' vs ds → SR w.s ι' st' H' → Q vs H'
/-- a new list -/
def tXL (w : Wd) (t : XA) : TE := fun σ H Q => ∃ ι env st R, EnvR w ι env σ H ∧ SR w.s ι st H ∧ t env st R ∧ ∀ ds st' ι' p vs H', R ds st' → Gr ι H ι' H' → H' p = some (.lst vs) → H p = none → p ∉ ι' → ds.length ≤ sizeLine → Reps ι' H' vs ds → SR w.s ι' st' H' → Q (.ref p) H'
def tXI (w : Wd) (t : XI) : TI := fun σ H Q => ∃ ι env st R, EnvR w ι env σ H ∧ SR w.s ι st H ∧ t env st R ∧ ∀ ds ro st' ι' J H', R ds ro st' → Gr ι H ι' H' → SR w.s ι' st' H' → ItD w ι' st' J ds ro H' → Q J H'
def xOf (m : MP) : XP := fun env st R => ∃ d, m env st = some d ∧ R d st
def xbOf (m : MB) : XB := fun env st R => ∃ d, m env st = some d ∧ R d st
def xaOf (m : ML) : XA := fun env st R => ∃ d, m env st = some d ∧ R d st
def xiOf (m : MI) : XI := fun env st R => ∃ ds ro, m env st = some (ds, ro) ∧ R ds ro st
section
variable {X : Cx} {w : Wd} {pos p : Pos} {e a b c : Expr} {es : List Expr} {tg iter : Expr}
theorem dx_of {m : MP} (h : PE X e (tP w m)) : PE X e (tX w (xOf m)) := PE.mo h fun σ H Q ⟨ι, env, st, R, he, hs, ⟨d, hm, hR⟩, q⟩ => ⟨ι, env, st, d, he, hs, hm, fun v H' k r s => q d st ι v H' hR (.of k) r s⟩
theorem dxb_of {m : MB} (h : PT X e (tBo w m)) : PT X e (tXB w (xbOf m)) := PT.mo h fun σ H Q ⟨ι, env, st, R, he, hs, ⟨d, hm, hR⟩, q⟩ => ⟨ι, env, st, d, he, hs, hm, fun H' k s => q d st ι H' hR (.of k) s⟩
theorem dxl_of {m : ML} (h : PE X e (tLs w m)) : PE X e (tXL w (xaOf m)) := PE.mo h fun σ H Q ⟨ι, env, st, R, he, hs, ⟨d, hm, hR⟩, q⟩ => ⟨ι, env, st, d, he, hs, hm, fun p vs H' k h1 h2 l r s => q d st ι p vs H' hR (.of k) h1 h2 (nin_of hs h2) l r s⟩
theorem dxi_of {m : MI} (h : PI X tg iter (tI w m)) : PI X tg iter (tXI w (xiOf m)) := PI.mo h fun σ H Q ⟨ι, env, st, R, he, hs, ⟨ds, ro, hm, hR⟩, q⟩ => ⟨ι, env, st, ds, ro, he, hs, hm, fun J H' k s hJ => q ds ro st ι J H' hR (.of k) s hJ⟩
/-! ### operators -/
def xOp (f : F2) (a b : XP) : XP := fun env st R => a env st fun x st1 => b env st1 fun y st2 => ∃ d, f st2 x y = some d ∧ R d st2
theorem xop_read {f : F2} {r : R2} {ma mb : XP} (hr : OpP w f r) (σ : L2.St) (H : Hp) (Q : VK) : tX w (xOp f ma mb) σ H Q → tOp r (tX w ma) (tX w mb) σ H Q := by
  rintro ⟨ι, env, st, R, he, hs, hm, q⟩
  refine ⟨ι, env, st, _, he, hs, hm, fun x st1 ι1 vx H1 hb g1 r1 s1 => ⟨ι1, env, st1, _, he.gr g1, s1, hb, fun y st2 ι2 vy H2 hd g2 r2 s2 => ?_⟩⟩
  obtain ⟨d, hf, hR⟩ := hd
  exact hr ι2 st2 H2 vx vy x y d Q s2 (r1.gr g2) r2 hf fun v H3 k3 r3 s3 => q d st2 ι2 v H3 hR ((g1.trans g2).trans (.of k3)) r3 s3
section
variable {ma mb : XP}
theorem dx_ix (ha : PE X a (tX w ma)) (hb : PE X b (tX w mb)) (hs : PlainIx b := by intro _ _; rfl) : PE X (.Subscript a b pos) (tX w (xOp fIx ma mb)) := PE.mo (pe_ix ix_seq ha hb hs) (xop_read qIx)
end
/-! ### arguments, displays -/
def xNil : XA := fun env st R => R [] st
def xCons (m : XP) (r : XA) : XA := fun env st R => m env st fun d st1 => r env st1 fun ds st2 => R (d :: ds) st2
theorem dxa_nil : PA X [] (tXA w xNil) := PA.mo pa_nil fun σ H Q ⟨ι, env, st, R, he, hs, hm, q⟩ => q [] st ι [] H hm (Gr.refl H) .nil hs
theorem dxa_cons {m : XP} {r : XA} (ha : PE X e (tX w m)) (hr : PA X es (tXA w r)) (hs : starEach (e :: es) X.env = (false, eval e X.env) :: starEach es X.env := by rfl) : PA X (e :: es) (tXA w (xCons m r)) :=
  PA.mo (pa_cons ha hr hs) fun σ H Q ⟨ι, env, st, R, he, hst, hm, q⟩ => ⟨ι, env, st, _, he, hst, hm, fun d st1 ι1 v H1 h1 g1 r1 s1 => ⟨ι1, env, st1, _, he.gr g1, s1, h1, fun ds st2 ι2 vs H2 h2 g2 r2 s2 => q (d :: ds) st2 ι2 (v :: vs) H2 h2 (g1.trans g2) (.cons (r1.gr g2) r2) s2⟩⟩
def xTup (r : XA) : XP := fun env st R => r env st fun ds st1 => ds.length ≤ 1000 ∧ R (.tup ds) st1
def xLst (r : XA) : XA := fun env st R => r env st fun ds st1 => ds.length ≤ 1000 ∧ R ds st1
theorem Gr.fresh {ι ι' : List Addr} {H H' : Hp} (g : Gr ι H ι' H') {st : SS} {w : Ws} (s : SR w ι' st H') {p : Addr} (h : H' p = none) : H p = none := g.kp.fresh (fun z => nin_of s h (g.pre.subset z)) h
theorem dxl_lst {r : XA} (h : PA X es (tXA w r)) : PE X (.List es pos) (tXL w (xLst r)) := by
  refine PE.mo (pe_lst h) fun σ H Q ⟨ι, env, st, R, he, hst, hm, q⟩ => ⟨ι, env, st, _, he, hst, hm, fun ds st1 ι1 vs H1 h1 g1 r1 s1 => ⟨by rw [r1.length]; exact small_size h1.1, fun p hp => ?_⟩⟩
  exact q _ st1 ι1 p vs _ h1.2 (g1.trans (.of (Kp.new hp))) upd_same (g1.fresh s1 hp) (nin_of s1 hp) (small_size h1.1) (r1.kp (Kp.new hp)) (s1.new hp (fun _ z => by cases z) (nin_of s1 hp))
/-! ### tests, choices -/
def xV (m : XP) : XB := fun env st R => m env st fun d st1 => ∃ b, d = .bl b ∧ R b st1
def xAnd (a b : XB) : XB := fun env st R => a env st fun x st1 => if x = true then b env st1 R else R false st1
def xNot (a : XB) : XB := fun env st R => a env st fun x st1 => R (!x) st1
theorem dxb_val {m : XP} (h : PE X a (tX w m)) (he : ∀ whole, isTrue a X.env whole = (do let v ← whole; standAt a.pos; holding [v] (truthy v)) := by intro _; rfl) : PT X a (tXB w (xV m)) :=
  PT.mo (pt_val h he) fun σ H Q ⟨ι, env, st, R, hen, hs, hm, q⟩ => ⟨ι, env, st, _, hen, hs, hm, fun d st1 ι1 v H1 h1 g1 r1 s1 => by
    obtain ⟨b, rfl, hR⟩ := h1
    cases r1
    exact ⟨b, rfl, q b st1 ι1 H1 hR g1 s1⟩⟩
variable {ba bb : XB} {rest : List Expr}
theorem dxb_and1 (ha : PT X a (tXB w ba)) : PW X (.BoolOp .And [a] pos) (tXB w ba) := pw_and1 ha
theorem dxb_and (ha : PT X a (tXB w ba)) (hb : PW X (.BoolOp .And (b :: rest) pos) (tXB w bb)) : PW X (.BoolOp .And (a :: b :: rest) pos) (tXB w (xAnd ba bb)) :=
  PW.mo (pw_and ha hb) fun σ H Q ⟨ι, env, st, R, he, hs, hm, q⟩ => ⟨ι, env, st, _, he, hs, hm, fun x st1 ι1 H1 h1 g1 s1 => by
    cases x with
    | true => exact iteT ⟨ι1, env, st1, R, he.gr g1, s1, by simpa using h1, fun b st2 ι2 H2 h2 g2 s2 => q b st2 ι2 H2 h2 (g1.trans g2) s2⟩
    | false => exact iteF (q false st1 ι1 H1 (by simpa using h1) g1 s1)⟩
theorem dxb_not (ha : PT X a (tXB w ba)) : PT X (.UnaryOp .Not a pos) (tXB w (xNot ba)) :=
  PT.mo (pt_not ha) fun σ H Q ⟨ι, env, st, R, he, hs, hm, q⟩ => ⟨ι, env, st, _, he, hs, hm, fun x st1 ι1 H1 h1 g1 s1 => q _ st1 ι1 H1 h1 g1 s1⟩
/-! ### calls -/
abbrev XT := List D → SS → (D → SS → Prop) → Prop
/-- what a def over data promises -/
def spX (w : Ws) (T : XT) : Sp := fun vs H Q _ => ∃ ι st ds R, Reps ι H vs ds ∧ SR w ι st H ∧ T ds st R ∧ ∀ d st' ι' v H', R d st' → Gr ι H ι' H' → Rep ι' H' v d → SR w ι' st' H' → Q v H'
structure DefX (P : Program) (wl : World) (w : Ws) (mg : Str → Option Value) (k : Nat) (x : Str) (T : XT) : Prop where
  ex : ∃ (f : Addr) (fd : FuncData) (ps : List Str), FnOk P wl w.K mg w.base CX0 k f fd ps (spX w T) ∧ mg x = some (.ref f) ∧ PySem.W.keepIn w.K (.ref f) = true ∧ Binds w.K fd ps []
def xCall (T : XT) (r : XA) : XP := fun env st R => r env st fun ds st1 => T ds st1 R
theorem dx_call {k : Nat} {T : XT} {r : XA} (hf : Fit X w) (c : DefX X.prog X.w w.s X.mg k x T) (hr : Room k X.A) (hg : Gl X x) (ha : PA X (e :: es) (tXA w r))
    (hdb : (x == ("__debug__" : Str)) = false := by decide) (he : starEach (e :: es) X.env = (false, eval e X.env) :: starEach es X.env := by rfl) (hpl : (backTo pos (starEach es X.env)).any (·.1) = false := by rfl) :
    PE X (.Call (.Name x p) (e :: es) [] pos) (tX w (xCall T r)) := by
  obtain ⟨f, fd, ps, hF, hm, hk, hb⟩ := c.ex
  rw [← hf.k, ← hf.b] at hF
  rw [← hf.k] at hk hb
  refine PE.mo (pe_call (E := E0) hF hr hg hm hk hb .nil pass0 ha hdb he hpl) fun σ H Q ⟨ι, env, st, R, hen, hst, hmm, q⟩ => ?_
  refine ⟨ι, env, st, _, hen, hst, hmm, fun ds st1 ι1 vs H1 h1 g1 r1 s1 => ?_⟩
  show spX w.s T (vs ++ []) H1 Q E0
  rw [List.append_nil]
  exact ⟨ι1, st1, ds, R, r1, s1, h1, fun d st' ι' v H' h2 g2 r2 s2 => q d st' ι' v H' h2 (g1.trans g2) r2 s2⟩
/-- a def without effects -/
def xF (F : List D → SS → Option D) : XT := fun ds st R => ∃ d, F ds st = some d ∧ R d st
theorem DefP.x {P : Program} {wl : World} {w : Ws} {mg : Str → Option Value} {k : Nat} {x : Str} {F : List D → SS → Option D} (c : DefP P wl w mg k x F) : DefX P wl w mg k x (xF F) := by
  obtain ⟨f, fd, ps, hF, hm, hk, hb⟩ := c.ex
  exact ⟨f, fd, ps, hF.imp fun vs H Q E ⟨ι, st, ds, R, r, s, ⟨d, hd, hR⟩, q⟩ => ⟨ι, st, ds, d, r, s, hd, fun v H' k r' s' => q d st ι v H' hR (.of k) r' s'⟩, hm, hk, hb⟩
/-- from the body's reading to the pure promise: nothing of the store is written, no new place is handed out -/
theorem DefX.toP {P : Program} {wl : World} {w : Ws} {mg : Str → Option Value} {k : Nat} {x : Str} {T : XT} {F : List D → SS → Option D} (c : DefX P wl w mg k x T)
    (h : ∀ ds st d, F ds st = some d → D.loAll st.length ds = true → D.lo st.length d = true ∧ T ds st fun d' st' => d' = d ∧ st'.take st.length = st) : DefP P wl w mg k x F := by
  obtain ⟨f, fd, ps, hF, hm, hk, hb⟩ := c.ex
  refine ⟨f, fd, ps, hF.imp fun vs H Q E ⟨ι, st, ds, d, r, s, hd, q⟩ => ?_, hm, hk, hb⟩
  obtain ⟨hlo, hT⟩ := h ds st d hd (s.len ▸ r.low)
  refine ⟨ι, st, ds, _, r, s, hT, fun d' st' ι' v H' ⟨e1, e2⟩ g r' s' => ?_⟩
  subst e1
  refine q v H' g.kp (r'.cut g.pre (by rw [s.len]; exact hlo)) ⟨s.len, s.nd, fun n a cl h1 h2 => ?_, s'.tabs, s'.tab⟩
  have hn : n < st.length := (List.getElem?_eq_some_iff.mp h2).1
  have h2' : st'[n]? = some cl := by
    rw [← e2, List.getElem?_take, if_pos hn] at h2
    exact h2
  have q1 := s'.cell n a cl (pre_get g.pre h1) h2'
  have q0 := s.cell n a cl h1 h2
  cases cl with
  | lst ds =>
    obtain ⟨vs0, _, _, r0⟩ := q0
    obtain ⟨vs1, e1, l1, r1⟩ := q1
    exact ⟨vs1, e1, l1, r1.cut g.pre r0.low⟩
  | frz ds =>
    obtain ⟨_, vs0, _, _, r0⟩ := q0
    obtain ⟨o1, vs1, e1, l1, r1⟩ := q1
    exact ⟨o1, vs1, e1, l1, r1.cut g.pre r0.low⟩
  | dic ds =>
    obtain ⟨vs0, _, _, r0⟩ := q0
    obtain ⟨vs1, e1, l1, r1⟩ := q1
    exact ⟨vs1, e1, l1, r1.keys, r1.vals.cut g.pre r0.vals.low⟩
  | obj x ds =>
    obtain ⟨_, _, vs0, _, _, r0⟩ := q0
    obtain ⟨C1, dx1, vs1, e1, l1, r1⟩ := q1
    exact ⟨C1, dx1, vs1, e1, l1, r1.keys, r1.vals.cut g.pre r0.vals.low⟩
  | dicN ds =>
    obtain ⟨vs0, _, _, r0⟩ := q0
    obtain ⟨vs1, e1, l1, r1⟩ := q1
    exact ⟨vs1, e1, l1, r1.keys, r1.vals.cut g.pre r0.vals.low⟩
end
end GD

set_option Elab.async false
set_option linter.all false
set_option maxRecDepth 100000
set_option maxHeartbeats 2000000
namespace GD
open PySem PySem.Spec PyProof.Rows L2 GX

/-! ## 7. new lists, their uses; built-ins -/
section
variable {X : Cx} {w : Wd} {pos p : Pos} {e a b c : Expr} {es : List Expr} {tg iter : Expr}
/-- a new list is kept: it goes into the store -/
def xNew (t : XA) : XP := fun env st R => t env st fun ds st1 => R (.ref st1.length) (st1 ++ [.lst ds])
theorem dx_new {t : XA} (h : PE X e (tXL w t)) : PE X e (tX w (xNew t)) :=
  PE.mo h fun σ H Q ⟨ι, env, st, R, he, hs, hm, q⟩ => ⟨ι, env, st, _, he, hs, hm, fun ds st1 ι1 p vs H1 h1 g1 hp hn hi hl r1 s1 =>
    q (.ref st1.length) (st1 ++ [.lst ds]) (ι1 ++ [p]) (.ref p) H1 h1 ⟨g1.pre.trans (List.prefix_append _ _), g1.kp, fun c hc => by
      rcases List.mem_append.mp hc with hc | hc
      · exact g1.new c hc
      · rw [List.mem_singleton.mp hc]; exact .inr hn⟩ (.ref (by rw [← s1.len, List.getElem?_append_right (Nat.le_refl _), Nat.sub_self]; rfl)) (s1.add hp hi hl r1)⟩
/-- tuple(new list) -/
def xTupL (t : XA) : XP := fun env st R => t env st fun ds st1 => R (.tup ds) st1
theorem dx_tupL {t : XA} (hg : Gl X "tuple") (hm : X.mg "tuple" = none) (h : PE X e (tXL w t)) (hs : starEach [e] X.env = (false, eval e X.env) :: starEach [] X.env := by rfl) : PE X (.Call (.Name "tuple" p) [e] [] pos) (tX w (xTupL t)) :=
  PE.mo (pe_callTy call_tuple_of hg hm (by decide +kernel) (pa_cons h pa_nil hs) (he := hs)) fun σ H Q ⟨ι, env, st, R, he, hst, hmm, q⟩ => ⟨ι, env, st, _, he, hst, hmm, fun ds st1 ι1 p vs H1 h1 g1 hp hn hi hl r1 s1 =>
    ⟨p, vs, rfl, .inl ⟨sql_of hp, fun l hl' => q _ st1 ι1 _ _ h1 (g1.trans (.of (Kp.new hl'))) (.tup upd_same hl (r1.kp (Kp.new hl'))) (s1.new hl' (fun _ z => by cases z) (nin_of s1 hl'))⟩⟩⟩
/-- .. without effects -/
def mTupL (r : ML) : MP := fun env st => match r env st with | some ds => some (.tup ds) | none => none
theorem dp_tupL {r : ML} (hg : Gl X "tuple") (hm : X.mg "tuple" = none) (h : PE X e (tLs w r)) (hs : starEach [e] X.env = (false, eval e X.env) :: starEach [] X.env := by rfl) : PE X (.Call (.Name "tuple" p) [e] [] pos) (tP w (mTupL r)) :=
  PE.mo (pe_callTy call_tuple_of hg hm (by decide +kernel) (pa_cons h pa_nil hs) (he := hs)) fun σ H Q ⟨ι, env, st, d, he, hst, hmm, q⟩ => by
    unfold mTupL at hmm
    split at hmm
    · rename_i ds e1
      cases hmm
      exact ⟨ι, env, st, ds, he, hst, e1, fun p vs H1 k1 hp hn hl r1 s1 =>
        ⟨p, vs, rfl, .inl ⟨sql_of hp, fun l hl' => q _ _ (k1.trans (Kp.new hl')) (.tup upd_same hl (r1.kp (Kp.new hl'))) (s1.new hl' (fun _ z => by cases z) (nin_of s1 hl'))⟩⟩⟩
    · cases hmm
/-- len(new list) -/
def mLenL (r : ML) : MP := fun env st => match r env st with | some ds => some (.int ds.length) | none => none
theorem dp_lenL {r : ML} (hg : Gl X "len") (hm : X.mg "len" = none) (h : PE X e (tLs w r)) (hs : starEach [e] X.env = (false, eval e X.env) :: starEach [] X.env := by rfl) : PE X (.Call (.Name "len" p) [e] [] pos) (tP w (mLenL r)) :=
  PE.mo (pe_callB call_len_seq hg hm PySem.boot_len (pa_cons h pa_nil hs) (he := hs)) fun σ H Q ⟨ι, env, st, d, he, hst, hmm, q⟩ => by
    unfold mLenL at hmm
    split at hmm
    · rename_i ds e1
      cases hmm
      exact ⟨ι, env, st, ds, he, hst, e1, fun p vs H1 k1 hp hn hl r1 s1 =>
        ⟨p, vs, rfl, .inl (sql_of hp), by rw [r1.length]; exact q _ H1 k1 (.int _) s1⟩⟩
    · cases hmm
/-! ### built-ins of one argument -/
abbrev RC := List V → Hp → VK → Prop
def Op1P (w : Wd) (f : F1) (r : RC) : Prop := ∀ (ι : List Addr) (st : SS) (H : Hp) (x : V) (dx d : D) (Q : VK), SR w.s ι st H → Rep ι H x dx → f st dx = some d → (∀ v H', Kp ι H H' → Rep ι H' v d → SR w.s ι st H' → Q v H') → r [x] H Q
theorem op1_p {f : F1} {r : RC} {m : MP} (hr : Op1P w f r) (σ : L2.St) (H : Hp) (Q : VK) : tP w (mF1 f m) σ H Q → tP w m σ H fun x H1 => r [x] H1 Q := by
  rintro ⟨ι, env, st, d, he, hs, hm, q⟩
  unfold mF1 at hm
  split at hm
  · rename_i dx e1
    exact ⟨ι, env, st, dx, he, hs, e1, fun v H1 k1 r1 s1 => hr ι st H1 v dx d Q s1 r1 hm fun v2 H2 k2 r2 s2 => q v2 H2 (k1.trans k2) r2 s2⟩
  · cases hm
def fInt : F1 := fun _ d => match d with | .int i => some (.int i) | .bl b => some (.int (if b then 1 else 0)) | _ => none
theorem qInt : Op1P w fInt (fun xs H Q => (∃ i, xs = [.int i] ∧ Q (.int i) H) ∨ ∃ k, xs = [.bl k] ∧ Q (.int (if k then 1 else 0)) H) := by
  intro ι st H x dx d Q s rx hf q
  unfold fInt at hf
  split at hf
  · cases hf; cases rx
    exact .inl ⟨_, rfl, q _ H (Kp.refl H) (.int _) s⟩
  · cases hf; cases rx
    exact .inr ⟨_, rfl, q _ H (Kp.refl H) (.int _) s⟩
  · cases hf
theorem dp_intc {m : MP} (hg : Gl X "int") (hm : X.mg "int" = none) (ha : PE X a (tP w m)) (hs : starEach [a] X.env = (false, eval a X.env) :: starEach [] X.env := by rfl) : PE X (.Call (.Name "int" p) [a] [] pos) (tP w (mF1 fInt m)) :=
  PE.mo (pe_callTy call_int1 hg hm (by decide +kernel) (pa_cons ha pa_nil hs) (he := hs)) fun σ H Q h => op1_p qInt σ H Q h
/-- isinstance(x, T), T a built-in type -/
def D.kind (st : SS) : D → Option String
  | .non => some "NoneType"
  | .bl _ => some "bool"
  | .int _ => some "int"
  | .str _ => some "str"
  | .tup _ => some "tuple"
  | .ref n => match st[n]? with
    | some (.lst _) => some "list"
    | some (.frz _) => some "list"
    | _ => none
def fIs (T : String) : F1 := fun st d => match d.kind st with
  | some s => (match kitB s T with | some b => some (.bl b) | none => none)
  | none => none
theorem qIs {K : PySem.W.Frag} {T : String} : ∀ (ι : List Addr) (st : SS) (H : Hp) (x : V) (dx d : D) (Q : VK), SR w.s ι st H → Rep ι H x dx → fIs T st dx = some d → (∀ v H', Kp ι H H' → Rep ι H' v d → SR w.s ι st H' → Q v H') → rIsi K [x, .ty T] H Q := by
  intro ι st H x dx d Q s rx hf q
  unfold fIs at hf
  split at hf
  · rename_i S e1
    split at hf
    · rename_i b e2
      cases hf
      have fin : TyX K H x (.type S) := by
        cases rx with
        | non => cases e1; exact .base .non
        | bl b => cases e1; exact .base (.bl b)
        | int b => cases e1; exact .base (.int b)
        | str b => cases e1; exact .base (.str b)
        | tup h l r => cases e1; exact .base (.tup h)
        | ref hn =>
          simp only [D.kind] at e1
          split at e1
          · rename_i hc
            cases e1
            obtain ⟨vs, h1, _⟩ := s.cell _ _ _ hn hc
            exact .base (.lst h1)
          · rename_i hc
            cases e1
            obtain ⟨o, vs, h1, _⟩ := s.cell _ _ _ hn hc
            exact .base (.frz h1)
          · cases e1
      exact ⟨x, .ty T, .type S, .type T, b, rfl, .ty T, fin, kit_ty e2, q _ H (Kp.refl H) (.bl b) s⟩
    · cases hf
  · cases hf
theorem pe_ty {T : String} {nm : Str} (hg : Gl X nm) (hm : X.mg nm = none) (hv : bootBuiltins nm = some (.type T)) (hn : nm ≠ "__name__" := by decide) (hdb : (nm == ("__debug__" : Str)) = false := by decide) : PE X (.Name nm p) (fun _ H Q => Q (.ty T) H) :=
  ⟨fun pins s σ H Q I h => ld_blt I hg hm hv ⟨.ty T, H, I, rfl, h⟩ hn hdb⟩
end
/-! ### list comprehensions with effects -/
def xGo (t : MT) (b : XB) (m : XP) (env : EV) (st0 : SS) (ro : Option Nat) : List D → SS → (List D → SS → Prop) → Prop
  | [], st, R => Hold st0 ro st ∧ R [] st
  | d :: ds, st, R => Hold st0 ro st ∧ ∃ env1, t d env = some env1 ∧ b env1 st fun x st1 => if x = true then m env1 st1 fun y st2 => xGo t b m env st0 ro ds st2 fun ys st3 => R (y :: ys) st3 else xGo t b m env st0 ro ds st1 R
def xComp (mi : XI) (t : MT) (b : XB) (m : XP) (own : List Nat) : XA := fun env st R => mi env st fun ds ro st1 => xGo t b m (ewipe env own) st1 ro ds st1 R
section
variable {X : Cx} {w : Wd} {pos p : Pos} {tg iter elt c : Expr} {ifs : List Expr}
theorem dxts_nil : PTs X [] (tXB w (xbOf bYes)) := PTs.mo pts_nil fun σ H Q ⟨ι, env, st, R, he, hs, ⟨d, hm, hR⟩, q⟩ => by cases hm; exact q true st ι H hR (.refl H) hs
theorem dxts_one {b : XB} (h : PT X c (tXB w b)) : PTs X [c] (tXB w b) := pts_one h
theorem lcx_read {mi : XI} {t : MT} {b : XB} {m : XP} {own : List Nat} {g : TG} (hfx : ∀ v ∈ own, ∀ p ∈ w.fx, p.1 ≠ v) (hg : GT w own g t) (σ : L2.St) (H : Hp) (Q : VK) :
    tXL w (xComp mi t b m own) σ H Q → tLc (tXI w mi) g (tXB w b) (tX w m) own σ H Q := by
  rintro ⟨ι, env, st, R, he, hs, hm, q⟩
  refine ⟨ι, env, st, _, he, hs, hm, fun ds ro st1 ι1 J H1 hgo1 g1 s1 hJ D hD => ?_⟩
  have hDi : D ∉ ι1 := nin_of s1 hD
  have he1 := he.gr g1
  refine ⟨fun i mm H' => mm = ds.length - i ∧ i ≤ ds.length ∧ ∃ ι2 st2, Gr ι1 H1 ι2 H' ∧ D ∉ ι2 ∧ SR w.s ι2 st2 H' ∧ ∃ acc es1, H' D = some (.lst acc) ∧ acc.length ≤ i ∧ Reps ι2 H' acc es1 ∧ xGo t b m (ewipe env own) st1 ro (ds.drop i) st2 (fun es2 st3 => R (es1 ++ es2) st3),
    ⟨ds.length, rfl, Nat.zero_le _, ι1, st1, .of (Kp.new hD), hDi, s1.new hD (fun _ z => by cases z) hDi, [], [], upd_same, Nat.zero_le _, .nil, hgo1⟩, ?_⟩
  rintro i mm H' ⟨rfl, hi, ι2, st2, g2, hD2, s2, acc, es1, hacc, hal, hr, hgo⟩
  have hH : Hold st1 ro st2 := by
    cases hh : ds.drop i with
    | nil => rw [hh] at hgo; exact hgo.1
    | cons d ds => rw [hh] at hgo; exact hgo.1
  obtain ⟨j1, j2, j3⟩ := hJ.run ι2 st2 H' g2.kp g2.pre hH s2
  have keepD : ∀ {ιa ιb : List Addr} {Ha Hb : Hp}, Gr ιa Ha ιb Hb → D ∉ ιa → (∃ u, Ha D = some (.lst u)) → D ∉ ιb ∧ Hb D = Ha D := fun {ιa ιb Ha Hb} ga hn ⟨u, hu⟩ => ⟨fun hb => (ga.new D hb).elim hn fun z => (by rw [hu] at z; cases z), by rw [hu]; exact ga.kp.keep _ _ hu (fun _ z => by cases z) fun z => absurd z hn⟩
  by_cases hlt : i < ds.length
  · refine .inr ⟨j1 i hlt, fun H'' => i + 1 ≤ ds.length ∧ ∃ ι2 st2, Gr ι1 H1 ι2 H'' ∧ D ∉ ι2 ∧ SR w.s ι2 st2 H'' ∧ ∃ acc es1, H'' D = some (.lst acc) ∧ acc.length ≤ i + 1 ∧ Reps ι2 H'' acc es1 ∧ xGo t b m (ewipe env own) st1 ro (ds.drop (i + 1)) st2 (fun es2 st3 => R (es1 ++ es2) st3), fun H'' hn => ⟨_, by omega, rfl, hn⟩, fun x H2 hy => ?_⟩
    obtain ⟨d, hd, rd, kk, s3⟩ := j2 i x H2 hlt hy
    obtain ⟨d', hd', hdr⟩ := drop_cons' hlt
    rw [hd] at hd'
    cases hd'
    rw [hdr] at hgo
    obtain ⟨_, env1, ht, hb⟩ := hgo
    have k3 : Kp ι2 H' H2 := .of kk
    have g3 : Gr ι2 H' ι2 H2 := .of k3
    refine hg ι2 st2 H2 _ _ x d env1 _ ((he1.gr (g2.trans g3)).wipe own hfx) s3 rd ht fun σ2 he2 hw2 => ⟨hw2.trans (wipe_idem fun _ h => h), ?_⟩
    have hD3 : H2 D = some (.lst acc) := kk _ _ hacc
    refine ⟨ι2, env1, st2, _, he2, s3, hb, fun bv st4 ι4 H4 h4 g4 s4 => ?_⟩
    obtain ⟨hD4, hD4'⟩ := keepD g4 hD2 ⟨_, hD3⟩
    rw [hD3] at hD4'
    cases bv with
    | false =>
      exact iteF ⟨hlt, ι4, st4, (g2.trans g3).trans g4, hD4, s4, acc, es1, hD4', Nat.le_succ_of_le hal, (hr.gr g3).gr g4, by simpa using h4⟩
    | true =>
      refine iteT ⟨ι4, env1, st4, _, he2.gr g4, s4, by simpa using h4, fun y st5 ι5 v H5 h5 g5 r5 s5 => ?_⟩
      obtain ⟨hD5, hD5'⟩ := keepD g5 hD4 ⟨_, hD4'⟩
      rw [hD4'] at hD5'
      have gg := ((g2.trans g3).trans g4).trans g5
      refine ⟨acc, hD5', Nat.lt_of_le_of_lt hal (Nat.lt_of_lt_of_le hlt hJ.len), hlt, ι5, st5, ⟨gg.pre, gg.kp.put hD, gg.new⟩, hD5, s5.put hD5' hD5, acc ++ [v], es1 ++ [y], upd_same, by rw [List.length_append]; simpa using hal, ?_, ?_⟩
      · exact ((((hr.gr g3).gr g4).gr g5).append (.one r5)).put hD5'
      · simpa using h5
  · have e : i = ds.length := by omega
    subst e
    rw [List.drop_length] at hgo
    obtain ⟨_, hR⟩ := hgo
    rw [List.append_nil] at hR
    refine .inl ⟨j3 _ (Nat.le_refl _), q es1 st2 ι2 D acc H' hR (g1.trans g2) hacc (g1.fresh s1 hD) hD2 (by rw [← hr.length]; exact Nat.le_trans hal hJ.len) hr s2⟩
theorem dxl_lc {scope : Scope} {own : List (Str × Nat)} {mi : XI} {t : MT} {b : XB} {m : XP} {g : TG} (hc : X.calm = true) (hN : X.N.Nodup) (hi : PI X tg iter (tXI w mi)) (ok : BlkOk X.N X.env.scope scope own) (ht : GT w (own.map (·.2)) g t)
    (hg : ∀ (s : Shared) (H : Hp) (C : Addr) (cl : List (Str × Addr)) (fp : List Addr), PG (X.blk s H scope (compEnvC scope cl C X.env) fp) tg g) (hb : ∀ (s : Shared) (H : Hp) (C : Addr) (cl : List (Str × Addr)) (fp : List Addr), PTs (X.blk s H scope (compEnvC scope cl C X.env) fp) ifs (tXB w b))
    (he : ∀ (s : Shared) (H : Hp) (C : Addr) (cl : List (Str × Addr)) (fp : List Addr), PE (X.blk s H scope (compEnvC scope cl C X.env) fp) elt (tX w m)) (hs : ∀ x, foldedSetIterable iter X.env x = pure x := by intro _; rfl) (hfx : ∀ v ∈ own.map (·.2), ∀ p ∈ w.fx, p.1 ≠ v := by intro _ _ _ h; cases h) :
    PE X (.ListComp elt [⟨tg, iter, ifs, 0⟩] scope pos) (tXL w (xComp mi t b m (own.map (·.2)))) :=
  PE.mo (pe_lc hc hN hi ok hg hb he hs) (lcx_read hfx ht)
/-! ### what is walked -/
def xRng (m : XP) : XI := fun env st R => m env st fun d st1 => ∃ n : Int, d = .int n ∧ n ≤ 1000000 ∧ -1000000 ≤ n ∧ R (intsD 0 n.toNat) none st1
theorem dxi_rng {e : Expr} {m : XP} (hg : Gl X "range") (hm : X.mg "range" = none) (ha : PE X e (tX w m)) (hs : starEach [e] X.env = [(false, eval e X.env)] := by rfl) : PI X tg (.Call (.Name "range" p) [e] [] pos) (tXI w (xRng m)) := by
  refine PI.mo (pi_range1 hg hm (pa_cons ha pa_nil (by rw [hs]; rfl)) hs) fun σ H R ⟨ι, env, st, R', he, hst, hmm, q⟩ => ⟨ι, env, st, _, he, hst, hmm, fun d st1 ι1 v H1 h1 g1 r1 s1 => ?_⟩
  obtain ⟨n, rfl, h2, h3, h4⟩ := h1
  cases r1
  exact ⟨n, rfl, by omega, by omega, q _ _ st1 ι1 _ H1 h4 g1 s1 (itd_rng (big_size (by omega)))⟩
/-! ### sorted(set(ints)) -/
theorem cr_setI (hc : X.calm = true) : CallR X (.type "set") (fun xs H Q => ∃ (p : Addr) (ns : List Int), xs = [.ref p] ∧ SqT X.K H p (ns.map V.int) ∧ ns.length ≤ 60 ∧ ∀ q c, H q = none → c ≤ ns.length → Q (.ref q) (upd H q (SetO X.w q (fun j => decide (j ∈ ns)) c))) := by
  intro pins s σ H xs us Q I r h
  obtain ⟨p0, ns, rfl, hq, hl, q⟩ := h
  cases r with
  | cons r rr =>
    cases rr
    cases r
    obtain ⟨its, rv, pt, hz⟩ := I.tuple hq
    have hi : IntsAre its.toArray.toList ns := ints_of_vals rv
    have hd := I.ok.hd hc
    refine call_set_tupI ns hd (show s.heap.IsTuple p0 its.toArray from pt) hi (by unfold scanBound; omega) fun h' tk c R1 hcn k => ?_
    exact ⟨.ref s.heap.objs.size, upd H s.heap.objs.size (SetO X.w s.heap.objs.size (fun j => decide (j ∈ ns)) c), I.laid (t' := tk) k (Nat.le_refl _) (setO_new R1), rfl, q _ c (I.hok.fresh (Nat.le_refl _)) hcn⟩
def xSortSet (m : XP) : XA := fun env st R => m env st fun d st1 => ∃ ns : List Int, d = .tup (ns.map D.int) ∧ ns.length ≤ 60 ∧ ∀ ms : List Int, ms.Pairwise (· < ·) → (∀ k, k ∈ ms ↔ k ∈ ns) → R (ms.map D.int) st1
theorem pairlt_len : ∀ {ms ns : List Int}, ms.Pairwise (· < ·) → (∀ k, k ∈ ms → k ∈ ns) → ms.length ≤ ns.length
  | [], _, _, _ => Nat.zero_le _
  | m :: ms, ns, h1, h2 => by
    have hm : m ∈ ns := h2 m List.mem_cons_self
    have h3 := List.pairwise_cons.mp h1
    have q := pairlt_len (ms := ms) (ns := ns.erase m) h3.2 fun k hk => (List.mem_erase_of_ne (Ne.symm (Int.ne_of_lt (h3.1 k hk)))).mpr (h2 k (List.mem_cons_of_mem _ hk))
    have e := List.length_erase_of_mem hm
    have p := List.length_pos_of_mem hm
    rw [List.length_cons]
    omega
theorem dxl_sortSet {e : Expr} {m : XP} {p1 p2 : Pos} (hc : X.calm = true) (hg : Gl X "sorted") (hm : X.mg "sorted" = none) (hg2 : Gl X "set") (hm2 : X.mg "set" = none) (ha : PE X e (tX w m)) (hs : starEach [e] X.env = (false, eval e X.env) :: starEach [] X.env := by rfl)
    (hs2 : starEach [.Call (.Name "set" p1) [e] [] p2] X.env = (false, eval (.Call (.Name "set" p1) [e] [] p2) X.env) :: starEach [] X.env := by rfl) :
    PE X (.Call (.Name "sorted" p) [.Call (.Name "set" p1) [e] [] p2] [] pos) (tXL w (xSortSet m)) := by
  refine PE.mo (pe_callB (cr_sortedSet hc) hg hm (by decide +kernel) (pa_cons (pe_callTy (cr_setI hc) hg2 hm2 (by decide +kernel) (pa_cons ha pa_nil hs) (he := hs)) pa_nil hs2) (he := hs2)) fun σ H Q ⟨ι, env, st, R, he, hst, hmm, q⟩ => ?_
  refine ⟨ι, env, st, _, he, hst, hmm, fun d st1 ι1 v H1 h1 g1 r1 s1 => ?_⟩
  obtain ⟨ns, rfl, hl, hR⟩ := h1
  cases r1 with
  | tup h2 l2 r2 =>
    rw [r2.ints] at h2
    refine ⟨_, ns, rfl, sqt_of h2, hl, fun qa c hq hcl => ⟨qa, _, c, rfl, upd_same, by omega, fun ms pp hp1 hp2 hp3 hp4 => ?_⟩⟩
    have hk : Kp ι1 H1 (upd H1 qa (SetO X.w qa (fun j => decide (j ∈ ns)) c)) := Kp.new hq
    have s2 : SR w.s ι1 st1 (upd H1 qa (SetO X.w qa (fun j => decide (j ∈ ns)) c)) := s1.new hq (fun _ z => by unfold SetO at z; cases z) (nin_of s1 hq)
    have gg : Gr ι H ι1 (upd (upd H1 qa (SetO X.w qa (fun j => decide (j ∈ ns)) c)) pp (.lst (ms.map V.int))) := g1.trans (.of (hk.trans (Kp.new hp4)))
    refine q (ms.map D.int) st1 ι1 pp (ms.map V.int) _ (hR ms hp1 fun k => by rw [hp2 k, decide_eq_true_eq]) gg upd_same ((g1.trans (.of hk)).fresh s2 hp4) (nin_of s2 hp4) ?_ Reps.of_ints (s2.new hp4 (fun _ z => by cases z) (nin_of s2 hp4))
    rw [List.length_map]
    have := pairlt_len hp1 (ns := ns) fun k hk => by simpa using (hp2 k).mp hk
    exact small_size (by omega)
end
end GD

set_option Elab.async false
set_option linter.all false
set_option maxRecDepth 100000
set_option maxHeartbeats 2000000
namespace GD
open PySem PySem.Spec PyProof.Rows L2 GX

/-! ## 8. statements over data -/
structure DE where
  nx : EV → SS → Prop
  rt : D → SS → Prop
  bk : EV → SS → Prop := fun _ _ => False
  ct : EV → SS → Prop := fun _ _ => False
abbrev XS := DE → EV → SS → Prop
structure EndOk (w : Wd) (ι : List Addr) (H : Hp) (D0 : DE) (E : Ends) : Prop where
  nx : ∀ env st ι' σ H', D0.nx env st → Gr ι H ι' H' → EnvR w ι' env σ H' → SR w.s ι' st H' → E.nx σ H'
  rt : ∀ d st ι' v H', D0.rt d st → Gr ι H ι' H' → Rep ι' H' v d → SR w.s ι' st H' → E.rt v H'
  bk : ∀ env st ι' σ H', D0.bk env st → Gr ι H ι' H' → EnvR w ι' env σ H' → SR w.s ι' st H' → E.bk σ H'
  ct : ∀ env st ι' σ H', D0.ct env st → Gr ι H ι' H' → EnvR w ι' env σ H' → SR w.s ι' st H' → E.ct σ H'
theorem EndOk.gr {w : Wd} {ι ι1 : List Addr} {H H1 : Hp} {D0 : DE} {E : Ends} (e : EndOk w ι H D0 E) (g : Gr ι H ι1 H1) : EndOk w ι1 H1 D0 E :=
  ⟨fun env st ι' σ H' h k r s => e.nx env st ι' σ H' h (g.trans k) r s, fun d st ι' v H' h k r s => e.rt d st ι' v H' h (g.trans k) r s, fun env st ι' σ H' h k r s => e.bk env st ι' σ H' h (g.trans k) r s, fun env st ι' σ H' h k r s => e.ct env st ι' σ H' h (g.trans k) r s⟩
def tS (w : Wd) (t : XS) : TS := fun E σ H => ∃ ι env st D0, EnvR w ι env σ H ∧ SR w.s ι st H ∧ t D0 env st ∧ EndOk w ι H D0 E
theorem PS.mo {X : Cx} {st : Stmt} {t t' : TS} (h : PS X st t) (q : ∀ E σ H, t' E σ H → t E σ H) : PS X st t' := ⟨fun pins s σ H E I h' => h.run pins s σ H E I (q E σ H h')⟩
theorem PSs.mo {X : Cx} {st : List Stmt} {t t' : TS} (h : PSs X st t) (q : ∀ E σ H, t' E σ H → t E σ H) : PSs X st t' := ⟨fun pins s σ H E I h' => h.run pins s σ H E I (q E σ H h')⟩
def sNext : XS := fun D0 env st => D0.nx env st
def sSeq (t u : XS) : XS := fun D0 env st => t { D0 with nx := fun env st => u D0 env st } env st
def sRet (m : XP) : XS := fun D0 env st => m env st D0.rt
def sIf (c : XB) (t u : XS) : XS := fun D0 env st => c env st fun b st1 => if b = true then t D0 env st1 else u D0 env st1
def sAsg (m : XP) (tg : MT) : XS := fun D0 env st => m env st fun d st1 => ∃ env1, tg d env = some env1 ∧ D0.nx env1 st1
section
variable {X : Cx} {w : Wd} {pos p : Pos} {e a b c o : Expr} {es : List Expr} {tg iter : Expr} {st : Stmt} {rest : List Stmt} {t u : XS}
theorem ds_nil : PSs X [] (tS w sNext) := PSs.mo pss_nil fun E σ H ⟨ι, env, st, D0, he, hs, ht, hE⟩ => hE.nx env st ι σ H ht (.refl H) he hs
theorem ds_cons (h1 : PS X st (tS w t)) (h2 : PSs X rest (tS w u)) : PSs X (st :: rest) (tS w (sSeq t u)) :=
  PSs.mo (pss_cons h1 h2) fun E σ H ⟨ι, env, st, D0, he, hs, ht, hE⟩ => ⟨ι, env, st, _, he, hs, ht, fun env1 st1 ι1 σ1 H1 h g r s => ⟨ι1, env1, st1, D0, r, s, h, hE.gr g⟩, hE.rt, hE.bk, hE.ct⟩
theorem ds_one (h1 : PS X st (tS w t)) : PSs X [st] (tS w t) := pss_one h1
theorem ds_ret {m : XP} (he : PE X e (tX w m)) : PS X (.Return (some e) pos) (tS w (sRet m)) := PS.mo (ps_ret he) fun E σ H ⟨ι, env, st, D0, he, hs, ht, hE⟩ => ⟨ι, env, st, D0.rt, he, hs, ht, hE.rt⟩
theorem ds_if {m : XB} {sa sb : List Stmt} (hc : PT X c (tXB w m)) (ha : PSs X sa (tS w t)) (hb : PSs X sb (tS w u)) : PS X (.If c sa sb pos) (tS w (sIf m t u)) :=
  PS.mo (ps_if hc ha hb) fun E σ H ⟨ι, env, st, D0, he, hs, ht, hE⟩ => ⟨ι, env, st, _, he, hs, ht, fun b st1 ι1 H1 h g s => by
    cases b with
    | true => exact iteT ⟨ι1, env, st1, D0, he.gr g, s, by simpa using h, hE.gr g⟩
    | false => exact iteF ⟨ι1, env, st1, D0, he.gr g, s, by simpa using h, hE.gr g⟩⟩
theorem ds_asg {m : XP} {tgt : MT} {g : TG} {own : List Nat} (ht : GT w own g tgt) (he : PE X e (tX w m)) (hg : PG X tg g) (hs : swapsWithSole [tg] e pos.line X.env = pure false := by rfl) (hw : swappedStores [tg] e X.env = pure none := by rfl)
    (h1 : (assignEach [tg] X.env).map (·.2) = [assign tg X.env] := by rfl) : PS X (.Assign [tg] e pos) (tS w (sAsg m tgt)) :=
  PS.mo (ps_asg he hg hs hw h1) fun E σ H ⟨ι, env, st, D0, he, hs, hm, hE⟩ => ⟨ι, env, st, _, he, hs, hm, fun d st1 ι1 v H1 ⟨env1, h1, h2⟩ g1 r1 s1 =>
    ht ι1 st1 H1 σ env v d env1 _ (he.gr g1) s1 r1 h1 fun σ' he' _ => hE.nx env1 st1 ι1 σ' H1 h2 g1 he' s1⟩
theorem ds_set {m : XP} {i : Nat} {x : Str} {pos' : Pos} (hN : X.N.Nodup) (hi : X.N[i]? = some x) (hx : Loc X.env.scope x) (he : PE X e (tX w m)) (hs : swapsWith e (some (.Name x pos')) pos.line X.env = pure false := by rfl) (hf : X.fn x = true ∨ X.env.scope.names.lookup x = some .local := by first | exact .inl rfl | exact .inr rfl | assumption) (hfx : ∀ p ∈ w.fx, p.1 ≠ i := by intro _ h; cases h) :
    PS X (.Assign [.Name x pos'] e pos) (tS w (sAsg m (tgN i))) :=
  PS.mo (ps_set hN hi hx he hs hf) fun E σ H ⟨ι, env, st, D0, he, hs, hm, hE⟩ => ⟨ι, env, st, _, he, hs, hm, fun d st1 ι1 v H1 ⟨env1, h1, h2⟩ g1 r1 s1 => by
    cases h1
    exact hE.nx _ st1 ι1 _ H1 h2 g1 ((he.gr g1).set i r1 hfx) s1⟩
/-- o[i] = e -/
def sSub (mv : XP) (mo mi : MP) : XS := fun D0 env st => mv env st fun d st1 => ∃ n i ds j, mo env st1 = some (.ref n) ∧ mi env st1 = some (.int i) ∧ st1[n]? = some (.lst ds) ∧ ixN ds.length i = some j ∧ D0.nx env (st1.set n (.lst (ds.set j d)))
theorem ds_sub {i : Expr} {mv : XP} {mo mi : MP} {tpos : Pos} (he : PE X e (tX w mv)) (ho : PE X o (tP w mo)) (hi : PE X i (tP w mi)) (hs : swapsWithSole [.Subscript o i tpos] e pos.line X.env = pure false := by rfl) (hw : swappedStores [.Subscript o i tpos] e X.env = pure none := by rfl)
    (h1 : (assignEach [.Subscript o i tpos] X.env).map (·.2) = [assign (.Subscript o i tpos) X.env] := by rfl)
    (ha : ∀ v, assign (.Subscript o i tpos) X.env v = (do
      let ov ← holding [v] (eval o X.env)
      let iv ← holding [v, ov] (eval i X.env)
      standAt tpos
      holding [v, ov, iv] (setItem ov iv v)
      release [v, ov, iv] []) := by intro _; rfl) : PS X (.Assign [.Subscript o i tpos] e pos) (tS w (sSub mv mo mi)) := by
  refine PS.mo (ps_asg he (pg_sub ho hi set_list ha) hs hw h1) fun E σ H ⟨ι, env, st, D0, he, hs, hm, hE⟩ => ⟨ι, env, st, _, he, hs, hm, fun d st1 ι1 v H1 h g1 r1 s1 => ?_⟩
  obtain ⟨n, i, ds, j, e1, e2, e3, e4, hn⟩ := h
  refine ⟨ι1, env, st1, _, he.gr g1, s1, e1, fun vo H2 k2 r2 s2 => ⟨ι1, env, st1, _, (he.gr g1).kp k2, s2, e2, fun vi H3 k3 r3 s3 => ?_⟩⟩
  cases r2 with
  | ref hn2 =>
    cases r3
    obtain ⟨vs, hv, hl, rs⟩ := s3.cell n _ _ hn2 e3
    have hmem := List.mem_of_getElem? hn2
    have kw := Kp.wr (o := .lst (vs.set j v)) hv hmem
    refine ⟨_, vs, i, j, rfl, rfl, hv, by rw [rs.length]; exact e4, ?_⟩
    have gg : Gr ι1 H1 ι1 (upd H3 _ (.lst (vs.set j v))) := .of ((k2.trans k3).trans kw)
    exact hE.nx env _ ι1 σ _ hn (g1.trans gg) ((he.gr g1).gr gg) (s3.wr hn2 ⟨vs, hv⟩ (by rw [List.length_set]; exact hl) (Reps.set (((r1.kp k2).kp k3)) j rs))
def sAppP (mo : MP) (mv : XP) : XS := fun D0 env st => ∃ n ds0, mo env st = some (.ref n) ∧ st[n]? = some (.lst ds0) ∧ mv env st fun d st1 => ∃ ds, st1[n]? = some (.lst ds) ∧ ds.length < 1000000 ∧ D0.nx env (st1.set n (.lst (ds ++ [d])))
theorem ds_app {mo : MP} {mv : XP} {apos cpos : Pos} (ho : PE X o (tP w mo)) (he : PE X e (tX w mv))
    (hbase : attributeBase o "append" X.env (eval o X.env) = eval o X.env := by rfl)
    (hfew : ((backTo cpos (starEach (e :: []) X.env)).all (fun x => !x.1) && (backToKw cpos (keywordEach [] X.env)).all (fun x => x.1.isSome)
      && decide ((e :: ([] : List Expr)).length + ([] : List Keyword).length + (if ([] : List Keyword).isEmpty then 0 else 1) < 30)) = true := by rfl)
    (hline : (apos.endLine == cpos.line) = true := by rfl) (hs : starEach (e :: []) X.env = (false, eval e X.env) :: starEach [] X.env := by rfl) (hplain : (backTo cpos (starEach [] X.env)).any (·.1) = false := by rfl)
    (hsw : swapsWith (.Call (.Attribute o "append" apos) [e] [] cpos) none pos.line X.env = pure false := by rfl) : PS X (.Expr (.Call (.Attribute o "append" apos) [e] [] cpos) pos) (tS w (sAppP mo mv)) := by
  refine PS.mo (ps_expr (pe_bm PySem.F.plainAttrs_list PySem.F.slot_list_append PySem.F.type_list_append mt_append ho (pa_cons he pa_nil hs) hbase hfew hline hs hplain) hsw) fun E σ H ⟨ι, env, st, D0, hen, hst, ⟨n, ds0, h1, h0, h2⟩, hE⟩ => ?_
  refine ⟨ι, env, st, _, hen, hst, h1, fun vo H1 k1 r1 s1 => ?_⟩
  cases r1 with
  | ref hn =>
    rename_i pa
    obtain ⟨vs0, hv0, _⟩ := s1.cell n pa _ hn h0
    refine ⟨.inl ⟨rfl, vs0, SqL.of hv0⟩, ?_⟩
    refine ⟨ι, env, st, _, hen.kp k1, s1, h2, fun d st1 ι1 v H2 ⟨ds, h3, h4, h5⟩ g2 r2 s2 => ?_⟩
    have hn2 := pre_get g2.pre hn
    obtain ⟨vs, hv, hl, rs⟩ := s2.cell n _ _ hn2 h3
    have kw := Kp.wr (o := .lst (vs ++ [v])) hv (List.mem_of_getElem? hn2)
    have hlen : ds.length < sizeLine := Nat.lt_of_lt_of_le h4 (by decide)
    refine ⟨_, vs, v, rfl, rfl, hv, by rw [rs.length]; exact hlen, ?_⟩
    have gg : Gr ι H ι1 (upd H2 _ (.lst (vs ++ [v]))) := ((Gr.of k1).trans g2).trans (.of kw)
    exact hE.nx env _ ι1 σ _ h5 gg (hen.gr gg) (s2.wr hn2 ⟨vs, hv⟩ (by rw [List.length_append]; exact hlen) (rs.append (.one r2)))
/-! ### loops -/
def sForGo (t : MT) (body : XS) (st0 : SS) (ro : Option Nat) (D0 : DE) : List D → EV → SS → Prop
  | [], env, st => Hold st0 ro st ∧ D0.nx env st
  | d :: ds, env, st => Hold st0 ro st ∧ ∃ env1, t d env = some env1 ∧ body { nx := fun env st => sForGo t body st0 ro D0 ds env st, ct := fun env st => sForGo t body st0 ro D0 ds env st, bk := D0.nx, rt := D0.rt } env1 st
def sFor (mi : XI) (t : MT) (body : XS) : XS := fun D0 env st => mi env st fun ds ro st1 => sForGo t body st1 ro D0 ds env st1
theorem ds_for {mi : XI} {tgt : MT} {g : TG} {own : List Nat} {body : List Stmt} (hp : PassesOwn (model X.prog X.w) X.A X.env X.xe) (hc : X.calm = true) (ht : GT w own g tgt) (hi : PI X tg iter (tXI w mi)) (hg : PG X tg g) (hb : PSs X body (tS w t))
    (hs : ∀ x, foldedSetIterable iter X.env x = pure x := by intro _; rfl) : PS X (.For tg iter body [] pos) (tS w (sFor mi tgt t)) := by
  refine PS.mo (ps_for hp hc hi hg hb hs) fun E σ H ⟨ι, env, st, D0, he, hs, hm, hE⟩ => ⟨ι, env, st, _, he, hs, hm, fun ds ro st1 ι1 J H1 hgo1 g1 s1 hJ => ?_⟩
  refine ⟨fun i m σ' H' => m = ds.length - i ∧ i ≤ ds.length ∧ ∃ ι2 env2 st2, Gr ι1 H1 ι2 H' ∧ EnvR w ι2 env2 σ' H' ∧ SR w.s ι2 st2 H' ∧ sForGo tgt t st1 ro D0 (ds.drop i) env2 st2, ⟨ds.length, rfl, Nat.zero_le _, ι1, env, st1, .refl _, he.gr g1, s1, hgo1⟩, ?_⟩
  rintro i m σ' H' ⟨rfl, hi, ι2, env2, st2, g2, he2, s2, hgo⟩
  have hH : Hold st1 ro st2 := by
    cases hh : ds.drop i with
    | nil => rw [hh] at hgo; exact hgo.1
    | cons d ds => rw [hh] at hgo; exact hgo.1
  obtain ⟨j1, j2, j3⟩ := hJ.run ι2 st2 H' g2.kp g2.pre hH s2
  by_cases hlt : i < ds.length
  · refine .inr ⟨j1 i hlt, fun σ'' H'' => i + 1 ≤ ds.length ∧ ∃ ι2 env2 st2, Gr ι1 H1 ι2 H'' ∧ EnvR w ι2 env2 σ'' H'' ∧ SR w.s ι2 st2 H'' ∧ sForGo tgt t st1 ro D0 (ds.drop (i + 1)) env2 st2, fun σ'' H'' hn => ⟨_, by omega, rfl, hn⟩, fun x H2 hy => ?_⟩
    obtain ⟨d, hd, rd, kk, s3⟩ := j2 i x H2 hlt hy
    obtain ⟨d', hd', hdr⟩ := drop_cons' hlt
    rw [hd] at hd'
    cases hd'
    rw [hdr] at hgo
    obtain ⟨_, env1, ht1, hb1⟩ := hgo
    have g3 : Gr ι2 H' ι2 H2 := .of (.of kk)
    refine ht ι2 st2 H2 σ' env2 x d env1 _ (he2.gr g3) s3 rd ht1 fun σ3 he3 _ => ⟨ι2, env1, st2, _, he3, s3, hb1, ?_⟩
    have g23 := g2.trans g3
    have hE3 := hE.gr (g1.trans g23)
    exact ⟨fun env4 st4 ι4 σ4 H4 h g r s => ⟨hlt, ι4, env4, st4, g23.trans g, r, s, h⟩, hE3.rt, hE3.nx, fun env4 st4 ι4 σ4 H4 h g r s => ⟨hlt, ι4, env4, st4, g23.trans g, r, s, h⟩⟩
  · have e : i = ds.length := by omega
    subst e
    rw [List.drop_length] at hgo
    exact .inl ⟨j3 _ (Nat.le_refl _), hE.nx env2 st2 ι2 σ' H' hgo.2 (g1.trans g2) he2 s2⟩
def sWhile (c : XB) (body : XS) : XS := fun D0 env st => ∃ W : Nat → EV → SS → Prop, (∃ m, W m env st) ∧ ∀ m env st, W m env st → c env st fun b st1 => if b = true then body { nx := fun env st => ∃ m', m' < m ∧ W m' env st, ct := fun env st => ∃ m', m' < m ∧ W m' env st, bk := D0.nx, rt := D0.rt } env st1 else D0.nx env st1
theorem ds_while {m : XB} {body : List Stmt} (hp : PassesOwn (model X.prog X.w) X.A X.env X.xe) (hc : PT X c (tXB w m)) (hb : PSs X body (tS w t)) : PS X (.While c body [] pos) (tS w (sWhile m t)) := by
  refine PS.mo (ps_while hp hc hb) fun E σ H ⟨ι, env, st, D0, he, hs, ⟨W, ⟨m0, w0⟩, turn⟩, hE⟩ => ?_
  refine ⟨fun k σ' H' => ∃ ι2 env2 st2, Gr ι H ι2 H' ∧ EnvR w ι2 env2 σ' H' ∧ SR w.s ι2 st2 H' ∧ W k env2 st2, ⟨m0, ι, env, st, .refl _, he, hs, w0⟩, ?_⟩
  rintro k σ' H' ⟨ι2, env2, st2, g2, he2, s2, hW⟩
  refine ⟨ι2, env2, st2, _, he2, s2, turn k env2 st2 hW, fun b st3 ι3 H3 h g3 s3 => ?_⟩
  have gg := g2.trans g3
  have hE3 := hE.gr gg
  cases b with
  | false => exact iteF (hE.nx env2 st3 ι3 σ' H3 (by simpa using h) gg (he2.gr g3) s3)
  | true =>
    refine iteT ⟨fun σ'' H'' => ∃ m', m' < k ∧ ∃ ι2 env2 st2, Gr ι H ι2 H'' ∧ EnvR w ι2 env2 σ'' H'' ∧ SR w.s ι2 st2 H'' ∧ W m' env2 st2, fun σ'' H'' ⟨m', hm', z⟩ => ⟨m', hm', z⟩, ι3, env2, st3, _, he2.gr g3, s3, by simpa using h, ?_⟩
    exact ⟨fun env4 st4 ι4 σ4 H4 ⟨m', hm', z⟩ g r s => ⟨m', hm', ι4, env4, st4, gg.trans g, r, s, z⟩, hE3.rt, hE3.nx, fun env4 st4 ι4 σ4 H4 ⟨m', hm', z⟩ g r s => ⟨m', hm', ι4, env4, st4, gg.trans g, r, s, z⟩⟩
end
/-! ### defs -/
def startE (N : List Str) (ds : List D) : EV := ds.map some ++ List.replicate (N.length - ds.length) none
theorem start_env {w : Wd} {ι : List Addr} {H : Hp} {vs : List V} {ds : List D} (r : Reps ι H vs ds) (N : List Str) (c : Cod w H) (h1 : ∀ p ∈ w.fx, (L2.start N vs)[p.1]? = some (some p.2) := by intro _ h; cases h) (h2 : ∀ p ∈ w.sq, Scr w.s.K H p.1 p.2 := by intro _ h; cases h) (h3 : ∀ p ∈ w.lm, LamR ι H p.1 p.2.1 p.2.2 := by intro _ h; cases h) : EnvR w ι (startE N ds) (L2.start N vs) H := by
  have hl := r.length
  refine ⟨by unfold startE L2.start; simp [hl], fun i d h => ?_, c, h1, h2, h3⟩
  unfold startE at h
  unfold L2.start
  by_cases hi : i < ds.length
  · rw [List.getElem?_append_left (by simpa using hi)] at h
    rw [List.getElem?_append_left (by simpa [hl] using hi)]
    rw [List.getElem?_map] at h
    cases hd : ds[i]? with
    | none => rw [hd] at h; cases h
    | some d' =>
      rw [hd] at h
      simp at h
      subst h
      obtain ⟨v, h1, h2⟩ := r.get' hd
      exact ⟨v, by rw [List.getElem?_map, h1]; rfl, h2⟩
  · rw [List.getElem?_append_right (by simpa using Nat.le_of_not_lt hi)] at h
    rw [List.getElem?_replicate] at h
    split at h <;> cases h
/-- a def's own promise: its body, read over data -/
def fnT (N : List Str) (n : Nat) (t : XS) : XT := fun ds st R => ds.length = n ∧ t { nx := fun _ st' => R .non st', rt := R } (startE N ds) st
/-- a def of the text whose code object stands at c -/
structure FunC (K : PySem.W.Frag) (x : Str) (st : Stmt) (f c : Addr) (fd : FuncData) : Prop where
  ex : ∃ (oc : Value) (od : Option Addr) (kV doc pm : Value) (an : Option Addr) (ct : Value) (osl : Array (Option Value)),
    fd = PySem.W.fnOf x x (defArgs st) (defBody st) (defScope st) .none kV doc pm an (.ref c) ct ∧ K.lookup f = some ⟨oc, od, .func fd, osl⟩ ∧ PySem.W.codeIn K (.ref c) x = true
/-- .. that may be called by its name, and whose table is tracked -/
structure DefC (w : Ws) (mg : Str → Option Value) (x : Str) (st : Stmt) : Prop where
  ex : ∃ (f c P : Addr) (fd : FuncData), FunC w.K x st f c fd ∧ mg x = some (.ref f) ∧ PySem.W.keepIn w.K (.ref f) = true ∧ (c, P) ∈ w.tabs ∧ PySem.W.CodeHd w.base c P
theorem DefC.x {P : Program} {wl : World} {w : Ws} {mg : Str → Option Value} {x : Str} {st : Stmt} {N ps : List Str} {k : Nat} {t : XS} (F : DefC w mg x st) (S : FnScope N ps (defScope st))
    (hb : ∀ (kV doc pm : Value) (an : Option Addr) (cdv ct : Value) (us : List Value), us.length = ps.length → bindArgs (PySem.W.fnOf x x (defArgs st) (defBody st) (defScope st) .none kV doc pm an cdv ct) ⟨us, []⟩ = pure (ps.zip us))
    (hbody : ∀ (f c : Addr) (A : Around) (outer : List Env) (s : Shared) (H : Hp) (E : XK), Room k (A.deeper (envOfC x (defScope st) s.heap.objs.size f (.ref c))) → Fit (cxOf CX0 P wl w.K mg w.base N x (defScope st) f (.ref c) A outer s H E).nox ⟨w, c, [], [], [], true⟩ →
      PSs (cxOf CX0 P wl w.K mg w.base N x (defScope st) f (.ref c) A outer s H E).nox (defBody st) (tS ⟨w, c, [], [], [], true⟩ t)) : DefX P wl w mg (k + 1) x (fnT N ps.length t) := by
  obtain ⟨f, c, Pt, fd, ⟨oc, od, kV, doc, pm, an, ct, osl, rfl, lk, hcd⟩, hm, hk, ht, hh⟩ := F.ex
  refine ⟨f, _, ps, fn_of lk hcd S (fun vs H Q E ⟨ι, st, ds, R, r, s, h, q⟩ => by rw [r.length]; exact h.1) fun A outer s H vs Q E hr ⟨ι, st, ds, R, r, s', h, q⟩ => ⟨_, (hbody f c A outer s H E hr ⟨rfl, rfl, rfl⟩).nox, ?_⟩, hm, hk, .all (hb kV doc pm an (.ref c) ct)⟩
  refine ⟨ι, startE N ds, st, _, start_env r N (fun _ => ⟨Pt, .inl hh, s'.tab _ ht⟩), s', h.2, fun env st' ι' σ H' h g r s => q .non st' ι' .non H' h g .non s, fun d st' ι' v H' h g r s => q d st' ι' v H' h g r s, fun _ _ _ _ _ h _ _ _ => h.elim, fun _ _ _ _ _ h _ _ _ => h.elim⟩
end GD

set_option Elab.async false
set_option linter.all false
set_option maxRecDepth 100000
set_option maxHeartbeats 2000000
namespace GD
open PySem PySem.Spec PyProof.Rows L2 GX

/-! ## 9. defs that take the script; isinstance; the end -/
abbrev XTS := List Int → List D → SS → (D → SS → Prop) → Prop
def spS (w : Ws) (T : XTS) : Sp := fun vs H Q _ => ∃ ι st a ns us ds R, vs = .ref a :: us ∧ Scr w.K H a ns ∧ Reps ι H us ds ∧ SR w ι st H ∧ T ns ds st R ∧ ∀ d st' ι' v H', R d st' → Gr ι H ι' H' → Rep ι' H' v d → SR w ι' st' H' → Q v H'
structure DefS (P : Program) (wl : World) (w : Ws) (mg : Str → Option Value) (k : Nat) (x : Str) (T : XTS) : Prop where
  ex : ∃ (f : Addr) (fd : FuncData) (ps : List Str), FnOk P wl w.K mg w.base CX0 k f fd ps (spS w T) ∧ mg x = some (.ref f) ∧ PySem.W.keepIn w.K (.ref f) = true ∧ Binds w.K fd ps []
theorem DefS.imp {P : Program} {wl : World} {w : Ws} {mg : Str → Option Value} {k : Nat} {x : Str} {T T' : XTS} (c : DefS P wl w mg k x T) (h : ∀ ns ds st R, T' ns ds st R → T ns ds st R) : DefS P wl w mg k x T' := by
  obtain ⟨f, fd, ps, hF, r⟩ := c.ex
  exact ⟨f, fd, ps, hF.imp fun vs H Q E ⟨ι, st, a, ns, us, ds, R, e, hs, r, s, ht, q⟩ => ⟨ι, st, a, ns, us, ds, R, e, hs, r, s, h _ _ _ _ ht, q⟩, r⟩
theorem DefX.imp {P : Program} {wl : World} {w : Ws} {mg : Str → Option Value} {k : Nat} {x : Str} {T T' : XT} (c : DefX P wl w mg k x T) (h : ∀ ds st R, T' ds st R → T ds st R) : DefX P wl w mg k x T' := by
  obtain ⟨f, fd, ps, hF, r⟩ := c.ex
  exact ⟨f, fd, ps, hF.imp fun vs H Q E ⟨ι, st, ds, R, r, s, ht, q⟩ => ⟨ι, st, ds, R, r, s, h _ _ _ ht, q⟩, r⟩
theorem DefX.mono {P : Program} {wl : World} {w : Ws} {mg : Str → Option Value} {j k : Nat} {x : Str} {T : XT} (c : DefX P wl w mg j x T) (h : j ≤ k) : DefX P wl w mg k x T := by
  obtain ⟨f, fd, ps, hF, r⟩ := c.ex
  exact ⟨f, fd, ps, hF.mono h, r⟩
theorem DefP.mono {P : Program} {wl : World} {w : Ws} {mg : Str → Option Value} {j k : Nat} {x : Str} {F : List D → SS → Option D} (c : DefP P wl w mg j x F) (h : j ≤ k) : DefP P wl w mg k x F := by
  obtain ⟨f, fd, ps, hF, r⟩ := c.ex
  exact ⟨f, fd, ps, hF.mono h, r⟩
theorem DefS.mono {P : Program} {wl : World} {w : Ws} {mg : Str → Option Value} {j k : Nat} {x : Str} {T : XTS} (c : DefS P wl w mg j x T) (h : j ≤ k) : DefS P wl w mg k x T := by
  obtain ⟨f, fd, ps, hF, r⟩ := c.ex
  exact ⟨f, fd, ps, hF.mono h, r⟩
def startS (N : List Str) (ds : List D) : EV := none :: (ds.map some ++ List.replicate (N.length - (ds.length + 1)) none)
def fnS (N : List Str) (n : Nat) (t : List Int → XS) : XTS := fun ns ds st R => ds.length + 1 = n ∧ t ns { nx := fun _ st' => R .non st', rt := R } (startS N ds) st
abbrev WdS (w : Ws) (c a : Addr) (ns : List Int) : Wd := ⟨w, c, [(0, .ref a)], [(a, ns)], [], true⟩
theorem DefC.s {P : Program} {wl : World} {w : Ws} {mg : Str → Option Value} {x : Str} {st : Stmt} {N ps : List Str} {k : Nat} {t : List Int → XS} (F : DefC w mg x st) (S : FnScope N ps (defScope st))
    (hb : ∀ (kV doc pm : Value) (an : Option Addr) (cdv ct : Value) (us : List Value), us.length = ps.length → bindArgs (PySem.W.fnOf x x (defArgs st) (defBody st) (defScope st) .none kV doc pm an cdv ct) ⟨us, []⟩ = pure (ps.zip us))
    (hbody : ∀ (f c a : Addr) (ns : List Int) (A : Around) (outer : List Env) (s : Shared) (H : Hp) (E : XK), Room k (A.deeper (envOfC x (defScope st) s.heap.objs.size f (.ref c))) → Fit (cxOf CX0 P wl w.K mg w.base N x (defScope st) f (.ref c) A outer s H E).nox (WdS w c a ns) →
      PSs (cxOf CX0 P wl w.K mg w.base N x (defScope st) f (.ref c) A outer s H E).nox (defBody st) (tS (WdS w c a ns) (t ns))) : DefS P wl w mg (k + 1) x (fnS N ps.length t) := by
  obtain ⟨f, c, Pt, fd, ⟨oc, od, kV, doc, pm, an, ct, osl, rfl, lk, hcd⟩, hm, hk, ht, hh⟩ := F.ex
  refine ⟨f, _, ps, fn_of lk hcd S (fun vs H Q E ⟨ι, st, a, ns, us, ds, R, e, _, r, s, h, q⟩ => by subst e; rw [List.length_cons, r.length]; exact h.1) fun A outer s H vs Q E hr ⟨ι, st, a, ns, us, ds, R, e, hsc, r, s', h, q⟩ => ⟨_, (hbody f c a ns A outer s H E hr ⟨rfl, rfl, rfl⟩).nox, ?_⟩, hm, hk, .all (hb kV doc pm an (.ref c) ct)⟩
  subst e
  have hl := r.length
  refine ⟨ι, startS N ds, st, _, ⟨?_, ?_, fun _ => ⟨Pt, .inl hh, s'.tab _ ht⟩, ?_, ?_, fun _ z => by cases z⟩, s', h.2, fun env st' ι' σ H' h g r s => q .non st' ι' .non H' h g .non s, fun d st' ι' v H' h g r s => q d st' ι' v H' h g r s, fun _ _ _ _ _ h _ _ _ => h.elim, fun _ _ _ _ _ h _ _ _ => h.elim⟩
  · unfold startS L2.start
    simp [hl]
  · intro i d hd
    unfold startS at hd
    unfold L2.start
    cases i with
    | zero => simp at hd
    | succ i =>
      simp only [List.getElem?_cons_succ] at hd
      simp only [List.map_cons, List.cons_append, List.getElem?_cons_succ]
      by_cases hi : i < ds.length
      · rw [List.getElem?_append_left (by simpa using hi)] at hd
        rw [List.getElem?_append_left (by simpa [hl] using hi)]
        rw [List.getElem?_map] at hd
        cases hd' : ds[i]? with
        | none => rw [hd'] at hd; cases hd
        | some d' =>
          rw [hd'] at hd
          simp at hd
          subst hd
          obtain ⟨v, h1, h2⟩ := r.get' hd'
          exact ⟨v, by rw [List.getElem?_map, h1]; rfl, h2⟩
      · rw [List.getElem?_append_right (by simpa using Nat.le_of_not_lt hi)] at hd
        rw [List.getElem?_replicate] at hd
        split at hd <;> cases hd
  · intro p hp
    rw [List.mem_singleton.mp hp]
    rfl
  · intro p hp
    rw [List.mem_singleton.mp hp]
    exact hsc
section
variable {X : Cx} {w : Ws} {c a : Addr} {ns : List Int} {pos p p1 p2 : Pos} {e e1 : Expr} {es : List Expr} {x y : Str}
/-- the script itself -/
theorem pe_scr (hN : X.N[0]? = some y := by rfl) (hv : Vis X.env.scope y := by first | exact Or.inl rfl | exact Or.inr (Or.inl rfl) | exact Or.inr (Or.inr rfl)) (hd : (y == ("__debug__" : Str)) = false := by decide)
    (hcd : (y == ("__classdict__" : Str)) = false := by decide) : PE X (.Name y pos) (fun σ H Q => ∃ ι env, EnvR (WdS w c a ns) ι env σ H ∧ Q (.ref a) H) :=
  PE.mo (pe_var hN hv hd hcd) fun σ H Q ⟨ι, env, he, q⟩ => ⟨.ref a, he.fx (0, .ref a) (List.mem_singleton.mpr rfl), q⟩
theorem scr_at {ι : List Addr} {env : EV} {σ : L2.St} {H : Hp} (he : EnvR (WdS w c a ns) ι env σ H) : Scr w.K H a ns := he.sq (a, ns) (List.mem_singleton.mpr rfl)
def mLenS (ns : List Int) : MP := fun _ _ => some (.int ns.length)
theorem dp_lenS (hf : Fit X (WdS w c a ns)) (hg : Gl X "len") (hm : X.mg "len" = none) (hp : PE X (.Name y p1) (fun σ H Q => ∃ ι env, EnvR (WdS w c a ns) ι env σ H ∧ Q (.ref a) H)) (hs : starEach [.Name y p1] X.env = (false, eval (.Name y p1) X.env) :: starEach [] X.env := by rfl) :
    PE X (.Call (.Name "len" p) [.Name y p1] [] pos) (tP (WdS w c a ns) (mLenS ns)) :=
  PE.mo (pe_callB call_len_seq hg hm PySem.boot_len (pa_cons hp pa_nil hs) (he := hs)) fun σ H Q ⟨ι, env, st, d, he, hst, hmm, q⟩ => by
    cases hmm
    refine ⟨ι, env, he, a, ns.map V.int, rfl, .inl ?_, by rw [List.length_map]; exact q _ H (Kp.refl H) (.int _) hst⟩
    rw [hf.k]
    exact (scr_at he).sql
def mIxS (ns : List Int) (m : MP) : MP := fun env st => match m env st with | some (.int i) => (match atI ns i with | some k => some (.int k) | none => none) | _ => none
theorem atI_mapI {ns : List Int} {i k : Int} (h : atI ns i = some k) : atI (ns.map V.int) i = some (.int k) := by
  unfold atI at h ⊢
  rw [List.length_map]
  cases hi : ixN ns.length i with
  | none => rw [hi] at h; cases h
  | some j =>
    rw [hi] at h
    have h : ns[j]? = some k := h
    show (ns.map V.int)[j]? = _
    rw [List.getElem?_map, h]
    rfl
theorem dp_ixS {m : MP} (hf : Fit X (WdS w c a ns)) (hp : PE X (.Name y p1) (fun σ H Q => ∃ ι env, EnvR (WdS w c a ns) ι env σ H ∧ Q (.ref a) H)) (hb : PE X e (tP (WdS w c a ns) m)) (hs : PlainIx e := by intro _ _; rfl) :
    PE X (.Subscript (.Name y p1) e pos) (tP (WdS w c a ns) (mIxS ns m)) :=
  PE.mo (pe_ix ix_seq hp hb hs) fun σ H Q ⟨ι, env, st, d, he, hst, hm, q⟩ => by
    unfold mIxS at hm
    split at hm
    · rename_i i e1
      split at hm
      · rename_i k e2
        cases hm
        refine ⟨ι, env, he, ι, env, st, .int i, he, hst, e1, fun v H1 k1 r1 s1 => ?_⟩
        cases r1
        refine .inl ⟨a, _, i, .int k, rfl, rfl, ?_, atI_mapI e2, q _ H1 k1 (.int _) s1⟩
        rw [hf.k]
        exact ((scr_at he).kp k1).sql
      · cases hm
    · cases hm
def xCallS (T : XTS) (ns : List Int) (r : XA) : XP := fun env st R => r env st fun ds st1 => T ns ds st1 R
theorem dx_callS {k : Nat} {T : XTS} {r : XA} (hf : Fit X (WdS w c a ns)) (cc : DefS X.prog X.w w X.mg k x T) (hr : Room k X.A) (hg : Gl X x) (hp : PE X (.Name y p1) (fun σ H Q => ∃ ι env, EnvR (WdS w c a ns) ι env σ H ∧ Q (.ref a) H)) (ha : PA X es (tXA (WdS w c a ns) r))
    (hdb : (x == ("__debug__" : Str)) = false := by decide) (he : starEach (.Name y p1 :: es) X.env = (false, eval (.Name y p1) X.env) :: starEach es X.env := by rfl) (hpl : (backTo pos (starEach es X.env)).any (·.1) = false := by rfl) :
    PE X (.Call (.Name x p) (.Name y p1 :: es) [] pos) (tX (WdS w c a ns) (xCallS T ns r)) := by
  obtain ⟨f, fd, ps, hF, hm, hk, hb⟩ := cc.ex
  have hK : X.K = w.K := hf.k
  have hB : X.base = w.base := hf.b
  have hF' := hF
  rw [← hB] at hF'
  have hF2 : FnOk X.prog X.w X.K X.mg X.base CX0 k f fd ps (spS w T) := by rw [hK]; exact hF'
  rw [← hK] at hk hb
  refine PE.mo (pe_call (E := E0) hF2 hr hg hm hk hb .nil pass0 (pa_cons hp ha he) hdb he hpl) fun σ H Q ⟨ι, env, st, R, hen, hst, hmm, q⟩ => ?_
  refine ⟨ι, env, hen, ι, env, st, _, hen, hst, hmm, fun ds st1 ι1 vs H1 h1 g1 r1 s1 => ?_⟩
  show spS w T (.ref a :: vs ++ []) H1 Q E0
  rw [List.append_nil]
  exact ⟨ι1, st1, a, ns, vs, ds, R, rfl, (scr_at hen).kp g1.kp, r1, s1, h1, fun d st' ι' v H' h2 g2 r2 s2 => q d st' ι' v H' h2 (g1.trans g2) r2 s2⟩
end
/-! ### isinstance -/
section
variable {X : Cx} {w : Wd} {pos p p2 : Pos} {e : Expr} {m : MP} {nm : Str} {T : String}
theorem dp_isi (hg : Gl X "isinstance") (hm : X.mg "isinstance" = none) (hg2 : Gl X nm) (hm2 : X.mg nm = none) (hv : bootBuiltins nm = some (.type T)) (ha : PE X e (tP w m)) (hn : nm ≠ "__name__" := by decide) (hdb : (nm == ("__debug__" : Str)) = false := by decide)
    (hs : starEach [e, .Name nm p2] X.env = (false, eval e X.env) :: starEach [.Name nm p2] X.env := by rfl) (hs2 : starEach [.Name nm p2] X.env = (false, eval (.Name nm p2) X.env) :: starEach [] X.env := by rfl) (hpl : (backTo pos (starEach [.Name nm p2] X.env)).any (·.1) = false := by rfl) :
    PE X (.Call (.Name "isinstance" p) [e, .Name nm p2] [] pos) (tP w (mF1 (fIs T) m)) :=
  PE.mo (pe_callB call_isi hg hm (by decide +kernel) (pa_cons ha (pa_cons (pe_ty (p := p2) hg2 hm2 hv hn hdb) pa_nil hs2) hs) (he := hs) (hpl := hpl)) fun σ H Q ⟨ι, env, st, d, he, hst, hmm, q⟩ => by
    unfold mF1 at hmm
    split at hmm
    · rename_i dx e1
      exact ⟨ι, env, st, dx, he, hst, e1, fun v H1 k1 r1 s1 => qIs ι st H1 v dx d Q s1 r1 hmm fun v2 H2 k2 r2 s2 => q v2 H2 (k1.trans k2) r2 s2⟩
    · cases hmm
end
/-! ### the end of a law -/
/-- what the machine has laid of each def: its code object, and a table that is empty -/
def Laid (q : Program) (mg : Str → Option Value) (h : Heap) : Prop := ∀ d ∈ recsOf q, ∃ (a : Addr) (o : Obj) (fd : FuncData) (c P : Addr), mg d.name = some (.ref a) ∧ h.get? a = some o ∧ o.data = .func fd ∧ fd.code = .ref c ∧ PySem.W.CodeHd h c P ∧ h.get? P = some { cls := .none, data := .fields #[] }
/-- the object of a table -/
def tblO : Obj := { cls := .none, data := .fields #[] }
/-- a def's promise at one place of the calls -/
structure FnAt (A : Around) (P : Program) (w : World) (K : PySem.W.Frag) (mg : Str → Option Value) (base : Heap) (k : Nat) (f : Addr) (fd : FuncData) (ps : List Str) (sp : Sp) : Prop where
  len : ∀ vs H Q E, sp vs H Q E → vs.length = ps.length
  run : ∀ (outer : List Env) (s : Shared) (H : Hp) (args : Args) (us : List Value) (vs : List V) (Q : VK) (E : XK), Room k A → Env0 P w K mg base A outer s H → BindsTo s fd args (ps.zip us) → Vals vs us → sp vs H Q E →
    codeAny (model P w) A (.call (.ref f) args) (CR CX0 outer P w H s Q E) s
theorem fnAt_of {A : Around} {P : Program} {w : World} {K : PySem.W.Frag} {mg : Str → Option Value} {base : Heap} {k : Nat} {f : Addr} {fd : FuncData} {ps : List Str} {sp : Sp} (F : FnOk P w K mg base CX0 k f fd ps sp) : FnAt A P w K mg base k f fd ps sp := ⟨F.len, F.run A⟩
theorem law_callG {P : Program} {w : World} {K : PySem.W.Frag} {mg mb : Str → Option Value} {k : Nat} {fa a : Addr} {cs : List (Addr × Addr)} {sp : Sp} {s₁ : Shared} {vs : List Value} {ns : List Int}
    (KX : K.In s₁.heap) (hns : s₁.heap.Ns mainGlobals mg) (hb : s₁.heap.Ns builtinsNs mb) (hbb : ∀ x : Str, x ≠ "__name__" → mb x = bootBuiltins x) (hlim : s₁.heap.NoLimit) (hg : s₁.gens = #[])
    (hT : ∀ p ∈ cs, s₁.heap.get? p.2 = some tblO) (nT : ∀ p ∈ cs, K.lookup p.2 = none) (C : ∀ p ∈ cs, PySem.W.CodeHd s₁.heap p.1 p.2)
    (hbm : ∃ (bm : Addr) (ob : Obj), mg "__builtins__" = some (.ref bm) ∧ bm ≠ builtinsNs ∧ s₁.heap.get? bm = some ob ∧ ob.cls = .type "module" ∧ ob.dict = some builtinsNs ∧ ob.data = .plain)
    (ha : s₁.heap.get? a = some { cls := .type "list", data := .seq vs.toArray }) (hi : IntsAre vs ns) (hl : ns.length ≤ sizeLine) (hr : Room k callerA)
    (F : ∀ base : Heap, K.In base → base.Ns mainGlobals mg → Bm base mg → (∀ p ∈ cs, PySem.W.CodeHd base p.1 p.2) → ∃ (fd : FuncData) (ps : List Str), FnAt callerA P w K mg base k fa fd ps sp ∧ Binds K fd ps [])
    (hsp : ∀ H : Hp, (∀ p ∈ cs, H p.2 = some (.tbl #[])) → (∀ b ps, H b = some (.tbl ps) → ps = #[]) → Scr K H a ns → sp [.ref a] H (fun v _ => v = .bl true) fun _ _ _ => False) :
    codeAny (model P w) callerA (.call (.ref fa) ⟨[.ref a], []⟩) (fun r s' => r = .ok (.ret (.bool true)) ∧ OldK s₁.heap s'.heap ∧ s'.os = s₁.os ∧ AllBare s'.gens) s₁ := by
  have rv := vals_ints hi
  have T := fun b => b ∈ cs.map (·.2)
  have isT : ∀ b : Addr, b ∈ cs.map (·.2) → s₁.heap.get? b = some tblO := fun b hb => by
    obtain ⟨p, hp, rfl⟩ := List.mem_map.mp hb
    exact hT p hp
  have memT : ∀ p ∈ cs, p.2 ∈ cs.map (·.2) := fun p hp => List.mem_map.mpr ⟨p, hp, rfl⟩
  have aT : a ∉ cs.map (·.2) := fun z => by
    have q := isT a z
    rw [ha] at q
    cases congrArg Obj.data (Option.some.inj q)
  -- the script is tracked, unless the head has laid it
  let H : Hp := fun b => if b ∈ cs.map (·.2) then some (.tbl #[]) else if b = a ∧ K.lookup a = none then some (.frz { cls := .type "list", data := .seq vs.toArray } (.lst (ns.map V.int))) else none
  have HT : ∀ b, b ∈ cs.map (·.2) → H b = some (.tbl #[]) := fun b hb => if_pos hb
  have HN : ∀ b, b ∉ cs.map (·.2) → b ≠ a → H b = none := fun b hb hba => (if_neg hb).trans (if_neg fun z => hba z.1)
  have Hs : ∀ b u, H b = some u → (b ∈ cs.map (·.2) ∧ u = .tbl #[]) ∨ (b = a ∧ K.lookup a = none ∧ u = .frz { cls := .type "list", data := .seq vs.toArray } (.lst (ns.map V.int))) := fun b u e => by
    by_cases hb : b ∈ cs.map (·.2)
    · rw [HT b hb] at e
      exact .inl ⟨hb, (Option.some.inj e).symm⟩
    · by_cases hba : b = a ∧ K.lookup a = none
      · have e' := ((if_neg hb).trans (if_pos hba)).symm.trans e
        exact .inr ⟨hba.1, hba.2, (Option.some.inj e').symm⟩
      · have e' := ((if_neg hb).trans (if_neg hba)).symm.trans e
        cases e'
  have scr : Scr K H a ns := by
    cases hk : K.lookup a with
    | none => exact .inl ⟨_, (if_neg aT).trans (if_pos ⟨rfl, hk⟩)⟩
    | some o =>
      have e := KX a o hk
      rw [ha] at e
      cases e
      exact .inr fun H' => .inr ⟨_, vs.toArray, _, hk, rfl, rfl, rfl, by rw [List.size_toArray, hi.length]; exact hl, by simpa using rv⟩
  have hok : HOk P w H s₁.heap := fun b u e => by
    rcases Hs b u e with ⟨hb, rfl⟩ | ⟨rfl, _, rfl⟩
    · exact isT b hb
    · exact ⟨ha, by rw [List.length_map]; exact hl, vs, _, rv, ha⟩
  have free : ∀ {b : Addr} {o : Obj}, s₁.heap.get? b = some o → (∀ l n, o.data ≠ .seq l n) → o.data ≠ .fields #[] → H b = none := fun {b o} e h1 h2 => HN b (fun z => by
    rw [isT b z] at e
    cases e
    exact h2 rfl) fun z => by
    rw [z, ha] at e
    cases e
    exact h1 _ _ rfl
  have nsK : ∀ {b : Addr} {m : Str → Option Value}, s₁.heap.Ns b m → (hidT s₁.heap H).Ns b m := fun {b m} ⟨o, es, ep, e, d, r⟩ => ⟨o, es, ep, hidT_get e (free e (fun l n z => by rw [d] at z; cases z) fun z => by rw [d] at z; cases z), d, r⟩
  have hKb : K.In (hidT s₁.heap H) := fun b o e => hidT_get (KX b o e) (by
    cases q : H b with
    | none => rfl
    | some u =>
      rcases Hs b u q with ⟨hb, _⟩ | ⟨rfl, hk, _⟩
      · obtain ⟨p, hp, rfl⟩ := List.mem_map.mp hb
        rw [nT p hp] at e
        cases e
      · rw [hk] at e
        cases e)
  have hM : L2.Mod K mg (hidT s₁.heap H) := ⟨hKb, nsK hns, ⟨mb, nsK hb, hbb⟩, let ⟨mc, h1, h2⟩ := hlim; ⟨mc, nsK h1, h2⟩⟩
  have CB : ∀ p ∈ cs, PySem.W.CodeHd (hidT s₁.heap H) p.1 p.2 := fun p hp => by
    obtain ⟨o, us, file, tf, flags, tg, inF, text, tt, e1, r1, r2, r3, r⟩ := C p hp
    refine ⟨o, us, file, tf, flags, tg, inF, text, tt, hidT_get e1 (free e1 (fun l n z => ?_) fun z => ?_), r1, r2, r3, r⟩
    · rw [r2] at z
      cases z
    · rw [r2] at z
      cases z
      simp at r3
  have BM : Bm (hidT s₁.heap H) mg := by
    obtain ⟨bm, ob, b1, b2, b3, b4, b5, b6⟩ := hbm
    exact ⟨bm, ob, b1, b2, hidT_get b3 (free b3 (fun l n z => by rw [b6] at z; cases z) fun z => by rw [b6] at z; cases z), b4, b5, b6⟩
  have e0 : Env0 P w K mg (hidT s₁.heap H) callerA [] s₁ H := ⟨rfl, hM, fun b o e => of_hidT e, Nat.le_of_eq (hidT_size _ _), trivial, fun b hb => absurd (show b ∈ ([] : List Addr) from hb) (by simp), hok, .of_eq hg⟩
  obtain ⟨fd, ps, hF, hB⟩ := F _ hKb (nsK hns) BM CB
  have hs := hsp H (fun p hp => HT _ (memT p hp)) (fun b ps e => by
    rcases Hs b _ e with ⟨_, z⟩ | ⟨_, _, z⟩
    · cases z
      rfl
    · cases z) scr
  have hlen := hF.len _ _ _ _ hs
  refine codeAny_mono (hF.run [] s₁ H ⟨[.ref a], []⟩ [.ref a] [.ref a] _ _ hr e0 (hB s₁ [.ref a] KX hlen) (.cons rfl .nil) hs) fun r s' h => ?_
  cases r with
  | error e => exact (show False from h).elim
  | ok fl =>
    cases fl with
    | next => exact False.elim h
    | brk => exact False.elim h
    | cont => exact False.elim h
    | ret u =>
      obtain ⟨v, H', os, bare, un, hok', r', q⟩ := h
      have q' : v = .bl true := q
      subst q'
      obtain rfl : u = Value.bool true := r'
      have key : ∀ b o, b ∉ cs.map (·.2) → s₁.heap.get? b = some o → s'.heap.get? b = some o := fun b o nb e => by
        cases q : H b with
        | none => exact un.keep b o e q (by intro z; exact absurd (show b ∈ ([] : List Addr) from z) (by simp)) (by simp)
        | some u =>
          rcases Hs b u q with ⟨hb, _⟩ | ⟨_, _, rfl⟩
          · exact absurd hb nb
          · obtain ⟨e1, _⟩ := hok b _ q
            obtain ⟨e2, _⟩ := hok' b _ (un.frzs b _ _ q)
            rw [e] at e1
            cases e1
            exact e2
      have grown : ∀ b, b ∈ cs.map (·.2) → ∃ more : Array Value, s'.heap.get? b = some { cls := .none, data := .fields more } := fun b hb => by
        obtain ⟨more, z⟩ := un.tbls b #[] (HT b hb)
        exact ⟨_, hok' b _ z⟩
      refine ⟨rfl, ⟨fun b o e => ?_, fun b o e => ?_⟩, os, bare⟩
      · by_cases hb : b ∈ cs.map (·.2)
        · obtain ⟨more, hm⟩ := grown b hb
          obtain ⟨p, hp, rfl⟩ := List.mem_map.mp hb
          rw [hT p hp] at e
          cases e
          exact .inr (.inl ⟨((C p hp).tab (hT p hp)).isCodeTable, rfl, #[], more, rfl, by rw [Array.empty_append]; exact hm⟩)
        · exact .inl (key b o hb e)
      · by_cases hb : b ∈ cs.map (·.2)
        · obtain ⟨more, hm⟩ := grown b hb
          exact ⟨_, hm⟩
        · exact ⟨o, key b o hb e⟩
/-- what is asked at the head's heap -/
def LawG (l : PySem.W.OpenLaw) (w : World) (K : PySem.W.Frag) (k n : Nat) (mg : Str → Option Value) (fa : Addr) (h : Heap) : Prop :=
  ∃ (cs : List (Addr × Addr)) (sp : Sp), (∀ p ∈ cs, h.get? p.2 = some tblO) ∧ (∀ p ∈ cs, K.lookup p.2 = none) ∧ (∀ p ∈ cs, PySem.W.CodeHd h p.1 p.2) ∧
    (∀ (H : Hp) (a : Addr) (ns : List Int), ns.length ≤ n → (∀ z ∈ ns, Builtin.Int.intBits z ≤ 1048576) → (∀ p ∈ cs, H p.2 = some (.tbl #[])) → (∀ b ps, H b = some (.tbl ps) → ps = #[]) → Scr K H a ns → sp [.ref a] H (fun v _ => v = .bl true) fun _ _ _ => False) ∧
    ∀ base : Heap, K.In base → base.Ns mainGlobals mg → Bm base mg → (∀ p ∈ cs, PySem.W.CodeHd base p.1 p.2) → ∃ (fd : FuncData) (ps : List Str), FnAt callerA l.prog w K mg base k fa fd ps sp ∧ Binds K fd ps []
theorem walkG {l : PySem.W.OpenLaw} {n k : Nat} {q : Program} {loose : List Str} {XP : (Str → Option Value) → Heap → Prop} {YP : World → Heap → Prop} {d : DefRec} {K : Params → PySem.W.Frag}
    (hn : l.most = some n) (hn2 : n ≤ sizeLine) (hdf : d.params.defaults = []) (hr : Room k callerA) (hY : ∀ (w : World) (h : Heap), YP w h → (K w.params).In h)
    (F : ∀ (w : World) (mg : Str → Option Value) (fa : Addr) (h : Heap), YP w h → (K w.params).In h → h.Ns mainGlobals mg → mg d.name = some (.ref fa) → Laid q mg h → LawG l w (K w.params) k n mg fa h) :
    PySem.W.WalkO q loose XP YP l.row.toRowW d [] (fun f vs => PySem.call f vs) := by
  refine Att.attach_callB hn hdf fun w s₀ s₁ mg mb fa o pm cd doc a vs ns G Y ho hd hcd hmg hobj hints hlen hbits hg => ?_
  have KX := hY w _ Y
  have laid : Laid q mg s₁.heap := fun d hd => by
    obtain ⟨a, o, fd, c, P, h1, h2, h3, h4, h5, h6⟩ := G.T.tab d hd
    exact ⟨a, o, fd, c, P, h1, h2, h3, h4, PySem.W.CodeHd.of h5 h6, h6.2⟩
  obtain ⟨cs, sp, hT, nT, C, hsp, hF⟩ := F w mg fa _ Y KX G.T.g hmg laid
  exact law_callG KX G.T.g G.T.b G.T.builtins G.T.nolimit hg hT nT C G.T.bmain hobj hints (Nat.le_trans hlen hn2) hr hF fun H hH hc hS => hsp H a ns hlen hbits hH hc hS
/-- the classes by their names in the module -/
def clsOf (mg : Str → Option Value) (x : Str) : Option Addr := match mg x with | some (.ref a) => some a | _ => none
/-- a def of the text: its place, its code object, its table -/
structure DK (K : PySem.W.Frag) (mg : Str → Option Value) (h : Heap) (x : Str) (st : Stmt) (f c P : Addr) : Prop where
  mgf : mg x = some (.ref f)
  code : PySem.W.CodeHd h c P
  tab : h.get? P = some tblO
  free : K.lookup P = none
  dc : ∀ base nm tabs, (c, P) ∈ tabs → PySem.W.CodeHd base c P → DefC ⟨K, base, nm, tabs, clsOf mg⟩ mg x st
theorem DK.of {K : PySem.W.Frag} {mg : Str → Option Value} {h : Heap} {q : Program} {x : Str} {st : Stmt} {f c P : Addr} {oc kV dc pm ct e : Value} {od an dd : Option Addr} {sl sl2 : Array (Option Value)} {vs : Array Value} (KX : K.In h) (G : h.Ns mainGlobals mg) (L : Laid q mg h)
    (hrec : ((recsOf q).any fun e => e.name == x) = true) (a1 : PySem.W.nsIn K mainGlobals x = some (some (.ref f)))
    (l1 : K.lookup f = some ⟨oc, od, .func (PySem.W.fnOf x x (defArgs st) (defBody st) (defScope st) .none kV dc pm an (.ref c) ct), sl⟩) (c1 : PySem.W.codeIn K (.ref c) x = true) (k1 : PySem.W.keepIn K (.ref f) = true)
    (t1 : K.lookup c = some ⟨e, dd, .fields vs, sl2⟩) (p1 : vs[11]? = some (.ref P)) (n1 : K.lookup P = none) : DK K mg h x st f c P := by
  have hm := PySem.W.mg_of KX G a1
  obtain ⟨dL, hmem, hnm⟩ := List.any_eq_true.mp hrec
  have hnm : dL.name = x := beq_iff_eq.mp hnm
  obtain ⟨a', o', fd', c', P', h1, h2, h3, h4, h5, h6⟩ := L dL hmem
  rw [hnm, hm] at h1
  cases h1
  have g1 := KX _ _ l1
  rw [g1] at h2
  cases h2
  cases h3
  cases h4
  have g2 := KX _ _ t1
  obtain ⟨o, us, file, tf, flags, tg, inF, text, tt, e1, r1, r2, r3, r⟩ := id h5
  rw [g2] at e1
  cases e1
  cases r2
  rw [p1] at r3
  cases r3
  exact ⟨hm, h5, h6, n1, fun base nm tabs ht hh => ⟨f, c, _, _, ⟨oc, od, kV, dc, pm, an, ct, sl, rfl, l1, c1⟩, hm, k1, ht, hh⟩⟩
theorem law_of {nm : Nat → Nat → Option Str} {l : PySem.W.OpenLaw} {w : World} {K : PySem.W.Frag} {k n : Nat} {mg : Str → Option Value} {fa : Addr} {h : Heap} {T : XTS} {cs : List (Addr × Addr)} (hT : ∀ p ∈ cs, h.get? p.2 = some tblO) (nT : ∀ p ∈ cs, K.lookup p.2 = none) (C : ∀ p ∈ cs, PySem.W.CodeHd h p.1 p.2) (hfa : mg "law" = some (.ref fa))
    (hD : ∀ base : Heap, Bm base mg → (∀ p ∈ cs, PySem.W.CodeHd base p.1 p.2) → DefS l.prog w ⟨K, base, nm, cs, clsOf mg⟩ mg k "law" T) (hlaw : ∀ ns : List Int, ns.length ≤ n → T ns [] [] fun d _ => d = .bl true) : LawG l w K k n mg fa h := by
  refine ⟨cs, fun vs H Q E => ∀ base, spS ⟨K, base, nm, cs, clsOf mg⟩ T vs H Q E, hT, nT, C, fun H a ns hl _ hH hc hS base => ?_, fun base hK hN hB hC => ?_⟩
  · refine ⟨[], [], a, ns, [], [], _, rfl, hS, .nil, ⟨rfl, List.nodup_nil, fun m a c h1 h2 => by simp at h1, fun P ps e => ?_, fun p hp => ⟨#[], hH p hp⟩⟩, hlaw ns hl, fun d st' ι' v H' e g r s => ?_⟩
    · have e' := hc P ps e
      subst e'
      exact ⟨by unfold TriplesOk; trivial, fun pos cv z => by unfold codeAmong at z; cases z⟩
    · have e : d = .bl true := e
      subst e
      cases r
      rfl
  · obtain ⟨f, fd, ps, hF, hm, hk, hb⟩ := (hD base hB hC).ex
    rw [hfa] at hm
    cases hm
    exact ⟨fd, ps, fnAt_of (hF.imp fun vs H Q E q => q base), hb⟩
end GD

set_option Elab.async false
set_option linter.all false
set_option maxRecDepth 100000
set_option maxHeartbeats 2000000
namespace GD
open PySem PySem.Spec PyProof.Rows L2 GX

/-! ## 10. statements without effects, by computing -/
inductive Rs where
  | nx (e : EV) | rt (d : D) | bk (e : EV) | ct (e : EV)
abbrev RS := EV → SS → Option Rs
def xs (r : RS) : XS := fun D0 env st => match r env st with
  | some (.nx e) => D0.nx e st
  | some (.rt d) => D0.rt d st
  | some (.bk e) => D0.bk e st
  | some (.ct e) => D0.ct e st
  | none => False
def rNext : RS := fun env _ => some (.nx env)
def rRet (m : MP) : RS := fun env st => match m env st with | some d => some (.rt d) | none => none
def rSeq (r u : RS) : RS := fun env st => match r env st with
  | some (.nx e) => u e st
  | some (.rt d) => some (.rt d)
  | some (.bk e) => some (.bk e)
  | some (.ct e) => some (.ct e)
  | none => none
def rIf (c : MB) (r u : RS) : RS := fun env st => match c env st with
  | some true => r env st
  | some false => u env st
  | none => none
def rAsg (m : MP) (t : MT) : RS := fun env st => match m env st with
  | some d => (match t d env with | some e => some (.nx e) | none => none)
  | none => none
def rForGo (t : MT) (r : RS) (st : SS) : List D → EV → Option Rs
  | [], env => some (.nx env)
  | d :: ds, env => match t d env with
    | some env1 => (match r env1 st with
      | some (.nx e) => rForGo t r st ds e
      | some (.ct e) => rForGo t r st ds e
      | some (.bk e) => some (.nx e)
      | some (.rt d) => some (.rt d)
      | none => none)
    | none => none
def rFor (mi : MI) (t : MT) (r : RS) : RS := fun env st => match mi env st with | some (ds, _) => rForGo t r st ds env | none => none
section
variable {X : Cx} {w : Wd} {pos : Pos} {e c : Expr} {tg iter : Expr} {s : Stmt} {rest : List Stmt} {r u : RS}
theorem dr_mo {t : XS} (h : PS X s (tS w t)) (q : ∀ D0 env st, xs r D0 env st → t D0 env st) : PS X s (tS w (xs r)) := PS.mo h fun E σ H ⟨ι, env, st, D0, he, hs, ht, hE⟩ => ⟨ι, env, st, D0, he, hs, q _ _ _ ht, hE⟩
theorem drs_mo {ss : List Stmt} {t : XS} (h : PSs X ss (tS w t)) (q : ∀ D0 env st, xs r D0 env st → t D0 env st) : PSs X ss (tS w (xs r)) := PSs.mo h fun E σ H ⟨ι, env, st, D0, he, hs, ht, hE⟩ => ⟨ι, env, st, D0, he, hs, q _ _ _ ht, hE⟩
theorem dr_nil : PSs X [] (tS w (xs rNext)) := drs_mo ds_nil fun _ _ _ h => h
theorem dr_ret {m : MP} (he : PE X e (tP w m)) : PS X (.Return (some e) pos) (tS w (xs (rRet m))) := dr_mo (ds_ret (dx_of he)) fun D0 env st h => by
  unfold xs rRet at h
  cases hm : m env st with
  | none => rw [hm] at h; exact h.elim
  | some d =>
    rw [hm] at h
    exact ⟨d, hm, h⟩
theorem dr_one (h1 : PS X s (tS w (xs r))) : PSs X [s] (tS w (xs r)) := ds_one h1
theorem dr_cons (h1 : PS X s (tS w (xs r))) (h2 : PSs X rest (tS w (xs u))) : PSs X (s :: rest) (tS w (xs (rSeq r u))) := drs_mo (ds_cons h1 h2) fun D0 env st h => by
  unfold sSeq xs
  unfold xs rSeq at h
  cases hr : r env st with
  | none => rw [hr] at h; exact h.elim
  | some v =>
    rw [hr] at h
    cases v <;> exact h
theorem dr_if {m : MB} {sa sb : List Stmt} (hc : PT X c (tBo w m)) (ha : PSs X sa (tS w (xs r))) (hb : PSs X sb (tS w (xs u))) : PS X (.If c sa sb pos) (tS w (xs (rIf m r u))) := dr_mo (ds_if (dxb_of hc) ha hb) fun D0 env st h => by
  have h' : (match (match m env st with | some true => r env st | some false => u env st | none => none) with
    | some (.nx e) => D0.nx e st | some (.rt d) => D0.rt d st | some (.bk e) => D0.bk e st | some (.ct e) => D0.ct e st | none => False) := h
  cases hm : m env st with
  | none => rw [hm] at h'; exact h'.elim
  | some b =>
    rw [hm] at h'
    cases b with
    | true => exact ⟨true, hm, iteT h'⟩
    | false => exact ⟨false, hm, iteF h'⟩
theorem dr_asg {m : MP} {tgt : MT} {g : TG} {own : List Nat} (ht : GT w own g tgt) (he : PE X e (tP w m)) (hg : PG X tg g) (hs : swapsWithSole [tg] e pos.line X.env = pure false := by rfl) (hw : swappedStores [tg] e X.env = pure none := by rfl)
    (h1 : (assignEach [tg] X.env).map (·.2) = [assign tg X.env] := by rfl) : PS X (.Assign [tg] e pos) (tS w (xs (rAsg m tgt))) := dr_mo (ds_asg ht (dx_of he) hg hs hw h1) fun D0 env st h => by
  unfold xs rAsg at h
  cases hm : m env st with
  | none => rw [hm] at h; exact h.elim
  | some d =>
    rw [hm] at h
    cases ht : tgt d env with
    | none => simp only [ht] at h
    | some e1 =>
      simp only [ht] at h
      exact ⟨d, hm, e1, ht, h⟩
theorem for_r {t : MT} {D0 : DE} {st : SS} {ro : Option Nat} : ∀ (ds : List D) (env : EV), (match rForGo t r st ds env with | some (.nx e) => D0.nx e st | some (.rt d) => D0.rt d st | some (.bk e) => D0.bk e st | some (.ct e) => D0.ct e st | none => False) → sForGo t (xs r) st ro D0 ds env st
  | [], env, h => ⟨Hold.refl, h⟩
  | d :: ds, env, h => by
    unfold rForGo at h
    cases ht : t d env with
    | none => rw [ht] at h; exact h.elim
    | some env1 =>
      rw [ht] at h
      refine ⟨Hold.refl, env1, ht, ?_⟩
      unfold xs
      cases hr : r env1 st with
      | none => simp only [hr] at h
      | some v =>
        simp only [hr] at h
        cases v with
        | nx e => exact for_r ds e h
        | ct e => exact for_r ds e h
        | bk e => exact h
        | rt d => exact h
theorem dr_for {mi : MI} {tgt : MT} {g : TG} {own : List Nat} {body : List Stmt} (hp : PassesOwn (model X.prog X.w) X.A X.env X.xe) (hc : X.calm = true) (ht : GT w own g tgt) (hi : PI X tg iter (tI w mi)) (hg : PG X tg g) (hb : PSs X body (tS w (xs r)))
    (hs : ∀ x, foldedSetIterable iter X.env x = pure x := by intro _; rfl) : PS X (.For tg iter body [] pos) (tS w (xs (rFor mi tgt r))) := dr_mo (ds_for hp hc ht (dxi_of hi) hg hb hs) fun D0 env st h => by
  unfold xs rFor at h
  cases hm : mi env st with
  | none => rw [hm] at h; exact h.elim
  | some v =>
    obtain ⟨ds, ro⟩ := v
    rw [hm] at h
    exact ⟨ds, ro, hm, for_r ds env h⟩
theorem Fit.blk {s : Shared} {H : Hp} {scope : Scope} {C : Addr} {cl : List (Str × Addr)} {fp : List Addr} (hf : Fit X w) : Fit (X.blk s H scope (compEnvC scope cl C X.env) fp) w := ⟨hf.k, hf.b, hf.c⟩
end
/-- a def's value, computed -/
def fnR (N : List Str) (n : Nat) (r : RS) : List D → SS → Option D := fun ds st => if ds.length = n then (match r (startE N ds) st with
  | some (.rt d) => if D.lo st.length d = true then some d else none
  | some (.nx _) => some .non
  | _ => none) else none
theorem DefC.p {P : Program} {wl : World} {w : Ws} {mg : Str → Option Value} {x : Str} {st : Stmt} {N ps : List Str} {k : Nat} {r : RS} (F : DefC w mg x st) (S : FnScope N ps (defScope st))
    (hb : ∀ (kV doc pm : Value) (an : Option Addr) (cdv ct : Value) (us : List Value), us.length = ps.length → bindArgs (PySem.W.fnOf x x (defArgs st) (defBody st) (defScope st) .none kV doc pm an cdv ct) ⟨us, []⟩ = pure (ps.zip us))
    (hbody : ∀ (f c : Addr) (A : Around) (outer : List Env) (s : Shared) (H : Hp) (E : XK), Room k (A.deeper (envOfC x (defScope st) s.heap.objs.size f (.ref c))) → Fit (cxOf CX0 P wl w.K mg w.base N x (defScope st) f (.ref c) A outer s H E).nox ⟨w, c, [], [], [], true⟩ →
      PSs (cxOf CX0 P wl w.K mg w.base N x (defScope st) f (.ref c) A outer s H E).nox (defBody st) (tS ⟨w, c, [], [], [], true⟩ (xs r))) : DefP P wl w mg (k + 1) x (fnR N ps.length r) := by
  refine (DefC.x F S hb hbody).toP fun ds st d h _ => ?_
  unfold fnR at h
  split at h
  · rename_i hl
    split at h
    · rename_i d' hr
      split at h
      · rename_i hlo
        cases h
        refine ⟨hlo, hl, ?_⟩
        unfold xs
        rw [hr]
        exact ⟨rfl, List.take_length⟩
      · cases h
    · rename_i e hr
      cases h
      refine ⟨rfl, hl, ?_⟩
      unfold xs
      rw [hr]
      exact ⟨rfl, List.take_length⟩
    · cases h
  · cases h
/-! ### comparisons as tests -/
section
variable {X : Cx} {w : Wd} {pos : Pos} {a b : Expr} {ma mb : MP} {xa xb : XP}
theorem dt_cmp {op : CmpOp} {f : F2} {r : R2} (ho : OpR X (compareOp op) r) (hr : OpP w f r) (ha : PE X a (tP w ma)) (hb : PE X b (tP w mb)) (hm : behindInMarks op b = false := by rfl) : PT X (.Compare a [op] [b] pos) (tBo w (bV (mOp f ma mb))) :=
  PT.mo (pt_cmpR ho ha hb hm) fun σ H Q ⟨ι, env, st, x, he, hs, hx, q⟩ => op_read (w := w) hr σ H _ (by
    unfold bV at hx
    split at hx
    · rename_i x' e
      cases hx
      exact ⟨ι, env, st, _, he, hs, e, fun v H1 k1 r1 s1 => by cases r1; exact ⟨_, rfl, q H1 k1 s1⟩⟩
    · cases hx)
theorem dxt_cmp {op : CmpOp} {f : F2} {r : R2} (ho : OpR X (compareOp op) r) (hr : OpP w f r) (ha : PE X a (tX w xa)) (hb : PE X b (tX w xb)) (hm : behindInMarks op b = false := by rfl) : PT X (.Compare a [op] [b] pos) (tXB w (xV (xOp f xa xb))) :=
  PT.mo (pt_cmpR ho ha hb hm) fun σ H Q ⟨ι, env, st, R, he, hs, hx, q⟩ => xop_read (w := w) hr σ H _ ⟨ι, env, st, _, he, hs, hx, fun d st1 ι1 v H1 ⟨b, e, hR⟩ g1 r1 s1 => by
    subst e
    cases r1
    exact ⟨b, rfl, q b st1 ι1 H1 hR g1 s1⟩⟩
theorem qLt : OpP w fLt (rI0 fun i j => .bl (decide (i < j))) := qI0 fun i j d h ι H => by cases h; exact .bl _
theorem qGt : OpP w fGt (rI0 fun i j => .bl (decide (i > j))) := qI0 fun i j d h ι H => by cases h; exact .bl _
theorem qGe : OpP w fGe (rI0 fun i j => .bl (decide (i ≥ j))) := qI0 fun i j d h ι H => by cases h; exact .bl _
theorem dt_lt (ha : PE X a (tP w ma)) (hb : PE X b (tP w mb)) : PT X (.Compare a [.Lt] [b] pos) (tBo w (bV (mOp fLt ma mb))) := dt_cmp op_lt qLt ha hb (nomark _)
theorem dt_gt (ha : PE X a (tP w ma)) (hb : PE X b (tP w mb)) : PT X (.Compare a [.Gt] [b] pos) (tBo w (bV (mOp fGt ma mb))) := dt_cmp op_gt qGt ha hb (nomark _)
theorem dt_ge (ha : PE X a (tP w ma)) (hb : PE X b (tP w mb)) : PT X (.Compare a [.GtE] [b] pos) (tBo w (bV (mOp fGe ma mb))) := dt_cmp op_ge qGe ha hb (nomark _)
theorem dt_eq (hu : Room 0 X.A) (ha : PE X a (tP w ma)) (hb : PE X b (tP w mb)) : PT X (.Compare a [.Eq] [b] pos) (tBo w (bV (mOp fEq ma mb))) := dt_cmp (op_eqD hu.units) qEq ha hb (nomark _)
theorem dt_ne (hu : Room 0 X.A) (ha : PE X a (tP w ma)) (hb : PE X b (tP w mb)) : PT X (.Compare a [.NotEq] [b] pos) (tBo w (bV (mOp fNe ma mb))) := dt_cmp (op_neD hu.units) qNe ha hb (nomark _)
theorem dt_nin (hu : Room 0 X.A) (ha : PE X a (tP w ma)) (hb : PE X b (tP w mb)) (hm : behindInMarks .NotIn b = false := by rfl) : PT X (.Compare a [.NotIn] [b] pos) (tBo w (bV (mOp fNotIn ma mb))) := dt_cmp (OpR.or2 (op_notInD (units65 hu)) (op_notInT (units65 hu))) qNotIn ha hb hm
theorem dt_isN (ha : PE X a (tP w ma)) (hb : PE X b (tP w mb)) : PT X (.Compare a [.Is] [b] pos) (tBo w (bV (mOp fIsN ma mb))) := dt_cmp op_isN qIsN ha hb (nomark _)
theorem dt_notN (ha : PE X a (tP w ma)) (hb : PE X b (tP w mb)) : PT X (.Compare a [.IsNot] [b] pos) (tBo w (bV (mOp fNotN ma mb))) := dt_cmp op_notN qNotN ha hb (nomark _)
theorem dxt_lt (ha : PE X a (tX w xa)) (hb : PE X b (tX w xb)) : PT X (.Compare a [.Lt] [b] pos) (tXB w (xV (xOp fLt xa xb))) := dxt_cmp op_lt qLt ha hb (nomark _)
theorem dxt_gt (ha : PE X a (tX w xa)) (hb : PE X b (tX w xb)) : PT X (.Compare a [.Gt] [b] pos) (tXB w (xV (xOp fGt xa xb))) := dxt_cmp op_gt qGt ha hb (nomark _)
theorem dxt_eq (hu : Room 0 X.A) (ha : PE X a (tX w xa)) (hb : PE X b (tX w xb)) : PT X (.Compare a [.Eq] [b] pos) (tXB w (xV (xOp fEq xa xb))) := dxt_cmp (op_eqD hu.units) qEq ha hb (nomark _)
end
/-! ### more operators -/
section
variable {X : Cx} {w : Wd} {pos : Pos} {a b : Expr}
def fPow : F2 := fI fun i j => if 0 ≤ j ∧ j ≤ 64 ∧ 0 ≤ i ∧ i ≤ 1000 then some (.int (i ^ j.toNat)) else none
theorem qPow : OpP w fPow (rI CPow fun i j => .int (i ^ j.toNat)) := qI fun i j d h => by
  split at h
  · rename_i hc
    cases h
    exact ⟨⟨hc.1, by omega, by omega⟩, fun ι H => .int _⟩
  · cases h
theorem dp_pow {ma mb : MP} (ha : PE X a (tP w ma)) (hb : PE X b (tP w mb)) : PE X (.BinOp a .Pow b pos) (tP w (mOp fPow ma mb)) := dp_bin op_pow qPow ha hb
end
end GD
namespace GD
open PySem PySem.Spec PyProof.Rows L2 GX
theorem fxS {w : Ws} {c a : Addr} {ns : List Int} {i : Nat} (h : 0 ≠ i) : ∀ p ∈ (WdS w c a ns).fx, p.1 ≠ i := fun p hp => by
  rw [List.mem_singleton.mp hp]
  exact h
theorem fxSl {w : Ws} {c a : Addr} {ns : List Int} {l : List Nat} (h : ∀ v ∈ l, 0 ≠ v) : ∀ v ∈ l, ∀ p ∈ (WdS w c a ns).fx, p.1 ≠ v := fun v hv => fxS (h v hv)
end GD

set_option Elab.async false
set_option linter.all false
set_option maxRecDepth 100000
set_option maxHeartbeats 4000000
namespace GD
open PySem PySem.Spec PyProof.Rows L2 GX

/-! ## 11. the words that all laws begin with -/
theorem for_inv {t : MT} {body : XS} {st0 : SS} {D0 : DE} (Iv : List D → EV → SS → Prop) (hs : ∀ d ds env st, Iv (d :: ds) env st → ∃ env1, t d env = some env1 ∧ ∀ K : DE, (∀ env st, Iv ds env st → K.nx env st) → (∀ env st, Iv ds env st → K.ct env st) → K.rt = D0.rt → K.bk = D0.nx → body K env1 st)
    (he : ∀ env st, Iv [] env st → D0.nx env st) : ∀ (ds : List D) (env : EV) (st : SS), Iv ds env st → sForGo t body st0 none D0 ds env st
  | [], env, st, h => ⟨trivial, he env st h⟩
  | d :: ds, env, st, h => by
    obtain ⟨env1, h1, h2⟩ := hs d ds env st h
    exact ⟨trivial, env1, h1, h2 _ (fun env st k => for_inv Iv hs he ds env st k) (fun env st k => for_inv Iv hs he ds env st k) rfl rfl⟩
def nI (k : Nat) : D := .int (k : Int)
def dN (l : List Nat) : D := .tup (l.map nI)
def tblD (many : Nat) (rows : List (List Nat)) : D := .tup [.str ("table" : Str), nI many, .tup (rows.map dN)]
theorem intsD0 (n : Nat) : intsD 0 n = (List.range n).map nI := by
  unfold intsD nI
  simp
structure Boxed (st : SS) (n : Nat) : Prop where
  ex : ∃ (dn : Nat) (i : Nat) (ms : List Int), st[n]? = some (.lst [.ref dn, .int (i : Int)]) ∧ dn < n ∧ st[dn]? = some (.lst (ms.map D.int))
structure Ev (n : Nat) (st st1 : SS) : Prop where
  len : st1.length = st.length
  at_ : ∀ m, m ≠ n → st1[m]? = st[m]?
theorem Ev.refl (n : Nat) (st : SS) : Ev n st st := ⟨rfl, fun _ _ => rfl⟩
theorem Ev.trans {n : Nat} {a b c : SS} (h : Ev n a b) (k : Ev n b c) : Ev n a c := ⟨k.len.trans h.len, fun m hm => (k.at_ m hm).trans (h.at_ m hm)⟩
def cellT : XTS := fun ns ds st R => ∃ k : Int, ds = [.int k] ∧ 0 ≤ k ∧ ∀ i : Int, R (.int i) st
def digitsT : XTS := fun ns ds st R => ∃ i j : Nat, ds = [.int i, .int j] ∧ i ≤ j ∧ j ≤ 1000 ∧ ∀ ms : List Int, R (.ref st.length) (st ++ [.lst (ms.map D.int)])
def boxT : XTS := fun ns ds st R => ∃ i j : Nat, ds = [.int i, .int j] ∧ i ≤ j ∧ j ≤ 1000 ∧ ∀ st1 n, st.length ≤ n → st.length ≤ st1.length → (∀ m, m < st.length → st1[m]? = st[m]?) → Boxed st1 n → R (.ref n) st1
def drawT : XT := fun ds st R => ∃ (n : Nat) (m : Int), ds = [.ref n, .int m] ∧ 0 < m ∧ Boxed st n ∧ ∀ (r : Nat) st1, (r : Int) < m → Boxed st1 n → Ev n st st1 → R (nI r) st1
def someT : XT := fun ds st R => ∃ (n many : Nat) (sparse : Int), ds = [.ref n, nI many, .int sparse] ∧ many ≤ 1000 ∧ Boxed st n ∧ ∀ (l : List Nat) st1, l.Pairwise (· < ·) → (∀ x ∈ l, x < many) → Boxed st1 n → Ev n st st1 → R (dN l) st1
def N_law_cell : List Str := [("_law_script" : Str), ("_law_k" : Str)]
def X_law_cell (ns : List Int) : XS := (sSeq (sIf (xbOf (bV (mOp fLt (mVar 1) (mLenS ns)))) (sRet (xOf (mIxS ns (mVar 1)))) sNext) (sRet (xOf (mC (.int 0)))))
def N_law_digits : List Str := [("_law_script" : Str), ("_law_first" : Str), ("_law_last" : Str), ("_law_digits_here" : Str), ("_law_k" : Str), ("_law_cell_here" : Str), ("_law_turn" : Str), ("_law_seed" : Str)]
def X_law_digits (ns : List Int) : XS := (sSeq (sAsg (xNew (xaOf (mLst mNil))) (tgN 3)) (sSeq (sFor (xiOf (iRng2 (mVar 1) (mVar 2))) (tgN 4) (sSeq (sAsg (xCallS cellT ns (xCons (xOf (mVar 4)) xNil)) (tgN 5)) (sSeq (sIf (xbOf (bV (mOp fLt (mVar 5) (mC (.int 0))))) (sAsg (xOf (mOp fSub (mC (.int 1)) (mOp fMul (mC (.int 2)) (mVar 5)))) (tgN 5)) sNext) (sIf (xbOf (bV (mOp fGe (mVar 5) (mOp fPow (mC (.int 10)) (mC (.int 18)))))) (sFor (xiOf (iRng (mC (.int 60)))) (tgN 6) (sIf (xbOf (bV (mOp fGt (mVar 5) (mC (.int 0))))) (sSeq (sAppP (mVar 3) (xOf (mOp fMod (mF1 fInt (mVar 5)) (mC (.int 1000))))) (sAsg (xOf (mOp fDiv (mVar 5) (mC (.int 1000)))) (tgN 5))) sNext)) (sSeq (sAsg (xOf (mOp fMod (mF1 fInt (mOp fAdd (mOp fAdd (mOp fMul (mVar 5) (mC (.int 48271))) (mOp fMul (mVar 4) (mC (.int 69621)))) (mC (.int 11)))) (mC (.int 2147483647)))) (tgN 7)) (sFor (xiOf (iRng (mC (.int 12)))) (tgN 6) (sSeq (sAsg (xOf (mOp fMod (mF1 fInt (mOp fAdd (mOp fAdd (mOp fMul (mVar 7) (mC (.int 16807))) (mOp fMul (mC (.int 7)) (mVar 6))) (mC (.int 1)))) (mC (.int 2147483647)))) (tgN 7)) (sAppP (mVar 3) (xOf (mOp fMod (mF1 fInt (mOp fDiv (mVar 7) (mC (.int 997)))) (mC (.int 1000)))))))))))) (sRet (xOf (mVar 3)))))
def N_law_box : List Str := [("_law_script" : Str), ("_law_first" : Str), ("_law_last" : Str)]
def X_law_box (ns : List Int) : XS := (sRet (xNew (xLst (xCons (xCallS digitsT ns (xCons (xOf (mVar 1)) (xCons (xOf (mVar 2)) xNil))) (xCons (xOf (mC (.int 0))) xNil)))))
def N_law_draw : List Str := [("_law_box_here" : Str), ("_law_many" : Str), ("_law_at" : Str)]
def X_law_draw : XS := (sSeq (sAsg (xOf (mOp fIx (mVar 0) (mC (.int 1)))) (tgN 2)) (sSeq (sSub (xOf (mOp fAdd (mVar 2) (mC (.int 1)))) (mVar 0) (mC (.int 1))) (sSeq (sIf (xbOf (bV (mOp fLt (mVar 2) (mF1 fLen (mOp fIx (mVar 0) (mC (.int 0))))))) (sRet (xOf (mOp fMod (mF1 fInt (mOp fIx (mOp fIx (mVar 0) (mC (.int 0))) (mVar 2))) (mVar 1)))) sNext) (sRet (xOf (mC (.int 0)))))))
def N_law_some : List Str := [("_law_box_here" : Str), ("_law_many" : Str), ("_law_sparse" : Str), ("_law_k" : Str)]
def X_law_some : XS := (sRet (xTupL (xComp (xiOf (iRng (mVar 1))) (tgN 3) (xV (xOp fLt (xCall drawT (xCons (xOf (mVar 0)) (xCons (xOf (mC (.int 6))) xNil))) (xOf (mVar 2)))) (xOf (mVar 3)) [3])))
def N_law_same : List Str := [("_law_actual" : Str), ("_law_expected" : Str), ("_law_k" : Str)]
def R_law_same (F_rec : List D → SS → Option D) : RS := (rSeq (rIf (bV (mF1 (fIs "tuple") (mVar 1))) (rSeq (rIf (bOr (bNot (bV (mF1 (fIs "tuple") (mVar 0)))) (bV (mOp fNe (mF1 fLen (mVar 0)) (mF1 fLen (mVar 1))))) (rRet (mC (.bl false))) rNext) (rSeq (rFor (iRng (mF1 fLen (mVar 1))) (tgN 2) (rIf (bNot (bV (mCall F_rec (mCons (mOp fIx (mVar 0) (mVar 2)) (mCons (mOp fIx (mVar 1) (mVar 2)) mNil))))) (rRet (mC (.bl false))) rNext)) (rRet (mC (.bl true))))) rNext) (rSeq (rIf (bV (mOp fIsN (mVar 1) (mC .non))) (rRet (mOp fIsN (mVar 0) (mC .non))) rNext) (rSeq (rIf (bV (mF1 (fIs "bool") (mVar 1))) (rRet (mAnd (mF1 (fIs "bool") (mVar 0)) (mOp fEq (mVar 0) (mVar 1)))) rNext) (rSeq (rIf (bV (mF1 (fIs "int") (mVar 1))) (rRet (mAnd (mF1 (fIs "int") (mVar 0)) (mAnd (mNot (mF1 (fIs "bool") (mVar 0))) (mOp fEq (mVar 0) (mVar 1))))) rNext) (rRet (mAnd (mF1 (fIs "str") (mVar 0)) (mOp fEq (mVar 0) (mVar 1))))))))
theorem cell_ok (ns : List Int) (ds : List D) (st : SS) (R : D → SS → Prop) (h : cellT ns ds st R) : fnS N_law_cell 2 X_law_cell ns ds st R := by
  obtain ⟨k, rfl, hk, hR⟩ := h
  refine ⟨rfl, ?_⟩
  show X_law_cell ns _ [none, some (.int k)] st
  refine ⟨decide (k < ns.length), rfl, ite2 (fun hb => ?_) fun hb => ⟨_, rfl, hR 0⟩⟩
  have hlt : k < ns.length := of_decide_eq_true hb
  have hkn : k.toNat < ns.length := by omega
  refine ⟨.int ns[k.toNat], ?_, hR _⟩
  have e1 : ixN ns.length k = some k.toNat := by
    unfold ixN
    rw [if_pos hk, if_pos hlt]
  show (match atI ns k with | some k => some (D.int k) | none => none) = _
  unfold atI
  rw [e1]
  show (match ns[k.toNat]? with | some k => some (D.int k) | none => none) = _
  rw [List.getElem?_eq_getElem hkn]
theorem ixN_nat {n i : Nat} (h : i < n) : ixN n (i : Int) = some i := by
  unfold ixN
  rw [if_pos (by omega), if_pos (by omega)]
  simp
theorem atI_nat {α : Type} (xs : List α) (i : Nat) : atI xs (i : Int) = xs[i]? := by
  unfold atI
  by_cases h : i < xs.length
  · rw [ixN_nat h]
    rfl
  · have e : ixN xs.length (i : Int) = none := by
      unfold ixN
      rw [if_pos (by omega), if_neg (by omega)]
    rw [e, List.getElem?_eq_none (by omega)]
    rfl
theorem draw_ok (ds : List D) (st : SS) (R : D → SS → Prop) (h : drawT ds st R) : fnT N_law_draw 2 X_law_draw ds st R := by
  obtain ⟨n, m, rfl, hm, ⟨dn, i, ms, h1, hne, h2⟩, hR⟩ := h
  have hn : n < st.length := (List.getElem?_eq_some_iff.mp h1).1
  refine ⟨rfl, ?_⟩
  show X_law_draw _ [some (.ref n), some (.int m), none] st
  have key : ∀ st' : SS, st'[n]? = some (.lst [.ref dn, .int ((i : Int) + 1)]) → st'[dn]? = some (.lst (ms.map D.int)) → st' = st.set n (.lst [.ref dn, .int ((i : Int) + 1)]) → ∀ r : Nat, (r : Int) < m → R (nI r) st' := fun st' e1 e2 e3 r hr => by
    refine hR r st' hr ⟨dn, i + 1, ms, by rw [e1]; simp, hne, e2⟩ ⟨by rw [e3, List.length_set], fun k hk => by rw [e3, List.getElem?_set_ne (Ne.symm hk)]⟩
  have s1 : (st.set n (.lst [.ref dn, .int ((i : Int) + 1)]))[n]? = some (.lst [.ref dn, .int ((i : Int) + 1)]) := List.getElem?_set_self hn
  have s2 : (st.set n (.lst [.ref dn, .int ((i : Int) + 1)]))[dn]? = some (.lst (ms.map D.int)) := by rw [List.getElem?_set_ne (by omega)]; exact h2
  refine ⟨.int i, by simp [mOp, mVar, mC, fIx, seqOf, h1, atI, ixN], _, rfl, ?_⟩
  refine ⟨.int (i + 1), by simp [mOp, mVar, mC, fAdd, List.set], n, 1, _, 1, rfl, rfl, h1, rfl, ?_⟩
  show sSeq _ _ _ [some (.ref n), some (.int m), some (.int i)] (st.set n (.lst [.ref dn, .int ((i : Int) + 1)]))
  refine ⟨decide ((i : Int) < (ms.map D.int).length), ?_, ite2 (fun hb => ?_) fun hb => ?_⟩
  · simp [bV, mOp, mVar, mF1, mC, fLt, fI, fLen, fIx, seqOf, s1, s2, atI, ixN]
  · have hlt : i < ms.length := by simpa using of_decide_eq_true hb
    refine ⟨nI (ms[i] % m).toNat, ?_, key _ s1 s2 rfl _ (by rw [Int.toNat_of_nonneg (Int.emod_nonneg _ (by omega))]; exact Int.emod_lt_of_pos _ hm)⟩
    have e2 : atI (ms.map D.int) (i : Int) = some (.int ms[i]) := by rw [atI_nat, List.getElem?_map, List.getElem?_eq_getElem hlt]; rfl
    have e3 : (((ms[i] % m).toNat : Nat) : Int) = ms[i] % m := Int.toNat_of_nonneg (Int.emod_nonneg _ (by omega))
    have e4 : atI [D.ref dn, D.int ((i : Int) + 1)] 0 = some (D.ref dn) := rfl
    simp only [mOp, mVar, mF1, mC, fIx, seqOf, s1, s2, e4, e2, List.getElem?_cons_succ, List.getElem?_cons_zero, fInt, fMod, fI, hm, if_true, nI, e3]
  · exact ⟨_, rfl, key _ s1 s2 rfl 0 (by simpa using hm)⟩
theorem some_go {n many : Nat} {sparse : Int} {R0 : D → SS → Prop} {st0 : SS} (hR : ∀ (l : List Nat) st1, l.Pairwise (· < ·) → (∀ x ∈ l, x < many) → Boxed st1 n → Ev n st0 st1 → R0 (dN l) st1) :
    ∀ (ks : List Nat) (st : SS) (done : List Nat), (∀ x ∈ done, x < many) → done.Pairwise (· < ·) → (∀ x ∈ ks, x < many ∧ ∀ y ∈ done, y < x) → ks.Pairwise (· < ·) → Boxed st n → Ev n st0 st →
      xGo (tgN 3) (xV (xOp fLt (xCall drawT (xCons (xOf (mVar 0)) (xCons (xOf (mC (.int 6))) xNil))) (xOf (mVar 2)))) (xOf (mVar 3)) [some (.ref n), some (nI many), some (.int sparse), none] st0 none (ks.map nI) st (fun ys st1 => R0 (.tup (done.map nI ++ ys)) st1)
  | [], st, done, h1, h2, _, _, hB, hE => ⟨trivial, by show R0 (.tup (done.map nI ++ [])) st; rw [List.append_nil]; exact hR done st h2 h1 hB hE⟩
  | k :: ks, st, done, h1, h2, h3, h4, hB, hE => by
    refine ⟨trivial, [some (.ref n), some (nI many), some (.int sparse), some (nI k)], rfl, ?_⟩
    refine ⟨.ref n, rfl, .int 6, rfl, n, 6, rfl, by decide, hB, fun r st1 hr hB1 hE1 => ?_⟩
    refine ⟨.int sparse, rfl, .bl (decide ((r : Int) < sparse)), rfl, _, rfl, ite2 (fun _ => ?_) fun _ => ?_⟩
    · refine ⟨nI k, rfl, ?_⟩
      have hk := List.pairwise_cons.mp h4
      have q := some_go (sparse := sparse) hR ks st1 (done ++ [k]) (fun x hx => ?_) ?_ (fun x hx => ⟨(h3 x (List.mem_cons_of_mem _ hx)).1, fun y hy => ?_⟩) hk.2 hB1 (hE.trans hE1)
      · have e : (fun ys st1 => R0 (.tup ((done ++ [k]).map nI ++ ys)) st1) = fun ys st1 => R0 (.tup (done.map nI ++ (nI k :: ys))) st1 := by
          funext ys st1
          simp
        rw [e] at q
        exact q
      · rcases List.mem_append.mp hx with hx | hx
        · exact h1 x hx
        · rw [List.mem_singleton.mp hx]; exact (h3 k List.mem_cons_self).1
      · rw [List.pairwise_append]
        exact ⟨h2, by simp, fun a ha b hb => by rw [List.mem_singleton.mp hb]; exact (h3 k List.mem_cons_self).2 a ha⟩
      · rcases List.mem_append.mp hy with hy | hy
        · exact (h3 x (List.mem_cons_of_mem _ hx)).2 y hy
        · rw [List.mem_singleton.mp hy]; exact hk.1 x hx
    · exact some_go hR ks st1 done h1 h2 (fun x hx => h3 x (List.mem_cons_of_mem _ hx)) (List.pairwise_cons.mp h4).2 hB1 (hE.trans hE1)
theorem some_ok (ds : List D) (st : SS) (R : D → SS → Prop) (h : someT ds st R) : fnT N_law_some 3 X_law_some ds st R := by
  obtain ⟨n, many, sparse, rfl, hm, hB, hR⟩ := h
  refine ⟨rfl, ?_⟩
  show X_law_some _ [some (.ref n), some (nI many), some (.int sparse), none] st
  refine ⟨intsD 0 many, none, ?_, ?_⟩
  · show iRng (mVar 1) _ st = _
    unfold iRng nI
    simp [mVar]
    omega
  · rw [intsD0]
    have q := some_go (sparse := sparse) (R0 := R) hR (List.range many) st [] (by simp) List.Pairwise.nil (fun x hx => ⟨List.mem_range.mp hx, by simp⟩) List.pairwise_lt_range hB (Ev.refl n st)
    exact q
/-! ### the digits -/
def EnvD (n : Nat) (i j : Int) (env : EV) : Prop := ∃ a b c d, env = [none, some (.int i), some (.int j), some (.ref n), a, b, c, d]
theorem digits_ok (ns : List Int) (ds : List D) (st : SS) (R : D → SS → Prop) (h : digitsT ns ds st R) : fnS N_law_digits 3 X_law_digits ns ds st R := by
  obtain ⟨i, j, rfl, hij, hj, hR⟩ := h
  refine ⟨rfl, ?_⟩
  show X_law_digits ns _ [none, some (.int i), some (.int j), none, none, none, none, none] st
  refine ⟨[], rfl, _, rfl, ?_⟩
  refine ⟨intsD (i : Int) ((j : Int) - i).toNat, none, ?_, ?_⟩
  · show iRng2 (mVar 1) (mVar 2) _ _ = _
    unfold iRng2
    simp only [mVar, List.set, List.getElem?_cons_succ, List.getElem?_cons_zero]
    rw [if_pos ⟨⟨by omega, by omega⟩, by omega, by omega⟩]
  have app : ∀ ms : List Int, (st ++ [Cell.lst (ms.map D.int)])[st.length]? = some (.lst (ms.map D.int)) := fun ms => by simp
  have sets : ∀ (ms : List Int) (k : Int), (st ++ [Cell.lst (ms.map D.int)]).set st.length (.lst (ms.map D.int ++ [.int k])) = st ++ [Cell.lst ((ms ++ [k]).map D.int)] := fun ms k => by simp
  refine for_inv (fun rest env st1 => (∀ d ∈ rest, ∃ k : Nat, d = nI k) ∧ EnvD st.length i j env ∧ ∃ ms : List Int, st1 = st ++ [.lst (ms.map D.int)] ∧ ms.length + 60 * rest.length ≤ 60000) ?_ ?_ _ _ _ ⟨?_, ⟨_, _, _, _, rfl⟩, [], rfl, ?_⟩
  · rintro d rest env st1 ⟨hd, ⟨a, b, c, e, rfl⟩, ms, rfl, hlen⟩
    obtain ⟨k, rfl⟩ := hd d List.mem_cons_self
    have hrest : ∀ d ∈ rest, ∃ k : Nat, d = nI k := fun d h => hd d (List.mem_cons_of_mem _ h)
    rw [List.length_cons] at hlen
    refine ⟨[none, some (.int i), some (.int j), some (.ref st.length), some (nI k), b, c, e], rfl, fun K hnx hct hrt hbk => ?_⟩
    refine ⟨nI k, rfl, (k : Int), rfl, by omega, fun v => ⟨_, rfl, ?_⟩⟩
    have go : ∀ v : Int, sIf (xbOf (bV (mOp fGe (mVar 5) (mOp fPow (mC (.int 10)) (mC (.int 18)))))) (sFor (xiOf (iRng (mC (.int 60)))) (tgN 6) (sIf (xbOf (bV (mOp fGt (mVar 5) (mC (.int 0))))) (sSeq (sAppP (mVar 3) (xOf (mOp fMod (mF1 fInt (mVar 5)) (mC (.int 1000))))) (sAsg (xOf (mOp fDiv (mVar 5) (mC (.int 1000)))) (tgN 5))) sNext)) (sSeq (sAsg (xOf (mOp fMod (mF1 fInt (mOp fAdd (mOp fAdd (mOp fMul (mVar 5) (mC (.int 48271))) (mOp fMul (mVar 4) (mC (.int 69621)))) (mC (.int 11)))) (mC (.int 2147483647)))) (tgN 7)) (sFor (xiOf (iRng (mC (.int 12)))) (tgN 6) (sSeq (sAsg (xOf (mOp fMod (mF1 fInt (mOp fAdd (mOp fAdd (mOp fMul (mVar 7) (mC (.int 16807))) (mOp fMul (mC (.int 7)) (mVar 6))) (mC (.int 1)))) (mC (.int 2147483647)))) (tgN 7)) (sAppP (mVar 3) (xOf (mOp fMod (mF1 fInt (mOp fDiv (mVar 7) (mC (.int 997)))) (mC (.int 1000)))))))) K [none, some (.int i), some (.int j), some (.ref st.length), some (nI k), some (.int v), c, e] (st ++ [.lst (ms.map D.int)]) := by
      intro v
      refine ⟨decide (v ≥ 10 ^ 18), ?_, ite2 (fun _ => ?_) fun _ => ?_⟩
      · rfl
      · refine ⟨intsD 0 60, none, rfl, ?_⟩
        refine for_inv (fun r2 env st1 => (∃ v c e, env = [none, some (.int i), some (.int j), some (.ref st.length), some (nI k), some (.int v), c, e]) ∧ ∃ ms2 : List Int, st1 = st ++ [.lst (ms2.map D.int)] ∧ ms2.length + r2.length + 60 * rest.length ≤ 60000) ?_ ?_ _ _ _ ⟨⟨v, c, e, rfl⟩, ms, rfl, by rw [intsD_len]; omega⟩
        · rintro d2 r2 env st1 ⟨⟨v, c, e, rfl⟩, ms2, rfl, hl2⟩
          rw [List.length_cons] at hl2
          refine ⟨_, rfl, fun K2 hnx2 hct2 hrt2 hbk2 => ?_⟩
          refine ⟨decide (v > 0), rfl, ite2 (fun _ => ?_) fun _ => hnx2 _ _ ⟨⟨_, _, _, rfl⟩, ms2, rfl, by omega⟩⟩
          refine ⟨st.length, _, rfl, app ms2, .int (v % 1000), rfl, _, app ms2, by rw [List.length_map]; omega, ?_⟩
          refine ⟨.int (v / 1000), rfl, _, rfl, ?_⟩
          rw [sets]
          exact hnx2 _ _ ⟨⟨_, _, _, rfl⟩, _, rfl, by rw [List.length_append, List.length_singleton]; omega⟩
        · rintro env st1 ⟨⟨v, c, e, rfl⟩, ms2, rfl, hl2⟩
          exact hnx _ _ ⟨hrest, ⟨_, _, _, _, rfl⟩, ms2, rfl, by simpa using hl2⟩
      · refine ⟨.int ((v * 48271 + (k : Int) * 69621 + 11) % 2147483647), by simp [mOp, mVar, mC, mF1, fInt, fMod, fAdd, fMul, fI, nI], _, rfl, ?_⟩
        refine ⟨intsD 0 12, none, rfl, ?_⟩
        refine for_inv (fun r2 env st1 => (∀ d ∈ r2, ∃ k : Nat, d = nI k) ∧ (∃ s v c, env = [none, some (.int i), some (.int j), some (.ref st.length), some (nI k), some (.int v), c, some (.int s)]) ∧ ∃ ms2 : List Int, st1 = st ++ [.lst (ms2.map D.int)] ∧ ms2.length + r2.length + 60 * rest.length ≤ 60000) ?_ ?_ _ _ _ ⟨?_, ⟨_, v, c, rfl⟩, ms, rfl, by rw [intsD_len]; omega⟩
        · rintro d2 r2 env st1 ⟨hd2, ⟨s, v, c, rfl⟩, ms2, rfl, hl2⟩
          obtain ⟨k2, rfl⟩ := hd2 d2 List.mem_cons_self
          rw [List.length_cons] at hl2
          refine ⟨_, rfl, fun K2 hnx2 hct2 hrt2 hbk2 => ?_⟩
          refine ⟨.int ((s * 16807 + 7 * (k2 : Int) + 1) % 2147483647), by simp [mOp, mVar, mC, mF1, fInt, fMod, fAdd, fMul, fI, nI], _, rfl, ?_⟩
          refine ⟨st.length, _, rfl, app ms2, .int (((s * 16807 + 7 * (k2 : Int) + 1) % 2147483647) / 997 % 1000), rfl, _, app ms2, by rw [List.length_map]; omega, ?_⟩
          rw [sets]
          exact hnx2 _ _ ⟨fun d h => hd2 d (List.mem_cons_of_mem _ h), ⟨_, _, _, rfl⟩, _, rfl, by rw [List.length_append, List.length_singleton]; omega⟩
        · rintro env st1 ⟨_, ⟨s, v, c, rfl⟩, ms2, rfl, hl2⟩
          exact hnx _ _ ⟨hrest, ⟨_, _, _, _, rfl⟩, ms2, rfl, by simpa using hl2⟩
        · intro d hd
          have hd : d ∈ intsD 0 12 := hd
          rw [intsD0] at hd
          obtain ⟨k, _, e⟩ := List.mem_map.mp hd
          exact ⟨k, e.symm⟩
    refine ⟨decide (v < 0), rfl, ite2 (fun _ => ?_) fun _ => go v⟩
    exact ⟨.int (1 - 2 * v), rfl, _, rfl, go _⟩
  · rintro env st1 ⟨_, ⟨a, b, c, e, rfl⟩, ms, rfl, _⟩
    exact ⟨.ref st.length, rfl, hR ms⟩
  · intro d hd
    unfold intsD at hd
    obtain ⟨k, _, rfl⟩ := List.mem_map.mp hd
    exact ⟨i + k, by unfold nI; simp⟩
  · rw [intsD_len]
    simp
    omega
theorem box_ok (ns : List Int) (ds : List D) (st : SS) (R : D → SS → Prop) (h : boxT ns ds st R) : fnS N_law_box 3 X_law_box ns ds st R := by
  obtain ⟨i, j, rfl, hij, hj, hR⟩ := h
  refine ⟨rfl, ?_⟩
  show X_law_box ns _ [none, some (.int i), some (.int j)] st
  refine ⟨.int i, rfl, .int j, rfl, i, j, rfl, hij, hj, fun ms => ?_⟩
  refine ⟨.int 0, rfl, by show 2 ≤ 1000; decide, ?_⟩
  refine hR _ _ (by simp) (by simp) (fun m hm => ?_) ⟨st.length, 0, ms, ?_, ?_, ?_⟩
  · rw [List.append_assoc, List.getElem?_append_left hm]
  · rw [List.getElem?_append_right (Nat.le_refl _), Nat.sub_self]
    rfl
  · simp
  · simp
end GD

set_option Elab.async false
set_option linter.all false
set_option maxRecDepth 100000
set_option maxHeartbeats 4000000
namespace GD
open PySem PySem.Spec PyProof.Rows L2 GX

/-! ## 12. the word that compares -/
def D.fit : Nat → D → Bool
  | _, .non => true
  | _, .bl _ => true
  | _, .int _ => true
  | _, .str x => D.good (.str x)
  | 0, .tup _ => false
  | n + 1, .tup l => decide (l.length ≤ 1000000) && l.all (D.fit n)
  | _, .ref _ => false
def sameB : Nat → D → D → Bool
  | _, a, .non => match a with | .non => true | _ => false
  | _, a, .bl b => match a with | .bl c => c == b | _ => false
  | _, a, .int b => match a with | .int c => decide (c = b) | _ => false
  | _, a, .str b => match a with | .str c => c == b | _ => false
  | 0, _, .tup _ => false
  | n + 1, a, .tup l => match a with | .tup k => decide (k.length = l.length) && (k.zip l).all fun p => sameB n p.1 p.2 | _ => false
  | _, _, .ref _ => false
theorem zip_self {α : Type} : ∀ l : List α, l.zip l = l.map fun x => (x, x)
  | [] => rfl
  | x :: xs => by rw [List.zip_cons_cons, zip_self xs]; rfl
theorem same_refl : ∀ (n : Nat) (d : D), D.fit n d = true → sameB n d d = true
  | _, .non, _ => by unfold sameB; rfl
  | _, .bl b, _ => by unfold sameB; simp
  | _, .int i, _ => by unfold sameB; simp
  | _, .str x, _ => by unfold sameB; simp
  | 0, .tup l, h => by unfold D.fit at h; cases h
  | n + 1, .tup l, h => by
    unfold D.fit at h
    rw [Bool.and_eq_true] at h
    unfold sameB
    simp only [decide_true, Bool.true_and]
    rw [zip_self, List.all_map, List.all_eq_true]
    exact fun x hx => same_refl n x (List.all_eq_true.mp h.2 x hx)
  | _, .ref _, h => by unfold D.fit at h; cases h
def sameFn (n : Nat) : List D → SS → Option D := fun ds _ => match ds with
  | [a, e] => if D.fit n a = true ∧ D.fit n e = true then some (.bl (sameB n a e)) else none
  | _ => none
def sameF : List D → SS → Option D := sameFn 8
theorem sameF_refl {d : D} {st : SS} (h : D.fit 8 d = true) : sameF [d, d] st = some (.bl true) := by
  show (if D.fit 8 d = true ∧ D.fit 8 d = true then some (D.bl (sameB 8 d d)) else none) = _
  rw [if_pos ⟨h, h⟩, same_refl _ _ h]
-- the names: GD11
theorem kk (s T : String) (b : Bool) (h : kitB s T = some b) (st : SS) (d : D) (hd : d.kind st = some s) : fIs T st d = some (.bl b) := by
  unfold fIs
  rw [hd]
  simp only [h]
section
variable {r u : RS} {c : MB} {env e1 : EV} {st : SS} {d : D}
theorem rSeq_nx (h : r env st = some (.nx e1)) : rSeq r u env st = u e1 st := by unfold rSeq; rw [h]
theorem rSeq_rt (h : r env st = some (.rt d)) : rSeq r u env st = some (.rt d) := by unfold rSeq; rw [h]
theorem rIf_t (h : c env st = some true) : rIf c r u env st = r env st := by unfold rIf; rw [h]
theorem rIf_f (h : c env st = some false) : rIf c r u env st = u env st := by unfold rIf; rw [h]
theorem rRet_e {m : MP} (h : m env st = some d) : rRet m env st = some (.rt d) := by unfold rRet; rw [h]
theorem rAsg_e {m : MP} {t : MT} (h : m env st = some d) (ht : t d env = some e1) : rAsg m t env st = some (.nx e1) := by unfold rAsg; rw [h]; simp only [ht]
end
theorem eqI (i j : Int) (st : SS) : fEq st (.int i) (.int j) = some (.bl (decide (i = j))) := rfl
theorem neI (i j : Int) (st : SS) : fNe st (.int i) (.int j) = some (.bl (!decide (i = j))) := rfl
theorem eqB (i j : Bool) (st : SS) : fEq st (.bl i) (.bl j) = some (.bl (i == j)) := by cases i <;> cases j <;> rfl
theorem eqS (i j : Str) (st : SS) (hi : D.good (.str i) = true) (hj : D.good (.str j) = true) : fEq st (.str i) (.str j) = some (.bl (i == j)) := if_pos ⟨hi, hj⟩
theorem isV {s T : String} {b : Bool} (h : kitB s T = some b) {i : Nat} {env : EV} {st : SS} {d : D} (he : env[i]? = some (some d)) (hd : d.kind st = some s) : mF1 (fIs T) (mVar i) env st = some (.bl b) := by
  unfold mF1 mVar
  simp only [he]
  exact kk s T b h st d hd
theorem isVb {s T : String} {b : Bool} (h : kitB s T = some b) {i : Nat} {env : EV} {st : SS} {d : D} (he : env[i]? = some (some d)) (hd : d.kind st = some s) : bV (mF1 (fIs T) (mVar i)) env st = some b := by
  unfold bV
  rw [isV h he hd]
theorem k1 : kitB "NoneType" "tuple" = some false := by decide +kernel
theorem k2 : kitB "bool" "tuple" = some false := by decide +kernel
theorem k3 : kitB "int" "tuple" = some false := by decide +kernel
theorem k4 : kitB "str" "tuple" = some false := by decide +kernel
theorem k5 : kitB "tuple" "tuple" = some true := by decide +kernel
theorem k11 : kitB "NoneType" "bool" = some false := by decide +kernel
theorem k12 : kitB "bool" "bool" = some true := by decide +kernel
theorem k13 : kitB "int" "bool" = some false := by decide +kernel
theorem k14 : kitB "str" "bool" = some false := by decide +kernel
theorem k15 : kitB "tuple" "bool" = some false := by decide +kernel
theorem k21 : kitB "NoneType" "int" = some false := by decide +kernel
theorem k22 : kitB "bool" "int" = some true := by decide +kernel
theorem k23 : kitB "int" "int" = some true := by decide +kernel
theorem k24 : kitB "str" "int" = some false := by decide +kernel
theorem k25 : kitB "tuple" "int" = some false := by decide +kernel
theorem k31 : kitB "NoneType" "str" = some false := by decide +kernel
theorem k32 : kitB "bool" "str" = some false := by decide +kernel
theorem k33 : kitB "int" "str" = some false := by decide +kernel
theorem k34 : kitB "str" "str" = some true := by decide +kernel
theorem k35 : kitB "tuple" "str" = some false := by decide +kernel
theorem mAnd_t {a b : MP} {env : EV} {st : SS} (h : a env st = some (.bl true)) : mAnd a b env st = b env st := by unfold mAnd; rw [h]
theorem mAnd_f {a b : MP} {env : EV} {st : SS} (h : a env st = some (.bl false)) : mAnd a b env st = some (.bl false) := by unfold mAnd; rw [h]
theorem same_loop {n : Nat} {k l : List D} {st : SS} (hk : ∀ x ∈ k, D.fit n x = true) (hl : ∀ x ∈ l, D.fit n x = true) (hlen : k.length = l.length) :
    ∀ (m i : Nat) (x : Option D), i + m = l.length → rForGo (tgN 2) (rIf (bNot (bV (mCall (sameFn n) (mCons (mOp fIx (mVar 0) (mVar 2)) (mCons (mOp fIx (mVar 1) (mVar 2)) mNil))))) (rRet (mC (.bl false))) rNext) st ((List.range' i m).map nI) [some (.tup k), some (.tup l), x] =
      some (if ((k.drop i).zip (l.drop i)).all (fun p => sameB n p.1 p.2) = true then .nx [some (.tup k), some (.tup l), if m = 0 then x else some (nI (i + m - 1))] else .rt (.bl false))
  | 0, i, x, h => by
    have e : l.drop i = [] := List.drop_eq_nil_of_le (by omega)
    rw [e, List.zip_nil_right]
    rfl
  | m + 1, i, x, h => by
    have hi : i < l.length := by omega
    have hik : i < k.length := by omega
    have e1 : ∀ (ds : List D) (hd : i < ds.length), atI ds (i : Int) = some ds[i] := fun ds hd => by rw [atI_nat, List.getElem?_eq_getElem hd]
    have ev : bNot (bV (mCall (sameFn n) (mCons (mOp fIx (mVar 0) (mVar 2)) (mCons (mOp fIx (mVar 1) (mVar 2)) mNil)))) [some (.tup k), some (.tup l), some (nI i)] st = some (!sameB n k[i] l[i]) := by
      have f1 : D.fit n k[i] = true := hk _ (List.getElem_mem _)
      have f2 : D.fit n l[i] = true := hl _ (List.getElem_mem _)
      simp [bNot, bV, mCall, mCons, mNil, mOp, mVar, fIx, seqOf, nI, e1 k hik, e1 l hi, sameFn, f1, f2]
    rw [List.range'_succ, List.map_cons, rForGo]
    show (match (match rIf _ _ _ [some (.tup k), some (.tup l), some (nI i)] st with | some (.nx e) => _ | some (.ct e) => _ | some (.bk e) => _ | some (.rt d) => _ | none => _ : Option Rs) with | x => x) = _
    rw [List.drop_eq_getElem_cons hi, List.drop_eq_getElem_cons hik, List.zip_cons_cons, List.all_cons]
    cases hs : sameB n k[i] l[i] with
    | false =>
      rw [hs] at ev
      rw [rIf_t ev]
      rfl
    | true =>
      rw [hs] at ev
      rw [rIf_f ev]
      have q := same_loop (st := st) hk hl hlen m (i + 1) (some (nI i)) (by omega)
      simp only [rNext, Bool.true_and]
      rw [q]
      by_cases hm : m = 0
      · subst hm
        simp
      · simp [hm]
        try (have : i + 1 + m - 1 = i + (m + 1) - 1 := by omega)
        try rw [this]
        try rfl
theorem same_step {n : Nat} {F : List D → SS → Option D} (hF : ∀ m, n = m + 1 → F = sameFn m) (ds : List D) (st : SS) (d : D) (h : sameFn n ds st = some d) : fnR N_law_same 2 (R_law_same F) ds st = some d := by
  match ds, h with
  | [a, e], h =>
  have h : (if D.fit n a = true ∧ D.fit n e = true then some (D.bl (sameB n a e)) else none) = some d := h
  split at h
  · rename_i hf
    cases h
    obtain ⟨fa, fe⟩ := hf
    have key : R_law_same F [some a, some e, none] st = some (.rt (.bl (sameB n a e))) := by
      unfold R_law_same
      have isN : ∀ {x y : D}, fIsN st x .non = some (.bl x.isN) := rfl
      cases e with
      | tup l =>
       cases n with
       | zero => unfold D.fit at fe; cases fe
       | succ n =>
        rw [hF n rfl]
        have c1 := isVb (st := st) (i := 1) (env := [some a, some (.tup l), none]) k5 rfl rfl
        cases a with
        | tup k =>
          refine rSeq_rt ((rIf_t c1).trans ?_)
          have c2 := isVb (st := st) (i := 0) (env := [some (.tup k), some (.tup l), none]) k5 rfl rfl
          by_cases hlen : k.length = l.length
          · have c3 : bOr (bNot (bV (mF1 (fIs "tuple") (mVar 0)))) (bV (mOp fNe (mF1 fLen (mVar 0)) (mF1 fLen (mVar 1)))) [some (.tup k), some (.tup l), none] st = some false := by
              have c4 : bV (mOp fNe (mF1 fLen (mVar 0)) (mF1 fLen (mVar 1))) [some (.tup k), some (.tup l), none] st = some false := by
                simp [bV, mOp, mF1, mVar, fLen, seqOf, neI, hlen]
              unfold bOr bNot
              rw [c2]
              exact c4
            refine (rSeq_nx (rIf_f c3)).trans ?_
            unfold D.fit at fa fe
            rw [Bool.and_eq_true] at fa fe
            have hk := List.all_eq_true.mp fa.2
            have hl := List.all_eq_true.mp fe.2
            have hle : l.length ≤ 1000000 := of_decide_eq_true fe.1
            have loop := same_loop (st := st) hk hl hlen l.length 0 none (by simp)
            have it : iRng (mF1 fLen (mVar 1)) [some (.tup k), some (.tup l), none] st = some ((List.range' 0 l.length).map nI, none) := by
              have e : iRng (mF1 fLen (mVar 1)) [some (.tup k), some (.tup l), none] st = if (l.length : Int) ≤ 1000000 ∧ -1000000 ≤ (l.length : Int) then some (intsD 0 ((l.length : Int)).toNat, none) else none := rfl
              rw [e, if_pos ⟨by omega, by omega⟩, intsD0, ← List.range_eq_range']
              rfl
            have f : ∀ (r : RS), rFor (iRng (mF1 fLen (mVar 1))) (tgN 2) r [some (.tup k), some (.tup l), none] st = rForGo (tgN 2) r st ((List.range' 0 l.length).map nI) [some (.tup k), some (.tup l), none] := fun r => by
              unfold rFor
              rw [it]
            have sB : sameB (n + 1) (.tup k) (.tup l) = (k.zip l).all fun p => sameB n p.1 p.2 := by
              show (decide (k.length = l.length) && _) = _
              rw [decide_eq_true hlen, Bool.true_and]
            rw [sB]
            rw [List.drop_zero, List.drop_zero] at loop
            cases hz : (k.zip l).all fun p => sameB n p.1 p.2 with
            | true =>
              rw [hz] at loop
              exact (rSeq_nx ((f _).trans loop)).trans rfl
            | false =>
              rw [hz] at loop
              exact rSeq_rt ((f _).trans loop)
          · have c3 : bOr (bNot (bV (mF1 (fIs "tuple") (mVar 0)))) (bV (mOp fNe (mF1 fLen (mVar 0)) (mF1 fLen (mVar 1)))) [some (.tup k), some (.tup l), none] st = some true := by
              have c4 : bV (mOp fNe (mF1 fLen (mVar 0)) (mF1 fLen (mVar 1))) [some (.tup k), some (.tup l), none] st = some true := by
                have : ¬ ((k.length : Int) = (l.length : Int)) := by omega
                simp [bV, mOp, mF1, mVar, fLen, seqOf, neI, this, hlen]
              unfold bOr bNot
              rw [c2]
              exact c4
            refine (rSeq_rt ((rIf_t c3).trans (rRet_e rfl))).trans ?_
            show _ = some (Rs.rt (.bl (decide (k.length = l.length) && _)))
            rw [decide_eq_false hlen]
            rfl
        | ref m => cases n <;> simp [D.fit] at fa
        | non => exact rSeq_rt ((rIf_t c1).trans (rSeq_rt ((rIf_t (by unfold bOr bNot; rw [isVb (i := 0) k1 rfl rfl]; rfl)).trans (rRet_e rfl))))
        | bl b => exact rSeq_rt ((rIf_t c1).trans (rSeq_rt ((rIf_t (by unfold bOr bNot; rw [isVb (i := 0) k2 rfl rfl]; rfl)).trans (rRet_e rfl))))
        | int b => exact rSeq_rt ((rIf_t c1).trans (rSeq_rt ((rIf_t (by unfold bOr bNot; rw [isVb (i := 0) k3 rfl rfl]; rfl)).trans (rRet_e rfl))))
        | str b => exact rSeq_rt ((rIf_t c1).trans (rSeq_rt ((rIf_t (by unfold bOr bNot; rw [isVb (i := 0) k4 rfl rfl]; rfl)).trans (rRet_e rfl))))
      | ref m => cases n <;> simp [D.fit] at fe
      | non =>
        refine (rSeq_nx (rIf_f (isVb (i := 1) k1 rfl rfl))).trans ?_
        refine rSeq_rt ((rIf_t rfl).trans (rRet_e ?_))
        cases a <;> cases n <;> rfl
      | bl b =>
        refine (rSeq_nx (rIf_f (isVb (i := 1) k2 rfl rfl))).trans ?_
        refine (rSeq_nx (rIf_f rfl)).trans ?_
        refine rSeq_rt ((rIf_t (isVb (i := 1) k12 rfl rfl)).trans (rRet_e ?_))
        cases a with
        | bl c => exact ((mAnd_t (isV (i := 0) k12 rfl rfl)).trans (eqB c b st)).trans (by cases n <;> rfl)
        | non => exact (mAnd_f (isV (i := 0) k11 rfl rfl)).trans (by cases n <;> rfl)
        | int c => exact (mAnd_f (isV (i := 0) k13 rfl rfl)).trans (by cases n <;> rfl)
        | str c => exact (mAnd_f (isV (i := 0) k14 rfl rfl)).trans (by cases n <;> rfl)
        | tup c => exact (mAnd_f (isV (i := 0) k15 rfl rfl)).trans (by cases n <;> rfl)
        | ref m => cases n <;> simp [D.fit] at fa
      | int b =>
        refine (rSeq_nx (rIf_f (isVb (i := 1) k3 rfl rfl))).trans ?_
        refine (rSeq_nx (rIf_f rfl)).trans ?_
        refine (rSeq_nx (rIf_f (isVb (i := 1) k13 rfl rfl))).trans ?_
        refine rSeq_rt ((rIf_t (isVb (i := 1) k23 rfl rfl)).trans (rRet_e ?_))
        have nb : ∀ (x : D) (r : Bool), mF1 (fIs "bool") (mVar 0) [some x, some (.int b), none] st = some (.bl r) → mNot (mF1 (fIs "bool") (mVar 0)) [some x, some (.int b), none] st = some (.bl (!r)) := fun x r h => by unfold mNot; rw [h]
        cases a with
        | int c => exact ((mAnd_t (isV (i := 0) k23 rfl rfl)).trans ((mAnd_t (nb _ _ (isV (i := 0) k13 rfl rfl))).trans (eqI c b st))).trans (by cases n <;> rfl)
        | bl c => exact ((mAnd_t (isV (i := 0) k22 rfl rfl)).trans (mAnd_f (nb _ _ (isV (i := 0) k12 rfl rfl)))).trans (by cases n <;> rfl)
        | non => exact (mAnd_f (isV (i := 0) k21 rfl rfl)).trans (by cases n <;> rfl)
        | str c => exact (mAnd_f (isV (i := 0) k24 rfl rfl)).trans (by cases n <;> rfl)
        | tup c => exact (mAnd_f (isV (i := 0) k25 rfl rfl)).trans (by cases n <;> rfl)
        | ref m => cases n <;> simp [D.fit] at fa
      | str b =>
        refine (rSeq_nx (rIf_f (isVb (i := 1) k4 rfl rfl))).trans ?_
        refine (rSeq_nx (rIf_f rfl)).trans ?_
        refine (rSeq_nx (rIf_f (isVb (i := 1) k14 rfl rfl))).trans ?_
        refine (rSeq_nx (rIf_f (isVb (i := 1) k24 rfl rfl))).trans ?_
        refine rRet_e ?_
        cases a with
        | str c => exact ((mAnd_t (isV (i := 0) k34 rfl rfl)).trans (eqS c b st (by unfold D.fit at fa; exact fa) (by unfold D.fit at fe; exact fe))).trans (by cases n <;> rfl)
        | non => exact (mAnd_f (isV (i := 0) k31 rfl rfl)).trans (by cases n <;> rfl)
        | bl c => exact (mAnd_f (isV (i := 0) k32 rfl rfl)).trans (by cases n <;> rfl)
        | int c => exact (mAnd_f (isV (i := 0) k33 rfl rfl)).trans (by cases n <;> rfl)
        | tup c => exact (mAnd_f (isV (i := 0) k35 rfl rfl)).trans (by cases n <;> rfl)
        | ref m => cases n <;> simp [D.fit] at fa
    show (if 2 = 2 then (match R_law_same F [some a, some e, none] st with | some (.rt d) => if D.lo st.length d = true then some d else none | some (.nx _) => some .non | _ => none) else none) = _
    rw [key]
    rfl
  · cases h
theorem DefP.imp {P : Program} {wl : World} {w : Ws} {mg : Str → Option Value} {k : Nat} {x : Str} {F F' : List D → SS → Option D} (c : DefP P wl w mg k x F) (h : ∀ ds st d, F' ds st = some d → F ds st = some d) : DefP P wl w mg k x F' := by
  obtain ⟨f, fd, ps, hF, r⟩ := c.ex
  exact ⟨f, fd, ps, hF.imp fun vs H Q E ⟨ι, st, ds, d, r, s, hd, q⟩ => ⟨ι, st, ds, d, r, s, h _ _ _ hd, q⟩, r⟩
theorem DefC.none {P : Program} {wl : World} {w : Ws} {mg : Str → Option Value} {x : Str} {st : Stmt} {N ps : List Str} {k : Nat} (F : DefC w mg x st) (S : FnScope N ps (defScope st))
    (hb : ∀ (kV doc pm : Value) (an : Option Addr) (cdv ct : Value) (us : List Value), us.length = ps.length → bindArgs (PySem.W.fnOf x x (defArgs st) (defBody st) (defScope st) .none kV doc pm an cdv ct) ⟨us, []⟩ = pure (ps.zip us)) : DefP P wl w mg (k + 1) x (fun _ _ => Option.none) := by
  have q : DefX P wl w mg (k + 1) x (fnT N ps.length fun _ _ _ => False) := DefC.x F S hb fun f c A outer s H E hr hf => PSs.mo pss_never fun E σ H ⟨_, _, _, _, _, _, h, _⟩ => h.elim
  exact q.toP fun ds st d h => by cases h
/-- the comparing word, to the depth that all laws need; step: its walk -/
theorem same_def {P : Program} {wl : World} {w : Ws} {mg : Str → Option Value} (step : ∀ {k : Nat} {F : List D → SS → Option D}, DefP P wl w mg (k + 1) "_law_same" F → DefP P wl w mg (k + 2) "_law_same" (fnR N_law_same 2 (R_law_same F)))
    (base : DefP P wl w mg 1 "_law_same" fun _ _ => Option.none) : DefP P wl w mg 12 "_law_same" sameF := by
  have all : ∀ n, DefP P wl w mg (n + 2) "_law_same" (sameFn n) := by
    intro n
    induction n with
    | zero => exact DefP.imp (step base) fun ds st d h => same_step (n := 0) (fun m e => by cases e) ds st d h
    | succ n ih => exact DefP.imp (step (k := n + 1) ih) fun ds st d h => same_step (n := n + 1) (fun m e => by cases e; rfl) ds st d h
  exact (all 8).mono (by decide)
end GD

set_option Elab.async false
set_option linter.all false
set_option maxRecDepth 100000
set_option maxHeartbeats 4000000
namespace GD
open PySem PySem.Spec PyProof.Rows L2 GX
/-! ## 13. computing the mirrors -/
theorem fnR_rt {N : List Str} {n : Nat} {r : RS} {ds : List D} {st : SS} {d : D} (hl : ds.length = n) (h : r (startE N ds) st = some (.rt d)) (lo : D.lo st.length d = true) : fnR N n r ds st = some d := by
  unfold fnR
  rw [if_pos hl, h]
  show (if D.lo st.length d = true then some d else none) = _
  rw [if_pos lo]
theorem allGo_map {α : Type} {t : MT} {b : MB} {m : MP} {env : EV} {st : SS} {f : α → D} {p : α → Bool} : ∀ (l : List α), (∀ a ∈ l, ∃ env1, t (f a) env = some env1 ∧ b env1 st = some true ∧ m env1 st = some (.bl (p a))) → allGo t b m env st false (l.map f) = some (l.all p)
  | [], _ => rfl
  | a :: l, h => by
    obtain ⟨env1, h1, h2, h3⟩ := h a List.mem_cons_self
    rw [List.map_cons, allGo, h1]
    simp only [h2, h3]
    rw [allGo_map l fun a ha => h a (List.mem_cons_of_mem _ ha), List.all_cons]
    cases p a <;> rfl
theorem fGo_map {α : Type} {t : MT} {b : MB} {m : MP} {env : EV} {st : SS} {f : α → D} {p : α → Bool} {g : α → D} : ∀ (l : List α), (∀ a ∈ l, ∃ env1, t (f a) env = some env1 ∧ b env1 st = some (p a) ∧ (p a = true → m env1 st = some (g a))) → fGo t b m env st (l.map f) = some ((l.filter p).map g)
  | [], _ => rfl
  | a :: l, h => by
    obtain ⟨env1, h1, h2, h3⟩ := h a List.mem_cons_self
    rw [List.map_cons, fGo, h1]
    simp only [h2]
    have q := fGo_map l fun a ha => h a (List.mem_cons_of_mem _ ha)
    cases hp : p a with
    | true =>
      simp only [h3 hp]
      rw [q, List.filter_cons_of_pos hp]
      rfl
    | false =>
      simp only
      rw [q, List.filter_cons_of_neg (by rw [hp]; decide)]
theorem lo_nI (n k : Nat) : D.lo n (nI k) = true := rfl
theorem lo_map {α : Type} {n : Nat} {f : α → D} (h : ∀ a, D.lo n (f a) = true) : ∀ l : List α, D.loAll n (l.map f) = true
  | [] => rfl
  | a :: l => by rw [List.map_cons, D.loAll, h a, lo_map h l]; rfl
theorem lo_dN (n : Nat) (l : List Nat) : D.lo n (dN l) = true := by unfold dN D.lo; exact lo_map (lo_nI n) l
theorem pys_nI : ∀ l : List Nat, D.pys (l.map nI) = l.map fun (k : Nat) => PyData.int (k : Int)
  | [] => rfl
  | a :: l => by rw [List.map_cons, D.pys, pys_nI l]; rfl
theorem imm_nI : ∀ l : List Nat, D.imms (l.map nI) = true
  | [] => rfl
  | a :: l => by rw [List.map_cons, D.imms, imm_nI l]; rfl
theorem lay_ints : ∀ l : List Nat, PyData.canLayAll0 (l.map fun (k : Nat) => PyData.int (k : Int)) = true
  | [] => rfl
  | a :: l => by rw [List.map_cons, PyData.canLayAll0, lay_ints l]; rfl
theorem dep_ints : ∀ l : List Nat, PyData.depthAll (l.map fun (k : Nat) => PyData.int (k : Int)) ≤ 1
  | [] => by unfold PyData.depthAll; decide
  | a :: l => by
    have q := dep_ints l
    rw [List.map_cons, PyData.depthAll]
    have e : PyData.depth (PyData.int (a : Int)) ≤ 1 := by unfold PyData.depth; decide
    omega
theorem good_dN (l : List Nat) : D.good (dN l) = true := by
  unfold D.good dN D.imm D.py SeqAt.shaped
  rw [imm_nI, pys_nI, Bool.true_and, Bool.and_eq_true]
  refine ⟨?_, decide_eq_true ?_⟩
  · unfold PyData.canLay0; exact lay_ints l
  · have := dep_ints l
    unfold PyData.depth
    omega
theorem good_nI (k : Nat) : D.good (nI k) = true := rfl
theorem inD_nI (k : Nat) (l : List Nat) : inD (nI k) (l.map nI) = l.contains k := by
  unfold inD
  rw [pys_nI, List.any_map]
  induction l with
  | nil => rfl
  | cons a l ih =>
    rw [List.any_cons, List.contains_cons, ih]
    congr 1
    show ((a : Int) == (k : Int)) = (k == a)
    rw [Bool.eq_iff_iff, beq_iff_eq, beq_iff_eq]
    constructor <;> intro h <;> omega
theorem fIn_nI (st : SS) (k : Nat) (l : List Nat) : fIn st (nI k) (dN l) = some (.bl (l.contains k)) := by
  have g : D.good (.tup (l.map nI)) = true := good_dN l
  show (if D.good (nI k) = true ∧ D.good (.tup (l.map nI)) = true then some (D.bl (inD (nI k) (l.map nI))) else none) = _
  rw [if_pos ⟨good_nI k, g⟩, inD_nI]
theorem fNotIn_nI (st : SS) (k : Nat) (l : List Nat) : fNotIn st (nI k) (dN l) = some (.bl (!l.contains k)) := by
  have g : D.good (.tup (l.map nI)) = true := good_dN l
  show (if D.good (nI k) = true ∧ D.good (.tup (l.map nI)) = true then some (D.bl (!inD (nI k) (l.map nI))) else none) = _
  rw [if_pos ⟨good_nI k, g⟩, inD_nI]
theorem fIx_map {α : Type} (st : SS) (f : α → D) (l : List α) (i : Nat) {a : α} (h : l[i]? = some a) : fIx st (.tup (l.map f)) (nI i) = some (f a) := by
  show atI (l.map f) (i : Int) = _
  rw [atI_nat, List.getElem?_map, h]
  rfl
theorem rowD (rows : List (List Nat)) {i : Nat} (h : i < rows.length) : rows[i]? = some (rows.getD i []) := by
  rw [List.getD_eq_getElem?_getD, List.getElem?_eq_getElem h]
  rfl
theorem enumD_rows (rows : List (List Nat)) : enumD (rows.map dN) = (List.range rows.length).map fun i => .tup [nI i, dN (rows.getD i [])] := by
  apply List.ext_getElem?
  intro i
  by_cases h : i < rows.length
  · rw [enumD_get (d := dN (rows.getD i [])) (by rw [List.getElem?_map, rowD rows h]; rfl), List.getElem?_map, List.getElem?_range h]
    rfl
  · rw [List.getElem?_eq_none (by rw [enumD_len, List.length_map]; omega), List.getElem?_eq_none (by simp; omega)]
theorem iRng_nat {m : MP} {env : EV} {st : SS} {n : Nat} (h : m env st = some (nI n)) (hn : n ≤ 1000000) : iRng m env st = some ((List.range n).map nI, none) := by
  unfold iRng
  rw [h]
  show (if (n : Int) ≤ 1000000 ∧ -1000000 ≤ (n : Int) then some (intsD 0 ((n : Int)).toNat, none) else none) = _
  rw [if_pos ⟨by omega, by omega⟩, intsD0]
  rfl
theorem fit_dN {l : List Nat} (h : l.length ≤ 1000000) (n : Nat) : D.fit (n + 1) (dN l) = true := by
  unfold dN D.fit
  rw [Bool.and_eq_true, List.length_map]
  refine ⟨decide_eq_true h, ?_⟩
  rw [List.all_map, List.all_eq_true]
  intro x _
  show D.fit n (nI x) = true
  cases n <;> rfl
theorem fit_rows {rows : List (List Nat)} (h : rows.length ≤ 1000000) (h2 : ∀ r ∈ rows, r.length ≤ 1000000) (n : Nat) : D.fit (n + 2) (.tup (rows.map dN)) = true := by
  unfold D.fit
  rw [Bool.and_eq_true, List.length_map]
  refine ⟨decide_eq_true h, ?_⟩
  rw [List.all_map, List.all_eq_true]
  exact fun x hx => fit_dN (h2 x hx) n
theorem fit_tbl {many : Nat} {rows : List (List Nat)} (h : rows.length ≤ 1000000) (h2 : ∀ r ∈ rows, r.length ≤ 1000000) (n : Nat) : D.fit (n + 3) (tblD many rows) = true := by
  unfold tblD D.fit
  rw [List.all_cons, List.all_cons, List.all_cons, fit_rows h h2 n]
  have : D.fit (n + 2) (.str ("table" : Str)) = true := by unfold D.fit; decide +kernel
  rw [this]
  rfl
section
variable {env : EV} {st : SS} {d x y : D} {ds : List D} {m : MP} {r : ML}
theorem mCons_e (h : m env st = some d) (k : r env st = some ds) : mCons m r env st = some (d :: ds) := by unfold mCons; rw [h, k]
theorem mCons1 (h : m env st = some d) : mCons m mNil env st = some [d] := mCons_e h rfl
theorem mCall_e {F : List D → SS → Option D} (h : r env st = some ds) : mCall F r env st = F ds st := by unfold mCall; rw [h]
theorem mCall2 {F : List D → SS → Option D} {m2 : MP} (h : m env st = some x) (k : m2 env st = some y) : mCall F (mCons m (mCons m2 mNil)) env st = F [x, y] st := mCall_e (mCons_e h (mCons1 k))
theorem mOp_e {f : F2} {a b : MP} (h : a env st = some x) (k : b env st = some y) : mOp f a b env st = f st x y := by unfold mOp; rw [h, k]
theorem bV_e {b : Bool} (h : m env st = some (.bl b)) : bV m env st = some b := by unfold bV; rw [h]
theorem bNot_e {c : MB} {b : Bool} (h : c env st = some b) : bNot c env st = some (!b) := by unfold bNot; rw [h]
theorem mComp_e {mi : MI} {t : MT} {b : MB} {own : List Nat} {ro : Option Nat} (h : mi env st = some (ds, ro)) : mComp mi t b m own env st = fGo t b m (ewipe env own) st ds := by unfold mComp; rw [h]
theorem mGenT_e {mi : MI} {t : MT} {b : MB} {own : List Nat} {es : List D} (h : mComp mi t b m own env st = some es) : mGenT mi t b m own env st = some (.tup es) := by unfold mGenT; rw [h]
theorem mAll_e {sa : Bool} {mi : MI} {t : MT} {b : MB} {own : List Nat} {ro : Option Nat} {c : Bool} (h : mi env st = some (ds, ro)) (k : allGo t b m (ewipe env own) st sa ds = some c) : mAll sa mi t b m own env st = some (.bl c) := by unfold mAll; rw [h]; simp only [k]
theorem mLenL_e (h : r env st = some ds) : mLenL r env st = some (.int ds.length) := by unfold mLenL; rw [h]
theorem mTupL_e (h : r env st = some ds) : mTupL r env st = some (.tup ds) := by unfold mTupL; rw [h]
theorem mTup_e (h : r env st = some ds) (hl : ds.length ≤ 1000) : mTup r env st = some (.tup ds) := by unfold mTup; rw [h]; exact if_pos hl
theorem iSeq_dN {l : List Nat} (h : m env st = some (dN l)) : iSeq m env st = some (l.map nI, none) := by unfold iSeq; rw [h]; rfl
end
/-! ### the sets of a table -/
def isPart (a b : List Nat) : Bool := a.all fun k => b.contains k
def commonM (many : Nat) (rows : List (List Nat)) (things : List Nat) : List Nat := (List.range many).filter fun m => things.all fun g => (rows.getD g []).contains m
def havingM (rows : List (List Nat)) (marks : List Nat) : List Nat := (List.range rows.length).filter fun g => isPart marks (rows.getD g [])
def closureM (many : Nat) (rows : List (List Nat)) (marks : List Nat) : List Nat := commonM many rows (havingM rows marks)
theorem isPart_iff {a b : List Nat} : isPart a b = true ↔ ∀ k ∈ a, k ∈ b := by
  unfold isPart
  rw [List.all_eq_true]
  simp
theorem mem_common {many : Nat} {rows : List (List Nat)} {things : List Nat} {m : Nat} : m ∈ commonM many rows things ↔ m < many ∧ ∀ g ∈ things, m ∈ rows.getD g [] := by
  unfold commonM
  rw [List.mem_filter, List.mem_range, List.all_eq_true]
  simp
theorem mem_having {rows : List (List Nat)} {marks : List Nat} {g : Nat} : g ∈ havingM rows marks ↔ g < rows.length ∧ ∀ m ∈ marks, m ∈ rows.getD g [] := by
  unfold havingM
  rw [List.mem_filter, List.mem_range, isPart_iff]
theorem sorted_ext : ∀ {a b : List Nat}, a.Pairwise (· < ·) → b.Pairwise (· < ·) → (∀ k, k ∈ a ↔ k ∈ b) → a = b
  | [], [], _, _, _ => rfl
  | [], y :: b, _, _, h => absurd ((h y).mpr List.mem_cons_self) (by simp)
  | x :: a, [], _, _, h => absurd ((h x).mp List.mem_cons_self) (by simp)
  | x :: a, y :: b, ha, hb, h => by
    have ha' := List.pairwise_cons.mp ha
    have hb' := List.pairwise_cons.mp hb
    have hxy : x = y := by
      rcases List.mem_cons.mp ((h x).mp List.mem_cons_self) with e | e
      · exact e
      · rcases List.mem_cons.mp ((h y).mpr List.mem_cons_self) with e2 | e2
        · exact e2.symm
        · have h1 := hb'.1 x e
          have h2 := ha'.1 y e2
          omega
    subst hxy
    congr 1
    refine sorted_ext ha'.2 hb'.2 fun k => ⟨fun hk => ?_, fun hk => ?_⟩
    · rcases List.mem_cons.mp ((h k).mp (List.mem_cons_of_mem _ hk)) with e | e
      · subst e; exact absurd (ha'.1 _ hk) (Nat.lt_irrefl _)
      · exact e
    · rcases List.mem_cons.mp ((h k).mpr (List.mem_cons_of_mem _ hk)) with e | e
      · subst e; exact absurd (hb'.1 _ hk) (Nat.lt_irrefl _)
      · exact e
theorem sorted_filter (n : Nat) (p : Nat → Bool) : ((List.range n).filter p).Pairwise (· < ·) := List.Pairwise.filter _ List.pairwise_lt_range
theorem common_sorted (many : Nat) (rows : List (List Nat)) (t : List Nat) : (commonM many rows t).Pairwise (· < ·) := sorted_filter _ _
section
variable {many : Nat} {rows : List (List Nat)} {marks more things : List Nat}
theorem having_anti (h : ∀ k ∈ marks, k ∈ more) {g : Nat} (hg : g ∈ havingM rows more) : g ∈ havingM rows marks := by
  rw [mem_having] at hg ⊢
  exact ⟨hg.1, fun m hm => hg.2 m (h m hm)⟩
theorem common_anti {a b : List Nat} (h : ∀ k ∈ a, k ∈ b) {m : Nat} (hm : m ∈ commonM many rows b) : m ∈ commonM many rows a := by
  rw [mem_common] at hm ⊢
  exact ⟨hm.1, fun g hg => hm.2 g (h g hg)⟩
theorem closure_mono (h : ∀ k ∈ marks, k ∈ more) : ∀ k ∈ closureM many rows marks, k ∈ closureM many rows more := fun k hk => common_anti (fun g hg => having_anti h hg) hk
theorem closure_grows (h : ∀ k ∈ marks, k < many) : ∀ k ∈ marks, k ∈ closureM many rows marks := fun k hk => mem_common.mpr ⟨h k hk, fun g hg => (mem_having.mp hg).2 k hk⟩
theorem closure_lt : ∀ k ∈ closureM many rows marks, k < many := fun k hk => (mem_common.mp hk).1
theorem closure_twice : closureM many rows (closureM many rows marks) = closureM many rows marks := by
  refine sorted_ext (common_sorted _ _ _) (common_sorted _ _ _) fun k => ⟨fun hk => ?_, fun hk => closure_grows closure_lt k hk⟩
  refine common_anti (fun g hg => ?_) hk
  rw [mem_having] at hg ⊢
  exact ⟨hg.1, fun m hm => (mem_common.mp hm).2 g (mem_having.mpr hg)⟩
end
end GD

set_option Elab.async false
set_option linter.all false
set_option maxRecDepth 100000
set_option maxHeartbeats 2000000
namespace GX
open PySem PySem.Spec PyProof.Rows L2 GenW SC
section
variable {P : Program} {w : World} {k : Nat} {outer : List Env} {H : Hp} {sc s : Shared} {ex : List Addr} {G : GWs} {u : Value}
end
section
variable {X : Cx} {k : Nat} {e o : Expr} {tg : TGx} {to : TE} {apos cpos : Pos}
end
end GX

set_option Elab.async false
set_option linter.all false
set_option maxRecDepth 100000
set_option maxHeartbeats 2000000
namespace GX
open PySem PySem.Spec PyProof.Rows L2 PySem.W ClX
/-! ## 12. the size of a displayed set of whole numbers -/
section
variable {prog : Program} {w : World} {A : Around} {E : Value → Shared → Prop} {D : Addr}
end
inductive PEsI (X : Cx) : List Expr → List TE → Prop
  | nil : PEsI X [] []
  | cons {e : Expr} {t : TE} {es : List Expr} {ts : List TE} : PE X e t → PEsI X es ts → PEsI X (e :: es) (t :: ts)
section
variable {X : Cx}
variable {p q pos : Pos} {elts : List Expr} {ts : List TE} {n : Nat}
end
end GX

set_option Elab.async false
set_option linter.all false
set_option maxRecDepth 100000
set_option maxHeartbeats 2000000
namespace GD
open PySem PySem.Spec PyProof.Rows L2 GX

/-! ## 14. joins, slices, conversions -/
section
variable {X : Cx} {w : Wd}
/-! ### tuple(x), list(x) -/
def fTup : F1 := fun st d => match seqOf st d with | some ds => some (.tup ds) | none => none
theorem qTup {K : PySem.W.Frag} : Op1P w fTup (fun xs H Q => ∃ p ys, xs = [.ref p] ∧ ((SqL K H p ys ∧ ∀ l, H l = none → Q (.ref l) (upd H l (.tup ys))) ∨ (SqT K H p ys ∧ Q (.ref p) H))) := by
  intro ι st H x dx d Q s rx hf q
  unfold fTup at hf
  split at hf
  · rename_i ds e
    cases hf
    obtain ⟨a, vs, rfl, rs, hl, hh⟩ := seq_cases (K := K) s rx e
    rcases hh with h1 | ⟨rfl, h1⟩
    · exact ⟨a, vs, rfl, .inl ⟨h1, fun l hn => q _ _ (Kp.new hn) (.tup upd_same hl (rs.kp (Kp.new hn))) (s.new hn (fun _ z => by cases z) (nin_of s hn))⟩⟩
    · exact ⟨a, vs, rfl, .inr ⟨sqt_of h1, q _ H (Kp.refl H) (.tup h1 hl rs) s⟩⟩
  · cases hf
variable {pos p : Pos} {a : Expr}
theorem dp_tupV {m : MP} (hg : Gl X "tuple") (hm : X.mg "tuple" = none) (ha : PE X a (tP w m)) (hs : starEach [a] X.env = (false, eval a X.env) :: starEach [] X.env := by rfl) : PE X (.Call (.Name "tuple" p) [a] [] pos) (tP w (mF1 fTup m)) :=
  PE.mo (pe_callTy call_tuple_of hg hm (by decide +kernel) (pa_cons ha pa_nil hs) (he := hs)) fun σ H Q h => op1_p qTup σ H Q h
def mLstOf (m : MP) : ML := fun env st => match m env st with | some d => seqOf st d | none => none
theorem dl_list {m : MP} (hg : Gl X "list") (hm : X.mg "list" = none) (ha : PE X a (tP w m)) (hs : starEach [a] X.env = (false, eval a X.env) :: starEach [] X.env := by rfl) : PE X (.Call (.Name "list" p) [a] [] pos) (tLs w (mLstOf m)) :=
  PE.mo (pe_callTy call_list_of hg hm (by decide +kernel) (pa_cons ha pa_nil hs) (he := hs)) fun σ H Q ⟨ι, env, st, ds, he, hst, hmm, q⟩ => by
    unfold mLstOf at hmm
    split at hmm
    · rename_i d e
      refine ⟨ι, env, st, d, he, hst, e, fun v H1 k1 r1 s1 => ?_⟩
      obtain ⟨a, vs, rfl, rs, hl, hh⟩ := seq_cases (K := X.K) s1 r1 hmm
      refine ⟨a, vs, rfl, hh.imp id fun z => sqt_of z.2, fun l hn => ?_⟩
      exact q l vs _ (k1.trans (Kp.new hn)) upd_same (k1.fresh (nin_of s1 hn) hn) hl (rs.kp (Kp.new hn)) (s1.new hn (fun _ z => by cases z) (nin_of s1 hn))
    · cases hmm
/-! ### slices -/
/-! ### one sign in a text -/
variable {b : Expr} {ma mb : MP}
end
end GD

set_option Elab.async false
set_option linter.all false
set_option maxRecDepth 100000
set_option maxHeartbeats 4000000
namespace GD
open PySem PySem.Spec PyProof.Rows L2 GX
/-! ## 15. comparing sets; lists of sets -/
abbrev pI (l : List Nat) : List PyData := l.map fun (k : Nat) => PyData.int (k : Int)
theorem py_dN (l : List Nat) : D.py (dN l) = .tuple (pI l) := by
  unfold dN D.py
  rw [pys_nI]
theorem eqvAll_ints : ∀ a b : List Nat, PyData.eqvAll (pI a) (pI b) = decide (a = b)
  | [], [] => by simp [pI, PyData.eqvAll]
  | [], y :: b => by simp [pI, PyData.eqvAll]
  | x :: a, [] => by simp [pI, PyData.eqvAll]
  | x :: a, y :: b => by
    rw [pI, List.map_cons, pI, List.map_cons, PyData.eqvAll]
    have h := eqvAll_ints a b
    unfold pI at h
    rw [h]
    have e : PyData.eqv (PyData.int (x : Int)) (PyData.int (y : Int)) = decide (x = y) := by
      unfold PyData.eqv
      rw [Bool.eq_iff_iff, beq_iff_eq, decide_eq_true_iff]
      omega
    rw [e]
    rw [Bool.eq_iff_iff, Bool.and_eq_true, decide_eq_true_iff, decide_eq_true_iff, decide_eq_true_iff, List.cons.injEq]
theorem eqv_dN (a b : List Nat) : PyData.eqv (D.py (dN a)) (D.py (dN b)) = decide (a = b) := by
  rw [py_dN, py_dN]
  unfold PyData.eqv
  exact eqvAll_ints a b
theorem fEq_dN (st : SS) (a b : List Nat) : fEq st (dN a) (dN b) = some (.bl (decide (a = b))) := by
  unfold fEq
  rw [if_pos ⟨good_dN a, good_dN b⟩, eqv_dN]
theorem fNe_dN (st : SS) (a b : List Nat) : fNe st (dN a) (dN b) = some (.bl (!decide (a = b))) := by
  unfold fNe
  rw [if_pos ⟨good_dN a, good_dN b⟩, eqv_dN]
/-! ### more than another -/
/-- the store has grown -/
theorem Boxed.ext {st st1 : SS} {n : Nat} (h : Boxed st n) (p : st <+: st1) : Boxed st1 n := by
  obtain ⟨dn, i, ms, h1, h2, h3⟩ := h.ex
  obtain ⟨t, rfl⟩ := p
  refine ⟨dn, i, ms, ?_, h2, ?_⟩
  · rw [List.getElem?_append_left (List.getElem?_eq_some_iff.mp h1).1]; exact h1
  · rw [List.getElem?_append_left (List.getElem?_eq_some_iff.mp h3).1]; exact h3
/-! ### arrows -/
theorem seqOf_lst {st : SS} {n : Nat} {ds : List D} (h : st[n]? = some (.lst ds)) : seqOf st (.ref n) = some ds := by
  unfold seqOf
  simp only [h]
/-! ### texts of single signs -/
end GD

set_option Elab.async false
set_option linter.all false
set_option maxRecDepth 100000
set_option maxHeartbeats 2000000
namespace GD
open PySem PySem.Spec PyProof.Rows L2 GX

/-! ## 16. lists that calls give -/
section
variable {X : Cx} {w : Wd} {pos p : Pos} {a b e : Expr} {tg : Expr}
def xSeq (m : XP) : XI := fun env st R => m env st fun d st1 => ∃ ds ro, seqI st1 d = some (ds, ro) ∧ R ds ro st1
theorem dxi_seq {m : XP} (hl : PE X e (tX w m)) : PI X tg e (tXI w (xSeq m)) := by
  refine PI.mo (pi_seqU hl) fun σ H Q ⟨ι, env, st, R, he, hs, hm, q⟩ => ⟨ι, env, st, _, he, hs, hm, fun d st1 ι1 v H1 h1 g1 r1 s1 => ?_⟩
  obtain ⟨ds, ro, e, hR⟩ := h1
  obtain ⟨a, vs, rfl, rs, hl, hh⟩ := seqI_cases s1 r1 e
  refine ⟨a, rfl, ?_⟩
  rcases hh with ⟨n, rfl, hn, hc, h1⟩ | ⟨rfl, h1⟩
  · exact .inl ⟨⟨vs, sql_of h1⟩, q _ _ st1 ι1 _ H1 hR g1 s1 (itd_lst hn hc hl)⟩
  · exact .inr ⟨⟨vs, sqt_of h1⟩, q _ _ st1 ι1 _ H1 hR g1 s1 (itd_tup h1 rs hl)⟩
def xCat (a b : XP) : XA := fun env st R => a env st fun x st1 => b env st1 fun y st2 => ∃ n m ds es, x = .ref n ∧ y = .ref m ∧ st2[n]? = some (.lst ds) ∧ st2[m]? = some (.lst es) ∧ ds.length + es.length ≤ 1000000 ∧ R (ds ++ es) st2
theorem dxl_cat {ma mb : XP} (ha : PE X a (tX w ma)) (hb : PE X b (tX w mb)) : PE X (.BinOp a .Add b pos) (tXL w (xCat ma mb)) := by
  refine PE.mo (pe_op op_cat ha hb) fun σ H Q ⟨ι, env, st, R, he, hs, hm, q⟩ => ⟨ι, env, st, _, he, hs, hm, fun x st1 ι1 vx H1 h1 g1 r1 s1 => ⟨ι1, env, st1, _, he.gr g1, s1, h1, fun y st2 ι2 vy H2 h2 g2 r2 s2 => ?_⟩⟩
  obtain ⟨n, m, ds, es, rfl, rfl, e1, e2, hl, hR⟩ := h2
  have r1' := r1.gr g2
  cases r1' with
  | ref hn =>
    cases r2 with
    | ref hm2 =>
      obtain ⟨vs, v1, l1, rs⟩ := s2.cell _ _ _ hn e1
      obtain ⟨us, v2, l2, ru⟩ := s2.cell _ _ _ hm2 e2
      have gg := g1.trans g2
      refine ⟨_, _, vs, us, rfl, rfl, v1, v2, by rw [rs.length, ru.length]; exact big_size hl, fun pp hp => ?_⟩
      exact q (ds ++ es) st2 ι2 pp (vs ++ us) _ hR (gg.trans (.of (Kp.new hp))) upd_same (gg.fresh s2 hp) (nin_of s2 hp) (by rw [List.length_append]; exact big_size hl) ((rs.append ru).kp (Kp.new hp)) (s2.new hp (fun _ z => by cases z) (nin_of s2 hp))
end
end GD

set_option Elab.async false
set_option linter.all false
set_option maxRecDepth 100000
set_option maxHeartbeats 4000000
namespace GS
open PySem PySem.Spec PyProof.Rows SrtO
/-! ## sorted of pairs of tuples of ints -/
abbrev K2 := List Int × List Int
def lexK (a b : K2) : Bool := if a.1 = b.1 then HT.lexLt a.2 b.2 else HT.lexLt a.1 b.1
theorem lexLt_irr : ∀ a : List Int, HT.lexLt a a = false
  | [] => rfl
  | x :: xs => by rw [HT.lexLt_cons, if_pos rfl, lexLt_irr xs]
theorem lexLt_asym : ∀ a b : List Int, HT.lexLt a b = true → HT.lexLt b a = false
  | [], [], h => by cases h
  | [], _ :: _, _ => rfl
  | _ :: _, [], h => by cases h
  | x :: xs, y :: ys, h => by
    rw [HT.lexLt_cons] at h ⊢
    by_cases e : x = y
    · rw [if_pos e] at h
      rw [if_pos e.symm]
      exact lexLt_asym xs ys h
    · rw [if_neg e] at h
      rw [if_neg fun z => e z.symm]
      have := of_decide_eq_true h
      exact decide_eq_false (by omega)
theorem lexLt_tot : ∀ a b : List Int, HT.lexLt a b = false → HT.lexLt b a = false → a = b
  | [], [], _, _ => rfl
  | [], _ :: _, h, _ => by cases h
  | _ :: _, [], _, h => by cases h
  | x :: xs, y :: ys, h, k => by
    rw [HT.lexLt_cons] at h k
    by_cases e : x = y
    · rw [if_pos e] at h
      rw [if_pos e.symm] at k
      rw [e, lexLt_tot xs ys h k]
    · rw [if_neg e] at h
      rw [if_neg fun z => e z.symm] at k
      have := of_decide_eq_false h
      have := of_decide_eq_false k
      omega
theorem lexLt_trans : ∀ a b c : List Int, HT.lexLt a b = true → HT.lexLt b c = true → HT.lexLt a c = true
  | [], [], _, h, _ => by cases h
  | [], _ :: _, [], _, h => by cases h
  | [], _ :: _, _ :: _, _, _ => rfl
  | _ :: _, [], _, h, _ => by cases h
  | _ :: _, _ :: _, [], _, h => by cases h
  | x :: xs, y :: ys, z :: zs, h, k => by
    rw [HT.lexLt_cons] at h k ⊢
    by_cases e : x = y
    · rw [if_pos e] at h
      by_cases e2 : y = z
      · rw [if_pos e2] at k
        rw [if_pos (e.trans e2)]
        exact lexLt_trans xs ys zs h k
      · rw [if_neg e2] at k
        rw [if_neg fun q => e2 (e ▸ q)]
        rw [e]
        exact k
    · rw [if_neg e] at h
      have h1 := of_decide_eq_true h
      by_cases e2 : y = z
      · rw [if_neg (by omega)]
        exact decide_eq_true (by omega)
      · rw [if_neg e2] at k
        have := of_decide_eq_true k
        rw [if_neg (by omega)]
        exact decide_eq_true (by omega)
theorem swo_lexLt : Swo HT.lexLt := ⟨lexLt_asym, fun x y z h1 h2 => by
  cases h : HT.lexLt z x with
  | false => rfl
  | true =>
    cases h3 : HT.lexLt x y with
    | true =>
      have := lexLt_trans z x y h h3
      rw [h2] at this
      cases this
    | false =>
      have e := lexLt_tot x y h3 h1
      subst e
      rw [h2] at h
      cases h⟩
theorem swo_lexK {α : Type} (k : α → K2) : Swo fun v u => lexK (k v) (k u) := by
  have no : ∀ a b : K2, lexK a b = false ↔ (a.1 = b.1 ∧ HT.lexLt a.2 b.2 = false) ∨ (a.1 ≠ b.1 ∧ HT.lexLt a.1 b.1 = false) := fun a b => by
    unfold lexK
    by_cases e : a.1 = b.1
    · rw [if_pos e]; simp [e]
    · rw [if_neg e]; simp [e]
  refine ⟨fun x y h => ?_, fun x y z h1 h2 => ?_⟩
  · unfold lexK at h ⊢
    by_cases e : (k x).1 = (k y).1
    · rw [if_pos e] at h
      rw [if_pos e.symm]
      exact lexLt_asym _ _ h
    · rw [if_neg e] at h
      rw [if_neg fun z => e z.symm]
      exact lexLt_asym _ _ h
  · rw [no] at h1 h2 ⊢
    rcases h1 with ⟨e1, h1⟩ | ⟨e1, h1⟩ <;> rcases h2 with ⟨e2, h2⟩ | ⟨e2, h2⟩
    · exact .inl ⟨e2.trans e1, swo_lexLt.tr _ _ _ h1 h2⟩
    · exact .inr ⟨fun z => e2 (z.trans e1.symm), by rw [← e1]; exact h2⟩
    · exact .inr ⟨fun z => e1 (e2.symm.trans z), by rw [e2]; exact h1⟩
    · refine .inr ⟨fun z => ?_, swo_lexLt.tr _ _ _ h1 h2⟩
      have h3 := h2
      rw [z] at h3
      exact e1 (lexLt_tot _ _ h1 h3)
/-- the tuple of ints at a -/
def TupAt (h : Heap) (a : Addr) (ns : List Int) : Prop := ∃ o items n, h.get? a = some o ∧ o.cls = .type "tuple" ∧ o.data = .seq items n ∧ IntsAre items.toList ns
def IsKP (h : Heap) (v : Value) (k : K2) : Prop := ∃ a o n f r, v = .ref a ∧ h.get? a = some o ∧ o.cls = .type "tuple" ∧ o.data = .seq #[.ref f, .ref r] n ∧ TupAt h f k.1 ∧ TupAt h r k.2
section
variable {prog : Program} {w : World} {A : Around} {E : Value → Shared → Prop} {s : Shared}
theorem items_of {P : Program} {w : World} : ∀ {us : List Value} {ns : List Int}, IntsAre us ns → ItemsAre (intKind P w) ns us
  | _, _, .nil => .nil
  | _, _, .cons n t h => .cons (intKind_is P w n t) (items_of h)
theorem TupAt.key {P : Program} {w : World} {h : Heap} {a : Addr} {ns : List Int} (x : TupAt h a ns) : IsTupleKey (intKind P w) h ns a := let ⟨o, items, n, h1, h2, h3, h4⟩ := x; ⟨o, items, n, h1, h2, h3, items_of h4⟩
theorem tup_eq {a b : Addr} {x y : List Int} {Q : Bool → Shared → Prop} (hu : A.units < cLine) (hx : TupAt s.heap a x) (hy : TupAt s.heap b y) (h : Q (decide (x = y)) s) : wpAny (model prog w) A (eqBool (.ref a) (.ref b)) Q E s :=
  wpAny_eqBool_tuple (knd := intKind prog w) hu hx.key hy.key h
theorem tup_lt {a b : Addr} {x y : List Int} {Q : Value → Shared → Prop} (hu : A.units < cLine) (hx : TupAt s.heap a x) (hy : TupAt s.heap b y) (h : Q (.bool (HT.lexLt x y)) s) : wpAny (model prog w) A (compareOp .Lt (.ref a) (.ref b)) Q E s := by
  obtain ⟨o, items, n, h1, h2, h3, h4⟩ := hx
  obtain ⟨o', items', n', k1, k2, k3, k4⟩ := hy
  exact HT.lt_tupInts ⟨o, h1, h2, n, h3⟩ ⟨o', k1, k2, n', k3⟩ h4 k4 hu h
theorem pairK_cmp {vs : List Value} {k : Value → K2} (hu : A.units < cLine) (hp : ∀ v ∈ vs, IsKP s.heap v (k v)) : Cmp prog w A s (tuples' false) (fun p => p.1 ∈ vs) (lt2 fun v u => lexK (k v) (k u)) := by
  intro p q hm hm'
  have h1 := hp _ hm
  have h2 := hp _ hm'
  show wpAny (model prog w) A (keyLt' (tuples' false) p.1 q.1) (fun r s' => s' = s ∧ r = lexK (k p.1) (k q.1)) (fun _ _ => False) s
  generalize k p.1 = x at h1 ⊢
  generalize k q.1 = y at h2 ⊢
  obtain ⟨a, o, n, f, r, e, ho, hc, hd, hf, hr⟩ := h1
  obtain ⟨a', o', n', f', r', e', ho', hc', hd', hf', hr'⟩ := h2
  rw [e, e']
  refine PySem.W.kat_lt ho hd ho' hd' ?_
  show PySem.W.KatLex prog w A false (decide (2 < 2)) _ [(.ref f, .ref f'), (.ref r, .ref r')] 0 s
  refine PySem.W.kat_cons (tup_eq hu hf hf' ?_)
  refine PySem.W.kat_go (fun e1 => ?_) (fun e1 => ?_)
  · have ex : x.1 = y.1 := of_decide_eq_true e1
    refine PySem.W.kat_yes (PySem.W.kat_cons (tup_eq hu hr hr' ?_))
    refine PySem.W.kat_go (fun e2 => ?_) (fun e2 => ?_)
    · have ey : x.2 = y.2 := of_decide_eq_true e2
      refine PySem.W.kat_yes (PySem.W.kat_nil ⟨rfl, ?_⟩)
      unfold lexK
      rw [if_pos ex, ey, lexLt_irr]
      rfl
    · refine PySem.W.kat_no (PySem.W.kat_one _ _ (tup_lt hu hr hr' ?_))
      show s = s ∧ HT.lexLt x.2 y.2 = lexK x y
      unfold lexK
      rw [if_pos ex]
      exact ⟨rfl, rfl⟩
  · have ex : ¬ x.1 = y.1 := of_decide_eq_false e1
    refine PySem.W.kat_no (PySem.W.kat_one _ _ (tup_lt hu hf hf' ?_))
    show s = s ∧ HT.lexLt x.1 y.1 = lexK x y
    unfold lexK
    rw [if_neg ex]
    exact ⟨rfl, rfl⟩
theorem TupAt.keeps {h h' : Heap} {a : Addr} {ns : List Int} (x : TupAt h a ns) (k : ∀ b o, h.get? b = some o → o.cls = .type "tuple" → h'.get? b = some o) : TupAt h' a ns := let ⟨o, items, n, h1, h2, h3, h4⟩ := x; ⟨o, items, n, k _ _ h1 h2, h2, h3, h4⟩
theorem IsKP.keeps {h h' : Heap} {v : Value} {y : K2} (x : IsKP h v y) (k : ∀ b o, h.get? b = some o → o.cls = .type "tuple" → h'.get? b = some o) : IsKP h' v y := by
  obtain ⟨a, o, n, f, r, e, ho, hc, hd, hf, hr⟩ := x
  exact ⟨a, o, n, f, r, e, k _ _ ho hc, hc, hd, hf.keeps k, hr.keeps k⟩
theorem firstsK {h : Heap} : ∀ {vs : List Value}, (∀ v ∈ vs, ∃ y, IsKP h v y) → ∃ fs, PySem.W.KatTups h vs fs ∧ fs.length = vs.length ∧ ∀ f ∈ fs, ∃ a o, f = Value.ref a ∧ h.get? a = some o ∧ o.cls = .type "tuple"
  | [], _ => ⟨[], .nil, rfl, fun _ z => by cases z⟩
  | v :: vs, hv => by
    obtain ⟨y, a, o, n, f, r, rfl, ho, hc, hd, ⟨of, items, nf, f1, f2, f3, f4⟩, _⟩ := hv v List.mem_cons_self
    obtain ⟨fs, h1, h2, h3⟩ := firstsK (vs := vs) fun v hm => hv v (List.mem_cons_of_mem _ hm)
    refine ⟨.ref f :: fs, .cons ho hc hd rfl h1, by rw [List.length_cons, List.length_cons, h2], fun g hg => ?_⟩
    rcases List.mem_cons.mp hg with e | e
    · exact ⟨f, of, e, f1, f2⟩
    · exact h3 g e
theorem pairsK_sortableO {a : Addr} {vs : List Value} {k : Value → K2} (hu : A.units < cLine) (h0 : 0 < vs.length) (hp : ∀ v ∈ vs, IsKP s.heap v (k v)) (ha : ∀ o, s.heap.get? a = some o → o.cls ≠ .type "tuple") : SortableO prog w A s a vs fun v u => lexK (k v) (k u) := by
  intro h' keep
  have hp' : ∀ v ∈ vs, IsKP h' v (k v) := fun v hm => (hp v hm).keeps fun b o e c => keep b o (fun z => by subst z; exact ha o e c) e
  obtain ⟨fs, h1, h2, h3⟩ := firstsK fun v hm => ⟨_, hp' v hm⟩
  refine ⟨tuples' false, fun Q E hq => ?_, pairK_cmp (s := { s with heap := h' }) hu hp'⟩
  refine PySem.W.kat_kind (T := .type "tuple") h1 (by omega) (fun f hm => ?_) (by rfl) ?_
  · obtain ⟨b, o, rfl, ho, hc⟩ := h3 f hm
    have q : PySem.W.Looks (model prog w) h' (typeOf (.ref b)) o.cls := (PySem.W.Looks.ld ho).andThen .now
    rw [hc] at q
    exact q
  · have e : (Value.type "tuple" != Value.type "tuple") = false := by first | decide +kernel | rfl | decide
    rw [e]
    exact hq
/-- sorted(l) of pairs of tuples of ints: sorted by k, stable -/
theorem sorted_pairsK {l : Addr} {vs : List Value} {k : Value → K2} {Q : Value → Shared → Prop} (hu : A.in1.in1.units < cLine) (hl : s.heap.IsList l vs.toArray) (hz : vs.length ≤ sizeLine) (hp : ∀ v ∈ vs, IsKP s.heap v (k v))
    (h : ∀ (h' : Heap) (d : Addr) (out : List Value), Srtd (fun v u => lexK (k v) (k u)) out → Stb (fun v u => lexK (k v) (k u)) out vs → (∀ b o, s.heap.get? b = some o → h'.get? b = some o) → s.heap.objs.size ≤ d → (∃ n, h'.get? d = some (seqObj "list" out.toArray n)) → Q (.ref d) { s with heap := h' }) :
    wpAny (model prog w) A (call (.builtin "sorted") [.ref l]) Q E s := by
  refine sorted_ord (swo_lexK k) hl hz (fun h2 h₁ a ha kk => ?_) fun out hs hb => ?_
  · refine pairsK_sortableO (s := { s with heap := h₁ }) hu (by omega) (fun v hm => (hp v hm).keeps fun b o e _ => (kk b o e).2) fun o e => ?_
    have e' : some o = some (seqObj "list" vs.toArray 0) := e.symm.trans ha
    cases e'
    intro c
    exact absurd (Value.type.inj c) (by decide)
  · exact h _ _ out hs hb (fun b o e => sortedAll_old e) (Nat.le_succ _) (sortedAll_at s.heap vs out.toArray)
end
end GS
namespace GS
open PySem PySem.Spec PyProof.Rows L2
def rSortK (K : PySem.W.Frag) : List V → Hp → VK → Prop := fun vs H Q => ∃ (a : Addr) (xs : List V) (k : V → K2), vs = [V.ref a] ∧ SqL K H a xs ∧ (∀ x ∈ xs, ∃ t f r, x = V.ref t ∧ H t = some (.tup [.ref f, .ref r]) ∧ H f = some (.tup ((k x).1.map V.int)) ∧ H r = some (.tup ((k x).2.map V.int))) ∧
  ∀ ys p, SrtO.Srtd (fun v u => lexK (k v) (k u)) ys → SrtO.Stb (fun v u => lexK (k v) (k u)) ys xs → H p = none → Q (.ref p) (upd H p (.lst ys))
section
variable {X : Cx}
theorem tupAt_of {pins : List (Addr × Obj)} {σ : L2.St} {H : Hp} {s : Shared} (I : Inv X pins σ H s) {f : Addr} {ns : List Int} (h : H f = some (.tup (ns.map V.int))) : TupAt s.heap f ns := by
  obtain ⟨_, its2, r2, o, ho, hc, n, hd⟩ := I.hok _ _ h
  exact ⟨o, _, n, ho, hc, hd, by simpa using ints_of_vals r2⟩
theorem cr_sortK (hu : X.A.units + 4 < cLine) : CallR X (.builtin "sorted") (rSortK X.K) := by
  intro pins s σ H vs us Q I r h
  obtain ⟨a, xs, k, rfl, hs, hx, q⟩ := h
  obtain ⟨its, rv, hl, hz⟩ := I.list hs
  obtain ⟨u, rfl, ru⟩ := vals1 r
  obtain rfl : u = Value.ref a := ru
  obtain ⟨e1, e2⟩ := refs_back rv fun x m => by
    obtain ⟨t, f, r, e, _⟩ := hx x m
    exact ⟨t, e⟩
  refine sorted_pairsK (k := fun u => k (backV u)) (by have e : X.A.in1.in1.units ≤ X.A.units + 4 := (by first | (unfold Around.in1; simp; try omega) | (simp [Around.in1]; try omega)); omega) hl.isList (by rw [← rv.length]; exact hz) (fun v hv => ?_) fun h' d out h1 h2 kp hd hn => ?_
  · obtain ⟨t, rfl⟩ := e2 v hv
    have hm : V.ref t ∈ xs := by rw [e1]; exact List.mem_map.mpr ⟨_, hv, rfl⟩
    obtain ⟨t', f, r, e, ht, hf, hr⟩ := hx _ hm
    cases e
    obtain ⟨_, its2, r2, o, ho, hc, n, hd⟩ := I.hok _ _ ht
    obtain ⟨u1, u2, rfl, ri, rj⟩ := vals2 r2
    cases ri
    cases rj
    exact ⟨t, o, n, f, r, rfl, ho, hc, hd, tupAt_of I hf, tupAt_of I hr⟩
  · have h3 : ∀ u ∈ out, ∃ a, u = Value.ref a := fun u hu => e2 u (h2.perm.mem_iff.mp hu)
    obtain ⟨n, hn⟩ := hn
    have hb : SrtO.Stb (fun v u => lexK (k v) (k u)) (out.map backV) xs := by
      rw [e1]
      exact SrtO.Stb.map (swo_lexK k) backV h2
    refine ⟨.ref d, upd H d (.lst (out.map backV)), I.laid (t' := s.toks) kp hd ⟨?_, out, n, vals_back h3, hn⟩, rfl, q _ d (SrtO.srtd_map h1) hb (I.hok.fresh hd)⟩
    rw [hb.len]
    exact hz
end
end GS

set_option Elab.async false
set_option linter.all false
set_option maxRecDepth 100000
set_option maxHeartbeats 2000000
namespace GD
open PySem PySem.Spec PyProof.Rows L2 GX GS

/-! ## 17. sorted of pairs of sets -/
def pairD (p : List Nat × List Nat) : D := .tup [dN p.1, dN p.2]
abbrev iN (l : List Nat) : List Int := l.map fun (k : Nat) => (k : Int)
/-- the value v stands for the pair p -/
def IsPr (H : Hp) (v : V) (p : List Nat × List Nat) : Prop := ∃ t f r, v = V.ref t ∧ H t = some (.tup [.ref f, .ref r]) ∧ H f = some (.tup ((iN p.1).map V.int)) ∧ H r = some (.tup ((iN p.2).map V.int))
theorem iN_inj : ∀ {a b : List Nat}, iN a = iN b → a = b
  | [], [], _ => rfl
  | [], _ :: _, h => by cases h
  | _ :: _, [], h => by cases h
  | x :: a, y :: b, h => by
    have h1 := List.cons.inj h
    have : x = y := Int.ofNat.inj h1.1
    rw [this, iN_inj h1.2]
theorem mapI_inj : ∀ {a b : List Int}, a.map V.int = b.map V.int → a = b
  | [], [], _ => rfl
  | [], _ :: _, h => by cases h
  | _ :: _, [], h => by cases h
  | x :: a, y :: b, h => by
    have h1 := List.cons.inj h
    cases h1.1
    rw [mapI_inj h1.2]
theorem IsPr.uniq {H : Hp} {v : V} {p q : List Nat × List Nat} (h : IsPr H v p) (k : IsPr H v q) : p = q := by
  obtain ⟨t, f, r, rfl, h1, h2, h3⟩ := h
  obtain ⟨t', f', r', e, k1, k2, k3⟩ := k
  cases e
  rw [h1] at k1
  cases k1
  rw [h2] at k2
  rw [h3] at k3
  have e1 : iN p.1 = iN q.1 := mapI_inj (HO.tup.inj (Option.some.inj k2))
  have e2 : iN p.2 = iN q.2 := mapI_inj (HO.tup.inj (Option.some.inj k3))
  exact Prod.ext (iN_inj e1) (iN_inj e2)
open Classical in
noncomputable def pick (H : Hp) (v : V) : List Nat × List Nat := if h : ∃ p, IsPr H v p then h.choose else ([], [])
theorem pick_eq {H : Hp} {v : V} {p : List Nat × List Nat} (h : IsPr H v p) : pick H v = p := by
  unfold pick
  rw [dif_pos ⟨p, h⟩]
  exact (Exists.choose_spec (⟨p, h⟩ : ∃ p, IsPr H v p)).uniq h
theorem rep_dN {ι : List Addr} {H : Hp} {v : V} {l : List Nat} (r : Rep ι H v (dN l)) : ∃ f, v = .ref f ∧ H f = some (.tup ((iN l).map V.int)) := by
  cases r with
  | tup h1 l1 rs =>
    have e : (l.map nI) = (iN l).map D.int := by rw [List.map_map]; rfl
    rw [e] at rs
    rw [rs.ints] at h1
    exact ⟨_, rfl, h1⟩
theorem rep_pr {ι : List Addr} {H : Hp} {v : V} {p : List Nat × List Nat} (r : Rep ι H v (pairD p)) : IsPr H v p := by
  cases r with
  | tup h1 l1 rs =>
    cases rs with
    | cons r1 rs =>
      cases rs with
      | cons r2 rs =>
        cases rs
        obtain ⟨f, rfl, hf⟩ := rep_dN r1
        obtain ⟨g, rfl, hg⟩ := rep_dN r2
        exact ⟨_, f, g, rfl, h1, hf, hg⟩
def keyN (p : List Nat × List Nat) : K2 := (iN p.1, iN p.2)
abbrev lexN (p q : List Nat × List Nat) : Bool := lexK (keyN p) (keyN q)
theorem pick_map {ι : List Addr} {H : Hp} : ∀ {vs : List V} {ps : List (List Nat × List Nat)}, Reps ι H vs (ps.map pairD) → vs.map (pick H) = ps ∧ ∀ v ∈ vs, Rep ι H v (pairD (pick H v))
  | _, [], h => by cases h; exact ⟨rfl, fun _ z => by cases z⟩
  | _, p :: ps, h => by
    cases h with
    | cons r t =>
      obtain ⟨h1, h2⟩ := pick_map t
      have e := pick_eq (rep_pr r)
      refine ⟨by rw [List.map_cons, e, h1], fun v hv => ?_⟩
      rcases List.mem_cons.mp hv with z | z
      · rw [z, e]; exact r
      · exact h2 v z
theorem reps_pick {ι : List Addr} {H : Hp} : ∀ {ys : List V}, (∀ v ∈ ys, Rep ι H v (pairD (pick H v))) → Reps ι H ys ((ys.map (pick H)).map pairD)
  | [], _ => .nil
  | y :: ys, h => .cons (h y List.mem_cons_self) (reps_pick fun v hv => h v (List.mem_cons_of_mem _ hv))
def xSortK (m : XP) : XA := fun env st R => m env st fun d st1 => ∃ n ps, d = .ref n ∧ st1[n]? = some (.lst (ps.map pairD)) ∧ ∀ qs, SrtO.Srtd lexN qs → SrtO.Stb lexN qs ps → R (qs.map pairD) st1
section
variable {X : Cx} {w : Wd} {pos p : Pos} {a : Expr}
theorem dxl_sortK {m : XP} (hu : Room 0 X.A) (hg : Gl X "sorted") (hm : X.mg "sorted" = none) (ha : PE X a (tX w m)) (hs : starEach [a] X.env = (false, eval a X.env) :: starEach [] X.env := by rfl) : PE X (.Call (.Name "sorted" p) [a] [] pos) (tXL w (xSortK m)) := by
  refine PE.mo (pe_callB (cr_sortK (by have := hu.un; omega)) hg hm (by decide +kernel) (pa_cons ha pa_nil hs) (he := hs)) fun σ H Q ⟨ι, env, st, R, he, hst, hmm, q⟩ => ⟨ι, env, st, _, he, hst, hmm, fun d st1 ι1 v H1 h1 g1 r1 s1 => ?_⟩
  obtain ⟨n, ps, rfl, hc, hR⟩ := h1
  cases r1 with
  | ref hn =>
    obtain ⟨vs, hv, hl, rs⟩ := s1.cell _ _ _ hn hc
    obtain ⟨e1, e2⟩ := pick_map rs
    refine ⟨_, vs, fun v => keyN (pick H1 v), rfl, sql_of hv, fun x hx => ?_, fun ys pp h2 h3 hp => ?_⟩
    · obtain ⟨t, f, r, h⟩ := rep_pr (e2 x hx)
      exact ⟨t, f, r, h⟩
    · have hperm := h3.perm
      have hy : ∀ v ∈ ys, Rep ι1 H1 v (pairD (pick H1 v)) := fun v hv => e2 v (hperm.mem_iff.mp hv)
      have hb : SrtO.Stb lexN (ys.map (pick H1)) ps := by
        have := SrtO.Stb.map (swo_lexK keyN) (pick H1) h3
        rw [e1] at this
        exact this
      refine q _ st1 ι1 pp ys _ (hR (ys.map (pick H1)) (SrtO.srtd_map h2) hb) (g1.trans (.of (Kp.new hp))) upd_same (g1.fresh s1 hp) (nin_of s1 hp) ?_ ((reps_pick hy).kp (Kp.new hp)) (s1.new hp (fun _ z => by cases z) (nin_of s1 hp))
      rw [List.length_map, hb.perm.length_eq]
      rw [List.length_map] at hl
      exact hl
end
end GD

set_option Elab.async false
set_option linter.all false
set_option maxRecDepth 100000
set_option maxHeartbeats 2000000
namespace GD
open PySem PySem.Spec PyProof.Rows L2 GX
/-! ## 20. name = [..], the name a plain local -/
section
variable {X : Cx} {w : Wd} {tg iter elt : Expr} {ifs : List Expr}
theorem ds_setLp {mi : MI} {t : MT} {b : MB} {m : MP} {i : Nat} {y : Str} {py : Pos} {scope : Scope} {own : List (Str × Nat)} {pos spos : Pos} {g : TG} (hc : X.calm = true) (hN : X.N.Nodup) (hy : X.N[i]? = some y) (hyl : X.env.scope.names.lookup y = some .local)
    (hk : X.env.scope.kind = .function) (hln : (py.line == pos.line) = true) (hsc : (scope.names.any fun (n, k) => n == y && (k == .local || k == .cell)) = false)
    (hi : PI X tg iter (tI w mi)) (ok : BlkOk X.N X.env.scope scope own) (ht : GT w (own.map (·.2)) g t)
    (hg : ∀ (s : Shared) (H : Hp) (C : Addr) (cl : List (Str × Addr)) (fp : List Addr), PG (X.blk s H scope (compEnvC scope cl C X.env) fp) tg g) (hb : ∀ (s : Shared) (H : Hp) (C : Addr) (cl : List (Str × Addr)) (fp : List Addr), PTs (X.blk s H scope (compEnvC scope cl C X.env) fp) ifs (tBo w b))
    (he : ∀ (s : Shared) (H : Hp) (C : Addr) (cl : List (Str × Addr)) (fp : List Addr), PE (X.blk s H scope (compEnvC scope cl C X.env) fp) elt (tP w m)) (hs : ∀ x, foldedSetIterable iter X.env x = pure x := by intro _; rfl) (hfx : ∀ v ∈ own.map (·.2), ∀ p ∈ w.fx, p.1 ≠ v := by intro _ _ _ h; cases h) (hfy : ∀ p ∈ w.fx, p.1 ≠ i := by intro _ h; cases h) :
    PS X (.Assign [.Name y py] (.ListComp elt [⟨tg, iter, ifs, 0⟩] scope pos) spos) (tS w (sAsg (xNew (xaOf (mComp mi t b m (own.map (·.2))))) (tgN i))) := by
  refine PS.mo (ps_setLc hc hN hy hyl (sw_true hk hyl hln hsc) hi ok hg hb he hs) fun E σ H ⟨ι, env, st, D0, hen, hst, hm, hE⟩ => ?_
  show tLc (tI w mi) g (tBo w b) (tP w m) (own.map (·.2)) σ H fun x H1 => gName i x σ H1 E.nx
  obtain ⟨ds, hm, h1⟩ := hm
  refine lc_read hfx ht σ H _ ⟨ι, env, st, ds, hen, hst, hm, fun p vs H1 k1 hp hn hl r1 s1 => ?_⟩
  obtain ⟨env1, h1, h2⟩ := h1
  cases h1
  have hpi := nin_of hst hn
  have gg : Gr ι H (ι ++ [p]) H1 := ⟨List.prefix_append _ _, k1, fun c hc => by
      rcases List.mem_append.mp hc with hc | hc
      · exact .inl hc
      · rw [List.mem_singleton.mp hc]; exact .inr hn⟩
  have rr : Rep (ι ++ [p]) H1 (.ref p) (.ref st.length) := .ref (by rw [← s1.len, List.getElem?_append_right (Nat.le_refl _), Nat.sub_self]; rfl)
  exact hE.nx _ _ (ι ++ [p]) _ H1 h2 gg ((hen.gr gg).set i rr hfy) (s1.add hp hpi hl r1)
end
end GD

set_option Elab.async false
set_option linter.all false
set_option maxRecDepth 100000
set_option maxHeartbeats 2000000
namespace GL
open PySem PySem.Spec PyProof.Rows L2 GX GD
/-! ## 1. pins: objects that are known for a while -/
abbrev PL := List (Addr × Obj)
def pinH (H : Hp) (L : PL) : Hp := fun b => match L.lookup b with | some o => some (PinO b o) | none => H b
def unpH (H : Hp) (L : PL) : Hp := fun b => match L.lookup b with | some _ => none | none => H b
section
variable {P : Program} {w : World} {K : PySem.W.Frag} {mg : Str → Option Value} {base : Heap} {A : Around} {outer : List Env} {s : Shared} {H H' : Hp} {h h' : Heap} {L : PL} {a b : Addr} {o : Obj} {fr : List Addr}
theorem pin_in (e : L.lookup b = some o) : pinH H L b = some (PinO b o) := by unfold pinH; rw [e]
theorem pin_out (e : L.lookup b = none) : pinH H L b = H b := by unfold pinH; rw [e]
theorem unp_in (e : L.lookup b = some o) : unpH H L b = none := by unfold unpH; rw [e]
theorem unp_out (e : L.lookup b = none) : unpH H L b = H b := by unfold unpH; rw [e]
theorem look_none (hL : ∀ b o, L.lookup b = some o → H b = none) {u : HO} (e : H b = some u) : L.lookup b = none := by
  cases q : L.lookup b with
  | none => rfl
  | some o => rw [hL b o q] at e; cases e
theorem look_pin (hL : ∀ b o, L.lookup b = some o → H b = some (PinO b o)) {u : HO} (e : H b = some u) (hu : ∀ x y, u ≠ .frz x (.own y)) : L.lookup b = none := by
  cases q : L.lookup b with
  | none => rfl
  | some o => rw [hL b o q] at e; exact absurd (Option.some.inj e).symm (hu _ _)
theorem look_pin' (hL : ∀ b o, L.lookup b = some o → H b = some (PinO b o)) (e : H b = none) : L.lookup b = none := by
  cases q : L.lookup b with
  | none => rfl
  | some o => rw [hL b o q] at e; cases e
theorem hok_pin (x : HOk P w H h) (hL : ∀ b o, L.lookup b = some o → h.get? b = some o) (hN : ∀ b o, L.lookup b = some o → H b = none) : HOk P w (pinH H L) h := fun a u e => by
  cases q : L.lookup a with
  | some o =>
    rw [pin_in q] at e
    cases e
    exact ⟨hL a o q, ⟨o, hL a o q⟩⟩
  | none =>
    rw [pin_out q] at e
    exact (x a u e).stay (fun b v _ z => z) (fun b z => by rw [pin_out (look_none hN z)]; exact z) fun b xs z => by rw [pin_out (look_none hN z)]; exact z
theorem hok_unp (x : HOk P w H h) (hL : ∀ b o, L.lookup b = some o → H b = some (PinO b o)) : HOk P w (unpH H L) h := fun a u e => by
  cases q : L.lookup a with
  | some o => rw [unp_in q] at e; cases e
  | none =>
    rw [unp_out q] at e
    exact (x a u e).stay (fun b v _ z => z) (fun b z => by rw [unp_out (look_pin hL z fun _ _ q => by cases q)]; exact z) fun b xs z => by rw [unp_out (look_pin hL z fun _ _ q => by cases q)]; exact z
theorem un_unp (u : Un fr [] (pinH H L) H' h h') (x : HOk P w H' h') (hL : ∀ b o, L.lookup b = some o → h.get? b = some o) (hN : ∀ b o, L.lookup b = some o → H b = none) : Un fr [] H (unpH H' L) h h' := by
  have hP : ∀ b o, L.lookup b = some o → H' b = some (PinO b o) := fun b o q => u.frzs b o _ (pin_in q)
  have hG : ∀ b o, L.lookup b = some o → h'.get? b = some o := fun b o q => (x b _ (hP b o q)).1
  refine ⟨fun b o e n hf hx => ?_, fun b o e n hf hx => ?_, fun b o e n hx => ?_, fun b o e hx => u.there b o e hx, fun b xs e => ?_, fun b o v e => ?_, fun b ps e => ?_⟩
  · cases q : L.lookup b with
    | some o' => rw [hL b o' q] at e; cases e; exact hG b _ q
    | none => exact u.keep b o e (by rw [pin_out q]; exact n) hf hx
  · cases q : L.lookup b with
    | some o' => rw [hL b o' q] at e; cases e; exact ⟨o.slots, hG b _ q⟩
    | none => exact u.slot b o e (by rw [pin_out q]; exact n) hf hx
  · cases q : L.lookup b with
    | some o' => exact unp_in q
    | none => rw [unp_out q]; exact u.free b o e (by rw [pin_out q]; exact n) hx
  · have q := look_none hN e
    rw [unp_out q]
    exact u.tups b xs (by rw [pin_out q]; exact e)
  · have q := look_none hN e
    rw [unp_out q]
    exact u.frzs b o v (by rw [pin_out q]; exact e)
  · have q := look_none hN e
    rw [unp_out q]
    exact u.tbls b ps (by rw [pin_out q]; exact e)
theorem un_pin (u : Un fr [] (unpH H L) H' h h') (hL : ∀ b o, L.lookup b = some o → H b = some (PinO b o)) : Un fr [] H (pinH H' L) h h' := by
  refine ⟨fun b o e n hf hx => ?_, fun b o e n hf hx => ?_, fun b o e n hx => ?_, fun b o e hx => u.there b o e hx, fun b xs e => ?_, fun b o v e => ?_, fun b ps e => ?_⟩
  · exact u.keep b o e (by rw [unp_out (look_pin' hL n)]; exact n) hf hx
  · exact u.slot b o e (by rw [unp_out (look_pin' hL n)]; exact n) hf hx
  · have q := look_pin' hL n
    rw [pin_out q]
    exact u.free b o e (by rw [unp_out q]; exact n) hx
  · have q := look_pin hL e fun _ _ z => by cases z
    rw [pin_out q]
    exact u.tups b xs (by rw [unp_out q]; exact e)
  · cases q : L.lookup b with
    | some o' =>
      rw [hL b o' q] at e
      rw [pin_in q]
      exact e
    | none =>
      rw [pin_out q]
      exact u.frzs b o v (by rw [unp_out q]; exact e)
  · have q := look_pin hL e fun _ _ z => by cases z
    rw [pin_out q]
    exact u.tbls b ps (by rw [unp_out q]; exact e)
theorem env0_pin (e0 : Env0 P w K mg base A outer s H) (hL : ∀ b o, L.lookup b = some o → s.heap.get? b = some o ∧ H b = none ∧ b ∉ frs outer ∧ base.get? b = none) : Env0 P w K mg base A outer s (pinH H L) := by
  refine ⟨e0.frames, e0.mod, fun b o e => ⟨(e0.bs b o e).1, ?_⟩, e0.bsz, e0.funs, fun b hb => ?_, hok_pin e0.hok (fun b o q => (hL b o q).1) fun b o q => (hL b o q).2.1, e0.bare⟩
  · cases q : L.lookup b with
    | some o' => rw [(hL b o' q).2.2.2] at e; cases e
    | none => rw [pin_out q]; exact (e0.bs b o e).2
  · cases q : L.lookup b with
    | some o' => exact absurd hb (hL b o' q).2.2.1
    | none => rw [pin_out q]; exact e0.frf b hb
theorem env0_unp (e0 : Env0 P w K mg base A outer s H) (hL : ∀ b o, L.lookup b = some o → H b = some (PinO b o)) : Env0 P w K mg base A outer s (unpH H L) := by
  refine ⟨e0.frames, e0.mod, fun b o e => ⟨(e0.bs b o e).1, ?_⟩, e0.bsz, e0.funs, fun b hb => ?_, hok_unp e0.hok hL, e0.bare⟩
  · rw [unp_out (look_pin' hL (e0.bs b o e).2)]
    exact (e0.bs b o e).2
  · rw [unp_out (look_pin' hL (e0.frf b hb))]
    exact e0.frf b hb
end
/-! ## 2. a lambda is made -/
structure CloOk (cl : List (Str × Addr)) (scope : Scope) : Prop where
  mem : ∀ x c, cl.lookup x = some c → x ∈ freeN scope
  inj : ∀ x y c, cl.lookup x = some c → cl.lookup y = some c → x = y
theorem mem_freeN {scope : Scope} {x : Str} (h : (x, NameKind.free) ∈ scope.names) : x ∈ freeN scope := by
  unfold freeN
  exact List.mem_map.mpr ⟨(x, .free), List.mem_filter.mpr ⟨h, decide_eq_true rfl⟩, rfl⟩
theorem of_freeN {scope : Scope} {x : Str} (h : x ∈ freeN scope) : (x, NameKind.free) ∈ scope.names := by
  unfold freeN at h
  obtain ⟨⟨y, k⟩, h1, rfl⟩ := List.mem_map.mp h
  obtain ⟨h2, h3⟩ := List.mem_filter.mp h1
  have h3 : k = .free := of_decide_eq_true h3
  subst h3
  exact h2
/-- what the making of a lambda leaves -/
def tLam (nm : Nat → Nat → Option Str) (base : Heap) (c : Addr) (cells : List (Str × Addr)) (q : Str) (params : Arguments) (body : Expr) (scope : Scope) : TE := fun σ H Q =>
  (∃ P, CodeAt base H c P ∧ ∃ ps, H P = some (.tbl ps)) ∧ AllTabs nm H ∧
  ∀ (H1 : Hp) (f c' : Addr) (pm ctv : Value), Grown H H1 → AllTabs nm H1 → H1 f = none → H1 c' = some (LamX.CodeO c' q) → CloOk (cloFrom cells scope.names []) scope →
    Q (.ref f) (upd H1 f (PinO f (PySem.W.kla_obj "<lambda>" q params body scope (cloFrom cells scope.names []) pm c' ctv)))
section
variable {X : Cx}
theorem bm_at {h base : Heap} {mg : Str → Option Value} {P : Addr} {ps : Array Value} (hb : Bm base mg) (hk : ∀ b o, base.get? b = some o → h.get? b = some o) (hg : base.Ns mainGlobals mg) (hP : h.get? P = some (PySem.W.tabObj ps)) : h.BuiltinsAt mg P := by
  obtain ⟨bm, ob, h1, h2, h3, h4, h5, h6⟩ := hb
  refine ⟨bm, ob, h1, h2, fun z => ?_, fun z => ?_, hk _ _ h3, h4, h5, h6⟩
  · obtain ⟨o, es, ep, e1, e2, _⟩ := hg
    rw [z, e1] at h3
    cases h3
    rw [e2] at h6
    cases h6
  · have := hk _ _ h3
    rw [z, hP] at this
    cases this
    cases h6
theorem pe_lam {nm : Nat → Nat → Option Str} {c : Addr} {params : Arguments} {body : Expr} {scope : Scope} {pos : Pos} (hcode : X.env.code = .ref c) (hb : Bm X.base X.mg) (hn : nm pos.line pos.col = some (X.env.qual ++ "<lambda>")) (hdef : defaultsOf params X.env = ([], []))
    (hfree : ∀ y ∈ scope.names, y.2 = .free → X.env.scope.names.lookup y.1 = some .cell ∨ X.env.scope.names.lookup y.1 = some .free) : PE X (.Lambda params body scope pos) (tLam nm X.base c X.env.cells (X.env.qual ++ "<lambda>") params body scope) := by
  refine ⟨fun pins s σ H Q I h => ?_⟩
  obtain ⟨⟨P, hC, ps, hP⟩, T, h⟩ := h
  have hfr : ∀ y ∈ scope.names, y.2 = .free → ∃ c, X.env.cells.lookup y.1 = some c := fun y hy e => I.ok.has _ (by
    rcases hfree y hy e with k | k
    · exact .inl k
    · exact .inr k)
  have clo : CloOk (cloFrom X.env.cells scope.names []) scope := by
    have cm : ∀ {y c}, (cloFrom X.env.cells scope.names []).lookup y = some c → (y, NameKind.free) ∈ scope.names ∧ X.env.cells.lookup y = some c := fun {y c} e => by
      rcases cloFrom_mem (PySem.mem_of_lookup e) with hm | ⟨h1, h2⟩
      · cases hm
      · obtain ⟨c1, hc⟩ := hfr _ h1 rfl
        have hc : X.env.cells.lookup y = some c1 := hc
        have e2 : c = c1 := by
          rw [h2, hc] <;> rfl
        rw [e2]
        exact ⟨h1, hc⟩
    exact ⟨fun x c e => mem_freeN (cm e).1, fun x y c e1 e2 => I.ok.inj x y c (cm e1).2 (cm e2).2⟩
  obtain ⟨ht, ha⟩ := T P ps hP
  have hd := codeAt_hd I hC
  have hPh : s.heap.get? P = some (PySem.W.tabObj ps) := I.hok P _ hP
  have hgP : mainGlobals ≠ P := fun z => by
    obtain ⟨o, es, ep, e1, e2, _⟩ := I.mod.glob.keeps I.bk
    rw [z, hPh] at e1
    cases e1
    cases e2
  have bP := bm_at (h := s.heap) hb I.bk I.mod.glob hPh
  refine PySem.W.kla_eval hdef ?_
  cases hc : codeAmong pos ps.toList with
  | none =>
    refine PySem.W.kla_makeFunction (mg := X.mg) (c := c) (P := P) (ps := ps) (closure_ok hfr) I.ok.glob (I.mod.glob.keeps I.bk) hcode hd hPh ht hc hgP bP fun c' ctv h' tk hx hge hlt hrec htb => ?_
    obtain ⟨c2, oc, vs, t, e2, hoc, hdd, hv⟩ := hrec
    cases e2
    have nC : H c' = none := I.hok.fresh hge
    have nPc : P ≠ c' := ne_of_none hP nC
    have I1 := LamX.inv_table (t' := tk) (q := X.env.qual ++ "<lambda>") (more := #[rawInt pos.line, rawInt pos.col, .ref c']) (h' := h') I hP (fun b o hb e => hx b o hb e) htb hge ⟨oc, vs, t, hoc, hdd, hv⟩
    have G : Grown H (upd (upd H P (.tbl (ps ++ #[rawInt pos.line, rawInt pos.col, .ref c']))) c' (LamX.CodeO c' (X.env.qual ++ "<lambda>"))) := by
      refine ⟨fun b o e n => ?_, fun b qs e => ?_⟩
      · rw [upd_ne (ne_of_none e nC), upd_ne (fun z => n ps (Option.some.inj (e.symm.trans (by rw [z]; exact hP))))]
        exact e
      · by_cases hb : b = P
        · rw [hb, upd_ne nPc, upd_same]
          exact ⟨_, rfl⟩
        · rw [upd_ne (ne_of_none e nC), upd_ne hb]
          exact ⟨_, e⟩
    have T1 : AllTabs nm (upd (upd H P (.tbl (ps ++ #[rawInt pos.line, rawInt pos.col, .ref c']))) c' (LamX.CodeO c' (X.env.qual ++ "<lambda>"))) := fun Q' qs e => by
      by_cases hb2 : Q' = c'
      · rw [hb2, upd_same] at e
        exact absurd (Option.some.inj e) (LamX.codeO_ne qs)
      rw [upd_ne hb2] at e
      by_cases hb1 : Q' = P
      · rw [hb1, upd_same] at e
        cases e
        have eL : (ps ++ #[rawInt pos.line, rawInt pos.col, .ref c']).toList = ps.toList ++ [rawInt pos.line, rawInt pos.col, .ref c'] := by simp
        refine ⟨by rw [eL]; exact PySem.TriplesOk_snoc _ _ _ _ ht, fun p2 cv hcv => ?_⟩
        rw [eL] at hcv
        rcases among_pos _ ht hcv with z | ⟨z, z1, z2⟩
        · obtain ⟨c0, e1, e2⟩ := ha p2 cv z
          exact ⟨c0, e1, G.entry e2⟩
        · refine ⟨c', z, ?_⟩
          unfold EntryOk
          rw [z1, z2, hn]
          exact upd_same
      · rw [upd_ne hb1] at e
        obtain ⟨t1, t2⟩ := T Q' qs e
        refine ⟨t1, fun p2 cv hcv => ?_⟩
        obtain ⟨c0, e1, e2⟩ := t2 p2 cv hcv
        exact ⟨c0, e1, G.entry e2⟩
    have sz : s.heap.objs.size ≤ h'.objs.size := Nat.le_trans hge (Nat.le_of_lt hlt)
    have fN : upd (upd H P (.tbl (ps ++ #[rawInt pos.line, rawInt pos.col, .ref c']))) c' (LamX.CodeO c' (X.env.qual ++ "<lambda>")) h'.objs.size = none := I1.hok.fresh (Nat.le_refl _)
    refine ⟨.ref h'.objs.size, _, I1.laid (t' := tk) (o := PinO h'.objs.size (PySem.W.kla_obj "<lambda>" (X.env.qual ++ "<lambda>") params body scope (cloFrom X.env.cells scope.names []) ((X.mg "__name__").getD .none) c' ctv)) (fun b o e => Heap.get?_push_of_some _ e) (Nat.le_refl _) ⟨Heap.get?_push_size _ rfl, ⟨_, Heap.get?_push_size _ rfl⟩⟩, rfl, ?_⟩
    exact h _ h'.objs.size c' _ ctv G T1 fN upd_same clo
  | some cv =>
    obtain ⟨c', e, he⟩ := ha pos cv hc
    subst e
    unfold EntryOk at he
    rw [hn] at he
    refine PySem.W.kla_makeFunctionHit (mg := X.mg) (c := c) (P := P) (ps := ps) (closure_ok hfr) I.ok.glob (I.mod.glob.keeps I.bk) hcode hd hPh ht hc bP fun ctv h' tk hx hsz => ?_
    have I1 : Inv X pins σ H { s with heap := h', toks := tk } := I.kept fun b o e => hx b o e
    refine ⟨.ref h'.objs.size, _, I1.laid (t' := tk) (o := PinO h'.objs.size (PySem.W.kla_obj "<lambda>" (X.env.qual ++ "<lambda>") params body scope (cloFrom X.env.cells scope.names []) ((X.mg "__name__").getD .none) c' ctv)) (fun b o e => Heap.get?_push_of_some _ e) (Nat.le_refl _) ⟨Heap.get?_push_size _ rfl, ⟨_, Heap.get?_push_size _ rfl⟩⟩, rfl, ?_⟩
    exact h H h'.objs.size c' _ ctv (Grown.refl H) T (I1.hok.fresh (Nat.le_refl _)) he clo
end
end GL

set_option Elab.async false
set_option linter.all false
set_option maxRecDepth 100000
set_option maxHeartbeats 2000000
namespace GL
open PySem PySem.Spec PyProof.Rows L2 GX GD
/-! ## 3. a lambda of one parameter is called -/
structure LamSc (p : Str) (scope : Scope) : Prop where
  kind : scope.kind = .function
  co : scope.isCoroutine = false
  gen : scope.isGenerator = false
  nocell : ∀ y ∈ scope.names, y.2 ≠ .cell
  par : scope.names.lookup p = some .local
  nd : (p :: freeN scope).Nodup
  loc : ∀ y ∈ scope.names, y.2 = .local → y.1 = p
abbrev lamE (q : Str) (scope : Scope) (L f c' : Addr) (cl : List (Str × Addr)) : Env := PySem.W.envX q scope L f (.ref c') cl
/-- the context of a lambda's body -/
def lamC (P : Program) (w : World) (K : PySem.W.Frag) (mg : Str → Option Value) (base : Heap) (N : List Str) (A : Around) (outer : List Env) (s : Shared) (H : Hp) (q : Str) (scope : Scope) (f c' : Addr) (cl : List (Str × Addr)) : Cx where
  prog := P
  w := w
  K := K
  mg := mg
  base := base
  A := A.deeper (lamE q scope s.heap.objs.size f c' cl)
  N := N
  s_0 := s
  H_0 := H
  env := lamE q scope s.heap.objs.size f c' cl
  outer := outer
  stack := lamE q scope s.heap.objs.size f c' cl :: outer
  ex := []
  fn := fun _ => false
  calm := true
  pn := []
  xe := fun e s' => wpAny (model P w) (A.deeper (lamE q scope s.heap.objs.size f c' cl)) (leaving (lamE q scope s.heap.objs.size f c' cl) e) (fun _ s'' => False) (fun e' s'' => False) s'
section
variable {P : Program} {w : World} {K : PySem.W.Frag} {mg : Str → Option Value} {base : Heap} {A : Around} {outer : List Env} {s : Shared} {H H' : Hp} {cl : List (Str × Addr)} {ys : List Str} {vs : List V}
/-- the cells of what was captured -/
theorem caps_pins (h : CapsAt H cl ys vs) : ∃ L : PL, (∀ b o, L.lookup b = some o → H b = some (PinO b o) ∧ ∃ y ∈ ys, cl.lookup y = some b) ∧ ∀ y ∈ ys, ∃ c o, cl.lookup y = some c ∧ L.lookup c = some o := by
  induction h with
  | nil => exact ⟨[], ⟨fun b o e => (nomatch e), fun y hy => (nomatch hy)⟩⟩
  | @cons y ys c o u v vs h1 h2 h3 h4 h5 ih =>
    obtain ⟨L, l1, l2⟩ := ih
    refine ⟨(c, o) :: L, fun b o' e => ?_, fun z hz => ?_⟩
    · rw [List.lookup_cons] at e
      by_cases hb : b = c
      · subst hb
        rw [beq_self_eq_true] at e
        cases e
        exact ⟨h2, y, List.mem_cons_self, h1⟩
      · rw [beq_eq_false_iff_ne.mpr hb] at e
        obtain ⟨e1, z, e2, e3⟩ := l1 b o' e
        exact ⟨e1, z, List.mem_cons_of_mem _ e2, e3⟩
    · rcases List.mem_cons.mp hz with e | e
      · subst e
        exact ⟨c, o, h1, by rw [List.lookup_cons, beq_self_eq_true]⟩
      · obtain ⟨c2, o2, e1, e2⟩ := l2 z e
        by_cases hb : c2 = c
        · exact ⟨c2, o, e1, by rw [List.lookup_cons, beq_iff_eq.mpr hb]⟩
        · exact ⟨c2, o2, e1, by rw [List.lookup_cons, beq_eq_false_iff_ne.mpr hb]; exact e2⟩
theorem caps_get (h : CapsAt H cl ys vs) : ∀ {i : Nat} {y : Str}, ys[i]? = some y → ∃ v c o u, vs[i]? = some v ∧ cl.lookup y = some c ∧ H c = some (PinO c o) ∧ o.data = .cell (some u) ∧ RelV v u := by
  induction h with
  | nil => intro i y e; simp at e
  | @cons y ys c o u v vs h1 h2 h3 h4 h5 ih =>
    intro i z e
    cases i with
    | zero => simp at e; subst e; exact ⟨v, c, o, u, rfl, h1, h2, h3, h4⟩
    | succ i => exact ih (by simpa using e)
theorem caps_len (h : CapsAt H cl ys vs) : vs.length = ys.length := by
  induction h with
  | nil => rfl
  | cons _ _ _ _ _ ih => rw [List.length_cons, List.length_cons, ih]
theorem lam_start {q : Str} {scope : Scope} {f c' : Addr} {p : Str} {L : PL} {u : Value} {v : V} {h₁ : Heap} {tk : Nat} (S : LamSc p scope) (e0 : Env0 P w K mg base A outer s H) (hd : A.handled = none) (hcap : CapsAt H cl (freeN scope) vs) (clo : CloOk cl scope)
    (hL : ∀ b o, L.lookup b = some o → H b = some (PinO b o) ∧ ∃ y ∈ freeN scope, cl.lookup y = some b) (hL2 : ∀ y ∈ freeN scope, ∃ c o, cl.lookup y = some c ∧ L.lookup c = some o) (r : RelV v u)
    (hns : h₁.Ns s.heap.objs.size fun y => ([(p, u)] : List (Str × Value)).reverse.lookup y) (kp : ∀ b o, s.heap.get? b = some o → h₁.get? b = some o) :
    Inv (lamC P w K mg base (p :: freeN scope) A outer s (unpH H L) q scope f c' cl) [] (some v :: vs.map some) (unpH H L) { s with heap := h₁, toks := tk } := by
  have hP : ∀ b o, L.lookup b = some o → H b = some (PinO b o) := fun b o e => (hL b o e).1
  have e1 := env0_unp e0 hP
  have hcell : ∀ x c, cl.lookup x = some c → ∃ o u, H c = some (PinO c o) ∧ o.data = .cell (some u) ∧ ∃ o', L.lookup c = some o' := fun x c e => by
    have hx := clo.mem x c e
    obtain ⟨i, hi⟩ := List.mem_iff_getElem?.mp hx
    obtain ⟨v', c2, o, u', _, e2, e3, e4, _⟩ := caps_get hcap hi
    rw [e] at e2
    cases e2
    obtain ⟨c3, o3, e5, e6⟩ := hL2 x hx
    rw [e] at e5
    cases e5
    exact ⟨o, u', e3, e4, o3, e6⟩
  have isC : ∀ {c : Addr} {o : Obj} {u : Value}, H c = some (PinO c o) → o.data = .cell (some u) → h₁.IsCell c (some u) := fun {c o u} e d => ⟨o, kp _ _ (e0.hok c _ e).1, d⟩
  have noA : ∀ b : Addr, b ∉ (lamC P w K mg base (p :: freeN scope) A outer s (unpH H L) q scope f c' cl).ex := fun b z => absurd (show b ∈ ([] : List Addr) from z) (by simp)
  refine ⟨⟨e1.mod, S.kind, rfl, rfl, Nat.le_refl _, fun y z c e1 e2 => clo.inj y z c e1 e2, fun y hy => ?_, fun y c z _ => ?_, fun _ => hd, Around.frames_deeper e1.frames, .inr ⟨rfl, rfl⟩, fun b z => absurd z (noA b), e1.bs, e1.bsz, fun b _ _ => noA b,
      fun b z => absurd z (noA b), e1.funs, e1.frf⟩,
    rfl, e1.bare, Un.kept kp, ⟨_, hns, fun i y v' e1 e2 e3 => ?_⟩, fun y c e => ?_, e1.hok.fresh (Nat.le_refl _), fun y c e => ?_, fun q hq => absurd (show q ∈ ([] : List (Addr × Obj)) ++ [] from hq) (by simp), e1.hok.kept kp, ?_⟩
  · have hy : scope.names.lookup y = some .cell ∨ scope.names.lookup y = some .free := hy
    rcases hy with hy | hy
    · exact absurd rfl (S.nocell _ (PySem.mem_of_lookup hy))
    · obtain ⟨c, o, e1, _⟩ := hL2 y (mem_freeN (PySem.mem_of_lookup hy))
      exact ⟨c, e1⟩
  · have z : false = true := z
    cases z
  · have e1 : (p :: freeN scope)[i]? = some y := e1
    have e2 : (some v :: vs.map some)[i]? = some (some v') := e2
    cases i with
    | zero =>
      simp at e1 e2
      subst e1 e2
      exact ⟨u, r, .inl ⟨S.par, by simp⟩⟩
    | succ i =>
      have e1 : (freeN scope)[i]? = some y := by simpa using e1
      obtain ⟨v2, c, o, u2, h1, h2, h3, h4, h5⟩ := caps_get hcap e1
      have e2 : (vs.map some)[i]? = some (some v') := by simpa using e2
      rw [List.getElem?_map, h1] at e2
      cases e2
      have hf : scope.names.lookup y = some .free := by
        have hm := of_freeN (List.mem_of_getElem? e1)
        obtain ⟨k, hk⟩ := mem_lookup hm
        have hk2 := PySem.mem_of_lookup hk
        cases k with
        | «free» => exact hk
        | «local» =>
          have := S.loc _ hk2 rfl
          have hn := (List.nodup_cons.mp S.nd).1
          have this : y = p := this
          rw [this] at e1
          exact absurd (List.mem_of_getElem? e1) hn
        | cell => exact absurd rfl (S.nocell _ hk2)
        | _ =>
          have e3 : Vis scope y := e3
          rcases e3 with k | k | k <;> rw [hk] at k <;> cases k
      exact ⟨u2, h5, .inr ⟨.inr hf, c, h2, isC h3 h4⟩⟩
  · obtain ⟨o, u', h1, h2, _⟩ := hcell y c e
    exact ⟨some u', isC h1 h2⟩
  · obtain ⟨o, u', h1, h2, o', h3⟩ := hcell y c e
    exact unp_in h3
  · show (some v :: vs.map some).length = (p :: freeN scope).length
    rw [List.length_cons, List.length_cons, List.length_map, caps_len hcap]
end
/-- a lambda's promise: over what it captured, its argument -/
structure LamOk (P : Program) (wl : World) (K : PySem.W.Frag) (mg : Str → Option Value) (base : Heap) (k : Nat) (l : Expr) (sp : List V → V → Hp → VK → Prop) : Prop where
  run : ∀ (A : Around) (outer : List Env) (s : Shared) (H : Hp) (f : Addr) (u : Value) (v : V) (caps : List V) (Q : VK), Room k A → Env0 P wl K mg base A outer s H → LamAt H f l caps → RelV v u → sp caps v H Q →
    codeAny (model P wl) A (.call (.ref f) ⟨[u], []⟩) (CR CX0 outer P wl H s Q fun _ _ _ => False) s
theorem lam_of {P : Program} {wl : World} {K : PySem.W.Frag} {mg : Str → Option Value} {base : Heap} {k : Nat} {params : Arguments} {body : Expr} {scope : Scope} {pos : Pos} {p : Str} {sp : List V → V → Hp → VK → Prop} {tb : Addr → TE} (S : LamSc p scope)
    (hbind : ∀ (q : Str) (cl : List (Str × Addr)) (pm cv ctv u : Value), bindArgs (PySem.W.kla_fn "<lambda>" q params body scope cl pm cv ctv) ⟨[u], []⟩ = pure [(p, u)])
    (hbody : ∀ (A : Around) (outer : List Env) (s : Shared) (H : Hp) (q : Str) (f c' : Addr) (cl : List (Str × Addr)), Room k (A.deeper (lamE q scope s.heap.objs.size f c' cl)) → PE (lamC P wl K mg base (p :: freeN scope) A outer s H q scope f c' cl) body (tb c'))
    (hsp : ∀ (caps : List V) (v : V) (H : Hp) (Q : VK), sp caps v H Q → ∀ (c' : Addr) (L : PL), (∀ b o, L.lookup b = some o → H b = some (PinO b o)) → tb c' (some v :: caps.map some) (unpH H L) fun v' H' => (∀ b o, L.lookup b = some o → H' b = none) → Q v' (pinH H' L)) :
    LamOk P wl K mg base (k + 1) (.Lambda params body scope pos) sp := by
  refine ⟨fun A outer s H f u v caps Q hr e0 hl r h => ?_⟩
  obtain ⟨params', body', scope', pos', qual, cl, pm, ctv, c', e1, hf, hc, hcap, hm, hi⟩ := hl.ex
  cases e1
  obtain ⟨L, hL, hL2⟩ := caps_pins hcap
  have hP : ∀ b o, L.lookup b = some o → H b = some (PinO b o) := fun b o e => (hL b o e).1
  have of1 := (e0.hok f _ hf).1
  obtain ⟨⟨oc, vs, t, hoc, hdc, hvc⟩, _, _⟩ := e0.hok c' _ hc
  refine PySem.W.kla_callFunE hr.depth of1 rfl S.co S.gen rfl ⟨c', oc, vs, t, rfl, hoc, hdc, hvc⟩ ?_
  rw [hbind]
  have lim : s.heap.NoLimit := e0.mod.nolimit.keeps fun b o e => (e0.bs b o e).1
  refine wpAny_pure (wpAny_newFunctionEnv (fun y hy => S.nocell y hy) (fun y hy => by rw [List.mem_singleton.mp hy]; exact S.par) (fun h₁ hns hsb => ⟨lim.fresh _ hsb, ?_⟩) S.kind)
  show codeAny _ _ (.expr body (lamE qual scope s.heap.objs.size f c' cl)) _ _
  have kp : ∀ b o, s.heap.get? b = some o → h₁.get? b = some o := fun b o e => hsb.extBut b o (Nat.ne_of_lt (Heap.lt_size e)) (Heap.get?_push_of_some _ e)
  have J : Inv (lamC P wl K mg base (p :: freeN scope) A outer s (unpH H L) qual scope f c' cl) [] (some v :: caps.map some) (unpH H L) { s with heap := h₁, toks := s.toks + ([(p, u)] : List (Str × Value)).length } :=
    lam_start S e0 hr.hd hcap ⟨hm, hi⟩ hL hL2 r hns kp
  refine PySem.W.kla_codeExpr (wpAny_mono ((hbody A outer s (unpH H L) qual f c' cl (hr.deeper _)).run [] _ _ (unpH H L) _ J (hsp caps v H Q h c' L hP)) (fun v' s' hq => ?_) fun e s' hq => hq)
  obtain ⟨w', H', J', rv, q⟩ := hq
  have hn : ∀ b o, L.lookup b = some o → H' b = none := fun b o e => by
    obtain ⟨_, y, hy, e2⟩ := hL b o e
    exact J'.freeC y b e2
  have hg : ∀ b o, L.lookup b = some o → s'.heap.get? b = some o := fun b o e => by
    have e2 : s.heap.get? b = some o := (e0.hok b _ (hP b o e)).1
    refine J'.base.keep b o e2 (unp_in e) (fun z => ?_) (fun z => by cases z)
    have z : b ∈ frs outer := z
    have := e0.frf b z
    rw [hP b o e] at this
    cases this
  exact ⟨w', pinH H' L, J'.os, J'.bare, un_pin J'.base hP, hok_pin J'.hok hg hn, rv, q hn⟩
/-! ## 4. calls -/
section
variable {X : Cx}
/-- the i-th slot holds a lambda: it is called -/
theorem pe_callV {k i : Nat} {l : Expr} {sp : List V → V → Hp → VK → Prop} {x : Str} {p pos : Pos} {e : Expr} {t : TE} (C : LamOk X.prog X.w X.K X.mg X.base k l sp) (hr : Room k X.A) (hN : X.N[i]? = some x) (hv : Vis X.env.scope x) (ha : PE X e t)
    (hdb : (x == ("__debug__" : Str)) = false := by decide) (hcd : (x == ("__classdict__" : Str)) = false := by decide) (he : starEach [e] X.env = (false, eval e X.env) :: starEach [] X.env := by rfl) :
    PE X (.Call (.Name x p) [e] [] pos) (fun σ H Q => ∃ f, σ[i]? = some (some (.ref f)) ∧ (∃ caps, LamAt H f l caps) ∧ t σ H fun v H1 => ∃ caps, LamAt H1 f l caps ∧ sp caps v H1 Q) := by
  refine ⟨fun pins s σ H Q I h => ?_⟩
  obtain ⟨f, hs, ⟨caps0, hl0⟩, ht⟩ := h
  have fnAt : ∀ {σ : L2.St} {H : Hp} {s : Shared} {caps : List V}, Inv X pins σ H s → LamAt H f l caps → PySem.W.FnAt f s.heap := fun {σ H s caps} I hl => by
    obtain ⟨params', body', scope', pos', qual, cl, pm, ctv, c', e1, hf, _⟩ := hl.ex
    exact ⟨_, _, _, _, (I.hok f _ hf).1⟩
  refine wpAny_Call_Name_kw (thn ((pe_var (pos := p) hN hv hdb hcd).run pins s σ H (fun v H1 => v = .ref f ∧ H1 = H) I ⟨.ref f, hs, rfl, rfl⟩) fun u s1 ⟨v, H1, I1, r1, q1⟩ => ?_)
  obtain ⟨ev, eH⟩ := q1
  subst ev
  rw [eH] at I1
  obtain rfl : u = Value.ref f := r1
  refine PySem.W.callWith_F (fnAt I1 hl0) (thn ((pa_cons ha pa_nil he).run pos pins s1 σ _ (fun vs H1 => match vs with | [v] => ∃ caps, LamAt H1 f l caps ∧ sp caps v H1 Q | _ => False) I1 ht) fun us s2 ⟨vs, H2, I2, r, q⟩ => ?_) he
  match vs, r, q with
  | [v], r, ⟨caps, h1, h2⟩ =>
    obtain ⟨u, rfl, ru⟩ := vals1 r
    refine ⟨fnAt I2 h1, ?_⟩
    refine wpAny_call (codeAny_mono (C.run X.A X.stack s2 H2 f u v caps Q hr I2.env0 h1 ru h2) fun r s' hq => ?_)
    cases r with
    | error e => exact (show False from hq).elim
    | ok fl =>
      cases fl with
      | ret u => exact I2.after hq
      | next => exact False.elim hq
      | brk => exact False.elim hq
      | cont => exact False.elim hq
end
end GL

set_option Elab.async false
set_option linter.all false
set_option maxRecDepth 100000
set_option maxHeartbeats 2000000
namespace GL
open PySem PySem.Spec PyProof.Rows L2 GX GD
/-! ## 5. a def is called with a lambda: the cells are known meanwhile -/
theorem capsAt_of {H : Hp} {cl : List (Str × Addr)} : ∀ {ys : List Str} {vs : List V}, vs.length = ys.length → (∀ (i : Nat) (y : Str), ys[i]? = some y → ∃ v c o u, vs[i]? = some v ∧ cl.lookup y = some c ∧ H c = some (PinO c o) ∧ o.data = .cell (some u) ∧ RelV v u) → CapsAt H cl ys vs
  | [], [], _, _ => .nil
  | [], _ :: _, h, _ => by cases h
  | _ :: _, [], h, _ => by cases h
  | y :: ys, v :: vs, h, k => by
    obtain ⟨v', c, o, u, e1, e2, e3, e4, e5⟩ := k 0 y rfl
    cases e1
    exact .cons e2 e3 e4 e5 (capsAt_of (by simpa using h) fun i z hz => k (i + 1) z (by simpa using hz))
theorem mem_look {b : Addr} {o : Obj} : ∀ {l : PL}, l.lookup b = some o → (b, o) ∈ l
  | [], e => by cases e
  | (c, o2) :: l, e => by
    rw [List.lookup_cons] at e
    by_cases hb : b = c
    · subst hb
      rw [beq_self_eq_true] at e
      cases e
      exact List.mem_cons_self
    · rw [beq_eq_false_iff_ne.mpr hb] at e
      exact List.mem_cons_of_mem _ (mem_look e)
section
variable {X : Cx} {pins : List (Addr × Obj)} {σ : L2.St} {H : Hp} {s : Shared}
theorem lam_caps {scope : Scope} {js : List Nat} {caps : List V} (I : Inv X pins σ H s) (hfn : ∀ x, X.fn x = true) (hfree : ∀ y ∈ scope.names, y.2 = .free → X.env.scope.names.lookup y.1 = some .cell ∨ X.env.scope.names.lookup y.1 = some .free)
    (hjs : (js.map fun j => X.N[j]?) = (freeN scope).map some) (hcaps : (js.map fun j => σ[j]?) = caps.map fun v => some (some v)) :
    ∃ L : PL, (∀ b o, L.lookup b = some o → s.heap.get? b = some o ∧ H b = none ∧ b ∉ frs X.stack ∧ X.base.get? b = none) ∧ CapsAt (pinH H L) (cloFrom X.env.cells scope.names []) (freeN scope) caps := by
  have hfr : ∀ y ∈ scope.names, y.2 = .free → ∃ c, X.env.cells.lookup y.1 = some c := fun y hy e => I.ok.has _ (by
    rcases hfree y hy e with k | k
    · exact .inl k
    · exact .inr k)
  have lookC : ∀ y ∈ freeN scope, ∃ c, X.env.cells.lookup y = some c ∧ (cloFrom X.env.cells scope.names []).lookup y = some c := fun y hy => by
    obtain ⟨c, hc⟩ := hfr _ (of_freeN hy) rfl
    have hc : X.env.cells.lookup y = some c := hc
    refine ⟨c, hc, ?_⟩
    obtain ⟨c', e⟩ := mem_lookup (cloFrom_has (cells := X.env.cells) (acc := []) (of_freeN hy))
    rw [e]
    rcases cloFrom_mem (PySem.mem_of_lookup e) with hm | ⟨h1, h2⟩
    · cases hm
    · rw [h2, hc]
      rfl
  have ln : js.length = (freeN scope).length := by have := congrArg List.length hjs; simpa using this
  have lc : js.length = caps.length := by have := congrArg List.length hcaps; simpa using this
  have val : ∀ (i : Nat) (y : Str), (freeN scope)[i]? = some y → ∃ v c o u, caps[i]? = some v ∧ X.env.cells.lookup y = some c ∧ s.heap.get? c = some o ∧ o.data = .cell (some u) ∧ RelV v u := fun i y hy => by
    have hi : i < js.length := by rw [ln]; exact (List.getElem?_eq_some_iff.mp hy).1
    have e1 := congrArg (fun l => l[i]?) hjs
    have e2 := congrArg (fun l => l[i]?) hcaps
    simp only [List.getElem?_map, List.getElem?_eq_getElem hi, hy] at e1 e2
    have e1 : X.N[js[i]]? = some y := Option.some.inj e1
    have hv : ∃ v, caps[i]? = some v := by
      have := (List.getElem?_eq_getElem (show i < caps.length by omega))
      exact ⟨_, this⟩
    obtain ⟨v, hv⟩ := hv
    rw [hv] at e2
    have e2 : σ[js[i]]? = some (some v) := Option.some.inj e2
    obtain ⟨m, hn, hl⟩ := I.loc
    have hk := hfree (y, .free) (of_freeN (List.mem_of_getElem? hy)) rfl
    have hk : X.env.scope.names.lookup y = some .cell ∨ X.env.scope.names.lookup y = some .free := hk
    have hvis : Vis X.env.scope y := hk.elim (fun k => .inr (.inl k)) (fun k => .inr (.inr k))
    obtain ⟨u, r, q⟩ := hl _ y v e1 e2 hvis
    rcases q with ⟨k', _⟩ | ⟨_, c, e, ⟨o, ho, hd⟩⟩
    · have k' : X.env.scope.names.lookup y = some .local := k'
      rcases hk with k2 | k2 <;> rw [k2] at k' <;> cases k'
    · exact ⟨v, c, o, u, hv, e, ho, hd, r⟩
  -- the cells
  let L : PL := (freeN scope).filterMap fun y => (X.env.cells.lookup y).bind fun c => (s.heap.get? c).map fun o => (c, o)
  have memL : ∀ b o, (b, o) ∈ L ↔ ∃ y ∈ freeN scope, X.env.cells.lookup y = some b ∧ s.heap.get? b = some o := fun b o => by
    show (b, o) ∈ (freeN scope).filterMap _ ↔ _
    rw [List.mem_filterMap]
    constructor
    · rintro ⟨y, hy, e⟩
      cases hc : X.env.cells.lookup y with
      | none => rw [hc] at e; cases e
      | some c =>
        rw [hc] at e
        cases ho : s.heap.get? c with
        | none => simp [ho] at e
        | some o' =>
          simp [ho] at e
          obtain ⟨rfl, rfl⟩ := e
          exact ⟨y, hy, hc, ho⟩
    · rintro ⟨y, hy, hc, ho⟩
      exact ⟨y, hy, by rw [hc]; simp [ho]⟩
  have inL : ∀ b o, L.lookup b = some o → ∃ y ∈ freeN scope, X.env.cells.lookup y = some b ∧ s.heap.get? b = some o := fun b o e => (memL b o).mp (mem_look e)
  have toL : ∀ b o, (b, o) ∈ L → L.lookup b = some o := fun b o hm => by
    have ex : ∀ l : PL, (b, o) ∈ l → ∃ o', l.lookup b = some o' := fun l => by
      induction l with
      | nil => intro h; cases h
      | cons p l ih =>
        obtain ⟨c, o2⟩ := p
        intro h
        rw [List.lookup_cons]
        by_cases hb : b = c
        · exact ⟨o2, by rw [beq_iff_eq.mpr hb]⟩
        · rw [beq_eq_false_iff_ne.mpr hb]
          rcases List.mem_cons.mp h with z | z
          · cases z; exact absurd rfl hb
          · exact ih z
    obtain ⟨o', e⟩ := ex L hm
    obtain ⟨_, _, _, h1⟩ := inL b o' e
    obtain ⟨_, _, _, h2⟩ := (memL b o).mp hm
    rw [e]
    rw [h1] at h2
    exact h2
  refine ⟨L, fun b o e => ?_, capsAt_of (by omega) fun i y hy => ?_⟩
  · obtain ⟨y, hy, hc, ho⟩ := inL b o e
    have hge : X.s_0.heap.objs.size ≤ b := I.ok.cab y b (hfn y) hc
    refine ⟨ho, I.freeC y b hc, fun z => ?_, ?_⟩
    · have hout : b ∉ frs X.outer := fun z => by
        obtain ⟨_, o', ho', _⟩ := I.ok.funs.mem z
        exact absurd (Nat.lt_of_lt_of_le (Heap.lt_size ho') hge) (Nat.lt_irrefl _)
      rcases I.ok.stk with e1 | ⟨e1, e2⟩
      · rw [e1] at z
        exact hout z
      · rw [e1] at z
        have z : b ∈ (X.env :: X.outer).filterMap (·.frame) := z
        rw [List.filterMap_cons, e2] at z
        rcases List.mem_cons.mp z with q | q
        · exact I.cne y b hc q
        · exact hout q
    · cases hb : X.base.get? b with
      | none => rfl
      | some o' => exact absurd (Nat.lt_of_lt_of_le (Nat.lt_of_lt_of_le (Heap.lt_size hb) I.ok.bsz) hge) (Nat.lt_irrefl _)
  · obtain ⟨v, c, o, u, h1, h2, h3, h4, h5⟩ := val i y hy
    obtain ⟨c2, e1, e2⟩ := lookC y (List.mem_of_getElem? hy)
    rw [h2] at e1
    cases e1
    refine ⟨v, c, o, u, h1, e2, pin_in (toL c o ((memL c o).mpr ⟨y, List.mem_of_getElem? hy, h2, h3⟩)), h4, h5⟩
/-- x(..), a lambda with its captured slots js among the arguments -/
theorem pe_callF {k : Nat} {f : Addr} {fd : FuncData} {ps : List Str} {sp : Sp} {x : Str} {p pos : Pos} {e : Expr} {es : List Expr} {t : TA} {scope : Scope} {js : List Nat} (F : FnOk X.prog X.w X.K X.mg X.base CX0 k f fd ps sp) (hr : Room k X.A) (hg : Gl X x) (hm : X.mg x = some (.ref f)) (hk : PySem.W.keepIn X.K (.ref f) = true) (hb : L2.Binds X.K fd ps [])
    (hfn : ∀ x, X.fn x = true) (hfree : ∀ y ∈ scope.names, y.2 = .free → X.env.scope.names.lookup y.1 = some .cell ∨ X.env.scope.names.lookup y.1 = some .free) (hjs : (js.map fun j => X.N[j]?) = (freeN scope).map some)
    (ha : PA X (e :: es) t) (hdb : (x == ("__debug__" : Str)) = false := by decide) (he : starEach (e :: es) X.env = (false, eval e X.env) :: starEach es X.env := by rfl) (hpl : (backTo pos (starEach es X.env)).any (·.1) = false := by rfl) :
    PE X (.Call (.Name x p) (e :: es) [] pos) (fun σ H Q => t σ H fun vs H1 => ∃ caps : List V, ((js.map fun j => σ[j]?) = caps.map fun v => some (some v)) ∧ ∀ L : PL, (∀ b o, L.lookup b = some o → H1 b = none) → CapsAt (pinH H1 L) (cloFrom X.env.cells scope.names []) (freeN scope) caps → sp vs (pinH H1 L) (fun v H' => Q v (unpH H' L)) fun _ _ _ => False) := by
  refine ⟨fun pins s σ H Q I h => ?_⟩
  refine wpAny_Call_Name_kw (ld_glob I hg hm ?_ hdb)
  refine PySem.W.callWith_K (h₀ := X.base) I.ok.mod.kin hk (thn (ha.run pos pins s σ H _ I h) fun us s1 ⟨vs, H1, I1, r, q⟩ => ⟨I1.kIn, ?_⟩) he hpl
  obtain ⟨caps, hc, q⟩ := q
  obtain ⟨L, hL, hcap⟩ := lam_caps I1 hfn hfree hjs hc
  have q := q L (fun b o e => (hL b o e).2.1) hcap
  have hl : us.length = ps.length := by rw [← r.length]; exact F.len _ _ _ _ q
  have hb' := hb s1 us I1.kIn (by rw [List.append_nil]; exact hl)
  rw [List.append_nil] at hb'
  refine wpAny_call (codeAny_mono (F.run X.A X.stack s1 (pinH H1 L) ⟨us, []⟩ us vs _ _ hr (env0_pin I1.env0 hL) hb' r q) fun r s' hq => ?_)
  cases r with
  | error e => exact (show False from hq).elim
  | ok fl =>
    cases fl with
    | ret u =>
      obtain ⟨v, H', os, bare, un, hok, rv, q⟩ := (show CE _ _ _ _ _ _ _ _ from hq)
      exact I1.after ⟨v, unpH H' L, os, bare, un_unp un hok (fun b o e => (hL b o e).1) fun b o e => (hL b o e).2.1, hok_unp hok fun b o e => un.frzs b o _ (pin_in e), rv, q⟩
    | next => exact False.elim hq
    | brk => exact False.elim hq
    | cont => exact False.elim hq
end
/-! ## 6. over data -/
section
variable {ι ι' : List Addr} {H H' : Hp} {L : PL}
mutual
theorem rep_tr (h : ∀ b xs, H b = some (.tup xs) → H' b = some (.tup xs)) : ∀ {v : V} {d : D}, Rep ι H v d → Rep ι H' v d
  | _, _, .non => .non
  | _, _, .bl b => .bl b
  | _, _, .int i => .int i
  | _, _, .str x => .str x
  | _, _, .tup e l r => .tup (h _ _ e) l (reps_tr h r)
  | _, _, .ref e => .ref e
theorem reps_tr (h : ∀ b xs, H b = some (.tup xs) → H' b = some (.tup xs)) : ∀ {vs : List V} {ds : List D}, Reps ι H vs ds → Reps ι H' vs ds
  | _, _, .nil => .nil
  | _, _, .cons r t => .cons (rep_tr h r) (reps_tr h t)
end
theorem sr_tr {w : Ws} {st : SS} (s : SR w ι st H) (h : ∀ b o, H b = some o → (∀ x y, o ≠ .frz x (.own y)) → H' b = some o) (t : ∀ P ps, H' P = some (.tbl ps) → H P = some (.tbl ps)) : SR w ι st H' := by
  have ht : ∀ b xs, H b = some (.tup xs) → H' b = some (.tup xs) := fun b xs e => h b _ e fun _ _ z => by cases z
  refine ⟨s.len, s.nd, fun n a c h1 h2 => ?_, fun P ps e => ?_, fun P hP => ?_⟩
  · have q := s.cell n a c h1 h2
    cases c with
    | lst ds =>
      obtain ⟨vs, e1, l, r⟩ := q
      exact ⟨vs, h _ _ e1 (fun _ _ z => by cases z), l, reps_tr ht r⟩
    | frz ds =>
      obtain ⟨o, vs, e1, l, r⟩ := q
      exact ⟨o, vs, h _ _ e1 (fun _ _ z => by cases z), l, reps_tr ht r⟩
    | dic ds =>
      obtain ⟨vs, e1, l, r⟩ := q
      exact ⟨vs, h _ _ e1 (fun _ _ z => by cases z), l, r.keys, reps_tr ht r.vals⟩
    | obj x ds =>
      obtain ⟨C, dx, vs, e1, l, r⟩ := q
      exact ⟨C, dx, vs, h _ _ e1 (fun _ _ z => by cases z), l, r.keys, reps_tr ht r.vals⟩
    | dicN ds =>
      obtain ⟨vs, e1, l, r⟩ := q
      refine ⟨vs, e1.keeps ht ?_, l, r.keys, reps_tr ht r.vals⟩
      rcases e1 with ⟨e, _⟩ | ⟨xs, e, _⟩
      · rw [e]; exact h _ _ e (fun _ _ z => by cases z)
      · rw [e]; exact h _ _ e (fun _ _ z => by cases z)
  · obtain ⟨q1, q2⟩ := s.tabs P ps (t P ps e)
    refine ⟨q1, fun pos cv hcv => ?_⟩
    obtain ⟨c, e1, e2⟩ := q2 pos cv hcv
    refine ⟨c, e1, ?_⟩
    unfold EntryOk at e2 ⊢
    split
    · rename_i z
      rw [z] at e2
      obtain ⟨P', h1, ps', h2⟩ := e2
      exact ⟨P', h _ _ h1 (fun _ _ z => by unfold CodeG at z; cases z), ps', h _ _ h2 (fun _ _ z => by cases z)⟩
    · rename_i q z
      rw [z] at e2
      exact h _ _ e2 fun _ _ z => by unfold LamX.CodeO at z; cases z
  · obtain ⟨ps, e⟩ := s.tab P hP
    exact ⟨ps, h _ _ e fun _ _ z => by cases z⟩
end
section
variable {w : Ws} {ι ι' : List Addr} {st st' : SS} {H H' : Hp} {L : PL} {v : V} {d : D}
theorem sr_pin (s : SR w ι st H) (hN : ∀ b o, L.lookup b = some o → H b = none) : SR w ι st (pinH H L) := sr_tr s (fun b o e _ => by rw [pin_out (look_none hN e)]; exact e) fun P ps e => by
  cases q : L.lookup P with
  | some o => rw [pin_in q] at e; cases e
  | none => rw [pin_out q] at e; exact e
theorem sr_unp (s : SR w ι st H) (hP : ∀ b o, L.lookup b = some o → H b = some (PinO b o)) : SR w ι st (unpH H L) := sr_tr s (fun b o e hu => by rw [unp_out (look_pin hP e hu)]; exact e) fun P ps e => by
  cases q : L.lookup P with
  | some o => rw [unp_in q] at e; cases e
  | none => rw [unp_out q] at e; exact e
theorem reps_pin {vs : List V} {ds : List D} (r : Reps ι H vs ds) (hN : ∀ b o, L.lookup b = some o → H b = none) : Reps ι (pinH H L) vs ds := reps_tr (fun b xs e => by rw [pin_out (look_none hN e)]; exact e) r
theorem rep_unp (r : Rep ι H v d) (hP : ∀ b o, L.lookup b = some o → H b = some (PinO b o)) : Rep ι (unpH H L) v d := rep_tr (fun b xs e => by rw [unp_out (look_pin hP e fun _ _ z => by cases z)]; exact e) r
theorem reps_unp {vs : List V} {ds : List D} (r : Reps ι H vs ds) (hP : ∀ b o, L.lookup b = some o → H b = some (PinO b o)) : Reps ι (unpH H L) vs ds := reps_tr (fun b xs e => by rw [unp_out (look_pin hP e fun _ _ z => by cases z)]; exact e) r
theorem rep_pin (r : Rep ι H v d) (hN : ∀ b o, L.lookup b = some o → H b = none) : Rep ι (pinH H L) v d := rep_tr (fun b xs e => by rw [pin_out (look_none hN e)]; exact e) r
theorem pins_kp (g : Gr ι H ι' H') (hP : ∀ b o, L.lookup b = some o → H b = some (PinO b o)) : ∀ b o, L.lookup b = some o → H' b = some (PinO b o) := fun b o e => g.kp.pin (hP b o e)
/-- from the maker: while the call ran the cells were known -/
theorem gr_unp (g : Gr ι (pinH H L) ι' H') (hN : ∀ b o, L.lookup b = some o → H b = none) : Gr ι H ι' (unpH H' L) := by
  refine ⟨g.pre, ⟨fun b o e n f => ?_, fun b ps e => ?_⟩, fun c hc => ?_⟩
  · have q := look_none hN e
    rw [unp_out q]
    exact g.kp.keep b o (by rw [pin_out q]; exact e) n f
  · have q := look_none hN e
    rw [unp_out q]
    exact g.kp.tab b ps (by rw [pin_out q]; exact e)
  · rcases g.new c hc with h | h
    · exact .inl h
    · refine .inr ?_
      cases q : L.lookup c with
      | some o => rw [pin_in q] at h; cases h
      | none => rw [pin_out q] at h; exact h
/-- from the lambda: its cells were its own -/
theorem gr_pin (g : Gr ι (unpH H L) ι' H') (s : SR w ι' st' H') (hP : ∀ b o, L.lookup b = some o → H b = some (PinO b o)) (hN : ∀ b o, L.lookup b = some o → H' b = none) : Gr ι H ι' (pinH H' L) := by
  refine ⟨g.pre, ⟨fun b o e n f => ?_, fun b ps e => ?_⟩, fun c hc => ?_⟩
  · cases q : L.lookup b with
    | some o' =>
      rw [hP b o' q] at e
      rw [pin_in q]
      exact e
    | none =>
      rw [pin_out q]
      exact g.kp.keep b o (by rw [unp_out q]; exact e) n f
  · have q := look_pin hP e fun _ _ z => by cases z
    rw [pin_out q]
    exact g.kp.tab b ps (by rw [unp_out q]; exact e)
  · rcases g.new c hc with h | h
    · exact .inl h
    · refine .inr ?_
      cases q : L.lookup c with
      | some o =>
        exfalso
        obtain ⟨i, hi⟩ := List.mem_iff_getElem?.mp hc
        have hl : i < st'.length := by rw [← s.len]; exact (List.getElem?_eq_some_iff.mp hi).1
        have cc := s.cell i c _ hi (List.getElem?_eq_getElem hl)
        have hn := hN c o q
        cases hcl : st'[i] with
        | lst ds => rw [hcl] at cc; obtain ⟨vs, e1, _⟩ := cc; rw [hn] at e1; cases e1
        | frz ds => rw [hcl] at cc; obtain ⟨o', vs, e1, _⟩ := cc; rw [hn] at e1; cases e1
        | dic ds => rw [hcl] at cc; obtain ⟨vs, e1, _⟩ := cc; rw [hn] at e1; cases e1
        | obj x ds => rw [hcl] at cc; obtain ⟨C, dx, vs, e1, _⟩ := cc; rw [hn] at e1; cases e1
        | dicN ds => rw [hcl] at cc; obtain ⟨vs, e1, _⟩ := cc; rcases e1 with ⟨e1, _⟩ | ⟨xs, e1, _⟩ <;> rw [hn] at e1 <;> cases e1
      | none => rw [unp_out q] at h; exact h
end
end GL

set_option Elab.async false
set_option linter.all false
set_option maxRecDepth 100000
set_option maxHeartbeats 2000000
namespace GD
open PySem PySem.Spec PyProof.Rows L2 GX GL
/-! ## 23. lambdas over data -/
def lamSp (w : Ws) (caps : List D) (U : XT) : List V → V → Hp → VK → Prop := fun vcaps v H Q => ∃ ι st d R, Reps ι H vcaps caps ∧ Rep ι H v d ∧ SR w ι st H ∧ U [d] st R ∧ ∀ d' st' ι' v' H', R d' st' → Gr ι H ι' H' → Rep ι' H' v' d' → SR w ι' st' H' → Q v' H'
structure LamD (P : Program) (wl : World) (w : Ws) (mg : Str → Option Value) (k : Nat) (l : Expr) (caps : List D) (U : XT) : Prop where
  ok : LamOk P wl w.K mg w.base k l (lamSp w caps U)
def uLam (m : XP) (caps : List D) : XT := fun ds st R => m (ds.map some ++ caps.map some) st R
abbrev WdN (w : Ws) (c' : Addr) : Wd := ⟨w, c', [], [], [], false⟩
theorem LamD.imp {P : Program} {wl : World} {w : Ws} {mg : Str → Option Value} {k : Nat} {l : Expr} {caps : List D} {U U' : XT} (h : LamD P wl w mg k l caps U) (q : ∀ ds st R, U' ds st R → U ds st R) : LamD P wl w mg k l caps U' :=
  ⟨⟨fun A outer s H f u v cs Q hr e0 hl r ⟨ι, st, d, R, r1, r2, s1, hU, hQ⟩ => h.ok.run A outer s H f u v cs Q hr e0 hl r ⟨ι, st, d, R, r1, r2, s1, q _ _ _ hU, hQ⟩⟩⟩
theorem LamD.mono {P : Program} {wl : World} {w : Ws} {mg : Str → Option Value} {j k : Nat} {l : Expr} {caps : List D} {U : XT} (h : LamD P wl w mg j l caps U) (q : j ≤ k) : LamD P wl w mg k l caps U :=
  ⟨⟨fun A outer s H f u v cs Q hr => h.ok.run A outer s H f u v cs Q (hr.mono q)⟩⟩
theorem lamD_of {P : Program} {wl : World} {w : Ws} {mg : Str → Option Value} {k : Nat} {params : Arguments} {body : Expr} {scope : Scope} {pos : Pos} {p : Str} {m : XP} (S : LamSc p scope)
    (hbind : ∀ (q : Str) (cl : List (Str × Addr)) (pm cv ctv u : Value), bindArgs (PySem.W.kla_fn "<lambda>" q params body scope cl pm cv ctv) ⟨[u], []⟩ = pure [(p, u)])
    (hbody : ∀ (A : Around) (outer : List Env) (s : Shared) (H : Hp) (q : Str) (f c' : Addr) (cl : List (Str × Addr)), Room k (A.deeper (lamE q scope s.heap.objs.size f c' cl)) → Fit (lamC P wl w.K mg w.base (p :: freeN scope) A outer s H q scope f c' cl) (WdN w c') → PE (lamC P wl w.K mg w.base (p :: freeN scope) A outer s H q scope f c' cl) body (tX (WdN w c') m)) (caps : List D) :
    LamD P wl w mg (k + 1) (.Lambda params body scope pos) caps (uLam m caps) := by
  refine ⟨lam_of (tb := fun c' => tX (WdN w c') m) S hbind (fun A outer s H q f c' cl hr => hbody A outer s H q f c' cl hr ⟨rfl, rfl, rfl⟩) fun vcaps v H Q ⟨ι, st, d, R, rc, rv, s, hU, q⟩ c' L hP => ?_⟩
  have rc' := reps_unp rc hP
  refine ⟨ι, some d :: caps.map some, st, R, ⟨by rw [List.length_cons, List.length_cons, List.length_map, List.length_map, rc.length], fun i x hx => ?_, fun z => by (have z : false = true := z; cases z), (fun _ z => by cases z), (fun _ z => by cases z), (fun _ z => by cases z)⟩, sr_unp s hP, hU, fun d' st' ι' v' H' hR g r s' hN => q d' st' ι' v' _ hR (gr_pin g s' hP hN) (rep_pin r hN) (sr_pin s' hN)⟩
  cases i with
  | zero => simp at hx; subst hx; exact ⟨v, rfl, rep_unp rv hP⟩
  | succ i =>
    simp only [List.getElem?_cons_succ, List.getElem?_map] at hx
    cases hc : caps[i]? with
    | none => rw [hc] at hx; cases hx
    | some d2 =>
      rw [hc] at hx
      simp at hx
      subst hx
      obtain ⟨v2, h1, h2⟩ := rc'.get' hc
      exact ⟨v2, by simp [h1], h2⟩
/-! ### defs whose second argument is a lambda -/
def spL (P : Program) (wl : World) (w : Ws) (mg : Str → Option Value) (j : Nat) (T : XT → XT) : Sp := fun vs H Q _ => ∃ ι st f l caps U v0 us ds R, vs = v0 :: .ref f :: us ∧ LamR ι H f l caps ∧ LamD P wl w mg j l caps U ∧ Reps ι H (v0 :: us) ds ∧ SR w ι st H ∧ T U ds st R ∧
  ∀ d st' ι' v H', R d st' → Gr ι H ι' H' → Rep ι' H' v d → SR w ι' st' H' → Q v H'
structure DefL (P : Program) (wl : World) (w : Ws) (mg : Str → Option Value) (k j : Nat) (x : Str) (T : XT → XT) : Prop where
  ex : ∃ (f : Addr) (fd : FuncData) (ps : List Str), FnOk P wl w.K mg w.base CX0 k f fd ps (spL P wl w mg j T) ∧ mg x = some (.ref f) ∧ PySem.W.keepIn w.K (.ref f) = true ∧ Binds w.K fd ps []
theorem DefL.imp {P : Program} {wl : World} {w : Ws} {mg : Str → Option Value} {k j : Nat} {x : Str} {T T' : XT → XT} (c : DefL P wl w mg k j x T) (h : ∀ U ds st R, T' U ds st R → T U ds st R) : DefL P wl w mg k j x T' := by
  obtain ⟨f, fd, ps, hF, r⟩ := c.ex
  exact ⟨f, fd, ps, hF.imp fun vs H Q E ⟨ι, st, f, l, caps, U, v0, us, ds, R, e, h1, h2, h3, h4, h5, h6⟩ => ⟨ι, st, f, l, caps, U, v0, us, ds, R, e, h1, h2, h3, h4, h _ _ _ _ h5, h6⟩, r⟩
def startL (n : Nat) (ds : List D) : EV := match ds with
  | [] => []
  | d :: ds => some d :: none :: (ds.map some ++ List.replicate (n - (ds.length + 2)) none)
def fnL (k n : Nat) (t : XT → XS) : XT → XT := fun U ds st R => ds.length + 1 = n ∧ t U { nx := fun _ st' => R .non st', rt := R } (startL k ds) st
abbrev WdL (w : Ws) (c f : Addr) (l : Expr) (caps : List D) : Wd := ⟨w, c, [(1, .ref f)], [], [(f, l, caps)], true⟩
theorem fxL {w : Ws} {c f : Addr} {l : Expr} {caps : List D} {i : Nat} (h : 1 ≠ i) : ∀ p ∈ (WdL w c f l caps).fx, p.1 ≠ i := fun p hp => by
  rw [List.mem_singleton.mp hp]
  exact h
theorem fxLl {w : Ws} {c f : Addr} {l : Expr} {caps : List D} {js : List Nat} (h : ∀ v ∈ js, 1 ≠ v) : ∀ v ∈ js, ∀ p ∈ (WdL w c f l caps).fx, p.1 ≠ v := fun v hv => fxL (h v hv)
theorem DefC.l {P : Program} {wl : World} {w : Ws} {mg : Str → Option Value} {x : Str} {st : Stmt} {N ps : List Str} {k j : Nat} {t : XT → XS} (F : DefC w mg x st) (S : FnScope N ps (defScope st))
    (hb : ∀ (kV doc pm : Value) (an : Option Addr) (cdv ct : Value) (us : List Value), us.length = ps.length → bindArgs (PySem.W.fnOf x x (defArgs st) (defBody st) (defScope st) .none kV doc pm an cdv ct) ⟨us, []⟩ = pure (ps.zip us))
    (hbody : ∀ (f c fl : Addr) (l : Expr) (caps : List D) (U : XT) (A : Around) (outer : List Env) (s : Shared) (H : Hp) (E : XK), LamD P wl w mg j l caps U → Room k (A.deeper (envOfC x (defScope st) s.heap.objs.size f (.ref c))) → Fit (cxOf CX0 P wl w.K mg w.base N x (defScope st) f (.ref c) A outer s H E).nox (WdL w c fl l caps) →
      PSs (cxOf CX0 P wl w.K mg w.base N x (defScope st) f (.ref c) A outer s H E).nox (defBody st) (tS (WdL w c fl l caps) (t U))) : DefL P wl w mg (k + 1) j x (fnL N.length ps.length t) := by
  obtain ⟨f, c, Pt, fd, ⟨oc, od, kV, doc, pm, an, ct, osl, rfl, lk, hcd⟩, hm, hk, ht, hh⟩ := F.ex
  refine ⟨f, _, ps, fn_of lk hcd S (fun vs H Q E ⟨ι, st, fl, l, caps, U, v0, us, ds, R, e, h1, h2, h3, h4, h5, h6⟩ => by subst e; have hl := h3.length; rw [List.length_cons] at hl; rw [List.length_cons, List.length_cons, hl]; exact h5.1) fun A outer s H vs Q E hr ⟨ι, st, fl, l, caps, U, v0, us, ds, R, e, h1, h2, h3, s', h, q⟩ => ⟨_, (hbody f c fl l caps U A outer s H E h2 hr ⟨rfl, rfl, rfl⟩).nox, ?_⟩, hm, hk, .all (hb kV doc pm an (.ref c) ct)⟩
  subst e
  cases h3 with
  | @cons _ _ d0 ds r0 rs =>
  have hl := rs.length
  refine ⟨ι, startL N.length (d0 :: ds), st, _, ⟨?_, ?_, fun _ => ⟨Pt, .inl hh, s'.tab _ ht⟩, ?_, (fun _ z => by cases z), fun q hq => by rw [List.mem_singleton.mp hq]; exact h1⟩, s', h.2, fun env st' ι' σ H' h g r s => q .non st' ι' .non H' h g .non s, fun d st' ι' v H' h g r s => q d st' ι' v H' h g r s, fun _ _ _ _ _ h _ _ _ => h.elim, fun _ _ _ _ _ h _ _ _ => h.elim⟩
  · unfold startL L2.start
    simp [hl]
  · intro i d hd
    unfold startL at hd
    unfold L2.start
    cases i with
    | zero => simp at hd; subst hd; exact ⟨v0, by simp, r0⟩
    | succ i =>
      cases i with
      | zero => simp at hd
      | succ i =>
        simp only [List.getElem?_cons_succ] at hd
        simp only [List.map_cons, List.cons_append, List.getElem?_cons_succ]
        by_cases hi : i < ds.length
        · rw [List.getElem?_append_left (by simpa using hi)] at hd
          rw [List.getElem?_append_left (by simpa [hl] using hi)]
          rw [List.getElem?_map] at hd
          cases hd' : ds[i]? with
          | none => rw [hd'] at hd; cases hd
          | some d' =>
            rw [hd'] at hd
            simp at hd
            subst hd
            obtain ⟨v, e1, e2⟩ := rs.get' hd'
            exact ⟨v, by rw [List.getElem?_map, e1]; rfl, e2⟩
        · rw [List.getElem?_append_right (by simpa using Nat.le_of_not_lt hi)] at hd
          rw [List.getElem?_replicate] at hd
          split at hd <;> cases hd
  · intro q hq
    rw [List.mem_singleton.mp hq]
    unfold L2.start
    simp
/-! ### calls -/
section
variable {X : Cx} {w : Wd} {pos p pc : Pos} {e e0 e2 : Expr} {x cn : Str}
/-- c(e): the lambda that the def got -/
theorem dx_callC {j i : Nat} {f : Addr} {l : Expr} {caps : List D} {U : XT} {m : XP} (hC : LamD X.prog X.w w.s X.mg j l caps U) (hf : Fit X w) (hr : Room j X.A) (hN : X.N[i]? = some x) (hv : Vis X.env.scope x) (hfx : (i, V.ref f) ∈ w.fx) (hlm : (f, l, caps) ∈ w.lm) (ha : PE X e (tX w m))
    (hdb : (x == ("__debug__" : Str)) = false := by decide) (hcd : (x == ("__classdict__" : Str)) = false := by decide) (he : starEach [e] X.env = (false, eval e X.env) :: starEach [] X.env := by rfl) : PE X (.Call (.Name x p) [e] [] pos) (tX w (xCall U (xCons m xNil))) := by
  have hok := hC.ok
  rw [← hf.k, ← hf.b] at hok
  refine PE.mo (pe_callV (i := i) hok hr hN hv ha hdb hcd he) fun σ H Q ⟨ι, env, st, R, hen, hst, hm, q⟩ => ?_
  obtain ⟨vs, h1, _⟩ := (hen.lm _ hlm).ex
  refine ⟨f, hen.fx _ hfx, ⟨vs, h1⟩, ι, env, st, _, hen, hst, hm, fun d st1 ι1 v H1 hU g1 r1 s1 => ?_⟩
  obtain ⟨vs1, k1, k2⟩ := ((hen.gr g1).lm _ hlm).ex
  exact ⟨vs1, k1, ι1, st1, d, R, k2, r1, s1, hU, fun d' st' ι' v' H' hR g r s => q d' st' ι' v' H' hR (g1.trans g) r s⟩
theorem dx_pass2 {k j i : Nat} {f : Addr} {l : Expr} {caps : List D} {U : XT} {T : XT → XT} {m m2 : XP} (hf : Fit X w) (C : DefL X.prog X.w w.s X.mg k j x T) (hC : LamD X.prog X.w w.s X.mg j l caps U) (hr : Room k X.A) (hg : Gl X x) (hN : X.N[i]? = some cn) (hv : Vis X.env.scope cn) (hfx : (i, V.ref f) ∈ w.fx) (hlm : (f, l, caps) ∈ w.lm) (h0 : PE X e0 (tX w m)) (h2 : PE X e2 (tX w m2))
    (hdb : (x == ("__debug__" : Str)) = false := by decide) (hd2 : (cn == ("__debug__" : Str)) = false := by decide) (hcd : (cn == ("__classdict__" : Str)) = false := by decide) (he : starEach [e0, .Name cn pc, e2] X.env = (false, eval e0 X.env) :: starEach [.Name cn pc, e2] X.env := by rfl) (he2 : starEach [.Name cn pc, e2] X.env = (false, eval (.Name cn pc) X.env) :: starEach [e2] X.env := by rfl) (he3 : starEach [e2] X.env = (false, eval e2 X.env) :: starEach [] X.env := by rfl)
    (hpl : (backTo pos (starEach [.Name cn pc, e2] X.env)).any (·.1) = false := by rfl) :
    PE X (.Call (.Name x p) [e0, .Name cn pc, e2] [] pos) (tX w (xCall (T U) (xCons m (xCons m2 xNil)))) := by
  obtain ⟨g, fd, ps, hF, hm, hk, hb⟩ := C.ex
  rw [← hf.k, ← hf.b] at hF
  rw [← hf.k] at hk hb
  refine PE.mo (pe_call (E := E0) hF hr hg hm hk hb .nil pass0 (pa_cons h0 (pa_cons (pe_var (pos := pc) (i := i) hN hv hd2 hcd) (pa_cons h2 pa_nil he3) he2) he) hdb he hpl) fun σ H Q ⟨ι, env, st, R, hen, hst, hmm, q⟩ => ?_
  refine ⟨ι, env, st, _, hen, hst, hmm, fun d0 st1 ι1 v0 H1 h1 g1 r1 s1 => ⟨.ref f, hen.fx _ hfx, ι1, env, st1, _, hen.gr g1, s1, h1, fun d2 st2 ι2 v2 H2 h2 g2 r2 s2 => ?_⟩⟩
  exact ⟨ι2, st2, f, l, caps, U, v0, [v2], [d0, d2], R, rfl, (hen.gr (g1.trans g2)).lm _ hlm, hC, .cons (r1.gr g2) (.cons r2 .nil), s2, h2, fun d st' ι' v H' h3 g3 r3 s3 => q d st' ι' v H' h3 ((g1.trans g2).trans g3) r3 s3⟩
/-! ### a lambda written among the arguments -/
def capE (env : EV) : List Nat → Option (List D)
  | [] => some []
  | j :: js => match env[j]?, capE env js with
    | some (some d), some ds => some (d :: ds)
    | _, _ => none
theorem capE_rep {ι : List Addr} {env : EV} {σ : L2.St} {H : Hp} (he : EnvR w ι env σ H) : ∀ {js : List Nat} {caps : List D}, capE env js = some caps → ∃ vs : List V, ((js.map fun j => σ[j]?) = vs.map fun v => some (some v)) ∧ Reps ι H vs caps
  | [], caps, h => by cases h; exact ⟨[], rfl, .nil⟩
  | j :: js, caps, h => by
    unfold capE at h
    split at h
    · rename_i d ds e1 e2
      cases h
      obtain ⟨v, h1, h2⟩ := he.at_ j d e1
      obtain ⟨vs, h3, h4⟩ := capE_rep he e2
      exact ⟨v :: vs, by rw [List.map_cons, List.map_cons, h1, h3], .cons h2 h4⟩
    · cases h
/-- the captured slots js, the lambda's promise by what it captured -/
def xCallM (T : List D → XT) (js : List Nat) (r : XA) : XP := fun env st R => r env st fun ds st1 => ∃ caps, capE env js = some caps ∧ T caps ds st1 R
theorem lamR_made {ι : List Addr} {H H3 : Hp} {ι3 : List Addr} {f c' : Addr} {q : Str} {params : Arguments} {body : Expr} {scope : Scope} {lp : Pos} {cl : List (Str × Addr)} {pm ctv : Value} {L : PL} {vs : List V} {caps : List D} (g : Gr ι (upd H f (PinO f (PySem.W.kla_obj "<lambda>" q params body scope cl pm c' ctv))) ι3 H3) (fN : H f = none) (hc : H c' = some (LamX.CodeO c' q)) (clo : CloOk cl scope)
    (hN : ∀ b o, L.lookup b = some o → H3 b = none) (hcap : CapsAt (pinH H3 L) cl (freeN scope) vs) (rc : Reps ι3 H3 vs caps) : LamR ι3 (pinH H3 L) f (.Lambda params body scope lp) caps := by
  have h1 := g.kp.pin (a := f) upd_same
  have h2 : H3 c' = some (LamX.CodeO c' q) := g.kp.fix (by rw [upd_ne (ne_of_none hc fN)]; exact hc) (by unfold LamX.CodeO; exact fun _ ⟨oc, vs, _, e1, e2, _⟩ => ⟨_, oc, vs, e1, e2⟩)
  exact ⟨vs, ⟨params, body, scope, lp, q, cl, pm, ctv, c', rfl, by rw [pin_out (look_none hN h1)]; exact h1, by rw [pin_out (look_none hN h2)]; exact h2, hcap, clo.mem, clo.inj⟩, reps_pin rc hN⟩
variable {params : Arguments} {body : Expr} {scope : Scope} {lp : Pos}
theorem dx_lam1 {k j : Nat} {T : XT → XT} {U : List D → XT} {m : XP} {js : List Nat} (hf : Fit X w) (C : DefL X.prog X.w w.s X.mg k j x T) (hC : ∀ caps, LamD X.prog X.w w.s X.mg j (.Lambda params body scope lp) caps (U caps)) (hr : Room k X.A) (hg : Gl X x) (hbm : Bm X.base X.mg) (hn : w.s.nm lp.line lp.col = some (X.env.qual ++ "<lambda>")) (hfn : ∀ x, X.fn x = true)
    (hfree : ∀ y ∈ scope.names, y.2 = .free → X.env.scope.names.lookup y.1 = some .cell ∨ X.env.scope.names.lookup y.1 = some .free) (hjs : (js.map fun j => X.N[j]?) = (freeN scope).map some) (hdef : defaultsOf params X.env = ([], [])) (h0 : PE X e0 (tX w m)) (hgn : w.gn = true := by rfl)
    (hdb : (x == ("__debug__" : Str)) = false := by decide) (he : starEach [e0, .Lambda params body scope lp] X.env = (false, eval e0 X.env) :: starEach [.Lambda params body scope lp] X.env := by rfl) (he2 : starEach [.Lambda params body scope lp] X.env = (false, eval (.Lambda params body scope lp) X.env) :: starEach [] X.env := by rfl)
    (hpl : (backTo pos (starEach [.Lambda params body scope lp] X.env)).any (·.1) = false := by rfl) :
    PE X (.Call (.Name x p) [e0, .Lambda params body scope lp] [] pos) (tX w (xCallM (fun caps => T (U caps)) js (xCons m xNil))) := by
  obtain ⟨g, fd, ps, hF, hm, hk, hb⟩ := C.ex
  rw [← hf.k, ← hf.b] at hF
  rw [← hf.k] at hk hb
  refine PE.mo (pe_callF (js := js) hF hr hg hm hk hb hfn hfree hjs (pa_cons h0 (pa_cons (pe_lam hf.c hbm hn hdef hfree) pa_nil he2) he) hdb he hpl) fun σ H Q ⟨ι, env, st, R, hen, hst, hmm, q⟩ => ?_
  refine ⟨ι, env, st, _, hen, hst, hmm, fun d0 st1 ι1 v0 H1 h1 g1 r1 s1 => ⟨?_, s1.tabs, fun H2 f c' pm ctv G T2 fN hc clo => ?_⟩⟩
  · have := (hen.gr g1).cod hgn
    rw [hf.b]
    exact this
  have s2 := s1.grown' G T2
  have s3 := s2.new (o := PinO f (PySem.W.kla_obj "<lambda>" (X.env.qual ++ "<lambda>") params body scope (cloFrom X.env.cells scope.names []) pm c' ctv)) fN (fun _ z => by cases z) (nin_of s2 fN)
  have g2 : Gr ι1 H1 ι1 (upd H2 f (PinO f (PySem.W.kla_obj "<lambda>" (X.env.qual ++ "<lambda>") params body scope (cloFrom X.env.cells scope.names []) pm c' ctv))) := .of ((Kp.grown G).trans (Kp.new fN))
  obtain ⟨caps, hcp, hT⟩ := h1
  have hen3 := (hen.gr g1).gr g2
  obtain ⟨vcs, hv, rc⟩ := capE_rep hen3 hcp
  refine ⟨vcs, hv, fun L hN hcap => ?_⟩
  refine ⟨ι1, st1, f, .Lambda params body scope lp, caps, U caps, v0, [], [d0], R, rfl, lamR_made (.refl _) fN hc clo hN hcap rc, hC caps, reps_pin (.cons (r1.gr g2) .nil) hN, sr_pin s3 hN, hT, fun d st' ι' v H' hR g r s => ?_⟩
  have hP := pins_kp (L := L) g fun b o e => pin_in e
  exact q d st' ι' v _ hR ((g1.trans g2).trans (gr_unp g hN)) (rep_unp r hP) (sr_unp s hP)
end
end GD
namespace GD
open PySem PySem.Spec PyProof.Rows L2 GX GL
def freeB (sc scope : Scope) : Bool := scope.names.all fun y => !decide (y.2 = .free) || decide (sc.names.lookup y.1 = some .cell) || decide (sc.names.lookup y.1 = some .free)
theorem freeOk {sc scope : Scope} (h : freeB sc scope = true) : ∀ y ∈ scope.names, y.2 = .free → sc.names.lookup y.1 = some .cell ∨ sc.names.lookup y.1 = some .free := fun y hy e => by
  unfold freeB at h
  rw [List.all_eq_true] at h
  have q := h y hy
  simp only [Bool.or_eq_true, Bool.not_eq_true', decide_eq_false_iff_not, decide_eq_true_eq] at q
  rcases q with (q | q) | q
  · exact absurd e q
  · exact .inl q
  · exact .inr q
def lamScB (p : Str) (scope : Scope) : Bool := decide (scope.kind = .function) && !scope.isCoroutine && !scope.isGenerator && scope.names.all (fun y => !decide (y.2 = .cell) && (!decide (y.2 = .local) || decide (y.1 = p))) && decide (scope.names.lookup p = some .local) && decide ((p :: freeN scope).Nodup)
theorem lamSc_by {p : Str} {scope : Scope} (h : lamScB p scope = true) : LamSc p scope := by
  unfold lamScB at h
  simp only [Bool.and_eq_true, Bool.or_eq_true, Bool.not_eq_true', decide_eq_true_eq, decide_eq_false_iff_not, List.all_eq_true] at h
  obtain ⟨⟨⟨⟨⟨h1, h2⟩, h3⟩, h4⟩, h5⟩, h6⟩ := h
  exact ⟨h1, h2, h3, fun y hy => (h4 y hy).1, h5, h6, fun y hy e => (h4 y hy).2.elim (fun z => absurd e z) id⟩
/-- by the number of names alone -/
theorem DefL.n {P : Program} {wl : World} {w : Ws} {mg : Str → Option Value} {l j : Nat} {x : Str} {N : List Str} {k n : Nat} {t : XT → XS} (h : DefL P wl w mg l j x (fnL N.length n t)) (e : N.length = k) : DefL P wl w mg l j x (fnL k n t) := by
  subst e
  exact h
end GD

set_option Elab.async false
set_option linter.all false
set_option maxRecDepth 100000
set_option maxHeartbeats 2000000
namespace GBL
open PySem
open PySem.Sem (wp)
end GBL
namespace GD
open PySem PySem.Spec PyProof.Rows L2 GX
/-! ## 24. truth, ranges downwards, least items -/
def truD (st : SS) : D → Option Bool
  | .non => some false
  | .bl b => some b
  | .int i => some (i != 0)
  | .str y => if y.length ≤ 1000000 then some ((y.length : Int) != 0) else none
  | .tup l => some (!l.isEmpty)
  | .ref n => match st[n]? with
    | some (.lst l) => some (!l.isEmpty)
    | _ => none
def bT (m : MP) : MB := fun env st => match m env st with | some d => truD st d | none => none
theorem isEmpty_reps {ι : List Addr} {H : Hp} {vs : List V} {ds : List D} (r : Reps ι H vs ds) : (!vs.isEmpty) = !ds.isEmpty := by cases r <;> rfl
section
variable {X : Cx} {w : Wd} {pos p p1 p2 : Pos} {a b e : Expr} {tg : Expr}
theorem tru_v {ι : List Addr} {st : SS} {H : Hp} {v : V} {d : D} {k : Bool} (s : SR w.s ι st H) (r : Rep ι H v d) (h : truD st d = some k) : TruV X.K v H k := by
  cases r with
  | non => exact (Option.some.inj h).symm
  | bl b => exact (Option.some.inj h).symm
  | int i => exact (Option.some.inj h).symm
  | str x =>
    have h : (if x.length ≤ 1000000 then some ((x.length : Int) != 0) else none) = some k := h
    split at h
    · rename_i hl
      exact ⟨big_size hl, (Option.some.inj h).symm⟩
    · cases h
  | tup e l r =>
    have h : some (!_) = some k := h
    exact .inr (.inl ⟨_, sqt_of e, by rw [isEmpty_reps r]; exact (Option.some.inj h).symm⟩)
  | @ref n a hn =>
    have h : (match st[n]? with | some (.lst l) => some (!l.isEmpty) | _ => none) = some k := h
    split at h
    · rename_i hc
      obtain ⟨vs, h1, l, r⟩ := s.cell _ _ _ hn hc
      exact .inl ⟨vs, sql_of h1, by rw [isEmpty_reps r]; exact (Option.some.inj h).symm⟩
    · cases h
theorem db_tru {m : MP} (h : PE X a (tP w m)) (he : ∀ whole, isTrue a X.env whole = (do let v ← whole; standAt a.pos; holding [v] (truthy v)) := by intro _; rfl) : PT X a (tBo w (bT m)) :=
  PT.mo (pt_truth h he) fun σ H Q ⟨ι, env, st, k, hen, hs, hm, q⟩ => by
    unfold bT at hm
    split at hm
    · rename_i d e1
      exact ⟨ι, env, st, d, hen, hs, e1, fun v H1 k1 r1 s1 => ⟨k, tru_v s1 r1 hm, q H1 k1 s1⟩⟩
    · cases hm
/-- -n -/
def fNeg : F1 := fun _ d => match d with | .int i => some (.int (-i)) | _ => none
theorem dp_neg {m : MP} (h : PE X a (tP w m)) : PE X (.UnaryOp .USub a pos) (tP w (mF1 fNeg m)) :=
  PE.mo (pe_un un_neg h) fun σ H Q ⟨ι, env, st, d, hen, hs, hm, q⟩ => by
    unfold mF1 at hm
    split at hm
    · rename_i dx e1
      refine ⟨ι, env, st, dx, hen, hs, e1, fun v H1 k1 r1 s1 => ?_⟩
      unfold fNeg at hm
      split at hm
      · cases hm
        cases r1
        exact ⟨_, rfl, q _ H1 k1 (.int _) s1⟩
      · cases hm
    · cases hm
/-- range(a, b, -1) -/
def iRngD (a b : MP) : MI := fun env st => match a env st, b env st with | some (.int m), some (.int n) => if (n ≤ 1000000 ∧ -1000000 ≤ n) ∧ m ≤ 1000000 ∧ -1000000 ≤ m then some ((List.range (m - n).toNat).map (fun (i : Nat) => D.int (m + (i : Int) * -1)), none) else none | _, _ => none
theorem itd_rngC {ι : List Addr} {st : SS} {m : Int} {n : Nat} {H : Hp} (hn : n ≤ sizeLine) : ItD w ι st (Itc m (-1) n) ((List.range n).map fun (i : Nat) => D.int (m + (i : Int) * -1)) none H := by
  refine ⟨fun ι' st' H' k p hh s => ⟨fun i hi => by rw [List.length_map, List.length_range] at hi; exact hi, fun i x H2 hi hy => ?_, fun i hi => by rw [List.length_map, List.length_range] at hi; exact hi⟩, by rw [List.length_map, List.length_range]; exact hn⟩
  obtain ⟨rfl, rfl⟩ := hy
  rw [List.length_map, List.length_range] at hi
  exact ⟨_, by rw [List.getElem?_map, List.getElem?_range hi]; rfl, .int _, fun b o e => e, s⟩
theorem di_rngD {k : Nat} {ma mb : MP} (hg : Gl X "range") (hm : X.mg "range" = none) (ha : PE X a (tP w ma)) (hb : PE X b (tP w mb))
    (hs : starEach [a, b, .UnaryOp .USub (.Constant (.int 1) k p1) p2] X.env = (false, eval a X.env) :: starEach [b, .UnaryOp .USub (.Constant (.int 1) k p1) p2] X.env := by rfl) (hs2 : starEach [b, .UnaryOp .USub (.Constant (.int 1) k p1) p2] X.env = (false, eval b X.env) :: starEach [.UnaryOp .USub (.Constant (.int 1) k p1) p2] X.env := by rfl)
    (hs3 : starEach [.UnaryOp .USub (.Constant (.int 1) k p1) p2] X.env = (false, eval (.UnaryOp .USub (.Constant (.int 1) k p1) p2) X.env) :: starEach [] X.env := by rfl) (hpl : (backTo pos (starEach [b, .UnaryOp .USub (.Constant (.int 1) k p1) p2] X.env)).any (·.1) = false := by rfl) :
    PI X tg (.Call (.Name "range" p) [a, b, .UnaryOp .USub (.Constant (.int 1) k p1) p2] [] pos) (tI w (iRngD ma mb)) := by
  refine PI.mo (pi_range3 hg hm (pa_cons ha (pa_cons hb (pa_cons (pe_un un_neg pe_int) pa_nil hs3) hs2) hs) hs hpl) fun σ H R ⟨ι, env, st, ds, ro, hen, hst, hmm, q⟩ => ?_
  unfold iRngD at hmm
  split at hmm
  · rename_i m n e1 e2
    split at hmm
    · rename_i hc
      cases hmm
      refine ⟨ι, env, st, _, hen, hst, e1, fun v H1 k1 r1 s1 => ⟨ι, env, st, _, hen.kp k1, s1, e2, fun v2 H2 k2 r2 s2 => ⟨1, rfl, ?_⟩⟩⟩
      cases r1
      cases r2
      exact ⟨m, n, -1, (m - n).toNat, rfl, RgC.neg (by omega) (by omega) (by omega) (by omega), q _ H2 (k1.trans k2) s2 (itd_rngC (by have := sizeLine_eq; omega))⟩
    · cases hmm
  · cases hmm
end
end GD

set_option Elab.async false
set_option linter.all false
set_option maxRecDepth 100000
set_option maxHeartbeats 2000000
namespace GD
open PySem PySem.Spec PyProof.Rows L2 GX
/-! ## 26. generator expressions over what a call gives -/
section
variable {X : Cx} {w : Wd} {pos : Pos} {tg iter elt c : Expr} {ifs : List Expr}
structure GenAX (X : Cx) (w : Wd) (mi : XI) (t : MT) (b : MB) (m : MP) (own : List Nat) (k : Nat) (e : Expr) : Prop where
  ex : ∃ (g : TG), PGx X k e (tGen X.base w.s.nm w.c (tXI w mi) g (fun c' => tBo (w.at c') b) (fun c' => tP (w.at c') m) own) ∧ (∀ c', GT (w.at c') own g t) ∧ ∀ v ∈ own, ∀ p ∈ w.fx, p.1 ≠ v
  gn : w.gn = true
section
variable {mi : XI} {t : MT} {b : MB} {m : MP} {own : List Nat} {k : Nat} {e : Expr} {p : Pos}
end
end
end GD

set_option Elab.async false
set_option linter.all false
set_option maxRecDepth 100000
set_option maxHeartbeats 2000000
namespace GD
open PySem PySem.Spec PyProof.Rows L2 GX
/-! ## 27. chained comparisons, zip of tuples, more comparisons with effects -/
section
variable {X : Cx} {w : Wd} {pos : Pos} {a b c : Expr} {ma mb mc : MP} {xa xb xc : XP}
end
/-! ### zip of two tuples -/
section
variable {X : Cx} {w : Wd} {ι : List Addr} {st : SS} {H0 : Hp} {a b : Addr} {K : PySem.W.Frag}
end
end GD

set_option Elab.async false
set_option linter.all false
set_option maxRecDepth 100000
set_option maxHeartbeats 4000000
namespace GD
open PySem PySem.Spec PyProof.Rows L2 GX
/-! ## 18. mirrors by the number of names alone: shared by all laws -/
def startE' (k : Nat) (ds : List D) : EV := ds.map some ++ List.replicate (k - ds.length) none
def fnR' (k n : Nat) (r : RS) : List D → SS → Option D := fun ds st => if ds.length = n then (match r (startE' k ds) st with
  | some (.rt d) => if D.lo st.length d = true then some d else none
  | some (.nx _) => some .non
  | _ => none) else none
def fnT' (k n : Nat) (t : XS) : XT := fun ds st R => ds.length = n ∧ t { nx := fun _ st' => R .non st', rt := R } (startE' k ds) st
theorem DefP.n {P : Program} {wl : World} {w : Ws} {mg : Str → Option Value} {l : Nat} {x : Str} {N : List Str} {k n : Nat} {r : RS} (h : DefP P wl w mg l x (fnR N n r)) (e : N.length = k) : DefP P wl w mg l x (fnR' k n r) := by
  subst e
  exact h
theorem DefX.n {P : Program} {wl : World} {w : Ws} {mg : Str → Option Value} {l : Nat} {x : Str} {N : List Str} {k n : Nat} {t : XS} (h : DefX P wl w mg l x (fnT N n t)) (e : N.length = k) : DefX P wl w mg l x (fnT' k n t) := by
  subst e
  exact h
theorem fnR'_rt {k n : Nat} {r : RS} {ds : List D} {st : SS} {d : D} (hl : ds.length = n) (h : r (startE' k ds) st = some (.rt d)) (lo : D.lo st.length d = true) : fnR' k n r ds st = some d := by
  unfold fnR'
  rw [if_pos hl, h]
  show (if D.lo st.length d = true then some d else none) = _
  rw [if_pos lo]
/-! ### sorted sets -/
theorem sorted_len : ∀ {n : Nat} {l : List Nat}, l.Pairwise (· < ·) → (∀ x ∈ l, x < n) → l.length ≤ n := by
  intro n l h1 h2
  have e : l = (List.range n).filter fun k => l.contains k := sorted_ext h1 (sorted_filter _ _) fun k => by
    rw [List.mem_filter, List.mem_range]
    simp only [List.contains_iff_mem]
    exact ⟨fun h => ⟨h2 k h, h⟩, fun h => h.2⟩
  rw [e]
  have := List.length_filter_le (fun k => l.contains k) (List.range n)
  simpa using this
/-- a sorted set of ints that stand for numbers -/
theorem nats_of {ms : List Int} {l : List Nat} (h1 : ms.Pairwise (· < ·)) (h2 : ∀ k, k ∈ ms ↔ k ∈ l.map fun (k : Nat) => (k : Int)) : ∃ more : List Nat, ms.map D.int = more.map nI ∧ more.Pairwise (· < ·) ∧ ∀ k, k ∈ more ↔ k ∈ l := by
  have nn : ∀ k ∈ ms, 0 ≤ k := fun k hk => by
    obtain ⟨j, _, rfl⟩ := List.mem_map.mp ((h2 k).mp hk)
    omega
  refine ⟨ms.map Int.toNat, ?_, ?_, fun k => ?_⟩
  · rw [List.map_map]
    refine List.map_congr_left fun k hk => ?_
    show D.int k = D.int ((k.toNat : Nat) : Int)
    rw [Int.toNat_of_nonneg (nn k hk)]
  · rw [List.pairwise_map]
    refine List.Pairwise.imp_of_mem (fun {a b} ha hb h => ?_) h1
    have := nn a ha
    have := nn b hb
    omega
  · constructor
    · intro hk
      obtain ⟨j, hj, rfl⟩ := List.mem_map.mp hk
      obtain ⟨i, hi, e⟩ := List.mem_map.mp ((h2 j).mp hj)
      have : j.toNat = i := by omega
      rw [this]
      exact hi
    · intro hk
      exact List.mem_map.mpr ⟨(k : Int), (h2 _).mpr (List.mem_map.mpr ⟨k, hk, rfl⟩), by simp⟩
/-! ### the store grows -/
def Up (st st1 : SS) : Prop := ∀ m, m < st.length → st1[m]? = st[m]?
theorem Up.refl (st : SS) : Up st st := fun _ _ => rfl
theorem Up.len {st st1 : SS} (u : Up st st1) : st.length ≤ st1.length := by
  cases h : st.length with
  | zero => omega
  | succ n =>
    have hn : n < st.length := by omega
    have e := u n hn
    rw [List.getElem?_eq_getElem hn] at e
    have := (List.getElem?_eq_some_iff.mp e).1
    omega
theorem Up.trans {a b c : SS} (u : Up a b) (v : Up b c) : Up a c := fun m hm => (v m (Nat.lt_of_lt_of_le hm u.len)).trans (u m hm)
theorem Up.app (st t : SS) : Up st (st ++ t) := fun m hm => List.getElem?_append_left hm
theorem Up.pre {st st1 : SS} (p : st <+: st1) : Up st st1 := by
  obtain ⟨t, rfl⟩ := p
  exact Up.app st t
theorem Up.set {st st1 : SS} (u : Up st st1) {n : Nat} (h : st.length ≤ n) (c : Cell) : Up st (st1.set n c) := fun m hm => by
  rw [List.getElem?_set_ne (by omega)]
  exact u m hm
theorem Up.get {st st1 : SS} (u : Up st st1) {n : Nat} {c : Cell} (h : st[n]? = some c) : st1[n]? = some c := (u n (List.getElem?_eq_some_iff.mp h).1).trans h
theorem Boxed.up {st st1 : SS} {n : Nat} (h : Boxed st n) (u : Up st st1) : Boxed st1 n := by
  obtain ⟨dn, i, ms, h1, h2, h3⟩ := h.ex
  exact ⟨dn, i, ms, u.get h1, h2, u.get h3⟩
theorem Boxed.lt {st : SS} {n : Nat} (h : Boxed st n) : n < st.length := by
  obtain ⟨dn, i, ms, h1, _⟩ := h.ex
  exact (List.getElem?_eq_some_iff.mp h1).1
/-- what stands behind the box is written -/
theorem Boxed.hi {st : SS} {n p : Nat} (h : Boxed st n) (hp : n < p) (c : Cell) : Boxed (st.set p c) n := by
  obtain ⟨dn, i, ms, h1, h2, h3⟩ := h.ex
  exact ⟨dn, i, ms, by rw [List.getElem?_set_ne (by omega)]; exact h1, h2, by rw [List.getElem?_set_ne (by omega)]; exact h3⟩
/-- the store has grown, but for the box at n, which was drawn from -/
structure Ub (n : Nat) (st st1 : SS) : Prop where
  at_ : ∀ m, m < st.length → m ≠ n → st1[m]? = st[m]?
  len : st.length ≤ st1.length
theorem Ub.refl (n : Nat) (st : SS) : Ub n st st := ⟨fun _ _ _ => rfl, Nat.le_refl _⟩
theorem Ub.trans {n : Nat} {a b c : SS} (u : Ub n a b) (v : Ub n b c) : Ub n a c := ⟨fun m hm h => (v.at_ m (Nat.lt_of_lt_of_le hm u.len) h).trans (u.at_ m hm h), Nat.le_trans u.len v.len⟩
theorem Ub.get {n : Nat} {st st1 : SS} (u : Ub n st st1) {m : Nat} {c : Cell} (h : st[m]? = some c) (hm : m ≠ n) : st1[m]? = some c := (u.at_ m (List.getElem?_eq_some_iff.mp h).1 hm).trans h
theorem Ub.set {n : Nat} {st st1 : SS} (u : Ub n st st1) {p : Nat} (hp : st.length ≤ p) (c : Cell) : Ub n st (st1.set p c) := ⟨fun m hm h => by
  rw [List.getElem?_set_ne (by omega)]
  exact u.at_ m hm h, by rw [List.length_set]; exact u.len⟩
/-- a new list is given -/
def NewL (st : SS) (l : List D) (R : D → SS → Prop) : Prop := ∀ st1 n, st.length ≤ n → Up st st1 → st1[n]? = some (.lst l) → R (.ref n) st1
theorem NewL.mo {st : SS} {l : List D} {R R' : D → SS → Prop} (h : NewL st l R) (q : ∀ d st1, R d st1 → R' d st1) : NewL st l R' := fun st1 n a b c => q _ _ (h st1 n a b c)
theorem seqI_lst {st : SS} {n : Nat} {ds : List D} (h : st[n]? = some (.lst ds)) : seqI st (.ref n) = some (ds, some n) := by
  unfold seqI
  simp only [h]
theorem iSeq_lst {st : SS} {n : Nat} {ds : List D} {m : MP} {env : EV} (h : m env st = some (.ref n)) (k : st[n]? = some (.lst ds)) : iSeq m env st = some (ds, some n) := by
  unfold iSeq
  rw [h]
  exact seqI_lst k
theorem getApp (st : SS) (c : Cell) : (st ++ [c])[st.length]? = some c := by simp
theorem setApp (st : SS) (c d : Cell) : (st ++ [c]).set st.length d = st ++ [d] := by simp
/-! ### computing, by comprehensions -/
section
variable {env : EV} {st : SS} {t : MT} {b : MB} {m mi : MP}
theorem comp_id {α : Type} {f : α → D} {g : α → D} {own : List Nat} {mit : MI} {l : List α} {ro : Option Nat} (h : mit env st = some (l.map f, ro)) (k : ∀ a ∈ l, ∃ env1, t (f a) (ewipe env own) = some env1 ∧ b env1 st = some true ∧ m env1 st = some (g a)) : mComp mit t b m own env st = some (l.map g) := by
  rw [mComp_e h, fGo_map (p := fun _ => true) (g := g) l fun a ha => let ⟨e1, h1, h2, h3⟩ := k a ha; ⟨e1, h1, h2, fun _ => h3⟩, List.filter_eq_self.mpr fun _ _ => rfl]
theorem comp_fi {α : Type} {f : α → D} {g : α → D} {p : α → Bool} {own : List Nat} {mit : MI} {l : List α} {ro : Option Nat} (h : mit env st = some (l.map f, ro)) (k : ∀ a ∈ l, ∃ env1, t (f a) (ewipe env own) = some env1 ∧ b env1 st = some (p a) ∧ (p a = true → m env1 st = some (g a))) : mComp mit t b m own env st = some ((l.filter p).map g) := by
  rw [mComp_e h, fGo_map (p := p) (g := g) l k]
end
end GD

set_option Elab.async false
set_option linter.all false
set_option maxRecDepth 100000
set_option maxHeartbeats 4000000
namespace GD
open PySem PySem.Spec PyProof.Rows L2 GX GS
/-! ## 19. all sets in lectic order -/
def lecS : Nat → Nat → List (List Nat)
  | _, 0 => [[]]
  | lo, n + 1 => lecS (lo + 1) n ++ (lecS (lo + 1) n).map (lo :: ·)
def LecLt (a b : List Nat) : Prop := ∃ m, m ∉ a ∧ m ∈ b ∧ ∀ k, k < m → (k ∈ a ↔ k ∈ b)
/-- a sorted set from lo on, below hi -/
def SetIn (lo hi : Nat) (s : List Nat) : Prop := s.Pairwise (· < ·) ∧ ∀ x ∈ s, lo ≤ x ∧ x < hi
theorem SetIn.nil (lo hi : Nat) : SetIn lo hi [] := ⟨List.Pairwise.nil, fun _ h => by cases h⟩
theorem mem_lecS : ∀ (n lo : Nat) (s : List Nat), s ∈ lecS lo n ↔ SetIn lo (lo + n) s
  | 0, lo, s => by
    unfold lecS SetIn
    constructor
    · intro h
      rw [List.mem_singleton.mp h]
      exact SetIn.nil _ _
    · rintro ⟨_, h⟩
      cases s with
      | nil => exact List.mem_cons_self
      | cons x s => have := h x List.mem_cons_self; omega
  | n + 1, lo, s => by
    unfold lecS
    rw [List.mem_append, List.mem_map]
    constructor
    · rintro (h | ⟨s', h, rfl⟩)
      · obtain ⟨h1, h2⟩ := (mem_lecS n (lo + 1) s).mp h
        exact ⟨h1, fun x hx => by have := h2 x hx; omega⟩
      · obtain ⟨h1, h2⟩ := (mem_lecS n (lo + 1) s').mp h
        refine ⟨List.pairwise_cons.mpr ⟨fun x hx => by have := h2 x hx; omega, h1⟩, fun x hx => ?_⟩
        rcases List.mem_cons.mp hx with e | e
        · omega
        · have := h2 x e; omega
    · rintro ⟨h1, h2⟩
      cases s with
      | nil => exact .inl ((mem_lecS n (lo + 1) []).mpr (SetIn.nil _ _))
      | cons x s =>
        have h3 := List.pairwise_cons.mp h1
        have hx := h2 x List.mem_cons_self
        by_cases e : x = lo
        · subst e
          refine .inr ⟨s, (mem_lecS n (x + 1) s).mpr ⟨h3.2, fun y hy => ?_⟩, rfl⟩
          have := h3.1 y hy
          have := h2 y (List.mem_cons_of_mem _ hy)
          omega
        · refine .inl ((mem_lecS n (lo + 1) _).mpr ⟨h1, fun y hy => ?_⟩)
          have hy2 := h2 y hy
          rcases List.mem_cons.mp hy with z | z
          · omega
          · have := h3.1 y z; omega
theorem LecLt.asym {a b : List Nat} (h : LecLt a b) (k : LecLt b a) : False := by
  obtain ⟨m, h1, h2, h3⟩ := h
  obtain ⟨n, k1, k2, k3⟩ := k
  rcases Nat.lt_trichotomy m n with h | h | h
  · exact h1 ((k3 m h).mp h2)
  · subst h; exact h1 k2
  · exact k1 ((h3 n h).mp k2)
theorem LecLt.trans {a b c : List Nat} (h : LecLt a b) (k : LecLt b c) : LecLt a c := by
  obtain ⟨m, h1, h2, h3⟩ := h
  obtain ⟨n, k1, k2, k3⟩ := k
  rcases Nat.lt_trichotomy m n with h | h | h
  · exact ⟨m, h1, (k3 m h).mp h2, fun x hx => (h3 x hx).trans (k3 x (by omega))⟩
  · subst h; exact absurd h2 k1
  · exact ⟨n, fun z => k1 ((h3 n h).mp z), k2, fun x hx => (h3 x (by omega)).trans (k3 x hx)⟩
theorem least_apart {a b : List Nat} : ∀ n, (∀ k, k < n → (k ∈ a ↔ k ∈ b)) ∨ ∃ m, m < n ∧ ¬(m ∈ a ↔ m ∈ b) ∧ ∀ k, k < m → (k ∈ a ↔ k ∈ b)
  | 0 => .inl fun k h => by omega
  | n + 1 => by
    rcases least_apart n with h | ⟨m, h1, h2, h3⟩
    · by_cases e : (n ∈ a ↔ n ∈ b)
      · refine .inl fun k hk => ?_
        by_cases z : k = n
        · subst z; exact e
        · exact h k (by omega)
      · exact .inr ⟨n, by omega, e, h⟩
    · exact .inr ⟨m, by omega, h2, h3⟩
theorem LecLt.tot {a b : List Nat} {n : Nat} (ha : a.Pairwise (· < ·)) (hb : b.Pairwise (· < ·)) (la : ∀ x ∈ a, x < n) (lb : ∀ x ∈ b, x < n) (h : a ≠ b) : LecLt a b ∨ LecLt b a := by
  rcases least_apart (a := a) (b := b) n with z | ⟨m, h1, h2, h3⟩
  · exfalso
    apply h
    refine sorted_ext ha hb fun k => ?_
    by_cases hk : k < n
    · exact z k hk
    · exact ⟨fun q => absurd (la k q) hk, fun q => absurd (lb k q) hk⟩
  · by_cases hm : m ∈ a
    · refine .inr ⟨m, fun z => h2 ⟨fun _ => z, fun _ => hm⟩, hm, fun k hk => (h3 k hk).symm⟩
    · refine .inl ⟨m, hm, Classical.byContradiction fun z => h2 ⟨fun q => absurd q hm, fun q => absurd q z⟩, h3⟩
theorem lecS_pw : ∀ (n lo : Nat), (lecS lo n).Pairwise LecLt
  | 0, lo => List.pairwise_singleton _ _
  | n + 1, lo => by
    unfold lecS
    rw [List.pairwise_append]
    have ih := lecS_pw n (lo + 1)
    refine ⟨ih, List.pairwise_map.mpr (List.Pairwise.imp_of_mem (fun {a b} ha hb h => ?_) ih), fun a ha b hb => ?_⟩
    · obtain ⟨m, h1, h2, h3⟩ := h
      have hm := ((mem_lecS n (lo + 1) b).mp hb).2 m h2
      refine ⟨m, fun z => ?_, List.mem_cons_of_mem _ h2, fun k hk => ?_⟩
      · rcases List.mem_cons.mp z with e | e
        · omega
        · exact h1 e
      · rw [List.mem_cons, List.mem_cons, h3 k hk]
    · obtain ⟨b', hb', rfl⟩ := List.mem_map.mp hb
      have h1 := ((mem_lecS n (lo + 1) a).mp ha).2
      have h2 := ((mem_lecS n (lo + 1) b').mp hb').2
      refine ⟨lo, fun z => by have := h1 lo z; omega, List.mem_cons_self, fun k hk => ⟨fun z => by have := h1 k z; omega, fun z => ?_⟩⟩
      rcases List.mem_cons.mp z with e | e
      · omega
      · have := h2 k e; omega
theorem pw_ext {α : Type} {R : α → α → Prop} (as : ∀ a b, R a b → R b a → False) : ∀ {a b : List α}, a.Pairwise R → b.Pairwise R → (∀ k, k ∈ a ↔ k ∈ b) → a = b
  | [], [], _, _, _ => rfl
  | [], y :: b, _, _, h => absurd ((h y).mpr List.mem_cons_self) (by simp)
  | x :: a, [], _, _, h => absurd ((h x).mp List.mem_cons_self) (by simp)
  | x :: a, y :: b, ha, hb, h => by
    have ha' := List.pairwise_cons.mp ha
    have hb' := List.pairwise_cons.mp hb
    have hxy : x = y := by
      rcases List.mem_cons.mp ((h x).mp List.mem_cons_self) with e | e
      · exact e
      · rcases List.mem_cons.mp ((h y).mpr List.mem_cons_self) with e2 | e2
        · exact e2.symm
        · exact (as _ _ (hb'.1 x e) (ha'.1 y e2)).elim
    subst hxy
    congr 1
    refine pw_ext as ha'.2 hb'.2 fun k => ⟨fun hk => ?_, fun hk => ?_⟩
    · rcases List.mem_cons.mp ((h k).mp (List.mem_cons_of_mem _ hk)) with e | e
      · subst e; exact (as _ _ (ha'.1 _ hk) (ha'.1 _ hk)).elim
      · exact e
    · rcases List.mem_cons.mp ((h k).mpr (List.mem_cons_of_mem _ hk)) with e | e
      · subst e; exact (as _ _ (hb'.1 _ hk) (hb'.1 _ hk)).elim
      · exact e
theorem lecS_len : ∀ (n lo : Nat), (lecS lo n).length = 2 ^ n
  | 0, _ => rfl
  | n + 1, lo => by
    unfold lecS
    rw [List.length_append, List.length_map, lecS_len n, Nat.pow_succ]
    omega
/-- the key: a sign for each number -/
def vecN (lo n : Nat) (s : List Nat) : List Nat := (List.range' lo n).map fun m => if s.contains m then 1 else 0
theorem vec_lt {a b : List Nat} : ∀ (n lo : Nat), HT.lexLt (iN (vecN lo n a)) (iN (vecN lo n b)) = true ↔ ∃ m, lo ≤ m ∧ m < lo + n ∧ m ∉ a ∧ m ∈ b ∧ ∀ k, lo ≤ k → k < m → (k ∈ a ↔ k ∈ b)
  | 0, lo => by
    constructor
    · intro h; cases h
    · rintro ⟨m, h1, h2, _⟩; omega
  | n + 1, lo => by
    have ih := vec_lt (a := a) (b := b) n (lo + 1)
    unfold vecN iN at ih ⊢
    rw [List.range'_succ, List.map_cons, List.map_cons, List.map_cons, List.map_cons, HT.lexLt_cons]
    have sg : ∀ s : List Nat, ((if s.contains lo = true then (1 : Nat) else 0 : Nat) : Int) = if lo ∈ s then 1 else 0 := fun s => by
      by_cases h : lo ∈ s
      · rw [if_pos h, if_pos (List.contains_iff_mem.mpr h)]; rfl
      · rw [if_neg h, if_neg (fun z => h (List.contains_iff_mem.mp z))]; rfl
    rw [sg, sg]
    have step : (lo ∈ a ↔ lo ∈ b) → ((∃ m, lo + 1 ≤ m ∧ m < lo + 1 + n ∧ m ∉ a ∧ m ∈ b ∧ ∀ k, lo + 1 ≤ k → k < m → (k ∈ a ↔ k ∈ b)) ↔ ∃ m, lo ≤ m ∧ m < lo + (n + 1) ∧ m ∉ a ∧ m ∈ b ∧ ∀ k, lo ≤ k → k < m → (k ∈ a ↔ k ∈ b)) := fun he => by
      constructor
      · rintro ⟨m, h1, h2, h3, h4, h5⟩
        refine ⟨m, by omega, by omega, h3, h4, fun k hk hk2 => ?_⟩
        by_cases z : k = lo
        · subst z; exact he
        · exact h5 k (by omega) hk2
      · rintro ⟨m, h1, h2, h3, h4, h5⟩
        refine ⟨m, ?_, by omega, h3, h4, fun k hk hk2 => h5 k (by omega) hk2⟩
        by_cases z : m = lo
        · subst z; exact absurd (he.mpr h4) h3
        · omega
    by_cases ha : lo ∈ a <;> by_cases hb : lo ∈ b
    · rw [if_pos ha, if_pos hb, if_pos rfl, ih]
      exact step ⟨fun _ => hb, fun _ => ha⟩
    · rw [if_pos ha, if_neg hb, if_neg (by decide)]
      constructor
      · intro h; exact absurd (of_decide_eq_true h) (by decide)
      · rintro ⟨m, h1, h2, h3, h4, h5⟩
        by_cases z : m = lo
        · subst z; exact absurd ha h3
        · exact absurd ((h5 lo (Nat.le_refl _) (by omega)).mp ha) hb
    · rw [if_neg ha, if_pos hb, if_neg (by decide)]
      exact ⟨fun _ => ⟨lo, Nat.le_refl _, by omega, ha, hb, fun k h1 h2 => by omega⟩, fun _ => by decide⟩
    · rw [if_neg ha, if_neg hb, if_pos rfl, ih]
      exact step ⟨fun h => absurd h ha, fun h => absurd h hb⟩
theorem vec_inj {a b : List Nat} : ∀ (n lo : Nat), vecN lo n a = vecN lo n b → ∀ k, lo ≤ k → k < lo + n → (k ∈ a ↔ k ∈ b)
  | 0, lo, _, k, h1, h2 => by omega
  | n + 1, lo, h, k, h1, h2 => by
    unfold vecN at h
    rw [List.range'_succ, List.map_cons, List.map_cons] at h
    have h3 := List.cons.inj h
    by_cases e : k = lo
    · subst e
      have := h3.1
      by_cases ha : k ∈ a <;> by_cases hb : k ∈ b
      · exact ⟨fun _ => hb, fun _ => ha⟩
      · rw [if_pos (List.contains_iff_mem.mpr ha), if_neg (fun z => hb (List.contains_iff_mem.mp z))] at this; cases this
      · rw [if_neg (fun z => ha (List.contains_iff_mem.mp z)), if_pos (List.contains_iff_mem.mpr hb)] at this; cases this
      · exact ⟨fun z => absurd z ha, fun z => absurd z hb⟩
    · exact vec_inj n (lo + 1) h3.2 k (by omega) (by omega)
def setP (many : Nat) (s : List Nat) : List Nat × List Nat := (vecN 0 many s, s)
theorem lexN_set {many : Nat} {a b : List Nat} (ha : SetIn 0 many a) (hb : SetIn 0 many b) (h : a ≠ b) : lexN (setP many a) (setP many b) = true ↔ LecLt a b := by
  have hne : ¬ (iN (vecN 0 many a) = iN (vecN 0 many b)) := fun e => h (sorted_ext ha.1 hb.1 fun k => by
    have q := vec_inj many 0 (iN_inj e) k (Nat.zero_le _)
    by_cases hk : k < many
    · exact q (by omega)
    · exact ⟨fun z => absurd (ha.2 k z).2 hk, fun z => absurd (hb.2 k z).2 hk⟩)
  have e : lexN (setP many a) (setP many b) = HT.lexLt (iN (vecN 0 many a)) (iN (vecN 0 many b)) := by
    unfold lexN lexK keyN setP
    exact if_neg hne
  rw [e, vec_lt]
  constructor
  · rintro ⟨m, h1, h2, h3, h4, h5⟩
    exact ⟨m, h3, h4, fun k hk => h5 k (Nat.zero_le _) hk⟩
  · rintro ⟨m, h3, h4, h5⟩
    exact ⟨m, Nat.zero_le _, by have := (hb.2 m h4).2; omega, h3, h4, fun k _ hk => h5 k hk⟩
/-- some sets, in lectic order -/
def lecF (many : Nat) (sets : List (List Nat)) : List (List Nat) := (lecS 0 many).filter fun s => sets.contains s
theorem sort_lec {many : Nat} {sets : List (List Nat)} {qs : List (List Nat × List Nat)} (hs : ∀ s ∈ sets, SetIn 0 many s) (hn : sets.Nodup) (h1 : SrtO.Srtd lexN qs) (h2 : SrtO.Stb lexN qs (sets.map (setP many))) : qs = (lecF many sets).map (setP many) := by
  have hp := h2.perm
  have e : qs = (qs.map (·.2)).map (setP many) := by
    rw [List.map_map]
    refine (List.map_id _).symm.trans (List.map_congr_left fun q hq => ?_)
    obtain ⟨s, hs', rfl⟩ := List.mem_map.mp (hp.mem_iff.mp hq)
    rfl
  have hp2 : (qs.map (·.2)).Perm sets := by
    have := hp.map (·.2)
    rw [List.map_map] at this
    exact this.trans (.of_eq (List.map_id _))
  have nd : (qs.map (·.2)).Nodup := hp2.nodup_iff.mpr hn
  rw [e]
  congr 1
  have srt : (qs.map (·.2)).Pairwise LecLt := by
    rw [e] at h1
    have h3 : (qs.map (·.2)).Pairwise fun a b => lexN (setP many b) (setP many a) = false := List.pairwise_map.mp h1
    have h4 := List.Pairwise.and h3 nd
    refine List.Pairwise.imp_of_mem (fun {a b} ha hb h => ?_) h4
    have sa := hs a (hp2.mem_iff.mp ha)
    have sb := hs b (hp2.mem_iff.mp hb)
    rcases LecLt.tot sa.1 sb.1 (fun x hx => (sa.2 x hx).2) (fun x hx => (sb.2 x hx).2) h.2 with z | z
    · exact z
    · have := (lexN_set sb sa h.2.symm).mpr z
      rw [h.1] at this
      cases this
  refine pw_ext (fun _ _ => LecLt.asym) srt (List.Pairwise.filter _ (lecS_pw many 0)) fun k => ?_
  unfold lecF
  rw [hp2.mem_iff, List.mem_filter, mem_lecS, List.contains_iff_mem, Nat.zero_add]
  exact ⟨fun h => ⟨hs k h, h⟩, fun h => h.2⟩
/-- all subsets, as they are made -/
def rowsM : Nat → List (List Nat)
  | 0 => [[]]
  | k + 1 => rowsM k ++ (rowsM k).map (· ++ [k])
theorem rowsM_succ (k : Nat) : rowsM (k + 1) = rowsM k ++ (rowsM k).map (· ++ [k]) := rfl
theorem mem_rowsM : ∀ (k : Nat) (s : List Nat), s ∈ rowsM k ↔ SetIn 0 k s
  | 0, s => by
    rw [← mem_lecS 0 0]
    rfl
  | k + 1, s => by
    unfold rowsM
    rw [List.mem_append, List.mem_map]
    constructor
    · rintro (h | ⟨s', h, rfl⟩)
      · obtain ⟨h1, h2⟩ := (mem_rowsM k s).mp h
        exact ⟨h1, fun x hx => by have := h2 x hx; omega⟩
      · obtain ⟨h1, h2⟩ := (mem_rowsM k s').mp h
        refine ⟨List.pairwise_append.mpr ⟨h1, List.pairwise_singleton _ _, fun a ha b hb => ?_⟩, fun x hx => ?_⟩
        · rw [List.mem_singleton.mp hb]; exact (h2 a ha).2
        · rcases List.mem_append.mp hx with e | e
          · have := h2 x e; omega
          · rw [List.mem_singleton.mp e]; omega
    · rintro ⟨h1, h2⟩
      by_cases hk : k ∈ s
      · refine .inr ⟨s.filter (· ≠ k), (mem_rowsM k _).mpr ⟨h1.filter _, fun x hx => ?_⟩, ?_⟩
        · have hx' := List.mem_filter.mp hx
          have := h2 x hx'.1
          have := of_decide_eq_true hx'.2
          omega
        · refine sorted_ext ?_ h1 fun x => ?_
          · refine List.pairwise_append.mpr ⟨h1.filter _, List.pairwise_singleton _ _, fun a ha b hb => ?_⟩
            have ha' := List.mem_filter.mp ha
            have := h2 a ha'.1
            have := of_decide_eq_true ha'.2
            rw [List.mem_singleton.mp hb]
            omega
          · rw [List.mem_append, List.mem_filter, List.mem_singleton]
            constructor
            · rintro (h | h)
              · exact h.1
              · rw [h]; exact hk
            · intro h
              by_cases e : x = k
              · exact .inr e
              · exact .inl ⟨h, decide_eq_true e⟩
      · refine .inl ((mem_rowsM k s).mpr ⟨h1, fun x hx => ?_⟩)
        have := h2 x hx
        by_cases e : x = k
        · subst e; exact absurd hx hk
        · omega
theorem rowsM_nodup : ∀ k, (rowsM k).Nodup
  | 0 => List.pairwise_singleton _ _
  | k + 1 => by
    unfold rowsM
    rw [List.nodup_append]
    have ih := rowsM_nodup k
    refine ⟨ih, List.pairwise_map.mpr (List.Pairwise.imp (fun h e => h (List.append_cancel_right e)) ih), fun a ha b hb e => ?_⟩
    subst e
    obtain ⟨s, _, rfl⟩ := List.mem_map.mp hb
    have := ((mem_rowsM k _).mp ha).2 k (List.mem_append_right _ List.mem_cons_self)
    omega
theorem rowsM_len : ∀ k, (rowsM k).length = 2 ^ k
  | 0 => rfl
  | k + 1 => by
    unfold rowsM
    rw [List.length_append, List.length_map, rowsM_len k, Nat.pow_succ]
    omega
theorem lecF_rows (many : Nat) : lecF many (rowsM many) = lecS 0 many := by
  unfold lecF
  refine List.filter_eq_self.mpr fun s hs => ?_
  rw [List.contains_iff_mem, mem_rowsM]
  have := (mem_lecS many 0 s).mp hs
  rw [Nat.zero_add] at this
  exact this
/-- the closed sets of a table in lectic order -/
def closedM (many : Nat) (rows : List (List Nat)) : List (List Nat) := (lecS 0 many).filter fun s => decide (closureM many rows s = s)
theorem mem_subs {many : Nat} {s : List Nat} : s ∈ lecS 0 many ↔ SetIn 0 many s := by
  rw [mem_lecS, Nat.zero_add]
end GD

set_option Elab.async false
set_option linter.all false
set_option maxRecDepth 100000
set_option maxHeartbeats 4000000
namespace GF
open PySem PySem.Spec PyProof.Rows L2 GX GD GS
/-! the words that many laws share, computed -/
theorem getI {st : SS} {rows : List (List Nat)} {g : Nat} (h : g < rows.length) : fIx st (.tup (rows.map dN)) (nI g) = some (dN (rows.getD g [])) := fIx_map st dN rows g (rowD rows h)
theorem lenE {st : SS} {α : Type} {f : α → D} {l : List α} {m : MP} {env : EV} (h : m env st = some (.tup (l.map f))) : mF1 fLen m env st = some (nI l.length) := by
  unfold mF1
  rw [h]
  show some (D.int ((l.map f).length : Nat)) = _
  rw [List.length_map]
  rfl
theorem none_left {l : List Nat} {p : Nat → Bool} : decide (((l.filter fun k => !p k).length : Int) = 0) = l.all p := by
  rw [Bool.eq_iff_iff, decide_eq_true_iff, List.all_eq_true]
  constructor
  · intro h k hk
    have h0 : (l.filter fun k => !p k) = [] := List.eq_nil_of_length_eq_zero (by omega)
    have q := List.filter_eq_nil_iff.mp h0 k hk
    simpa using q
  · intro h
    have h0 : (l.filter fun k => !p k) = [] := List.filter_eq_nil_iff.mpr fun k hk => by simpa using h k hk
    rw [h0]
    rfl
theorem having_lt {rows : List (List Nat)} {marks : List Nat} : ∀ g ∈ havingM rows marks, g < rows.length := fun g hg => (mem_having.mp hg).1
def R_is_part : RS := (rRet (mAll false (iSeq (mVar 0)) (tgN 2) bYes (mOp fIn (mVar 2) (mVar 1)) [2]))
def F_is_part : List D → SS → Option D := fnR' 3 2 R_is_part
theorem is_part_eval (st : SS) (a b : List Nat) : F_is_part [dN a, dN b] st = some (.bl (isPart a b)) := by
  refine fnR'_rt rfl ?_ rfl
  refine rRet_e ?_
  show (match allGo (tgN 2) bYes (mOp fIn (mVar 2) (mVar 1)) [some (dN a), some (dN b), none] st false (a.map nI) with | some x => some (D.bl x) | none => none) = _
  rw [allGo_map (p := fun k => b.contains k) a fun k _ => ⟨_, rfl, rfl, fIn_nI st k b⟩]
  rfl
def R_common : RS := (rSeq (rAsg (mVar 0) (tgTup 3 (tgCons (tgN 2) (tgCons (tgN 3) (tgCons (tgN 4) tgNil))))) (rRet (mGenT (iRng (mVar 3)) (tgN 5) (bV (mAll false (iSeq (mVar 1)) (tgN 6) bYes (mOp fIn (mVar 5) (mOp fIx (mVar 4) (mVar 6))) [6])) (mVar 5) [5])))
def F_common : List D → SS → Option D := fnR' 7 2 R_common
theorem common_eval {st : SS} {many : Nat} {rows : List (List Nat)} {things : List Nat} (hm : many ≤ 1000000) (ht : ∀ g ∈ things, g < rows.length) : F_common [tblD many rows, dN things] st = some (dN (commonM many rows things)) := by
  refine fnR'_rt rfl ?_ (lo_dN _ _)
  refine (rSeq_nx (rAsg_e (e1 := [some (tblD many rows), some (dN things), some (.str ("table" : Str)), some (nI many), some (.tup (rows.map dN)), none, none]) rfl rfl)).trans ?_
  refine rRet_e (mGenT_e (comp_fi (p := fun m => things.all fun g => (rows.getD g []).contains m) (g := nI) (iRng_nat rfl hm) fun m _ => ⟨_, rfl, ?_, fun _ => rfl⟩))
  refine bV_e (mAll_e (iSeq_dN rfl) (allGo_map (p := fun g => (rows.getD g []).contains m) things fun g hg => ⟨_, rfl, rfl, ?_⟩))
  exact (mOp_e rfl ((mOp_e rfl rfl).trans (getI (ht g hg)))).trans (fIn_nI st m _)
def R_having : RS := (rRet (mGenT (iEnum (mOp fIx (mVar 0) (mC (.int 2)))) (tgTup 2 (tgCons (tgN 2) (tgCons (tgN 3) tgNil))) (bV (mCall F_is_part (mCons (mVar 1) (mCons (mVar 3) mNil)))) (mVar 2) [2, 3]))
def F_having : List D → SS → Option D := fnR' 4 2 R_having
theorem having_eval {st : SS} {many : Nat} {rows : List (List Nat)} {marks : List Nat} : F_having [tblD many rows, dN marks] st = some (dN (havingM rows marks)) := by
  refine fnR'_rt rfl ?_ (lo_dN _ _)
  have it : iEnum (mOp fIx (mVar 0) (mC (.int 2))) [some (tblD many rows), some (dN marks), none, none] st = some ((List.range rows.length).map (fun i => .tup [nI i, dN (rows.getD i [])]), none) := by
    rw [← enumD_rows]
    rfl
  refine rRet_e (mGenT_e (comp_fi (p := fun g => isPart marks (rows.getD g [])) (g := nI) it fun g _ => ⟨[some (tblD many rows), some (dN marks), some (nI g), some (dN (rows.getD g []))], rfl, ?_, fun _ => rfl⟩))
  exact bV_e ((mCall2 rfl rfl).trans (is_part_eval _ _ _))
def R_law_inside : RS := (rRet (mOp fEq (mLenL (mComp (iSeq (mVar 0)) (tgN 2) (bV (mOp fNotIn (mVar 2) (mVar 1))) (mVar 2) [2])) (mC (.int 0))))
def F_law_inside : List D → SS → Option D := fnR' 3 2 R_law_inside
theorem inside_eval (st : SS) (a b : List Nat) : F_law_inside [dN a, dN b] st = some (.bl (isPart a b)) := by
  refine fnR'_rt rfl ?_ rfl
  refine rRet_e ((mOp_e (mLenL_e (comp_fi (p := fun k => !b.contains k) (g := nI) (iSeq_dN rfl) fun k _ => ⟨_, rfl, bV_e ((mOp_e rfl rfl).trans (fNotIn_nI st k b)), fun _ => rfl⟩)) rfl).trans ?_)
  rw [eqI, List.length_map, none_left]
  rfl
def R_law_common : RS := (rRet (mTupL (mComp (iRng (mOp fIx (mVar 0) (mC (.int 1)))) (tgN 2) (bV (mOp fEq (mLenL (mComp (iSeq (mVar 1)) (tgN 3) (bV (mOp fNotIn (mVar 2) (mOp fIx (mOp fIx (mVar 0) (mC (.int 2))) (mVar 3)))) (mVar 3) [3])) (mC (.int 0)))) (mVar 2) [2])))
def F_law_common : List D → SS → Option D := fnR' 4 2 R_law_common
theorem law_common_eval {st : SS} {many : Nat} {rows : List (List Nat)} {things : List Nat} (hm : many ≤ 1000000) (ht : ∀ g ∈ things, g < rows.length) : F_law_common [tblD many rows, dN things] st = some (dN (commonM many rows things)) := by
  refine fnR'_rt rfl ?_ (lo_dN _ _)
  refine rRet_e (mTupL_e (comp_fi (p := fun m => things.all fun g => (rows.getD g []).contains m) (g := nI) (iRng_nat rfl hm) fun m _ => ⟨_, rfl, ?_, fun _ => rfl⟩))
  refine bV_e ((mOp_e (mLenL_e (comp_fi (p := fun g => !(rows.getD g []).contains m) (g := nI) (iSeq_dN rfl) fun g hg => ⟨_, rfl, bV_e ((mOp_e rfl ((mOp_e rfl rfl).trans (getI (ht g hg)))).trans (fNotIn_nI st m _)), fun _ => rfl⟩)) rfl).trans ?_)
  rw [eqI, List.length_map, none_left]
def R_law_having : RS := (rRet (mTupL (mComp (iRng (mF1 fLen (mOp fIx (mVar 0) (mC (.int 2))))) (tgN 2) (bV (mCall F_law_inside (mCons (mVar 1) (mCons (mOp fIx (mOp fIx (mVar 0) (mC (.int 2))) (mVar 2)) mNil)))) (mVar 2) [2])))
def F_law_having : List D → SS → Option D := fnR' 3 2 R_law_having
theorem law_having_eval {st : SS} {many : Nat} {rows : List (List Nat)} {marks : List Nat} (hr : rows.length ≤ 1000000) : F_law_having [tblD many rows, dN marks] st = some (dN (havingM rows marks)) := by
  refine fnR'_rt rfl ?_ (lo_dN _ _)
  refine rRet_e (mTupL_e (comp_fi (p := fun g => isPart marks (rows.getD g [])) (g := nI) (iRng_nat (n := rows.length) (lenE rfl) hr) fun g hg => ⟨_, rfl, ?_, fun _ => rfl⟩))
  exact bV_e ((mCall2 rfl ((mOp_e rfl rfl).trans (getI (List.mem_range.mp hg)))).trans (inside_eval _ _ _))
def R_law_closure : RS := (rRet (mCall F_law_common (mCons (mVar 0) (mCons (mCall F_law_having (mCons (mVar 0) (mCons (mVar 1) mNil))) mNil))))
def F_law_closure : List D → SS → Option D := fnR' 2 2 R_law_closure
theorem law_closure_eval {st : SS} {many : Nat} {rows : List (List Nat)} {marks : List Nat} (hm : many ≤ 1000000) (hr : rows.length ≤ 1000000) : F_law_closure [tblD many rows, dN marks] st = some (dN (closureM many rows marks)) := by
  refine fnR'_rt rfl ?_ (lo_dN _ _)
  exact rRet_e ((mCall2 rfl ((mCall2 rfl rfl).trans (law_having_eval hr))).trans (law_common_eval hm having_lt))
def X_law_lectic : XS := (sSeq (sAsg (xNew (xaOf (mLst mNil))) (tgN 2)) (sSeq (sFor (xiOf (iSeq (mVar 1))) (tgN 3) (sAppP (mVar 2) (xOf (mTup (mCons (mTupL (mComp (iRng (mVar 0)) (tgN 4) bYes (mF1 fInt (mOp fIn (mVar 4) (mVar 3))) [4])) (mCons (mVar 3) mNil)))))) (sRet (xNew (xComp (xSeq (xNew (xSortK (xOf (mVar 2))))) (tgN 5) (xbOf bYes) (xOf (mOp fIx (mVar 5) (mC (.int 1)))) [5])))))
def Y_law_lectic : XT := fnT' 6 2 X_law_lectic
/-- some sets are put in lectic order -/
def lecticT : XT := fun ds st R => ∃ (many n : Nat) (sets : List (List Nat)), ds = [nI many, .ref n] ∧ many ≤ 1000 ∧ st[n]? = some (.lst (sets.map dN)) ∧ sets.length ≤ 100000 ∧ (∀ s ∈ sets, SetIn 0 many s) ∧ sets.Nodup ∧ NewL st ((lecF many sets).map dN) R
abbrev T_law_lectic : XT := lecticT
theorem vec_eval {st : SS} {many : Nat} {s : List Nat} {mi mk ms : MP} {i : Nat} {own : List Nat} {env : EV} (h : mi env st = some (nI many)) (hm : many ≤ 1000000) (hk : ∀ k, mk ((ewipe env own).set i (some (nI k))) st = some (nI k)) (hs : ∀ k, ms ((ewipe env own).set i (some (nI k))) st = some (dN s)) : mTupL (mComp (iRng mi) (tgN i) bYes (mF1 fInt (mOp fIn mk ms)) own) env st = some (dN (vecN 0 many s)) := by
  unfold vecN dN
  rw [← List.range_eq_range', List.map_map]
  refine mTupL_e (comp_id (iRng_nat h hm) fun k _ => ⟨_, rfl, rfl, ?_⟩)
  unfold mF1
  rw [(mOp_e (hk k) (hs k)).trans (fIn_nI st k s)]
  show some (D.int (if s.contains k = true then 1 else 0)) = some (nI (if s.contains k = true then 1 else 0))
  cases s.contains k <;> rfl
theorem lectic_ok (ds : List D) (st : SS) (R : D → SS → Prop) (h : lecticT ds st R) : Y_law_lectic ds st R := by
  obtain ⟨many, n, sets, rfl, hm, hst, hlen, hs, hnd, hR⟩ := h
  have hn : n < st.length := (List.getElem?_eq_some_iff.mp hst).1
  refine ⟨rfl, ?_⟩
  show X_law_lectic _ [some (nI many), some (.ref n), none, none, none, none] st
  refine ⟨[], rfl, _, rfl, ?_⟩
  have hst1 : ∀ t : SS, (st ++ t)[n]? = some (.lst (sets.map dN)) := fun t => by rw [List.getElem?_append_left hn]; exact hst
  refine ⟨sets.map dN, some n, iSeq_lst rfl (hst1 _), ?_⟩
  -- the loop
  have loop : ∀ (todo done : List (List Nat)) (x3 x4 x5 : Option D) (K : DE), done.length + todo.length ≤ 100000 →
      (∀ x3 x4 x5, K.nx [some (nI many), some (.ref n), some (.ref st.length), x3, x4, x5] (st ++ [Cell.lst ((done ++ todo).map fun s => pairD (setP many s))])) →
      sForGo (tgN 3) (sAppP (mVar 2) (xOf (mTup (mCons (mTupL (mComp (iRng (mVar 0)) (tgN 4) bYes (mF1 fInt (mOp fIn (mVar 4) (mVar 3))) [4])) (mCons (mVar 3) mNil))))) (st ++ [Cell.lst []]) (some n) K (todo.map dN) [some (nI many), some (.ref n), some (.ref st.length), x3, x4, x5] (st ++ [Cell.lst (done.map fun s => pairD (setP many s))]) := by
    intro todo
    induction todo with
    | nil =>
      intro done x3 x4 x5 K _ hK
      refine ⟨(hst1 _).trans (hst1 _).symm, ?_⟩
      have := hK x3 x4 x5
      rw [List.append_nil] at this
      exact this
    | cons s todo ih =>
      intro done x3 x4 x5 K hl hK
      refine ⟨(hst1 _).trans (hst1 _).symm, [some (nI many), some (.ref n), some (.ref st.length), some (dN s), x4, x5], rfl, ?_⟩
      refine ⟨st.length, _, rfl, getApp _ _, pairD (setP many s), ?_, _, getApp _ _, by rw [List.length_map]; rw [List.length_cons] at hl; omega, ?_⟩
      · refine mTup_e (mCons_e (vec_eval rfl (by omega) (fun k => rfl) fun k => rfl) (mCons1 rfl)) (by show 2 ≤ 1000; decide)
      · have q := ih (done ++ [s]) (some (dN s)) x4 x5 K (by rw [List.length_append]; rw [List.length_cons] at hl; simp; omega) (fun a b c => by
          have := hK a b c
          rw [List.append_assoc]
          exact this)
        rw [setApp]
        rw [List.map_append] at q
        exact q
  refine loop sets [] none none none _ (by simpa using hlen) fun x3 x4 x5 => ?_
  rw [List.nil_append]
  refine ⟨.ref st.length, rfl, st.length, sets.map (setP many), rfl, by rw [getApp, List.map_map]; rfl, fun qs h1 h2 => ?_⟩
  rw [sort_lec hs hnd h1 h2]
  -- the sorted list is read
  refine ⟨((lecF many sets).map (setP many)).map pairD, some (st ++ [Cell.lst (sets.map fun s => pairD (setP many s))]).length, seqI_lst (getApp _ _), ?_⟩
  have go : ∀ (todo : List (List Nat)) (env : EV) (st1 : SS) (R1 : List D → SS → Prop) (k : Nat), 5 < env.length → R1 (todo.map dN) st1 → xGo (tgN 5) (xbOf bYes) (xOf (mOp fIx (mVar 5) (mC (.int 1)))) env st1 (some k) ((todo.map (setP many)).map pairD) st1 R1 := by
    intro todo
    induction todo with
    | nil => intro env st1 R1 k _ h; exact ⟨rfl, h⟩
    | cons s todo ih =>
      intro env st1 R1 k he h
      refine ⟨rfl, _, rfl, true, rfl, iteT ⟨dN s, ?_, ih env st1 _ k he h⟩⟩
      show mOp fIx (mVar 5) (mC (.int 1)) (env.set 5 (some (pairD (setP many s)))) st1 = _
      unfold mOp mVar
      rw [List.getElem?_set_self he]
      rfl
  refine go _ _ _ _ _ (by simp [ewipe]) ?_
  refine hR _ _ ?_ ?_ (getApp _ _)
  · rw [List.length_append, List.length_append]; omega
  · intro m hm
    rw [List.append_assoc, List.append_assoc]
    exact List.getElem?_append_left hm
def X_law_subsets : XS := (sSeq (sAsg (xNew (xaOf (mLst (mCons (mTup mNil) mNil)))) (tgN 1)) (sSeq (sFor (xiOf (iRng (mVar 0))) (tgN 2) (sAsg (xNew (xCat (xOf (mVar 1)) (xNew (xaOf (mComp (iSeq (mVar 1)) (tgN 3) bYes (mOp fAdd (mVar 3) (mTup (mCons (mVar 2) mNil))) [3]))))) (tgN 1))) (sRet (xCall T_law_lectic (xCons (xOf (mVar 0)) (xCons (xOf (mVar 1)) xNil))))))
def Y_law_subsets : XT := fnT' 4 1 X_law_subsets
def subsetsT : XT := fun ds st R => ∃ many : Nat, ds = [nI many] ∧ many ≤ 10 ∧ NewL st ((lecS 0 many).map dN) R
abbrev T_law_subsets : XT := subsetsT
theorem dN_snoc (s : List Nat) (k : Nat) (st : SS) : s.length ≤ 1000 → fAdd st (dN s) (.tup [nI k]) = some (dN (s ++ [k])) := fun h => by
  unfold dN
  rw [List.map_append]
  refine if_pos ?_
  rw [List.length_map]
  show s.length + 1 ≤ _
  omega
theorem subsets_ok (ds : List D) (st : SS) (R : D → SS → Prop) (h : subsetsT ds st R) : Y_law_subsets ds st R := by
  obtain ⟨many, rfl, hm, hR⟩ := h
  refine ⟨rfl, ?_⟩
  show X_law_subsets _ [some (nI many), none, none, none] st
  refine ⟨[.tup []], rfl, _, rfl, ?_⟩
  refine ⟨(List.range many).map nI, none, iRng_nat rfl (by omega), ?_⟩
  have p2 : ∀ k, k ≤ 10 → 2 ^ k ≤ 1024 := fun k hk => Nat.le_trans (Nat.pow_le_pow_right (by decide) hk) (by decide)
  refine for_inv (fun rest env st1 => ∃ i, i ≤ many ∧ rest = (List.range' i (many - i)).map nI ∧ Up st st1 ∧ ∃ n x2 x3, env = [some (nI many), some (.ref n), x2, x3] ∧ st.length ≤ n ∧ st1[n]? = some (.lst ((rowsM i).map dN))) ?_ ?_ _ _ _ ⟨0, Nat.zero_le _, by rw [List.range_eq_range', Nat.sub_zero], Up.app _ _, st.length, none, none, rfl, Nat.le_refl _, getApp _ _⟩
  · rintro d rest env st1 ⟨i, hi, hrest, hu, n, x2, x3, rfl, hn, hc⟩
    have hlt : i < many := by
      by_cases h : i < many
      · exact h
      · have : many - i = 0 := by omega
        rw [this] at hrest
        cases hrest
    have hk : many - i = (many - (i + 1)) + 1 := by omega
    rw [hk, List.range'_succ, List.map_cons] at hrest
    obtain ⟨rfl, rfl⟩ := List.cons.inj hrest
    refine ⟨[some (nI many), some (.ref n), some (nI i), x3], rfl, fun K hnx hct hrt hbk => ?_⟩
    have cmp : mComp (iSeq (mVar 1)) (tgN 3) bYes (mOp fAdd (mVar 3) (mTup (mCons (mVar 2) mNil))) [3] [some (nI many), some (.ref n), some (nI i), x3] st1 = some (((rowsM i).map (· ++ [i])).map dN) := by
      rw [List.map_map]
      have it : iSeq (mVar 1) [some (nI many), some (.ref n), some (nI i), x3] st1 = some ((rowsM i).map dN, some n) := iSeq_lst rfl hc
      refine comp_id (g := fun s => dN (s ++ [i])) it fun s hs => ⟨_, rfl, rfl, (mOp_e rfl (mTup_e (mCons1 rfl) (by show 1 ≤ 1000; decide))).trans (dN_snoc s i _ ?_)⟩
      obtain ⟨h1, h2⟩ := (mem_rowsM i s).mp hs
      have := sorted_len h1 (fun x hx => (h2 x hx).2)
      omega
    refine ⟨.ref n, rfl, _, cmp, ?_⟩
    have hn1 : n < st1.length := (List.getElem?_eq_some_iff.mp hc).1
    refine ⟨n, st1.length, (rowsM i).map dN, ((rowsM i).map (· ++ [i])).map dN, rfl, rfl, by rw [List.getElem?_append_left hn1]; exact hc, getApp _ _, ?_, ?_⟩
    · rw [List.length_map, List.length_map, List.length_map, rowsM_len]
      have := p2 i (by omega)
      omega
    refine ⟨_, rfl, hnx _ _ ⟨i + 1, hlt, rfl, ?_, _, _, _, rfl, ?_, ?_⟩⟩
    · exact hu.trans ((Up.app _ _).trans (Up.app _ _))
    · rw [List.length_append]
      have := hu.len
      omega
    · rw [getApp, rowsM_succ, List.map_append]
  · rintro env st1 ⟨i, hi, hrest, hu, n, x2, x3, rfl, hn, hc⟩
    have : i = many := by
      by_cases h : i < many
      · have hk : many - i = (many - (i + 1)) + 1 := by omega
        rw [hk, List.range'_succ] at hrest
        cases hrest
      · omega
    subst this
    refine ⟨nI i, rfl, .ref n, rfl, i, n, rowsM i, rfl, by omega, hc, ?_, fun s hs => (mem_rowsM i s).mp hs, rowsM_nodup i, ?_⟩
    · rw [rowsM_len]
      have := p2 i (by omega)
      omega
    · intro st2 k hk hu2 hc2
      rw [lecF_rows] at hc2
      exact hR st2 k (Nat.le_trans hu.len hk) (hu.trans hu2) hc2
end GF

set_option Elab.async false
set_option linter.all false
set_option maxRecDepth 100000
set_option maxHeartbeats 4000000
namespace GF
open PySem PySem.Spec PyProof.Rows L2 GX GD GS
theorem bOr_e {a b : MB} {env : EV} {st : SS} {x y : Bool} (h : a env st = some x) (k : b env st = some y) : bOr a b env st = some (x || y) := by
  unfold bOr
  rw [h]
  cases x with
  | true => rfl
  | false => exact k
theorem bAnd_e {a b : MB} {env : EV} {st : SS} {x y : Bool} (h : a env st = some x) (k : x = true → b env st = some y) : bAnd a b env st = some (x && y) := by
  unfold bAnd
  rw [h]
  cases x with
  | true => exact (k rfl)
  | false => rfl
end GF

set_option Elab.async false
set_option linter.all false
set_option maxRecDepth 100000
set_option maxHeartbeats 4000000
namespace GD
open PySem PySem.Spec PyProof.Rows L2 GX GS
/-! ## 21. reduced tables -/
section
variable (I : Nat → Nat → Bool) (a b : Nat)
def fl (I : Nat → Nat → Bool) : Nat → Nat → Bool := fun m g => I g m
end
section
variable {I : Nat → Nat → Bool} {a b : Nat}
end
/-! ### of tables -/
section
variable {many : Nat} {rows : List (List Nat)}
def Tab (many : Nat) (rows : List (List Nat)) : Prop := ∀ r ∈ rows, r.Pairwise (· < ·) ∧ ∀ x ∈ r, x < many
theorem Tab.row (T : Tab many rows) (g : Nat) : (rows.getD g []).Pairwise (· < ·) ∧ ∀ x ∈ rows.getD g [], x < many := by
  by_cases h : g < rows.length
  · exact T _ (List.mem_of_getElem? (rowD rows h))
  · rw [List.getD_eq_getElem?_getD, List.getElem?_eq_none (by omega)]
    exact ⟨List.Pairwise.nil, fun _ z => by cases z⟩
open GF
end
end GD

set_option Elab.async false
set_option linter.all false
set_option maxRecDepth 100000
set_option maxHeartbeats 4000000
namespace GD
open PySem PySem.Spec PyProof.Rows L2 GX GS
/-! ## 22. loops over lists, by what is done -/
theorem for_ls {α : Type} {f : α → D} {items : List α} {t : MT} {body : XS} {st0 : SS} {ro : Option Nat} {D0 : DE} (Iv : List α → EV → SS → Prop)
    (hh : ∀ done env st, Iv done env st → Hold st0 ro st)
    (hs : ∀ done a todo env st, items = done ++ a :: todo → Iv done env st → ∃ env1, t (f a) env = some env1 ∧ ∀ K : DE, (∀ env st, Iv (done ++ [a]) env st → K.nx env st) → (∀ env st, Iv (done ++ [a]) env st → K.ct env st) → K.rt = D0.rt → K.bk = D0.nx → body K env1 st)
    (he : ∀ env st, Iv items env st → D0.nx env st) {env : EV} {st : SS} (h0 : Iv [] env st) : sForGo t body st0 ro D0 (items.map f) env st := by
  have go : ∀ (todo done : List α) (env : EV) (st : SS), items = done ++ todo → Iv done env st → sForGo t body st0 ro D0 (todo.map f) env st := by
    intro todo
    induction todo with
    | nil =>
      intro done env st e h
      rw [List.append_nil] at e
      subst e
      exact ⟨hh _ _ _ h, he _ _ h⟩
    | cons a todo ih =>
      intro done env st e h
      obtain ⟨env1, h1, h2⟩ := hs done a todo env st e h
      have e2 : items = (done ++ [a]) ++ todo := by rw [e, List.append_assoc]; rfl
      exact ⟨hh _ _ _ h, env1, h1, h2 _ (fun env st k => ih _ env st e2 k) (fun env st k => ih _ env st e2 k) rfl rfl⟩
  exact go items [] env st rfl h0
theorem range_split {n a : Nat} {done todo : List Nat} (h : List.range n = done ++ a :: todo) : done = List.range a ∧ a < n := by
  have hl : done.length < n := by
    have := congrArg List.length h
    rw [List.length_range, List.length_append, List.length_cons] at this
    omega
  have ha : (List.range n)[done.length]? = some a := by
    rw [h, List.getElem?_append_right (Nat.le_refl _), Nat.sub_self]
    rfl
  rw [List.getElem?_range hl] at ha
  have ha := Option.some.inj ha
  subst ha
  refine ⟨?_, hl⟩
  have e : done = (List.range n).take done.length := by rw [h, List.take_left']; rfl
  rw [List.take_range, Nat.min_eq_left (by omega)] at e
  exact e
/-- over a range -/
theorem for_rg {n : Nat} {t : MT} {body : XS} {st0 : SS} {D0 : DE} (Iv : Nat → EV → SS → Prop)
    (hs : ∀ i env st, i < n → Iv i env st → ∃ env1, t (nI i) env = some env1 ∧ ∀ K : DE, (∀ env st, Iv (i + 1) env st → K.nx env st) → (∀ env st, Iv (i + 1) env st → K.ct env st) → K.rt = D0.rt → K.bk = D0.nx → body K env1 st)
    (he : ∀ env st, Iv n env st → D0.nx env st) {env : EV} {st : SS} (h0 : Iv 0 env st) : sForGo t body st0 none D0 ((List.range n).map nI) env st := by
  refine for_ls (ro := none) (fun done env st => Iv done.length env st) (fun _ _ _ _ => trivial) (fun done a todo env st e h => ?_) (fun env st h => he env st (by rw [List.length_range] at h; exact h)) h0
  obtain ⟨e1, e2⟩ := range_split e
  have el : done.length = a := by rw [e1, List.length_range]
  rw [el] at h
  obtain ⟨env1, h1, h2⟩ := hs a env st e2 h
  refine ⟨env1, h1, fun K k1 k2 k3 k4 => h2 K (fun env st q => k1 env st ?_) (fun env st q => k2 env st ?_) k3 k4⟩ <;> (rw [List.length_append, el]; exact q)
/-! ### parts, as they are made -/
theorem getR {st : SS} {α : Type} {f : α → D} {l : List α} {n i : Nat} {a : α} (k : st[n]? = some (.lst (l.map f))) (h : l[i]? = some a) : fIx st (.ref n) (nI i) = some (f a) := by
  unfold fIx seqOf
  simp only [k]
  show atI (l.map f) (i : Int) = _
  rw [atI_nat, List.getElem?_map, h]
  rfl
theorem tupR {st : SS} {ds : List D} {n : Nat} {m : MP} {env : EV} (h : m env st = some (.ref n)) (k : st[n]? = some (.lst ds)) : mF1 fTup m env st = some (.tup ds) := by
  unfold mF1
  rw [h]
  show fTup st (.ref n) = _
  unfold fTup seqOf
  simp only [k]
theorem Tab.set {many : Nat} {rows : List (List Nat)} (T : Tab many rows) {s : List Nat} (h : s.Pairwise (· < ·) ∧ ∀ x ∈ s, x < many) (j : Nat) : Tab many (rows.set j s) := fun r hr => by
  rcases List.mem_or_eq_of_mem_set hr with h1 | h1
  · exact T r h1
  · rw [h1]; exact h
theorem Ev.keep {n : Nat} {st st1 : SS} (e : Ev n st st1) {p : Nat} {c : Cell} (h : st[p]? = some c) (hp : p ≠ n) : st1[p]? = some c := (e.at_ p hp).trans h
theorem getSet {st : SS} {n : Nat} {c d : Cell} (h : st[n]? = some c) : (st.set n d)[n]? = some d := List.getElem?_set_self (List.getElem?_eq_some_iff.mp h).1
end GD

set_option Elab.async false
set_option linter.all false
set_option maxRecDepth 100000
set_option maxHeartbeats 4000000
namespace GD
open PySem PySem.Spec PyProof.Rows L2 GX GS
/-! ## 25. the next closed set -/
def unionM (a b : List Nat) : List Nat := (List.range ((a ++ b).foldr (fun x y => max (x + 1) y) 0)).filter fun k => a.contains k || b.contains k
theorem lt_bound : ∀ (l : List Nat) (x : Nat), x ∈ l → x < l.foldr (fun x y => max (x + 1) y) 0
  | a :: l, x, h => by
    rw [List.foldr_cons]
    rcases List.mem_cons.mp h with e | e
    · subst e; omega
    · have := lt_bound l x e; omega
theorem mem_unionM {a b : List Nat} {k : Nat} : k ∈ unionM a b ↔ k ∈ a ∨ k ∈ b := by
  unfold unionM
  rw [List.mem_filter, List.mem_range, Bool.or_eq_true, List.contains_iff_mem, List.contains_iff_mem]
  exact ⟨fun h => h.2, fun h => ⟨lt_bound _ _ (List.mem_append.mpr h), h⟩⟩
theorem unionM_sorted (a b : List Nat) : (unionM a b).Pairwise (· < ·) := sorted_filter _ _
theorem union_eq {a b u : List Nat} (h1 : u.Pairwise (· < ·)) (h2 : ∀ k, k ∈ u ↔ k ∈ a ∨ k ∈ b) : u = unionM a b := sorted_ext h1 (unionM_sorted a b) fun k => by rw [h2, mem_unionM]
theorem unionM_in {lo hi : Nat} {a b : List Nat} (ha : ∀ x ∈ a, lo ≤ x ∧ x < hi) (hb : ∀ x ∈ b, lo ≤ x ∧ x < hi) : SetIn lo hi (unionM a b) := ⟨unionM_sorted a b, fun x hx => (mem_unionM.mp hx).elim (ha x) (hb x)⟩
theorem setIn_len {n : Nat} {s : List Nat} (h : SetIn 0 n s) : s.length ≤ n := sorted_len h.1 fun x hx => (h.2 x hx).2
/-- the order, computed: the marks below n -/
def lecB (n : Nat) (a b : List Nat) : Bool := match (List.range n).find? fun k => a.contains k != b.contains k with
  | some k => b.contains k
  | none => false
theorem find_first {p : Nat → Bool} {n k : Nat} (h : (List.range n).find? p = some k) : k < n ∧ p k = true ∧ ∀ j, j < k → p j = false := by
  have h1 := List.find?_some h
  have h2 := List.mem_range.mp (List.mem_of_find?_eq_some h)
  refine ⟨h2, h1, fun j hj => ?_⟩
  obtain ⟨_, as, bs, e, h3⟩ := List.find?_eq_some_iff_append.mp h
  have e3 := range_split e
  have : j ∈ as := by rw [e3.1]; exact List.mem_range.mpr hj
  simpa using h3 j this
theorem lecB_iff {n : Nat} {a b : List Nat} (hb : ∀ x ∈ b, x < n) : lecB n a b = true ↔ LecLt a b := by
  unfold lecB
  constructor
  · intro h
    split at h
    · rename_i k hk
      obtain ⟨h1, h2, h3⟩ := find_first hk
      have hkb := List.contains_iff_mem.mp h
      refine ⟨k, fun z => ?_, hkb, fun j hj => ?_⟩
      · rw [h, List.contains_iff_mem.mpr z] at h2
        cases h2
      · have := h3 j hj
        have e : a.contains j = b.contains j := by simpa using this
        rw [← List.contains_iff_mem, ← List.contains_iff_mem, e]
    · cases h
  · rintro ⟨m, h1, h2, h3⟩
    have hm := hb m h2
    cases hf : (List.range n).find? fun k => a.contains k != b.contains k with
    | none =>
      rw [List.find?_eq_none] at hf
      have := hf m (List.mem_range.mpr hm)
      rw [List.contains_iff_mem.mpr h2] at this
      cases hc : a.contains m with
      | true => exact absurd (List.contains_iff_mem.mp hc) h1
      | false => rw [hc] at this; exact absurd rfl this
    | some k =>
      obtain ⟨k1, k2, k3⟩ := find_first hf
      show b.contains k = true
      rcases Nat.lt_trichotomy k m with h | h | h
      · have := h3 k h
        rw [← List.contains_iff_mem, ← List.contains_iff_mem] at this
        cases ha : a.contains k <;> cases hb2 : b.contains k <;> simp_all
      · subst h; exact List.contains_iff_mem.mpr h2
      · have := k3 m h
        have e : a.contains m = b.contains m := by simpa using this
        rw [List.contains_iff_mem.mpr h2] at e
        exact absurd (List.contains_iff_mem.mp e) h1
/-- the candidate at a mark -/
def addM (cl : List Nat → List Nat) (s : List Nat) (i : Nat) : List Nat := cl (unionM (s.filter fun x => decide (x < i)) [i])
def okM (cl : List Nat → List Nat) (s : List Nat) (i : Nat) : Bool := !s.contains i && (addM cl s i).all fun x => (s.filter fun x => decide (x < i)).contains x || decide (i ≤ x)
def nextM (cl : List Nat → List Nat) (s : List Nat) : Nat → Option (List Nat)
  | 0 => none
  | i + 1 => if okM cl s i = true then some (addM cl s i) else nextM cl s i
/-- a closure operator on the sets below many -/
structure ClosOp (many : Nat) (cl : List Nat → List Nat) : Prop where
  inn : ∀ s, SetIn 0 many s → SetIn 0 many (cl s)
  ext : ∀ s, SetIn 0 many s → ∀ x ∈ s, x ∈ cl s
  mono : ∀ s t, SetIn 0 many s → SetIn 0 many t → (∀ x ∈ s, x ∈ t) → ∀ x ∈ cl s, x ∈ cl t
  idem : ∀ s, SetIn 0 many s → cl (cl s) = cl s
def closedL (many : Nat) (cl : List Nat → List Nat) : List (List Nat) := (lecS 0 many).filter fun s => decide (cl s = s)
theorem mem_closedL {many : Nat} {cl : List Nat → List Nat} {s : List Nat} : s ∈ closedL many cl ↔ SetIn 0 many s ∧ cl s = s := by
  unfold closedL
  rw [List.mem_filter, mem_subs, decide_eq_true_iff]
theorem closedL_pw (many : Nat) (cl : List Nat → List Nat) : (closedL many cl).Pairwise LecLt := (lecS_pw many 0).filter _
section
variable {many : Nat} {cl : List Nat → List Nat} {s : List Nat}
theorem start_in (hs : SetIn 0 many s) {i : Nat} (hi : i < many) : SetIn 0 many (unionM (s.filter fun x => decide (x < i)) [i]) :=
  unionM_in (fun x hx => hs.2 x (List.mem_filter.mp hx).1) fun x hx => by rw [List.mem_singleton.mp hx]; omega
theorem mem_start {i x : Nat} : x ∈ unionM (s.filter fun x => decide (x < i)) [i] ↔ (x ∈ s ∧ x < i) ∨ x = i := by
  rw [mem_unionM, List.mem_filter, List.mem_singleton, decide_eq_true_iff]
theorem okM_iff {i : Nat} : okM cl s i = true ↔ i ∉ s ∧ ∀ x ∈ addM cl s i, x < i → x ∈ s := by
  unfold okM
  rw [Bool.and_eq_true, Bool.not_eq_true', List.all_eq_true]
  refine and_congr ?_ ?_
  · rw [← Bool.not_eq_true, List.contains_iff_mem]
  · constructor
    · intro h x hx hlt
      have := h x hx
      rw [Bool.or_eq_true, List.contains_iff_mem, List.mem_filter, decide_eq_true_iff, decide_eq_true_iff] at this
      rcases this with z | z
      · exact z.1
      · omega
    · intro h x hx
      rw [Bool.or_eq_true, List.contains_iff_mem, List.mem_filter, decide_eq_true_iff, decide_eq_true_iff]
      by_cases hlt : x < i
      · exact .inl ⟨h x hx hlt, hlt⟩
      · exact .inr (by omega)
theorem add_lt (C : ClosOp many cl) (hs : SetIn 0 many s) {i : Nat} (hi : i < many) (h : okM cl s i = true) : LecLt s (addM cl s i) := by
  obtain ⟨h1, h2⟩ := okM_iff.mp h
  refine ⟨i, h1, C.ext _ (start_in hs hi) _ (mem_start.mpr (.inr rfl)), fun k hk => ⟨fun z => ?_, fun z => h2 k z hk⟩⟩
  exact C.ext _ (start_in hs hi) _ (mem_start.mpr (.inl ⟨z, hk⟩))
/-- a closed set that is greater by the mark j: j fits -/
theorem okM_of (C : ClosOp many cl) (hs : SetIn 0 many s) {t : List Nat} (ht : SetIn 0 many t) (hc : cl t = t) {j : Nat} (h1 : j ∉ s) (h2 : j ∈ t) (h3 : ∀ k, k < j → (k ∈ s ↔ k ∈ t)) : okM cl s j = true ∧ ∀ x ∈ addM cl s j, x ∈ t := by
  have hj : j < many := (ht.2 j h2).2
  have sub : ∀ x ∈ addM cl s j, x ∈ t := fun x hx => by
    have := C.mono _ t (start_in hs hj) ht (fun x hx => by
      rcases mem_start.mp hx with ⟨z, z2⟩ | z
      · exact (h3 x z2).mp z
      · rw [z]; exact h2) x hx
    rw [hc] at this
    exact this
  exact ⟨okM_iff.mpr ⟨h1, fun x hx hlt => (h3 x hlt).mpr (sub x hx)⟩, sub⟩
theorem next_go (C : ClosOp many cl) (hs : SetIn 0 many s) : ∀ n, n ≤ many → (match nextM cl s n with
  | some t => SetIn 0 many t ∧ cl t = t ∧ LecLt s t ∧ ∃ i, i < n ∧ t = addM cl s i ∧ okM cl s i = true ∧ ∀ j, i < j → j < n → okM cl s j = false
  | none => ∀ j, j < n → okM cl s j = false)
  | 0, _ => fun j h => by omega
  | n + 1, hn => by
    unfold nextM
    by_cases h : okM cl s n = true
    · rw [if_pos h]
      have hi : n < many := by omega
      exact ⟨C.inn _ (start_in hs hi), C.idem _ (start_in hs hi), add_lt C hs hi h, n, by omega, rfl, h, fun j h1 h2 => by omega⟩
    · rw [if_neg h]
      have ih := next_go C hs n (by omega)
      have hf : okM cl s n = false := by cases q : okM cl s n <;> simp_all
      cases e : nextM cl s n with
      | none =>
        rw [e] at ih
        intro j hj
        by_cases z : j = n
        · rw [z]; exact hf
        · exact ih j (by omega)
      | some t =>
        rw [e] at ih
        obtain ⟨h1, h2, h3, i, h4, h5, h6, h7⟩ := ih
        refine ⟨h1, h2, h3, i, by omega, h5, h6, fun j k1 k2 => ?_⟩
        by_cases z : j = n
        · rw [z]; exact hf
        · exact h7 j k1 (by omega)
/-- the next closed set is the first one behind -/
theorem next_find (C : ClosOp many cl) (hs : SetIn 0 many s) : nextM cl s many = (closedL many cl).find? fun t => lecB many s t := by
  have g := next_go C hs many (Nat.le_refl _)
  have inL : ∀ t ∈ closedL many cl, (lecB many s t = true ↔ LecLt s t) := fun t ht => lecB_iff fun x hx => ((mem_closedL.mp ht).1.2 x hx).2
  cases e : nextM cl s many with
  | none =>
    rw [e] at g
    symm
    rw [List.find?_eq_none]
    intro t ht z
    obtain ⟨j, h1, h2, h3⟩ := (inL t ht).mp z
    obtain ⟨k1, k2⟩ := mem_closedL.mp ht
    have := (okM_of C hs k1 k2 h1 h2 h3).1
    rw [g j ((k1.2 j h2).2)] at this
    cases this
  | some t =>
    rw [e] at g
    obtain ⟨h1, h2, h3, i, h4, h5, h6, h7⟩ := g
    symm
    have ht : t ∈ closedL many cl := mem_closedL.mpr ⟨h1, h2⟩
    -- none before it
    have least : ∀ u ∈ closedL many cl, LecLt s u → u = t ∨ LecLt t u := fun u hu hlt => by
      obtain ⟨k1, k2⟩ := mem_closedL.mp hu
      by_cases hne : u = t
      · exact .inl hne
      · right
        obtain ⟨j, j1, j2, j3⟩ := hlt
        obtain ⟨ok, sub⟩ := okM_of C hs k1 k2 j1 j2 j3
        have hji : j ≤ i := by
          cases Nat.lt_or_ge i j with
          | inl z => rw [h7 j z (k1.2 j j2).2] at ok; cases ok
          | inr z => exact z
        have ag : ∀ k, k < i → (k ∈ s ↔ k ∈ t) := fun k hk => by
          rw [h5]
          exact ⟨fun z => C.ext _ (start_in hs h4) _ (mem_start.mpr (.inl ⟨z, hk⟩)), fun z => (okM_iff.mp h6).2 k z hk⟩
        by_cases z : j = i
        · subst z
          rw [← h5] at sub
          rcases LecLt.tot h1.1 k1.1 (fun x hx => (h1.2 x hx).2) (fun x hx => (k1.2 x hx).2) (fun q => hne q.symm) with q | ⟨m, q1, q2, q3⟩
          · exact q
          · exact absurd (sub m q2) q1
        · have hlt : j < i := by omega
          exact ⟨j, fun q => j1 ((ag j hlt).mpr q), j2, fun k hk => (ag k (by omega)).symm.trans (j3 k hk)⟩
    obtain ⟨pre, post, e2⟩ := List.append_of_mem ht
    rw [List.find?_eq_some_iff_append]
    refine ⟨(inL t ht).mpr h3, pre, post, e2, fun u hu => ?_⟩
    have hu2 : u ∈ closedL many cl := by rw [e2]; exact List.mem_append_left _ hu
    have hpw := closedL_pw many cl
    rw [e2] at hpw
    have hut : LecLt u t := (List.pairwise_append.mp hpw).2.2 u hu t List.mem_cons_self
    cases q : lecB many s u with
    | false => rfl
    | true =>
      rcases least u hu2 ((inL u hu2).mp q) with z | z
      · subst z; exact (hut.asym hut).elim
      · exact (hut.asym z).elim
/-- from one closed set to the one behind it -/
theorem next_step (C : ClosOp many cl) {pre post : List (List Nat)} (e : closedL many cl = pre ++ s :: post) : nextM cl s many = post.head? := by
  have hs : s ∈ closedL many cl := by rw [e]; exact List.mem_append_right _ List.mem_cons_self
  rw [next_find C (mem_closedL.mp hs).1, e, List.find?_append]
  have hpw := closedL_pw many cl
  rw [e] at hpw
  obtain ⟨_, p2, p3⟩ := List.pairwise_append.mp hpw
  have lt : ∀ t, t ∈ closedL many cl → ∀ x ∈ t, x < many := fun t ht x hx => ((mem_closedL.mp ht).1.2 x hx).2
  have f1 : pre.find? (fun t => lecB many s t) = none := by
    rw [List.find?_eq_none]
    intro u hu z
    have h1 := p3 u hu s List.mem_cons_self
    exact ((lecB_iff (lt u (by rw [e]; exact List.mem_append_left _ hu))).mp z).asym h1
  rw [f1, Option.none_or, List.find?_cons]
  have f2 : lecB many s s = false := by
    cases q : lecB many s s with
    | false => rfl
    | true => have := (lecB_iff (lt s hs)).mp q; exact (this.asym this).elim
  rw [f2]
  cases post with
  | nil => rfl
  | cons t post =>
    have ht : t ∈ closedL many cl := by rw [e]; exact List.mem_append_right _ (List.mem_cons_of_mem _ List.mem_cons_self)
    have := (lecB_iff (lt t ht)).mpr ((List.pairwise_cons.mp p2).1 t List.mem_cons_self)
    simp [List.find?_cons, this]
/-- the first closed set -/
theorem first_closed (C : ClosOp many cl) : ∃ post, closedL many cl = cl [] :: post := by
  have hn : SetIn 0 many [] := SetIn.nil _ _
  have h0 : cl [] ∈ closedL many cl := mem_closedL.mpr ⟨C.inn _ hn, C.idem _ hn⟩
  cases e : closedL many cl with
  | nil => rw [e] at h0; cases h0
  | cons t post =>
    refine ⟨post, ?_⟩
    have ht : t ∈ closedL many cl := by rw [e]; exact List.mem_cons_self
    obtain ⟨k1, k2⟩ := mem_closedL.mp ht
    by_cases hne : t = cl []
    · rw [hne]
    · exfalso
      have hpw := closedL_pw many cl
      rw [e] at hpw h0
      rcases List.mem_cons.mp h0 with z | z
      · exact hne z.symm
      · obtain ⟨m, m1, m2, _⟩ := (List.pairwise_cons.mp hpw).1 _ z
        have := C.mono [] t hn k1 (fun x hx => by cases hx) m m2
        rw [k2] at this
        exact m1 this
end
theorem closure_op {many : Nat} {rows : List (List Nat)} : ClosOp many (closureM many rows) := by
  refine ⟨fun s _ => ⟨common_sorted _ _ _, fun x hx => ⟨Nat.zero_le _, closure_lt x hx⟩⟩, fun s hs x hx => closure_grows (fun k hk => (hs.2 k hk).2) x hx, fun s t _ _ h x hx => closure_mono h x hx, fun s _ => closure_twice⟩
end GD

set_option Elab.async false
set_option linter.all false
set_option maxRecDepth 100000
set_option maxHeartbeats 4000000
namespace GF
open PySem PySem.Spec PyProof.Rows L2 GX GD GS
/-! the closed sets, walked -/
def togT : XT := fun ds st R => ∃ a b : List Nat, ds = [dN a, dN b] ∧ a.length + b.length ≤ 60 ∧ R (dN (unionM a b)) st
abbrev T_together : XT := togT
def X_together : XS := (sRet (xTupL (xSortSet (xOf (mOp fAdd (mVar 0) (mVar 1))))))
def Y_together : XT := fnT' 2 2 X_together
theorem tog_ok (ds : List D) (st : SS) (R : D → SS → Prop) (h : togT ds st R) : Y_together ds st R := by
  obtain ⟨a, b, rfl, hl, hR⟩ := h
  refine ⟨rfl, .tup (a.map nI ++ b.map nI), if_pos (by rw [List.length_map, List.length_map]; omega), (a ++ b).map (fun (k : Nat) => (k : Int)), ?_, by rw [List.length_map, List.length_append]; omega, fun ms hp hk => ?_⟩
  · rw [List.map_map, List.map_append]
    rfl
  · obtain ⟨more, e, h1, h2⟩ := nats_of hp hk
    have e2 : more = unionM a b := union_eq h1 fun k => by rw [h2, List.mem_append]
    rw [e, e2]
    exact hR
def R_closure : RS := (rRet (mCall F_common (mCons (mVar 0) (mCons (mCall F_having (mCons (mVar 0) (mCons (mVar 1) mNil))) mNil))))
def F_closure : List D → SS → Option D := fnR' 2 2 R_closure
theorem closure_eval {st : SS} {many : Nat} {rows : List (List Nat)} {marks : List Nat} (hm : many ≤ 1000000) : F_closure [tblD many rows, dN marks] st = some (dN (closureM many rows marks)) := by
  refine fnR'_rt rfl ?_ (lo_dN _ _)
  exact rRet_e ((mCall2 rfl ((mCall2 rfl rfl).trans having_eval)).trans (common_eval hm having_lt))
def R_without : RS := (rRet (mGenT (iSeq (mVar 0)) (tgN 2) (bV (mOp fNotIn (mVar 2) (mVar 1))) (mVar 2) [2]))
def F_without : List D → SS → Option D := fnR' 3 2 R_without
theorem without_eval (st : SS) (a b : List Nat) : F_without [dN a, dN b] st = some (dN (a.filter fun k => !b.contains k)) := by
  refine fnR'_rt rfl ?_ (lo_dN _ _)
  exact rRet_e (mGenT_e (comp_fi (p := fun k => !b.contains k) (g := nI) (iSeq_dN rfl) fun k _ => ⟨_, rfl, bV_e ((mOp_e rfl rfl).trans (fNotIn_nI _ _ _)), fun _ => rfl⟩))
theorem mOr_e {a b : MP} {env : EV} {st : SS} {x y : Bool} (h : a env st = some (.bl x)) (k : x = false → b env st = some (.bl y)) : mOr a b env st = some (.bl (x || y)) := by
  unfold mOr
  rw [h]
  cases x with
  | true => rfl
  | false => exact k rfl
def optD : Option (List Nat) → D
  | none => .non
  | some t => dN t
/-- what a lambda does that closes sets; the store that it leans on grows -/
def clU (many : Nat) (cl : List Nat → List Nat) (st0 : SS) : XT := fun ds st R => ∃ s, ds = [dN s] ∧ SetIn 0 many s ∧ Up st0 st ∧ ∀ st', Up st st' → R (dN (cl s)) st'
def nextT : XT → XT := fun U ds st R => ∃ (many : Nat) (cl : List Nat → List Nat) (s : List Nat), ds = [nI many, dN s] ∧ many ≤ 20 ∧ SetIn 0 many s ∧ (∀ t, SetIn 0 many t → SetIn 0 many (cl t)) ∧ (∀ ds' st' R', clU many cl st ds' st' R' → U ds' st' R') ∧ ∀ st', Up st st' → R (optD (nextM cl s many)) st'
abbrev T_next_set : XT → XT := nextT
theorem clU.up {many : Nat} {cl : List Nat → List Nat} {st st1 : SS} (u : Up st st1) {ds : List D} {st' : SS} {R : D → SS → Prop} (h : clU many cl st1 ds st' R) : clU many cl st ds st' R := by
  obtain ⟨s, h1, h2, h3, h4⟩ := h
  exact ⟨s, h1, h2, u.trans h3, h4⟩
def X_next_set (U : XT) : XS := (sSeq (sFor (xiOf (iRngD (mOp fSub (mVar 0) (mC (.int 1))) (mF1 fNeg (mC (.int 1))))) (tgN 3) (sIf (xbOf (bV (mOp fNotIn (mVar 3) (mVar 2)))) (sSeq (sAsg (xOf (mGenT (iSeq (mVar 2)) (tgN 4) (bV (mOp fLt (mVar 4) (mVar 3))) (mVar 4) [4])) (tgN 5)) (sSeq (sAsg (xCall U (xCons (xCall T_together (xCons (xOf (mVar 5)) (xCons (xOf (mTup (mCons (mVar 3) mNil))) xNil))) xNil)) (tgN 6)) (sIf (xbOf (bV (mAll false (iSeq (mVar 6)) (tgN 4) bYes (mOr (mOp fIn (mVar 4) (mVar 5)) (mOp fGe (mVar 4) (mVar 3))) [4]))) (sRet (xOf (mVar 6))) sNext))) sNext)) (sRet (xOf (mC .non))))
def Y_next_set : XT → XT := fnL 7 3 X_next_set
theorem down_range (many : Nat) : (List.range (((many : Int) - 1) - -1).toNat).map (fun (i : Nat) => D.int ((many : Int) - 1 + (i : Int) * -1)) = (List.range many).map fun i => nI (many - 1 - i) := by
  have e : (((many : Int) - 1) - -1).toNat = many := by omega
  rw [e]
  refine List.map_congr_left fun i hi => ?_
  have := List.mem_range.mp hi
  unfold nI
  congr 1
  omega
theorem next_ok (U : XT) (ds : List D) (st : SS) (R : D → SS → Prop) (h : nextT U ds st R) : Y_next_set U ds st R := by
  obtain ⟨many, cl, s, rfl, hm, hs, hcl, hU, hR⟩ := h
  refine ⟨rfl, ?_⟩
  show X_next_set U _ [some (nI many), none, some (dN s), none, none, none, none] st
  refine ⟨(List.range many).map fun i => nI (many - 1 - i), none, ?_, ?_⟩
  · show (if _ then some (_, none) else none) = _
    rw [if_pos ⟨⟨by decide, by decide⟩, by omega, by omega⟩]
    show some ((List.range (((many : Int) - 1) - -1).toNat).map (fun (i : Nat) => D.int ((many : Int) - 1 + (i : Int) * -1)), none) = _
    rw [down_range]
  refine for_ls (ro := none) (fun done env st1 => Up st st1 ∧ nextM cl s many = nextM cl s (many - done.length) ∧ ∃ x3 x4 x5 x6, env = [some (nI many), none, some (dN s), x3, x4, x5, x6]) (fun _ _ _ _ => trivial) ?_ ?_ ⟨Up.refl _, rfl, _, _, _, _, rfl⟩
  · rintro done a todo env st1 hsp ⟨hu, hn, x3, x4, x5, x6, rfl⟩
    obtain ⟨hd, ha⟩ := range_split hsp
    have hdl : done.length = a := by rw [hd, List.length_range]
    refine ⟨_, rfl, fun K hnx hct hrt hbk => ?_⟩
    have hi : many - a = (many - 1 - a) + 1 := by omega
    have hi2 : many - (a + 1) = many - 1 - a := by omega
    generalize hmk : many - 1 - a = i at hi hi2
    have him : i < many := by omega
    rw [hdl, hi] at hn
    have stay : ∀ st2 x4 x5 x6, okM cl s i = false → Up st st2 → K.nx [some (nI many), none, some (dN s), some (nI i), x4, x5, x6] st2 := fun st2 x4 x5 x6 hf u2 => hnx _ _ ⟨u2, by
      rw [hn, List.length_append, hdl]
      show nextM cl s (i + 1) = nextM cl s (many - (a + 1))
      rw [hi2, nextM, if_neg (by rw [hf]; decide)], _, _, _, _, rfl⟩
    refine ⟨!s.contains i, bV_e ((mOp_e rfl rfl).trans (fNotIn_nI _ _ _)), ite2 (fun hc => ?_) fun hc => ?_⟩
    · refine ⟨dN (s.filter fun x => decide (x < i)), mGenT_e (comp_fi (p := fun x => decide (x < i)) (g := nI) (iSeq_dN rfl) fun x _ => ⟨_, rfl, bV_e ((mOp_e rfl rfl).trans ?_), fun _ => rfl⟩), _, rfl, ?_⟩
      · show some (D.bl (decide ((x : Int) < (i : Int)))) = some (D.bl (decide (x < i)))
        congr 2
        rw [decide_eq_decide]
        omega
      have fl : (s.filter fun x => decide (x < i)).length ≤ many := Nat.le_trans (List.length_filter_le _ _) (setIn_len hs)
      refine ⟨dN (s.filter fun x => decide (x < i)), rfl, dN [i], mTup_e (mCons1 rfl) (by show 1 ≤ 1000; decide), s.filter (fun x => decide (x < i)), [i], rfl, by show _ + 1 ≤ 60; omega, ?_⟩
      refine hU _ _ _ ⟨_, rfl, start_in hs him, hu, fun st2 u2 => ⟨_, rfl, ?_⟩⟩
      have hadd := hcl _ (start_in hs him)
      have allv : mAll false (iSeq (mVar 6)) (tgN 4) bYes (mOr (mOp fIn (mVar 4) (mVar 5)) (mOp fGe (mVar 4) (mVar 3))) [4] [some (nI many), none, some (dN s), some (nI i), x4, some (dN (s.filter fun x => decide (x < i))), some (dN (addM cl s i))] st2 = some (.bl ((addM cl s i).all fun x => (s.filter fun x => decide (x < i)).contains x || decide (i ≤ x))) := by
        refine mAll_e (iSeq_dN rfl) (allGo_map (p := fun x => (s.filter fun x => decide (x < i)).contains x || decide (i ≤ x)) (addM cl s i) fun x _ => ⟨_, rfl, rfl, mOr_e ((mOp_e rfl rfl).trans (fIn_nI _ _ _)) fun _ => (mOp_e rfl rfl).trans ?_⟩)
        show some (D.bl (decide ((x : Int) ≥ (i : Int)))) = some (D.bl (decide (i ≤ x)))
        congr 2
        rw [decide_eq_decide]
        omega
      refine ⟨_, bV_e allv, ite2 (fun hb => ?_) fun hb => ?_⟩
      · refine ⟨dN (addM cl s i), rfl, ?_⟩
        rw [hrt]
        have hok : okM cl s i = true := by unfold okM; rw [hc, hb]; rfl
        have q := hR st2 (hu.trans u2)
        rw [hn, nextM, if_pos hok] at q
        exact q
      · refine stay st2 _ _ _ ?_ (hu.trans u2)
        unfold okM
        cases hq : ((addM cl s i).all fun x => (s.filter fun x => decide (x < i)).contains x || decide (i ≤ x)) with
        | true => exact absurd hq hb
        | false => rw [Bool.and_false]
    · refine stay st1 _ _ _ ?_ hu
      unfold okM
      cases hq : (!s.contains i) with
      | true => exact absurd hq hc
      | false => rw [Bool.false_and]
  · rintro env st1 ⟨hu, hn, x3, x4, x5, x6, rfl⟩
    rw [List.length_range, Nat.sub_self] at hn
    have q := hR st1 hu
    rw [hn] at q
    exact ⟨_, rfl, q⟩
def allT : XT → XT := fun U ds st R => ∃ (many : Nat) (cl : List Nat → List Nat), ds = [nI many] ∧ many ≤ 16 ∧ ClosOp many cl ∧ (∀ ds' st' R', clU many cl st ds' st' R' → U ds' st' R') ∧ NewL st ((closedL many cl).map dN) R
abbrev T_all_sets : XT → XT := allT
theorem closedL_len (many : Nat) (cl : List Nat → List Nat) : (closedL many cl).length ≤ 2 ^ many := by
  unfold closedL
  have := List.length_filter_le (fun s => decide (cl s = s)) (lecS 0 many)
  rw [lecS_len] at this
  exact this
def X_all_sets (U : XT) : XS := (sSeq (sAsg (xNew (xaOf (mLst mNil))) (tgN 2)) (sSeq (sAsg (xCall U (xCons (xOf (mTup mNil)) xNil)) (tgN 3)) (sSeq (sWhile (xbOf (bV (mOp fNotN (mVar 3) (mC .non)))) (sSeq (sAppP (mVar 2) (xOf (mVar 3))) (sAsg (xCall (T_next_set U) (xCons (xOf (mVar 0)) (xCons (xOf (mVar 3)) xNil))) (tgN 3)))) (sRet (xOf (mVar 2))))))
def Y_all_sets : XT → XT := fnL 4 2 X_all_sets
theorem all_sets_ok (U : XT) (ds : List D) (st : SS) (R : D → SS → Prop) (h : allT U ds st R) : Y_all_sets U ds st R := by
  obtain ⟨many, cl, rfl, hm, C, hU, hR⟩ := h
  refine ⟨rfl, ?_⟩
  show X_all_sets U _ [some (nI many), none, none, none] st
  refine ⟨[], rfl, _, rfl, ?_⟩
  have hll : (closedL many cl).length ≤ 65536 := Nat.le_trans (closedL_len many cl) (Nat.le_trans (Nat.pow_le_pow_right (by decide) hm) (by decide))
  refine ⟨dN [], rfl, hU _ _ _ ⟨[], rfl, SetIn.nil _ _, Up.app _ _, fun st1 u1 => ⟨_, rfl, ?_⟩⟩⟩
  obtain ⟨post, e0⟩ := first_closed C
  refine ⟨fun m env s1 => ∃ pre rest, closedL many cl = pre ++ rest ∧ m = rest.length ∧ Up st s1 ∧ s1[st.length]? = some (.lst (pre.map dN)) ∧ env = [some (nI many), none, some (.ref st.length), some (optD rest.head?)], ⟨_, [], cl [] :: post, e0, rfl, (Up.app _ _).trans u1, u1.get (getApp _ _), rfl⟩, ?_⟩
  rintro m env s1 ⟨pre, rest, e, rfl, hu, hc, rfl⟩
  cases rest with
  | nil =>
    refine ⟨false, rfl, iteF ⟨_, rfl, hR s1 st.length (Nat.le_refl _) hu ?_⟩⟩
    rw [e, List.append_nil]
    exact hc
  | cons t rest =>
    refine ⟨true, rfl, iteT ?_⟩
    have hpl : pre.length < 65536 := by
      have := congrArg List.length e
      rw [List.length_append, List.length_cons] at this
      omega
    refine ⟨st.length, _, rfl, hc, dN t, rfl, _, hc, by rw [List.length_map]; omega, ?_⟩
    have ht : t ∈ closedL many cl := by rw [e]; exact List.mem_append_right _ List.mem_cons_self
    have u2 : Up st (s1.set st.length (.lst (pre.map dN ++ [dN t]))) := hu.set (Nat.le_refl _) _
    refine ⟨nI many, rfl, dN t, rfl, many, cl, t, rfl, by omega, (mem_closedL.mp ht).1, C.inn, fun ds' st' R' q => hU _ _ _ (q.up u2), fun s3 u3 => ⟨_, rfl, ?_⟩⟩
    rw [next_step C e]
    refine ⟨rest.length, by rw [List.length_cons]; omega, pre ++ [t], rest, by rw [e, List.append_assoc]; rfl, rfl, u2.trans u3, u3.get ?_, rfl⟩
    rw [getSet hc, List.map_append]
    rfl
/-! ### the order -/
end GF

set_option Elab.async false
set_option linter.all false
set_option maxRecDepth 100000
set_option maxHeartbeats 4000000
namespace GF
open PySem PySem.Spec PyProof.Rows L2 GX GD GS
/-! counts, covers -/
def cntM (rows : List (List Nat)) (s : List Nat) : Nat := (havingM rows s).length
/-! ### pairs of neighbours, counted -/
abbrev Quad := List Nat × List Nat × Nat × Nat
end GF

set_option Elab.async false
set_option linter.all false
set_option maxRecDepth 100000
set_option maxHeartbeats 4000000
namespace GD
open PySem PySem.Spec PyProof.Rows L2 GX GS
/-! ## 28. kinds of data: what == and in say of them -/
/-- f names the things of a type by data of one shape -/
structure DF {α : Type} [DecidableEq α] (f : α → D) (d : Nat) : Prop where
  eqv : ∀ a b, PyData.eqv (f a).py (f b).py = decide (a = b)
  imm : ∀ a, (f a).imm = true
  lay : ∀ a, PyData.canLay0 (f a).py = true
  dep : ∀ a, PyData.depth (f a).py ≤ d
namespace DF
variable {α β : Type} [DecidableEq α] [DecidableEq β] {f : α → D} {g : β → D} {d e : Nat}
theorem good (h : DF f d) (hd : d ≤ 64 := by decide) (a : α) : (f a).good = true := by
  unfold D.good SeqAt.shaped
  rw [h.imm a, h.lay a, Bool.true_and, Bool.true_and]
  exact decide_eq_true (Nat.le_trans (h.dep a) hd)
theorem nI : DF nI 0 := by
  refine ⟨fun a b => ?_, fun _ => rfl, fun _ => rfl, fun _ => Nat.le_refl _⟩
  show PyData.eqv (.int (a : Int)) (.int (b : Int)) = _
  unfold PyData.eqv
  rw [Bool.eq_iff_iff, beq_iff_eq, decide_eq_true_iff]
  omega
theorem int : DF D.int 0 := by
  refine ⟨fun a b => ?_, fun _ => rfl, fun _ => rfl, fun _ => Nat.le_refl _⟩
  show PyData.eqv (.int a) (.int b) = _
  unfold PyData.eqv
  rw [Bool.eq_iff_iff, beq_iff_eq, decide_eq_true_iff]
theorem imms (h : DF f d) : ∀ l : List α, D.imms (l.map f) = true
  | [] => rfl
  | a :: l => by rw [List.map_cons, D.imms, h.imm a, h.imms l]; rfl
theorem lays (h : DF f d) : ∀ l : List α, PyData.canLayAll0 (D.pys (l.map f)) = true
  | [] => rfl
  | a :: l => by rw [List.map_cons, D.pys, PyData.canLayAll0, h.lay a, h.lays l]; rfl
theorem deps (h : DF f d) : ∀ l : List α, PyData.depthAll (D.pys (l.map f)) ≤ d
  | [] => by unfold List.map D.pys PyData.depthAll; exact Nat.zero_le _
  | a :: l => by
    rw [List.map_cons, D.pys, PyData.depthAll]
    have := h.dep a
    have := h.deps l
    omega
theorem eqvs (h : DF f d) : ∀ a b : List α, PyData.eqvAll (D.pys (a.map f)) (D.pys (b.map f)) = decide (a = b)
  | [], [] => by simp [D.pys, PyData.eqvAll]
  | [], y :: b => by simp [D.pys, PyData.eqvAll]
  | x :: a, [] => by simp [D.pys, PyData.eqvAll]
  | x :: a, y :: b => by
    rw [List.map_cons, List.map_cons, D.pys, D.pys, PyData.eqvAll, h.eqv, h.eqvs a b]
    rw [Bool.eq_iff_iff, Bool.and_eq_true, decide_eq_true_iff, decide_eq_true_iff, decide_eq_true_iff, List.cons.injEq]
theorem list (h : DF f d) : DF (fun l : List α => D.tup (l.map f)) (d + 1) := by
  refine ⟨fun a b => ?_, fun a => ?_, fun a => ?_, fun a => ?_⟩
  · show PyData.eqv (.tuple (D.pys (a.map f))) (.tuple (D.pys (b.map f))) = _
    unfold PyData.eqv
    exact h.eqvs a b
  · show D.imm (.tup (a.map f)) = true
    unfold D.imm
    exact h.imms a
  · show PyData.canLay0 (.tuple (D.pys (a.map f))) = true
    unfold PyData.canLay0
    exact h.lays a
  · show PyData.depth (.tuple (D.pys (a.map f))) ≤ d + 1
    unfold PyData.depth
    have := h.deps a
    omega
theorem pair (h : DF f d) (k : DF g e) (u : Nat) (hu : d ≤ u := by decide) (hu2 : e ≤ u := by decide) : DF (fun p : α × β => D.tup [f p.1, g p.2]) (u + 1) := by
  refine ⟨fun a b => ?_, fun a => ?_, fun a => ?_, fun a => ?_⟩
  · show PyData.eqv (.tuple [(f a.1).py, (g a.2).py]) (.tuple [(f b.1).py, (g b.2).py]) = _
    unfold PyData.eqv PyData.eqvAll PyData.eqvAll PyData.eqvAll
    rw [h.eqv, k.eqv, Bool.and_true, Bool.eq_iff_iff, Bool.and_eq_true, decide_eq_true_iff, decide_eq_true_iff, decide_eq_true_iff, Prod.ext_iff]
  · show D.imm (.tup [f a.1, g a.2]) = true
    unfold D.imm D.imms D.imms D.imms
    rw [h.imm, k.imm]
    rfl
  · show PyData.canLay0 (.tuple [(f a.1).py, (g a.2).py]) = true
    unfold PyData.canLay0 PyData.canLayAll0 PyData.canLayAll0 PyData.canLayAll0
    rw [h.lay, k.lay]
    rfl
  · show PyData.depth (.tuple [(f a.1).py, (g a.2).py]) ≤ u + 1
    unfold PyData.depth PyData.depthAll PyData.depthAll PyData.depthAll
    have := h.dep a.1
    have := k.dep a.2
    omega
theorem ne (h : DF f d) (st : SS) (a b : α) (hd : d ≤ 64 := by decide) : fNe st (f a) (f b) = some (.bl (!decide (a = b))) := by
  unfold fNe
  rw [if_pos ⟨h.good hd a, h.good hd b⟩, h.eqv]
theorem inD (h : DF f d) (a : α) (l : List α) : inD (f a) (l.map f) = decide (a ∈ l) := by
  unfold GD.inD
  rw [D.pys_eq, List.map_map, List.any_map]
  rw [Bool.eq_iff_iff, List.any_eq_true, decide_eq_true_iff]
  constructor
  · rintro ⟨x, hx, e⟩
    have e : PyData.eqv (f x).py (f a).py = true := e
    rw [h.eqv, decide_eq_true_iff] at e
    rw [← e]
    exact hx
  · intro hx
    refine ⟨a, hx, ?_⟩
    show PyData.eqv (f a).py (f a).py = true
    rw [h.eqv]
    exact decide_eq_true rfl
theorem nin (h : DF f d) {st : SS} {x : D} {a : α} {l : List α} (hx : seqOf st x = some (l.map f)) (hd : d + 1 ≤ 64 := by decide) : fNotIn st (f a) x = some (.bl (!decide (a ∈ l))) := by
  unfold fNotIn
  rw [hx]
  have g := h.list.good hd l
  simp only []
  rw [if_pos ⟨h.good (by omega) a, g⟩, h.inD]
theorem dN : DF dN 1 := nI.list
theorem rows : DF (fun l : List (List Nat) => D.tup (l.map GD.dN)) 2 := dN.list
/-- pairs of sets -/
theorem two : DF (fun p : List Nat × List Nat => D.tup [GD.dN p.1, GD.dN p.2]) 2 := dN.pair dN 1
end DF
end GD

set_option Elab.async false
set_option linter.all false
set_option maxRecDepth 100000
set_option maxHeartbeats 4000000
namespace GF
open PySem PySem.Spec PyProof.Rows L2 GX GD GS
/-! the concepts of a table -/
theorem enumD_map {α : Type} (f : α → D) (l : List α) (z : α) : enumD (l.map f) = (List.range l.length).map fun i => D.tup [nI i, f (l.getD i z)] := by
  refine List.ext_getElem? fun i => ?_
  by_cases h : i < l.length
  · have h1 : (l.map f)[i]? = some (f (l.getD i z)) := by
      rw [List.getElem?_map, List.getElem?_eq_getElem h, Option.map_some, List.getD_eq_getElem?_getD, List.getElem?_eq_getElem h]
      rfl
    rw [enumD_get h1, List.getElem?_map, List.getElem?_range h]
    rfl
  · rw [List.getElem?_eq_none (by rw [enumD_len, List.length_map]; omega), List.getElem?_eq_none (by rw [List.length_map, List.length_range]; omega)]
/-- what is small enough -/
theorem fit_list {α : Type} {f : α → D} {l : List α} {k : Nat} (hl : l.length ≤ 1000000) (h : ∀ a ∈ l, D.fit k (f a) = true) : D.fit (k + 1) (.tup (l.map f)) = true := by
  unfold D.fit
  rw [Bool.and_eq_true, List.length_map]
  refine ⟨decide_eq_true hl, ?_⟩
  rw [List.all_map, List.all_eq_true]
  exact h
theorem fit_two {a b : D} {k : Nat} (h1 : D.fit k a = true) (h2 : D.fit k b = true) : D.fit (k + 1) (.tup [a, b]) = true := by
  unfold D.fit
  rw [List.all_cons, List.all_cons, h1, h2]
  rfl
end GF

set_option Elab.async false
set_option linter.all false
set_option maxRecDepth 100000
set_option maxHeartbeats 2000000
/-! tuple[::-1] -/
namespace GS
open PySem PySem.Spec PyProof.Rows L2 HT
section
variable {prog : Program} {w : World} {A : Around} {E : Value → Shared → Prop} {s : Shared}
end
/-! ### t[::-1] -/
end GS
namespace GD
open PySem PySem.Spec PyProof.Rows L2 GX
section
variable {X : Cx} {w : Wd} {pos : Pos}
end
end GD

set_option Elab.async false
set_option linter.all false
set_option maxRecDepth 100000
set_option maxHeartbeats 2000000
/-! sorted(x) of a list or a tuple of data of one kind -/
namespace GS
open PySem PySem.Spec PyProof.Rows L2 HT PySem.W
section
variable {prog : Program} {w : World} {A : Around} {E : Value → Shared → Prop} {s : Shared} {β : Type} {R : Value → β → Prop} {enc : β → PyData} {vs : List Value} {bs : List β}
theorem collect_seq' {Q : List Value → Shared → Prop} (it : Addr) {T : String} {o : Obj} {items : Array Value} {n : Nat} (hT : T = "list" ∨ T = "tuple")
    (ho : s.heap.get? it = some o) (hc : o.cls = .type T) (hd : o.data = .seq items n)
    (hQ : ∀ h', (∀ b o', s.heap.get? b = some o' → h'.get? b = some o') → s.heap.objs.size ≤ h'.objs.size → Q items.toList { s with heap := h' }) (hsz : items.size ≤ sizeLine) :
    wpAny (model prog w) A (collect (.ref it)) Q E s := by
  unfold collect
  refine wpAny_bind (wpAny_runValue (codeAny_builtin F.entry_proto_collect ?_))
  rw [Around.under_plainId F.plain_proto_collect _]
  show wpAny _ A.in1 (newList [] >>= fun l => again (.builtin "list.__iadd__" ⟨[l, .ref it], []⟩)) _ _ s
  refine wpAny_bind (wpAny_newObj_type ?_)
  refine wpAny_pure ⟨plainId_quiet F.plain_list_iadd _, codeAny_builtin F.entry_list_iadd ?_⟩
  rw [Around.under_plainId F.plain_list_iadd _]
  show wpAny _ A.in1 (Builtin.List.listExtendWith (.ref s.heap.objs.size) (.ref it) (.ref s.heap.objs.size)) _ _ _
  have hS : (s.heap.push { cls := .type "list", data := .seq ([] : List Value).toArray }).get? s.heap.objs.size = some { cls := .type "list", data := .seq #[] 0 } := Heap.get?_push_size _ rfl
  have fin' : wpAny (model prog w) A (match Value.ref s.heap.objs.size with
      | Value.ref a => do
        match (← load a).data with
          | Data.seq xs _ => pure xs.toList
          | _ => unsupported "internal:collect"
      | _ => unsupported "internal:collect") Q E { s with heap := (s.heap.push { cls := .type "list", data := .seq ([] : List Value).toArray }).update s.heap.objs.size (Obj.mapSeq (· ++ items)) } := by
    show wpAny _ A (load s.heap.objs.size >>= _) _ _ _
    have hS₂ := Heap.get?_update_self (Obj.mapSeq (· ++ items)) hS rfl
    refine wpAny_bind (wpAny_load hS₂ ?_)
    refine wpAny_pure ?_
    have e : ((#[] : Array Value) ++ items).toList = items.toList := by simp
    show Q ((#[] : Array Value) ++ items).toList _
    rw [e]
    refine hQ _ (fun b o' hb => ?_) ?_
    · exact (Heap.get?_update_other _ _ (Nat.ne_of_gt (Heap.lt_size hb))).trans (Heap.get?_push_of_some _ hb)
    · rw [Heap.size_update, size_push']
      exact Nat.le_succ _
  refine wpAny_mono (wpAny_extend_seq (hsz := hsz) (A := A) (R := fun r s' => r = .ok (.ret (.ref s.heap.objs.size)) ∧ s' = { s with heap := (s.heap.push { cls := .type "list", data := .seq ([] : List Value).toArray }).update s.heap.objs.size (Obj.mapSeq (· ++ items)) })
    (s := { s with heap := s.heap.push { cls := .type "list", data := .seq ([] : List Value).toArray } }) _ it _ 0 hT hS (Heap.get?_push_of_some _ ho) hc hd ⟨rfl, rfl⟩) (fun fin s' h => ?_) (fun e s' h => ?_)
  · cases fin with
    | done f =>
      obtain ⟨e, rfl⟩ := h
      cases e
      exact fin'
    | again c' => exact ⟨h.1, codeAny_mono h.2 fun r s'' hr => by obtain ⟨rfl, rfl⟩ := hr; exact fin'⟩
  · exact absurd h.1 (by simp)
theorem sorted_data_any {it : Addr} {T : String} {o : Obj} {n : Nat} {Q : Value → Shared → Prop} (hT : T = "list" ∨ T = "tuple") (ho : s.heap.get? it = some o) (hc : o.cls = .type T) (hd : o.data = .seq vs.toArray n)
    (e : EachIs R vs bs) (er : EachIs (fun v b => ∃ as, Reads s.heap v (enc b) as) vs bs) (hal : AllAlike (bs.map enc)) (hk : Sortable (bs.map enc)) (hL : bs.length ≤ sizeLine)
    (hu : ∀ b, b ∈ bs → A.units + 2 + (enc b).depth < cLine)
    (h : ∀ (h' : Heap) (d : Addr) (out : List Value), out.length = bs.length → EachIs R out (bs.mergeSort (dataLe false enc)) → (∀ b o, s.heap.get? b = some o → h'.get? b = some o) → s.heap.objs.size ≤ d → (∃ n, h'.get? d = some (seqObj "list" out.toArray n)) → Q (.ref d) { s with heap := h' }) :
    wpAny (model prog w) A (call (.builtin "sorted") [.ref it]) Q E s := by
  have hLv : vs.length ≤ sizeLine := by rw [e.length]; exact hL
  refine Calls.call_function_entry kind_sorted plain_sorted entry_sorted (args_sorted1 _) ?_
  unfold Builtin.«sorted»
  refine wpAny_bind (m := checkCount "sorted" 1 1 _) (wpAny_pure ?_)
  refine wpAny_bind (collect_seq' it hT ho hc hd (fun h1 hk1 hle => ?_) (by rw [List.size_toArray]; exact hLv))
  have evs : vs.toArray.toList = vs := by simp
  rw [evs]
  refine wpAny_bind (wpAny_newList ?_ hLv)
  have hoL : (h1.push (seqObj "list" vs.toArray 0)).get? h1.objs.size = some (seqObj "list" vs.toArray 0) := Heap.get?_push_size _ rfl
  have keep : ∀ b o, s.heap.get? b = some o → b ≠ h1.objs.size ∧ (h1.push (seqObj "list" vs.toArray 0)).get? b = some o := fun b o q =>
    ⟨Nat.ne_of_lt (Heap.lt_size (hk1 b o q)), Heap.get?_push_of_some _ (hk1 b o q)⟩
  show wpAny (model prog w) A.in1 (holding [Value.ref h1.objs.size] (call (.builtin "list.sort") [.ref h1.objs.size] []) >>= fun _ => ret (Value.ref h1.objs.size)) _ _ { s with heap := h1.push (seqObj "list" vs.toArray 0) }
  have er' : EachIs (fun v b => ∃ as, Reads (sortingHeap (h1.push (seqObj "list" vs.toArray 0)) h1.objs.size vs) v (enc b) as) vs bs := er.mono fun _ _ ⟨as, r⟩ => ⟨as, PyProof.Rows.Reads.keeps (fun b o q => sortingHeap_old (keep b o q).1 (keep b o q).2) r⟩
  refine wpAny_bind (wpAny_holding (wpAny_call_entry slot_list_sort ⟨_, hoL, rfl⟩ entry_list_sort (list_sort_vals (κ := dataKind (sortingHeap (h1.push (seqObj "list" vs.toArray 0)) h1.objs.size vs) (bs.map enc)) hoL
    (SortsAt.data (s := { s with heap := sortingHeap (h1.push (seqObj "list" vs.toArray 0)) h1.objs.size vs }) (each_map (R := fun v d => ∃ as, Reads (sortingHeap (h1.push (seqObj "list" vs.toArray 0)) h1.objs.size vs) v d as) enc er') hal hk (bound_map hu)) hLv ⟨_, rfl, ?_⟩) (args_list_sort _)))
  refine wpAny_pure ⟨_, rfl, h _ _ _ ?_ (sortVals_data false e er' hal) (fun b o q => ?_) hle (sortedHeap_at hoL)⟩
  · rw [sortVals_length false rfl]
    exact e.length
  · have k := keep b o q
    exact (sortedHeap_old k.1 (Heap.lt_size k.2)).trans k.2
end
theorem pairs_each {H : Hp} : ∀ {xs : List V} {us : List Value} {ds : List PyData}, Vals xs us → xs.length = ds.length → EachIs (fun (u : Value) (p : V × PyData) => RelV p.1 u) us (xs.zip ds)
  | [], _, [], .nil, _ => .nil
  | [], _, _ :: _, .nil, h => by cases h
  | _ :: _, _, [], .cons _ _, h => by cases h
  | x :: xs, _, d :: ds, .cons r rr, h => .cons r (pairs_each (H := H) rr (by simpa using h))
theorem each_vals : ∀ {us : List Value} {ps : List (V × PyData)}, EachIs (fun (u : Value) (p : V × PyData) => RelV p.1 u) us ps → Vals (ps.map (·.1)) us
  | _, _, .nil => .nil
  | _, _, .cons h t => .cons h (each_vals t)
def rSortD (K : PySem.W.Frag) : List V → Hp → VK → Prop := fun vs H Q => ∃ (a : Addr) (xs : List V) (ds : List PyData), vs = [V.ref a] ∧ (SqL K H a xs ∨ SqT K H a xs) ∧ DpAll K H xs ds ∧ AllAlike ds ∧ Sortable ds ∧ (∀ d ∈ ds, d.depth ≤ 64) ∧
  ∀ p, H p = none → Q (.ref p) (upd H p (.lst (((xs.zip ds).mergeSort (dataLe false fun (p : V × PyData) => p.2)).map (·.1))))
section
variable {X : Cx}
theorem dpAll_len {K : PySem.W.Frag} {H : Hp} : ∀ {xs : List V} {ds : List PyData}, DpAll K H xs ds → xs.length = ds.length := by
  intro xs ds h
  induction ds generalizing xs with
  | nil => cases h; rfl
  | cons d ds ih =>
    cases h with
    | cons h1 h2 => rw [List.length_cons, List.length_cons, ih h2]
theorem dpAll_each {pins : List (Addr × Obj)} {σ : L2.St} {H : Hp} {s : Shared} (I : Inv X pins σ H s) : ∀ {xs : List V} {us : List Value} {ds : List PyData}, DpAll X.K H xs ds → Vals xs us → EachIs (fun (u : Value) (p : V × PyData) => ∃ as, Reads s.heap u p.2 as) us (xs.zip ds) := by
  intro xs us ds h r
  induction ds generalizing xs us with
  | nil => cases h; cases r; exact .nil
  | cons d ds ih =>
    cases h with
    | cons h1 h2 =>
      cases r with
      | cons r1 r2 => exact .cons (Dp.reads I d _ _ h1 r1) (ih h2 r2)
theorem cr_sortD (hu : X.A.units + 100 < cLine) : CallR X (.builtin "sorted") (rSortD X.K) := by
  intro pins s σ H vs us Q I r h
  obtain ⟨a, xs, ds, rfl, hs, hx, hal, hk, hd, q⟩ := h
  obtain ⟨u, rfl, ru⟩ := vals1 r
  obtain rfl : u = Value.ref a := ru
  have hlen := dpAll_len hx
  have main : ∀ (its : List Value) (T : String) (o : Obj) (n : Nat), Vals xs its → xs.length ≤ sizeLine → (T = "list" ∨ T = "tuple") → s.heap.get? a = some o → o.cls = .type T → o.data = .seq its.toArray n →
      wpAny (model X.prog X.w) X.A (call (.builtin "sorted") [.ref a]) (EP X pins σ Q) X.xe s := by
    intro its T o n rv hz hT ho hc hdt
    have e2 : (xs.zip ds).map (fun p => p.2) = ds := by
      rw [List.map_snd_zip]
      omega
    refine sorted_data_any (bs := xs.zip ds) (enc := fun p => p.2) hT ho hc hdt (pairs_each (H := H) rv hlen) (dpAll_each I hx rv) (by rw [e2]; exact hal) (by rw [e2]; exact hk) (by rw [List.length_zip]; omega) (fun b hb => ?_) fun h' d out hl ho2 kp hdd hn => ?_
    · have := hd b.2 (List.of_mem_zip hb).2
      omega
    · obtain ⟨n2, hn2⟩ := hn
      refine ⟨.ref d, upd H d _, I.laid (t' := s.toks) (o := .lst (((xs.zip ds).mergeSort (dataLe false fun (p : V × PyData) => p.2)).map (·.1))) kp hdd ⟨?_, out, n2, each_vals ho2, hn2⟩, rfl, q d (I.hok.fresh hdd)⟩
      rw [List.length_map, List.length_mergeSort, List.length_zip]
      omega
  rcases hs with hs | hs
  · obtain ⟨its, rv, hl, hz⟩ := I.list hs
    obtain ⟨o, ho, hc, n, hdt⟩ := hl.isList
    exact main its "list" o _ rv (by first | exact hz | (rw [rv.length]; exact hz)) (.inl rfl) ho hc hdt
  · obtain ⟨its, rv, hl, hz⟩ := I.tuple hs
    obtain ⟨o, ho, hc, n, hdt⟩ := hl
    exact main its "tuple" o _ rv (by first | exact hz | (rw [rv.length]; exact hz)) (.inr rfl) ho hc hdt
end
end GS
namespace GD
open PySem PySem.Spec PyProof.Rows L2 GX PySem.W
/-! ### as a rule of data -/
def leD : D → D → Bool := dataLe false D.py
/-- items that sorted() can put in order -/
structure SortOk (es : List D) : Prop where
  al : AllAlike (es.map D.py)
  so : Sortable (es.map D.py)
  imm : D.imms es = true
  dep : ∀ d ∈ es, (D.py d).depth ≤ 64
def xSortD (m : XP) : XA := fun env st R => m env st fun d st1 => ∃ es, seqOf st1 d = some es ∧ SortOk es ∧ R (es.mergeSort leD) st1
theorem reps_zip {ι : List Addr} {H : Hp} : ∀ {vs : List V} {ds : List D}, Reps ι H vs ds → ∀ p ∈ vs.zip ds, Rep ι H p.1 p.2
  | _, _, .nil, p, h => by cases h
  | _, _, .cons r rr, p, h => by
    rcases List.mem_cons.mp h with rfl | h
    · exact r
    · exact reps_zip rr p h
theorem reps_of {ι : List Addr} {H : Hp} : ∀ {l : List (V × D)}, (∀ p ∈ l, Rep ι H p.1 p.2) → Reps ι H (l.map (·.1)) (l.map (·.2))
  | [], _ => .nil
  | p :: l, h => .cons (h p List.mem_cons_self) (reps_of fun q hq => h q (List.mem_cons_of_mem _ hq))
theorem zip_map2 : ∀ (xs : List V) (es : List D), xs.zip (D.pys es) = (xs.zip es).map fun p => (p.1, D.py p.2)
  | [], _ => by simp
  | _ :: _, [] => by simp [D.pys]
  | x :: xs, e :: es => by rw [D.pys, List.zip_cons_cons, List.zip_cons_cons, List.map_cons, zip_map2 xs es]
theorem sort_zip {ι : List Addr} {H : Hp} {vs : List V} {es : List D} (r : Reps ι H vs es) : Reps ι H (((vs.zip (D.pys es)).mergeSort (dataLe false fun (p : V × PyData) => p.2)).map (·.1)) (es.mergeSort leD) := by
  have e1 : (vs.zip (D.pys es)).mergeSort (dataLe false fun (p : V × PyData) => p.2) = ((vs.zip es).mergeSort (dataLe false fun (p : V × D) => D.py p.2)).map fun p => (p.1, D.py p.2) := by
    rw [zip_map2]
    exact (List.map_mergeSort (r := dataLe false fun (p : V × D) => D.py p.2) (s := dataLe false fun (p : V × PyData) => p.2) (f := fun p => (p.1, D.py p.2)) fun a _ b _ => rfl).symm
  have e2 : es.mergeSort leD = ((vs.zip es).mergeSort (dataLe false fun (p : V × D) => D.py p.2)).map (·.2) := by
    rw [List.map_mergeSort (r := dataLe false fun (p : V × D) => D.py p.2) (s := leD) (f := fun p => p.2) fun a _ b _ => rfl, List.map_snd_zip]
    rw [r.length]
    exact Nat.le_refl _
  rw [e1, e2, List.map_map]
  refine reps_of fun p hp => reps_zip r p ?_
  exact List.mem_mergeSort.mp hp
section
variable {X : Cx} {w : Wd} {pos : Pos} {p : Pos}
theorem dxl_sortD {e : Expr} {m : XP} (hr : Room 0 X.A) (hg : Gl X "sorted") (hm : X.mg "sorted" = none) (ha : PE X e (tX w m)) (hs : starEach [e] X.env = (false, eval e X.env) :: starEach [] X.env := by rfl) :
    PE X (.Call (.Name "sorted" p) [e] [] pos) (tXL w (xSortD m)) := by
  refine PE.mo (pe_callB (GS.cr_sortD (by have := hr.un; omega)) hg hm (by decide +kernel) (pa_cons ha pa_nil hs) (he := hs)) fun σ H Q ⟨ι, env, st, R, he, hst, hmm, q⟩ => ?_
  refine ⟨ι, env, st, _, he, hst, hmm, fun d st1 ι1 v H1 h1 g1 r1 s1 => ?_⟩
  obtain ⟨es, hq, ok, hR⟩ := h1
  obtain ⟨a, vs, rfl, rs, hl, hh⟩ := seq_cases (K := X.K) s1 r1 hq
  refine ⟨a, vs, D.pys es, rfl, hh.elim (fun h => .inl h) (fun h => .inr (sqt_of h.2)), dp_pys rs ok.imm, by rw [D.pys_eq]; exact ok.al, by rw [D.pys_eq]; exact ok.so, fun d hd => ?_, fun pp hp => ?_⟩
  · rw [D.pys_eq] at hd
    obtain ⟨d', hd', rfl⟩ := List.mem_map.mp hd
    exact ok.dep d' hd'
  · have hk : Kp ι1 H1 (upd H1 pp (.lst (((vs.zip (D.pys es)).mergeSort (dataLe false fun (p : V × PyData) => p.2)).map (·.1)))) := Kp.new hp
    have gg : Gr ι H ι1 (upd H1 pp (.lst (((vs.zip (D.pys es)).mergeSort (dataLe false fun (p : V × PyData) => p.2)).map (·.1)))) := g1.trans (.of hk)
    refine q (es.mergeSort leD) st1 ι1 pp _ _ hR gg upd_same (g1.fresh s1 hp) (nin_of s1 hp) ?_ ((sort_zip rs).kp hk) (s1.new hp (fun _ z => by cases z) (nin_of s1 hp))
    rw [List.length_mergeSort]
    exact hl
end
end GD

set_option Elab.async false
set_option linter.all false
set_option maxRecDepth 100000
set_option maxHeartbeats 4000000
/-! set(xs) of a list of ints, with its exact object -/
namespace GS
open PySem PySem.Spec PyProof.Rows L2 HT PySem.W
section
variable {P : Program} {w : World} {A : Around} {E : Value → Shared → Prop} {s : Shared}
/-- the object that set() begins with -/
abbrev emptyS (w : World) : Obj := { cls := .type "set", dict := none, data := .set #[] 0 (.fresh 0 0 (!w.params.followText "set-order")) }
abbrev withS (w : World) (h : Heap) : Heap := h.push (emptyS w)
theorem withS_at (h : Heap) : (withS w h).get? h.objs.size = some (emptyS w) := Heap.get?_push_size _ rfl
theorem set_of_list {l : Addr} {items : Array Value} (ns : List Int) {Q : Value → Shared → Prop} (quiet : A.handled = none) (isL : s.heap.IsList l items) (vals : IntsAre items.toList ns) (few : ns.length + 1 < scanBound)
    (goal : ∀ (g : Heap) (tk c : Nat), SetR w g s.heap.objs.size (fun j => decide (j ∈ ns)) c → c ≤ ns.length → (∀ b o, s.heap.get? b = some o → g.get? b = some o) → Q (.ref s.heap.objs.size) { s with heap := g, toks := tk }) :
    wpAny (model P w) A (call (.type "set") [.ref l]) Q E s := by
  have many : items.size = ns.length := (Array.length_toList (xs := items)).symm.trans (IntsAre.length vals)
  have ⟨_, _, mro_⟩ := F.called_set.mro
  have made_ := F.called_set.made
  have sub_ := F.called_set.sub
  refine wpAny_call (codeAny_of_tree (show wpAny _ _ (callAny (.type "set") _) _ _ _ from ?_))
  refine wpAny_pure ⟨Code.quiet_builtin _ (by decide +kernel), codeAny_builtin F.entry_type_call ?_⟩
  rw [Around.under_plain (weight_type_call_type "set" [Value.ref l] []) rfl]
  have c1 := F.called_set.notType
  have c2 := F.called_set.canCreate
  have c3 := F.typeCall_set_1 (Value.ref l)
  repeat (any_goals (first | assumption | wp_step))
  refine codeAny_mono (code_set_led1 (Value.ref l) (E := E) (Q₁ := fun x t => x = .ref s.heap.objs.size ∧ t = { s with heap := withS w s.heap }) ⟨rfl, rfl⟩) fun r t hr => ?_
  cases r with
  | error e => exact hr
  | ok fl =>
    cases fl with
    | ret x =>
      obtain ⟨rfl, rfl⟩ := hr
      have atS := withS_at (w := w) s.heap
      have tyS : Shared.TypeIs { s with heap := withS w s.heap } (.ref s.heap.objs.size) "set" := ⟨_, atS, rfl⟩
      have i1 := F.called_set.init.lookup
      have i2 := F.called_set.init.bind (.ref s.heap.objs.size)
      repeat (any_goals (first | assumption | wp_step))
      refine codeAny_mono (codeAny_call_builtin (R := wants (fun r t => r = .none ∧ ∃ g tk c, t = { s with heap := g, toks := tk } ∧ SetR w g s.heap.objs.size (fun j => decide (j ∈ ns)) c ∧ c ≤ ns.length ∧ ∀ b o, s.heap.get? b = some o → g.get? b = some o) E)
        F.called_set.init.plain F.entry_set_init (check_set_init_1 tyS ?_)) fun r2 t2 hr2 => ?_
      · obtain ⟨⟨oc, od, odt, osl⟩, ol, ocl, nl, odl⟩ := isL
        simp only at ocl odl
        subst ocl odl
        have ol2 : (withS w s.heap).get? l = some { cls := .type "list", dict := od, data := .seq items nl, slots := osl } := Heap.get?_push_of_some _ ol
        have n1 := F.sub_list_set
        have n2 := F.sub_list_frozenset
        have n3 : (Value.type "list" == Value.type "dict") = false := by decide
        have isL2 : (withS w s.heap).IsList l items := ⟨_, ol2, rfl, nl, rfl⟩
        unfold Builtin.«set.__init__» noKeywords Builtin.Frozenset.updateFrom
        generalize keep : pyIter = PI
        wp_walk
        subst keep
        refine wpAny_pyIter_list isL2 (wpAny_bind (wpAny_runValue ?_))
        have lS : l < s.heap.objs.size := Heap.lt_size ol
        have q3 : A.in1.in1.in1.handled = none := by simp [quiet]
        have sz : (withS w s.heap).objs.size = s.heap.objs.size + 1 := Heap.size_push ..
        have lI : l ≠ (withS w s.heap).objs.size := fun z => Nat.lt_irrefl l (Nat.lt_of_lt_of_le lS (by rw [z, sz]; exact Nat.le_succ _))
        have nS : s.heap.objs.size ∉ [(withS w s.heap).objs.size, l] := by
          intro z
          rcases List.mem_cons.mp z with z | z
          · rw [sz] at z
            exact Nat.ne_of_lt (Nat.lt_succ_self _) z
          · exact Nat.ne_of_gt lS (List.mem_singleton.mp z)
        have each : ∀ (i : Nat) (v : Value), items[i]? = some v → ∃ k t, ns[i]? = some k ∧ v = .int k t := fun i v hv => by
          have hi : i < ns.length := many ▸ (Array.getElem?_eq_some_iff.mp hv).1
          have ⟨t, e⟩ := IntsAre.int_at vals i v (by rw [Array.getElem?_toList]; exact hv)
          exact ⟨ns[i], t, List.getElem?_eq_getElem hi, by rw [e, List.getD_eq_getElem?_getD, List.getElem?_eq_getElem hi]; rfl⟩
        refine set_update_ints ((Walks.list q3 _ l lI items).toS) s.heap.objs.size nS ns many few each (items.size - 0) 0 _ (by omega) (Nat.zero_le _) ⟨⟨_, Heap.get?_push_size _ rfl, rfl, rfl⟩, (isL2.push _)⟩
          ⟨0, Nat.le_refl 0, setR_new_at (Heap.get?_push_of_some _ atS)⟩ fun t' c' mv hc hS => ?_
        obtain ⟨g, gg, dd, tk, oo⟩ := t'
        have e1 : gg = s.gens := mv.gens
        have e2 : dd = s.drawn := mv.drawn
        have e3 : oo = s.os := mv.os
        subst e1 e2 e3
        refine wpAny_pure (show wpAny _ _ (ret Value.none) _ _ _ from wpAny_pure ⟨rfl, g, tk, c', rfl, hS, many ▸ hc, fun b o e => ?_⟩)
        have hb := Heap.lt_size e
        refine mv.heap b o ?_ (Heap.get?_push_of_some _ (Heap.get?_push_of_some _ e))
        intro z
        rcases List.mem_cons.mp z with z | z
        · exact Nat.ne_of_lt hb z
        · have z := List.mem_singleton.mp z
          rw [sz] at z
          exact Nat.ne_of_lt (Nat.lt_succ_of_lt hb) z
      · cases r2 with
        | error e => exact hr2
        | ok fl2 =>
          cases fl2 with
          | ret r =>
            obtain ⟨rfl, g, tk, c, rfl, z1, z2, z3⟩ := hr2
            repeat (any_goals (first | assumption | wp_step))
            exact goal _ _ _ z1 z2 z3
          | _ => exact hr2.elim
    | _ => exact hr.elim
end
section
variable {X : Cx}
/-- set(x), x a tuple or a list of ints -/
theorem cr_setQ (hc : X.calm = true) : CallR X (.type "set") (fun xs H Q => ∃ (p : Addr) (ns : List Int), xs = [.ref p] ∧ (SqT X.K H p (ns.map V.int) ∨ SqL X.K H p (ns.map V.int)) ∧ ns.length ≤ 60 ∧ ∀ q c, H q = none → c ≤ ns.length → Q (.ref q) (upd H q (SetO X.w q (fun j => decide (j ∈ ns)) c))) := by
  intro pins s σ H xs us Q I r h
  obtain ⟨p0, ns, rfl, hq, hl, q⟩ := h
  have fin : ∀ (g : Heap) (tk c : Nat), SetR X.w g s.heap.objs.size (fun j => decide (j ∈ ns)) c → c ≤ ns.length → (∀ b o, s.heap.get? b = some o → g.get? b = some o) → EP X pins σ Q (.ref s.heap.objs.size) { s with heap := g, toks := tk } := fun g tk c R1 hcn k =>
    ⟨.ref s.heap.objs.size, upd H s.heap.objs.size (SetO X.w s.heap.objs.size (fun j => decide (j ∈ ns)) c), I.laid (t' := tk) k (Nat.le_refl _) (setO_new R1), rfl, q _ c (I.hok.fresh (Nat.le_refl _)) hcn⟩
  cases r with
  | cons r rr =>
    cases rr
    cases r
    have hd := I.ok.hd hc
    rcases hq with hq | hq
    · obtain ⟨its, rv, pt, hz⟩ := I.tuple hq
      exact call_set_tupI ns hd (show s.heap.IsTuple p0 its.toArray from pt) (ints_of_vals rv) (by unfold scanBound; omega) fin
    · obtain ⟨its, rv, pt, hz⟩ := I.list hq
      exact set_of_list ns hd pt.isList (ints_of_vals rv) (by unfold scanBound; omega) fin
end
end GS

set_option Elab.async false
set_option linter.all false
set_option maxRecDepth 100000
set_option maxHeartbeats 2000000
namespace GD
open PySem PySem.Spec PyProof.Rows L2 GX PySem.W GS
/-! sorted(set(x)), x a tuple or a list of ints -/
section
variable {X : Cx} {w : Wd} {pos p : Pos}
def xSortSetQ (m : XP) : XA := fun env st R => m env st fun d st1 => ∃ ns : List Int, seqOf st1 d = some (ns.map D.int) ∧ ns.length ≤ 60 ∧ ∀ ms : List Int, ms.Pairwise (· < ·) → (∀ k, k ∈ ms ↔ k ∈ ns) → R (ms.map D.int) st1
theorem dxl_sortSetQ {e : Expr} {m : XP} {p1 p2 : Pos} (hc : X.calm = true) (hg : Gl X "sorted") (hm : X.mg "sorted" = none) (hg2 : Gl X "set") (hm2 : X.mg "set" = none) (ha : PE X e (tX w m)) (hs : starEach [e] X.env = (false, eval e X.env) :: starEach [] X.env := by rfl)
    (hs2 : starEach [.Call (.Name "set" p1) [e] [] p2] X.env = (false, eval (.Call (.Name "set" p1) [e] [] p2) X.env) :: starEach [] X.env := by rfl) :
    PE X (.Call (.Name "sorted" p) [.Call (.Name "set" p1) [e] [] p2] [] pos) (tXL w (xSortSetQ m)) := by
  refine PE.mo (pe_callB (cr_sortedSet hc) hg hm (by decide +kernel) (pa_cons (pe_callTy (cr_setQ hc) hg2 hm2 (by decide +kernel) (pa_cons ha pa_nil hs) (he := hs)) pa_nil hs2) (he := hs2)) fun σ H Q ⟨ι, env, st, R, he, hst, hmm, q⟩ => ?_
  refine ⟨ι, env, st, _, he, hst, hmm, fun d st1 ι1 v H1 h1 g1 r1 s1 => ?_⟩
  obtain ⟨ns, hq, hl, hR⟩ := h1
  obtain ⟨a, vs, rfl, rs, _, hh⟩ := seq_cases (K := X.K) s1 r1 hq
  have ev := rs.ints
  subst ev
  refine ⟨a, ns, rfl, hh.elim (fun z => .inr z) (fun z => .inl (sqt_of z.2)), hl, fun qa c hq hcl => ⟨qa, _, c, rfl, upd_same, by omega, fun ms pp hp1 hp2 hp3 hp4 => ?_⟩⟩
  have hk : Kp ι1 H1 (upd H1 qa (SetO X.w qa (fun j => decide (j ∈ ns)) c)) := Kp.new hq
  have s2 : SR w.s ι1 st1 (upd H1 qa (SetO X.w qa (fun j => decide (j ∈ ns)) c)) := s1.new hq (fun _ z => by unfold SetO at z; cases z) (nin_of s1 hq)
  have gg : Gr ι H ι1 (upd (upd H1 qa (SetO X.w qa (fun j => decide (j ∈ ns)) c)) pp (.lst (ms.map V.int))) := g1.trans (.of (hk.trans (Kp.new hp4)))
  refine q (ms.map D.int) st1 ι1 pp (ms.map V.int) _ (hR ms hp1 fun k => by rw [hp2 k, decide_eq_true_eq]) gg upd_same ((g1.trans (.of hk)).fresh s2 hp4) (nin_of s2 hp4) ?_ Reps.of_ints (s2.new hp4 (fun _ z => by cases z) (nin_of s2 hp4))
  rw [List.length_map]
  have := pairlt_len hp1 (ns := ns) fun k hk => by simpa using (hp2 k).mp hk
  exact small_size (by omega)
end
end GD

set_option Elab.async false
set_option linter.all false
set_option maxRecDepth 100000
set_option maxHeartbeats 4000000
namespace GF
open PySem PySem.Spec PyProof.Rows L2 GX GD
/-! ## implications: what follows -/
abbrev Imp := List Nat × List Nat
def noImp : Imp := ([], [])
def keepB (s : List Nat) (r : Imp) : Bool := !isPart r.1 s || isPart r.2 s
theorem keepB_iff {s : List Nat} {r : Imp} : keepB s r = true ↔ ((∀ k ∈ r.1, k ∈ s) → ∀ k ∈ r.2, k ∈ s) := by
  unfold keepB
  rw [Bool.or_eq_true, Bool.not_eq_true', ← isPart_iff, ← isPart_iff]
  cases isPart r.1 s <;> simp
theorem part_congr {a s t : List Nat} (h : ∀ k, k ∈ s ↔ k ∈ t) : isPart a s = isPart a t := by
  rw [Bool.eq_iff_iff, isPart_iff, isPart_iff]
  exact ⟨fun q k hk => (h k).mp (q k hk), fun q k hk => (h k).mpr (q k hk)⟩
theorem filter_lt {α : Type} {p q : α → Bool} {x : α} : ∀ {l : List α}, (∀ a ∈ l, q a = true → p a = true) → x ∈ l → p x = true → q x = false → (l.filter q).length < (l.filter p).length
  | [], _, h, _, _ => by cases h
  | a :: l, hs, hx, hp, hq => by
    have mono : ∀ {l : List α}, (∀ a ∈ l, q a = true → p a = true) → (l.filter q).length ≤ (l.filter p).length := by
      intro l
      induction l with
      | nil => intro _; exact Nat.le_refl _
      | cons b l ih =>
        intro h
        have h1 := ih fun a ha => h a (List.mem_cons_of_mem _ ha)
        cases hb : q b with
        | true => rw [List.filter_cons_of_pos hb, List.filter_cons_of_pos (h b List.mem_cons_self hb), List.length_cons, List.length_cons]; omega
        | false =>
          rw [List.filter_cons_of_neg (by rw [hb]; decide)]
          refine Nat.le_trans h1 ?_
          by_cases hpb : p b = true
          · rw [List.filter_cons_of_pos hpb, List.length_cons]; omega
          · rw [List.filter_cons_of_neg hpb]; exact Nat.le_refl _
    have hs' : ∀ a ∈ l, q a = true → p a = true := fun a ha => hs a (List.mem_cons_of_mem _ ha)
    rcases List.mem_cons.mp hx with rfl | hx
    · rw [List.filter_cons_of_pos hp, List.filter_cons_of_neg (by rw [hq]; decide), List.length_cons]
      have := mono hs'
      omega
    · have h1 := filter_lt hs' hx hp hq
      cases hb : q a with
      | true => rw [List.filter_cons_of_pos hb, List.filter_cons_of_pos (hs a List.mem_cons_self hb), List.length_cons, List.length_cons]; omega
      | false =>
        rw [List.filter_cons_of_neg (by rw [hb]; decide)]
        refine Nat.lt_of_lt_of_le h1 ?_
        by_cases hpb : p a = true
        · rw [List.filter_cons_of_pos hpb, List.length_cons]; omega
        · rw [List.filter_cons_of_neg hpb]; exact Nat.le_refl _
/-- how many conclusions are not within -/
def muM (imps : List Imp) (s : List Nat) : Nat := (imps.filter fun r => !isPart r.2 s).length
theorem muM_le (imps : List Imp) (s : List Nat) : muM imps s ≤ imps.length := List.length_filter_le _ _
theorem muM_lt {imps : List Imp} {s t : List Nat} (h : ∀ k ∈ s, k ∈ t) {r : Imp} (hr : r ∈ imps) (h1 : isPart r.2 s = false) (h2 : isPart r.2 t = true) : muM imps t < muM imps s := by
  refine filter_lt (x := r) (fun a _ ha => ?_) hr (by rw [h1]; rfl) (by rw [h2]; rfl)
  rw [Bool.not_eq_true'] at ha ⊢
  cases hq : isPart a.2 s with
  | false => rfl
  | true =>
    have : isPart a.2 t = true := isPart_iff.mpr fun k hk => h k (isPart_iff.mp hq k hk)
    rw [this] at ha
    exact ha
def badM (imps : List Imp) (s : List Nat) : List Nat := (List.range imps.length).filter fun i => !keepB s (imps.getD i noImp)
theorem impD_at (imps : List Imp) {i : Nat} (h : i < imps.length) : imps[i]? = some (imps.getD i noImp) := by
  rw [List.getD_eq_getElem?_getD, List.getElem?_eq_getElem h]
  rfl
theorem imp_mem (imps : List Imp) {i : Nat} (h : i < imps.length) : imps.getD i noImp ∈ imps := List.mem_of_getElem? (impD_at imps h)
theorem bad_nil {imps : List Imp} {s : List Nat} (h : badM imps s = []) : ∀ r ∈ imps, keepB s r = true := fun r hr => by
  obtain ⟨i, hi, e⟩ := List.getElem_of_mem hr
  have e2 : imps.getD i noImp = r := by rw [List.getD_eq_getElem?_getD, List.getElem?_eq_getElem hi, e]; rfl
  cases hk : keepB s r with
  | true => rfl
  | false =>
    have : i ∈ badM imps s := List.mem_filter.mpr ⟨List.mem_range.mpr hi, by rw [e2, hk]; rfl⟩
    rw [h] at this
    cases this
theorem bad_cons {imps : List Imp} {s : List Nat} {i : Nat} {t : List Nat} (h : badM imps s = i :: t) : i < imps.length ∧ isPart (imps.getD i noImp).1 s = true ∧ isPart (imps.getD i noImp).2 s = false := by
  have hi : i ∈ badM imps s := by rw [h]; exact List.mem_cons_self
  obtain ⟨h1, h2⟩ := List.mem_filter.mp hi
  unfold keepB at h2
  refine ⟨List.mem_range.mp h1, ?_, ?_⟩
  · cases q : isPart (imps.getD i noImp).1 s with
    | true => rfl
    | false => rw [q] at h2; simp at h2
  · cases q : isPart (imps.getD i noImp).2 s with
    | false => rfl
    | true => rw [q] at h2; simp at h2
theorem mu_step {imps : List Imp} {s : List Nat} {i : Nat} {t : List Nat} (h : badM imps s = i :: t) : muM imps (unionM s (imps.getD i noImp).2) < muM imps s := by
  obtain ⟨h1, h2, h3⟩ := bad_cons h
  exact muM_lt (fun k hk => mem_unionM.mpr (.inl hk)) (imp_mem imps h1) h3 (isPart_iff.mpr fun k hk => mem_unionM.mpr (.inr hk))
def usedGo (imps : List Imp) : Nat → List Nat → List Nat → List Nat × List Nat
  | 0, s, u => (s, u)
  | n + 1, s, u => match badM imps s with
    | [] => (s, u)
    | i :: _ => usedGo imps n (unionM s (imps.getD i noImp).2) (u ++ [i])
theorem used_nil {imps : List Imp} {s : List Nat} (h : badM imps s = []) : ∀ n u, usedGo imps n s u = (s, u)
  | 0, u => rfl
  | n + 1, u => by rw [usedGo, h]
theorem used_cons {imps : List Imp} {s : List Nat} {i : Nat} {t : List Nat} (h : badM imps s = i :: t) (n : Nat) (u : List Nat) : usedGo imps (n + 1) s u = usedGo imps n (unionM s (imps.getD i noImp).2) (u ++ [i]) := by rw [usedGo, h]
/-- induction over what is done -/
theorem used_ind {imps : List Imp} {P : List Nat → List Nat → Prop} (step : ∀ s u i t, P s u → badM imps s = i :: t → P (unionM s (imps.getD i noImp).2) (u ++ [i])) : ∀ (n : Nat) (s u : List Nat), muM imps s ≤ n → P s u → P (usedGo imps n s u).1 (usedGo imps n s u).2 ∧ badM imps (usedGo imps n s u).1 = []
  | 0, s, u, hm, h => by
    refine ⟨h, ?_⟩
    show badM imps s = []
    cases hb : badM imps s with
    | nil => rfl
    | cons i t => have := mu_step hb; omega
  | n + 1, s, u, hm, h => by
    cases hb : badM imps s with
    | nil => rw [used_nil hb]; exact ⟨h, hb⟩
    | cons i t =>
      rw [used_cons hb]
      have := mu_step hb
      exact used_ind step n _ _ (by omega) (step s u i t h hb)
def usedM (imps : List Imp) (s : List Nat) : List Nat × List Nat := usedGo imps imps.length s []
/-- what follows from s -/
def cuM (imps : List Imp) (s : List Nat) : List Nat := (usedM imps s).1
section
variable {imps : List Imp} {s : List Nat}
theorem cu_grows : ∀ k ∈ s, k ∈ cuM imps s := (used_ind (P := fun t _ => ∀ k ∈ s, k ∈ t) (fun t u i _ h _ k hk => mem_unionM.mpr (.inl (h k hk))) imps.length s [] (muM_le _ _) fun _ h => h).1
theorem cu_keeps : ∀ r ∈ imps, keepB (cuM imps s) r = true := bad_nil (used_ind (P := fun _ _ => True) (fun _ _ _ _ _ _ => trivial) imps.length s [] (muM_le _ _) trivial).2
theorem cu_least {t : List Nat} (hs : ∀ k ∈ s, k ∈ t) (hk : ∀ r ∈ imps, keepB t r = true) : ∀ k ∈ cuM imps s, k ∈ t := (used_ind (P := fun x _ => ∀ k ∈ x, k ∈ t) (fun x u i _ h hb k hk' => by
    obtain ⟨h1, h2, h3⟩ := bad_cons hb
    rcases mem_unionM.mp hk' with q | q
    · exact h k q
    · exact keepB_iff.mp (hk _ (imp_mem imps h1)) (fun j hj => h j (isPart_iff.mp h2 j hj)) k q) imps.length s [] (muM_le _ _) hs).1
theorem cu_in {n : Nat} (hs : SetIn 0 n s) (hi : ∀ r ∈ imps, ∀ x ∈ r.2, x < n) : SetIn 0 n (cuM imps s) := (used_ind (P := fun x _ => SetIn 0 n x) (fun x u i _ h hb => unionM_in h.2 fun y hy => ⟨Nat.zero_le _, hi _ (imp_mem imps (bad_cons hb).1) y hy⟩) imps.length s [] (muM_le _ _) hs).1
theorem cu_sorted (hs : s.Pairwise (· < ·)) : (cuM imps s).Pairwise (· < ·) := (used_ind (P := fun x _ => x.Pairwise (· < ·)) (fun x u i _ h hb => unionM_sorted _ _) imps.length s [] (muM_le _ _) hs).1
theorem cu_mono {t : List Nat} (h : ∀ k ∈ s, k ∈ t) : ∀ k ∈ cuM imps s, k ∈ cuM imps t := cu_least (fun k hk => cu_grows k (h k hk)) cu_keeps
theorem cu_self (hs : s.Pairwise (· < ·)) (h : ∀ r ∈ imps, keepB s r = true) : cuM imps s = s := sorted_ext (cu_sorted hs) hs fun k => ⟨cu_least (fun _ h => h) h k, cu_grows k⟩
theorem cu_twice (hs : s.Pairwise (· < ·)) : cuM imps (cuM imps s) = cuM imps s := cu_self (cu_sorted hs) cu_keeps
theorem cu_unique {t : List Nat} (hs : s.Pairwise (· < ·)) (ht : t.Pairwise (· < ·)) (h1 : ∀ k ∈ s, k ∈ t) (h2 : ∀ r ∈ imps, keepB t r = true) (h3 : ∀ k ∈ t, k ∈ cuM imps s) : t = cuM imps s := sorted_ext ht (cu_sorted hs) fun k => ⟨h3 k, cu_least h1 h2 k⟩
theorem cu_iff (hs : s.Pairwise (· < ·)) : cuM imps s = s ↔ ∀ r ∈ imps, keepB s r = true := ⟨fun h => by rw [← h]; exact cu_keeps, cu_self hs⟩
end
/-! ### by rounds, as the law does -/
def stepM (s : List Nat) (r : Imp) : List Nat := if isPart r.1 s = true then unionM s r.2 else s
def passM (imps : List Imp) (s : List Nat) : List Nat := imps.foldl stepM s
def passN (imps : List Imp) : Nat → List Nat → List Nat
  | 0, s => s
  | n + 1, s => passM imps (passN imps n s)
theorem stepM_sorted {s : List Nat} (h : s.Pairwise (· < ·)) (r : Imp) : (stepM s r).Pairwise (· < ·) := by
  unfold stepM
  split
  · exact unionM_sorted _ _
  · exact h
theorem stepM_grows (s : List Nat) (r : Imp) : ∀ k ∈ s, k ∈ stepM s r := fun k hk => by
  unfold stepM
  split
  · exact mem_unionM.mpr (.inl hk)
  · exact hk
theorem fold_sorted : ∀ (l : List Imp) {s : List Nat}, s.Pairwise (· < ·) → (l.foldl stepM s).Pairwise (· < ·)
  | [], _, h => h
  | r :: l, _, h => fold_sorted l (stepM_sorted h r)
theorem fold_grows : ∀ (l : List Imp) (s : List Nat), ∀ k ∈ s, k ∈ l.foldl stepM s
  | [], _, _, h => h
  | r :: l, s, k, h => fold_grows l _ k (stepM_grows s r k h)
theorem fold_in {t : List Nat} : ∀ (l : List Imp), (∀ r ∈ l, keepB t r = true) → ∀ s, (∀ k ∈ s, k ∈ t) → ∀ k ∈ l.foldl stepM s, k ∈ t
  | [], _, _, h, k, hk => h k hk
  | r :: l, hk, s, h, k, h2 => fold_in l (fun r hr => hk r (List.mem_cons_of_mem _ hr)) (stepM s r) (fun j hj => by
      unfold stepM at hj
      split at hj
      · rename_i hp
        rcases mem_unionM.mp hj with q | q
        · exact h j q
        · exact keepB_iff.mp (hk r List.mem_cons_self) (fun i hi => h i (isPart_iff.mp hp i hi)) j q
      · exact h j hj) k h2
/-- a pass that finds nothing: all is kept -/
theorem fold_same : ∀ (l : List Imp) (s : List Nat), (∀ k ∈ l.foldl stepM s, k ∈ s) → ∀ r ∈ l, keepB s r = true
  | [], _, _, r, hr => by cases hr
  | r0 :: l, s, h, r, hr => by
    have hstep : ∀ k ∈ stepM s r0, k ∈ s := fun k hk => h k (fold_grows l _ k hk)
    rcases List.mem_cons.mp hr with rfl | hr
    · refine keepB_iff.mpr fun hp k hk => hstep k ?_
      unfold stepM
      rw [if_pos (isPart_iff.mpr hp)]
      exact mem_unionM.mpr (.inr hk)
    · have e : ∀ k, k ∈ stepM s r0 ↔ k ∈ s := fun k => ⟨hstep k, stepM_grows s r0 k⟩
      have := fold_same l (stepM s r0) (fun k hk => (e k).mpr (h k hk)) r hr
      unfold keepB at this ⊢
      rw [part_congr e, part_congr e] at this
      exact this
/-- the first item of a pass that brings something -/
theorem fold_new : ∀ (l : List Imp) (s : List Nat), (∃ k ∈ l.foldl stepM s, k ∉ s) → ∃ r ∈ l, isPart r.2 s = false ∧ ∀ k ∈ r.2, k ∈ l.foldl stepM s
  | [], _, ⟨k, h1, h2⟩ => absurd h1 h2
  | r0 :: l, s, ⟨k, h1, h2⟩ => by
    by_cases hn : ∃ j ∈ stepM s r0, j ∉ s
    · obtain ⟨j, j1, j2⟩ := hn
      refine ⟨r0, List.mem_cons_self, ?_, fun i hi => fold_grows l _ i ?_⟩
      · unfold stepM at j1
        split at j1
        · rcases mem_unionM.mp j1 with q | q
          · exact absurd q j2
          · cases hc : isPart r0.2 s with
            | false => rfl
            | true => exact absurd (isPart_iff.mp hc j q) j2
        · exact absurd j1 j2
      · unfold stepM at j1 ⊢
        split at j1
        · rename_i hp
          rw [if_pos hp]
          exact mem_unionM.mpr (.inr hi)
        · exact absurd j1 j2
    · have e : ∀ j, j ∈ stepM s r0 ↔ j ∈ s := fun j => ⟨fun q => Classical.byContradiction fun z => hn ⟨j, q, z⟩, stepM_grows s r0 j⟩
      obtain ⟨r, r1, r2, r3⟩ := fold_new l (stepM s r0) ⟨k, h1, fun q => h2 ((e k).mp q)⟩
      rw [part_congr e] at r2
      exact ⟨r, List.mem_cons_of_mem _ r1, r2, r3⟩
theorem pass_mu {imps : List Imp} {s : List Nat} (h : ¬ ∀ r ∈ imps, keepB s r = true) : muM imps (passM imps s) < muM imps s := by
  have : ∃ k ∈ imps.foldl stepM s, k ∉ s := Classical.byContradiction fun z => h (fold_same imps s fun k hk => Classical.byContradiction fun q => z ⟨k, hk, q⟩)
  obtain ⟨r, r1, r2, r3⟩ := fold_new imps s this
  exact muM_lt (fold_grows imps s) r1 r2 (isPart_iff.mpr r3)
theorem pass_keep {imps : List Imp} {s : List Nat} (h : ∀ r ∈ imps, keepB s r = true) : ∀ k, k ∈ passM imps s ↔ k ∈ s := fun k => ⟨fold_in imps h s (fun _ h => h) k, fold_grows imps s k⟩
theorem keep_congr {s t : List Nat} (e : ∀ k, k ∈ s ↔ k ∈ t) (r : Imp) : keepB s r = keepB t r := by
  unfold keepB
  rw [part_congr e, part_congr e]
theorem passN_done {imps : List Imp} {s : List Nat} : ∀ n, (∀ r ∈ imps, keepB (passN imps n s) r = true) ∨ muM imps (passN imps n s) + n ≤ muM imps s
  | 0 => .inr (Nat.le_refl _)
  | n + 1 => by
    by_cases hk : ∀ r ∈ imps, keepB (passN imps n s) r = true
    · left
      intro r hr
      show keepB (passM imps (passN imps n s)) r = true
      rw [keep_congr (pass_keep hk)]
      exact hk r hr
    · rcases passN_done n with q | q
      · exact absurd q hk
      · have := pass_mu hk
        right
        show muM imps (passM imps (passN imps n s)) + (n + 1) ≤ _
        omega
theorem passN_sorted {imps : List Imp} {s : List Nat} (h : s.Pairwise (· < ·)) : ∀ n, (passN imps n s).Pairwise (· < ·)
  | 0 => h
  | n + 1 => fold_sorted imps (passN_sorted h n)
theorem passN_grows {imps : List Imp} {s : List Nat} : ∀ n, ∀ k ∈ s, k ∈ passN imps n s
  | 0, _, h => h
  | n + 1, k, h => fold_grows imps _ k (passN_grows n k h)
theorem passN_in {imps : List Imp} {s t : List Nat} (ht : ∀ r ∈ imps, keepB t r = true) (h : ∀ k ∈ s, k ∈ t) : ∀ n, ∀ k ∈ passN imps n s, k ∈ t
  | 0, k, hk => h k hk
  | n + 1, k, hk => fold_in imps ht _ (passN_in ht h n) k hk
theorem passN_cu {imps : List Imp} {s : List Nat} (h : s.Pairwise (· < ·)) : passN imps (imps.length + 1) s = cuM imps s := by
  refine cu_unique h (passN_sorted h _) (passN_grows _) ?_ (passN_in cu_keeps cu_grows _)
  rcases passN_done (imps := imps) (s := s) (imps.length + 1) with q | q
  · exact q
  · have := muM_le imps s
    omega
/-! ### derivations -/
def numOf (n : Nat) : D → Option Nat
  | .int i => if 0 ≤ i ∧ i < (n : Int) then some i.toNat else none
  | _ => none
def derGo (imps : List Imp) (c : List Nat) : List D → List Nat → Bool
  | [], found => isPart c found
  | d :: ds, found => match numOf imps.length d with
    | none => false
    | some k => isPart (imps.getD k noImp).1 found && derGo imps c ds (found ++ (imps.getD k noImp).2)
def derB (imps : List Imp) (r : Imp) (ds : List D) : Bool := derGo imps r.2 ds r.1
end GF

set_option Elab.async false
set_option linter.all false
set_option maxRecDepth 100000
set_option maxHeartbeats 4000000
namespace GF
open PySem PySem.Spec PyProof.Rows L2 GX GD
/-! ## 30. implications -/
def impD (r : Imp) : D := .tup [dN r.1, dN r.2]
theorem imp0 (st : SS) (r : Imp) : fIx st (impD r) (.int 0) = some (dN r.1) := rfl
theorem imp1 (st : SS) (r : Imp) : fIx st (impD r) (.int 1) = some (dN r.2) := rfl
theorem mNot_e {m : MP} {env : EV} {st : SS} {b : Bool} (h : m env st = some (.bl b)) : mNot m env st = some (.bl (!b)) := by unfold mNot; rw [h]
theorem mIf_e {c : MB} {a b : MP} {env : EV} {st : SS} {x : Bool} {d : D} (h : c env st = some x) (h1 : x = true → a env st = some d) (h2 : x = false → b env st = some d) : mIf c a b env st = some d := by
  unfold mIf
  rw [h]
  cases x with
  | true => exact h1 rfl
  | false => exact h2 rfl
/-! ### a tuple or a list that is read -/
theorem seqI_up {st st1 : SS} (u : Up st st1) {x : D} {r : List D × Option Nat} (h : seqI st x = some r) : seqI st1 x = some r := by
  unfold seqI at h ⊢
  split at h
  · exact h
  · split at h
    · rename_i n _ ds e
      simp only [u.get e]
      exact h
    · cases h
  · cases h
theorem seqI_hold {st st1 : SS} (u : Up st st1) {x : D} {ds : List D} {ro : Option Nat} (h : seqI st x = some (ds, ro)) : Hold st ro st1 := by
  unfold seqI at h
  split at h
  · cases h; trivial
  · split at h
    · rename_i n _ ds e
      cases h
      exact (u.get e).trans e.symm
    · cases h
  · cases h
theorem seqI_of {st : SS} {x : D} {ds : List D} {ro : Option Nat} (h : seqI st x = some (ds, ro)) : seqOf st x = some ds := by
  unfold seqI at h
  unfold seqOf
  split at h
  · cases h; rfl
  · split at h
    · rename_i n _ ds e
      cases h
      simp only [e]
    · cases h
  · cases h
theorem ix_seq {α : Type} {st : SS} {x : D} {f : α → D} {l : List α} {ro : Option Nat} (h : seqI st x = some (l.map f, ro)) {i : Nat} {a : α} (k : l[i]? = some a) : fIx st x (nI i) = some (f a) := by
  unfold fIx
  rw [seqI_of h]
  show atI (l.map f) (i : Int) = _
  rw [GD.atI_nat, List.getElem?_map, k]
  rfl
theorem len_seq {α : Type} {st : SS} {x : D} {f : α → D} {l : List α} {ro : Option Nat} (h : seqI st x = some (l.map f, ro)) : fLen st x = some (nI l.length) := by
  unfold fLen
  rw [seqI_of h]
  show some (D.int ((l.map f).length : Nat)) = _
  rw [List.length_map]
  rfl
theorem mF1_e {f : F1} {m : MP} {env : EV} {st : SS} {x : D} (h : m env st = some x) : mF1 f m env st = f st x := by unfold mF1; rw [h]
theorem iEnum_e {α : Type} {f : α → D} {l : List α} {ro : Option Nat} {m : MP} {env : EV} {st : SS} {x : D} (z : α) (h : m env st = some x) (k : seqI st x = some (l.map f, ro)) : GD.iEnum m env st = some ((List.range l.length).map (fun i => .tup [nI i, f (l.getD i z)]), ro) := by
  unfold GD.iEnum
  rw [h]
  show (match seqI st x with | some (ds, ro) => some (enumD ds, ro) | none => none) = _
  rw [k]
  show some (enumD (l.map f), ro) = _
  rw [enumD_map f l z]
/-! ### a loop that returns at the first that holds -/
theorem rfor_find {α : Type} {f g : α → D} {t : MT} {c : MB} {m : MP} {st : SS} {p : α → Bool} (E : EV → Prop) : ∀ (l : List α) (env : EV), E env → (∀ env, E env → ∀ a ∈ l, ∃ env1, t (f a) env = some env1 ∧ E env1 ∧ c env1 st = some (p a) ∧ (p a = true → m env1 st = some (g a))) →
    (∃ a, l.find? p = some a ∧ rForGo t (rIf c (rRet m) rNext) st (l.map f) env = some (.rt (g a))) ∨ (l.find? p = none ∧ ∃ env', E env' ∧ rForGo t (rIf c (rRet m) rNext) st (l.map f) env = some (.nx env'))
  | [], env, h, _ => .inr ⟨rfl, env, h, rfl⟩
  | a :: l, env, h, k => by
    obtain ⟨env1, h1, h2, h3, h4⟩ := k env h a List.mem_cons_self
    have step : rForGo t (rIf c (rRet m) rNext) st (f a :: l.map f) env = (match rIf c (rRet m) rNext env1 st with | some (.nx e) => rForGo t (rIf c (rRet m) rNext) st (l.map f) e | some (.ct e) => rForGo t (rIf c (rRet m) rNext) st (l.map f) e | some (.bk e) => some (.nx e) | some (.rt d) => some (.rt d) | none => none) := by
      rw [rForGo, h1] <;> rfl
    cases hp : p a with
    | true =>
      rw [hp] at h3
      exact .inl ⟨a, by rw [List.find?_cons, hp], by rw [List.map_cons, step, rIf_t h3, rRet_e (h4 hp)]⟩
    | false =>
      rw [hp] at h3
      rcases rfor_find (g := g) (m := m) (c := c) (p := p) E l env1 h2 fun env q b hb => k env q b (List.mem_cons_of_mem _ hb) with ⟨b, q1, q2⟩ | ⟨q1, e, q2, q3⟩
      · exact .inl ⟨b, by rw [List.find?_cons, hp]; exact q1, by rw [List.map_cons, step, rIf_f h3]; exact q2⟩
      · exact .inr ⟨by rw [List.find?_cons, hp]; exact q1, e, q2, by rw [List.map_cons, step, rIf_f h3]; exact q3⟩
def retO {α : Type} (g : α → D) : Option α → D
  | some a => g a
  | none => .non
theorem find_eval {α : Type} {f g : α → D} {mi : MI} {t : MT} {c : MB} {m : MP} {st : SS} {p : α → Bool} {env : EV} {ro : Option Nat} {l : List α} (E : EV → Prop) (hmi : mi env st = some (l.map f, ro)) (h0 : E env)
    (k : ∀ env, E env → ∀ a ∈ l, ∃ env1, t (f a) env = some env1 ∧ E env1 ∧ c env1 st = some (p a) ∧ (p a = true → m env1 st = some (g a))) :
    rSeq (rFor mi t (rIf c (rRet m) rNext)) (rRet (mC .non)) env st = some (.rt (retO g (l.find? p))) := by
  have e : rFor mi t (rIf c (rRet m) rNext) env st = rForGo t (rIf c (rRet m) rNext) st (l.map f) env := by unfold rFor; rw [hmi]
  rcases rfor_find (g := g) (p := p) (m := m) (c := c) (t := t) E l env h0 k with ⟨a, h1, h2⟩ | ⟨h1, env', _, h2⟩
  · rw [h1]; exact rSeq_rt (e.trans h2)
  · rw [h1]; exact (rSeq_nx (e.trans h2)).trans rfl
/-! ### numbers -/
theorem q_tupt (st : SS) (l : List D) : fIs "tuple" st (.tup l) = some (.bl true) := kk _ _ _ k5 st _ rfl
theorem q_tupn (st : SS) : fIs "tuple" st .non = some (.bl false) := kk _ _ _ k1 st _ rfl
theorem q_tupi (st : SS) (i : Int) : fIs "tuple" st (.int i) = some (.bl false) := kk _ _ _ k3 st _ rfl
theorem k_lt : kitB "list" "tuple" = some false := by decide +kernel
theorem q_tupl {st : SS} {n : Nat} {l : List D} (h : st[n]? = some (.lst l)) : fIs "tuple" st (.ref n) = some (.bl false) := kk _ _ _ k_lt st _ (by unfold D.kind; simp only [h])
/-- an int, a truth value or a text -/
def isAtom : D → Bool
  | .int _ => true
  | .bl _ => true
  | .str _ => true
  | .non => true
  | _ => false
def R_keeps : RS := (rRet (mOr (mNot (mCall F_is_part (mCons (mOp fIx (mVar 1) (mC (.int 0))) (mCons (mVar 0) mNil)))) (mCall F_is_part (mCons (mOp fIx (mVar 1) (mC (.int 1))) (mCons (mVar 0) mNil)))))
def F_keeps : List D → SS → Option D := fnR' 2 2 R_keeps
theorem keeps_eval (st : SS) (s : List Nat) (r : Imp) : F_keeps [dN s, impD r] st = some (.bl (keepB s r)) := by
  refine fnR'_rt rfl ?_ rfl
  exact rRet_e (mOr_e (mNot_e ((mCall2 (imp0 st r) rfl).trans (is_part_eval st r.1 s))) fun _ => (mCall2 (imp1 st r) rfl).trans (is_part_eval st r.2 s))
def brokenM (rows : List (List Nat)) (r : Imp) : Option Nat := (List.range rows.length).find? fun g => !keepB (rows.getD g []) r
/-! ### what follows from a set -/
/-- a def over a tuple or a list of implications -/
structure ImpsAt (st : SS) (x : D) (imps : List Imp) : Prop where
  ex : ∃ ro, seqI st x = some (imps.map impD, ro)
theorem ImpsAt.up {st st1 : SS} {x : D} {imps : List Imp} (h : ImpsAt st x imps) (u : Up st st1) : ImpsAt st1 x imps := let ⟨ro, e⟩ := h.ex; ⟨ro, seqI_up u e⟩
theorem ImpsAt.tup (st : SS) (imps : List Imp) : ImpsAt st (.tup (imps.map impD)) imps := ⟨none, rfl⟩
/-- implications over so many marks -/
structure ImpIn (many : Nat) (imps : List Imp) : Prop where
  prem : ∀ r ∈ imps, SetIn 0 many r.1
  conc : ∀ r ∈ imps, SetIn 0 many r.2
theorem ImpIn.lt {many : Nat} {imps : List Imp} (h : ImpIn many imps) : ∀ r ∈ imps, ∀ x ∈ r.2, x < many := fun r hr x hx => ((h.conc r hr).2 x hx).2
theorem getI1 {st : SS} {x : D} {imps : List Imp} (h : ImpsAt st x imps) {i : Nat} (hi : i < imps.length) : fIx st x (nI i) = some (impD (imps.getD i noImp)) := let ⟨_, e⟩ := h.ex; ix_seq e (impD_at imps hi)
def usedT : XT := fun ds st R => ∃ (x : D) (imps : List Imp) (s : List Nat) (many : Nat), ds = [x, dN s] ∧ ImpsAt st x imps ∧ many ≤ 16 ∧ SetIn 0 many s ∧ ImpIn many imps ∧ imps.length ≤ 1000 ∧
  ∀ st' p, Up st st' → st.length ≤ p → st'[p]? = some (.lst ((usedM imps s).2.map nI)) → R (.tup [dN (cuM imps s), .ref p]) st'
def X_used_from : XS := (sSeq (sAsg (xNew (xaOf (mLst mNil))) (tgN 2)) (sWhile (xbOf (bV (mC (.bl true)))) (sSeq (sAsg (xNew (xaOf (mComp (iEnum (mVar 0)) (tgTup 2 (tgCons (tgN 3) (tgCons (tgN 4) tgNil))) (bNot (bV (mCall F_keeps (mCons (mVar 1) (mCons (mVar 4) mNil))))) (mVar 3) [3, 4]))) (tgN 5)) (sSeq (sIf (xbOf (bNot (bT (mVar 5)))) (sRet (xOf (mTup (mCons (mVar 1) (mCons (mVar 2) mNil))))) sNext) (sSeq (sAppP (mVar 2) (xOf (mOp fIx (mVar 5) (mC (.int 0))))) (sAsg (xCall T_together (xCons (xOf (mVar 1)) (xCons (xOf (mOp fIx (mOp fIx (mVar 0) (mOp fIx (mVar 5) (mC (.int 0)))) (mC (.int 1)))) xNil))) (tgN 1)))))))
def Y_used_from : XT := fnT' 6 2 X_used_from
abbrev T_used_from : XT := usedT
theorem used_ok (ds : List D) (st : SS) (R : D → SS → Prop) (h : usedT ds st R) : Y_used_from ds st R := by
  obtain ⟨x, imps, s, many, rfl, hx, hm, hs, hi, hl, hR⟩ := h
  refine ⟨rfl, ?_⟩
  show X_used_from _ [some x, some (dN s), none, none, none, none] st
  refine ⟨[], rfl, _, rfl, ?_⟩
  refine ⟨fun m env st' => ∃ t u x3 x4 x5, env = [some x, some (dN t), some (.ref st.length), x3, x4, x5] ∧ Up st st' ∧ st'[st.length]? = some (.lst (u.map nI)) ∧ SetIn 0 many t ∧ muM imps t ≤ m ∧ usedGo imps m t u = usedM imps s ∧ u.length + m ≤ 1000,
    ⟨imps.length, s, [], none, none, none, rfl, Up.app _ _, getApp _ _, hs, muM_le _ _, rfl, by simpa using hl⟩, ?_⟩
  rintro m env st' ⟨t, u, x3, x4, x5, rfl, hu, hp, ht, hmu, hgo, hlen⟩
  refine ⟨true, rfl, iteT ?_⟩
  have hx' := hx.up hu
  obtain ⟨ro, hro⟩ := hx'.ex
  refine ⟨(badM imps t).map nI, comp_fi (p := fun i => !keepB t (imps.getD i noImp)) (g := nI) (iEnum_e noImp rfl hro) fun i hi => ⟨_, rfl, bNot_e (bV_e ((mCall2 rfl rfl).trans (keeps_eval _ t _))), fun _ => rfl⟩, _, rfl, ?_⟩
  have hlt : st.length < st'.length := (List.getElem?_eq_some_iff.mp hp).1
  have a5 := getApp st' (Cell.lst ((badM imps t).map nI))
  have u5 : Up st' (st' ++ [Cell.lst ((badM imps t).map nI)]) := Up.app _ _
  generalize st' ++ [Cell.lst ((badM imps t).map nI)] = s5 at a5 u5 ⊢
  generalize st'.length = p5 at a5 hlt ⊢
  have hp5 := u5.get hp
  cases hb : badM imps t with
  | nil =>
    rw [hb] at a5
    refine ⟨true, bNot_e (b := false) ?_, iteT ⟨_, mTup_e (mCons_e rfl (mCons1 rfl)) (by show 2 ≤ 1000; decide), ?_⟩⟩
    · show truD s5 (.ref p5) = _
      unfold truD
      simp only [a5]
      rfl
    · have e : usedM imps s = (t, u) := hgo.symm.trans (used_nil hb m u)
      have e1 : cuM imps s = t := by unfold cuM; rw [e]
      refine e1 ▸ hR s5 st.length (hu.trans u5) (Nat.le_refl _) ?_
      rw [e]
      exact hp5
  | cons i rest =>
    obtain ⟨b1, b2, b3⟩ := bad_cons hb
    have hstep := mu_step hb
    rw [hb] at a5
    have ix0 : fIx s5 (.ref p5) (.int 0) = some (nI i) := getR (i := 0) a5 rfl
    refine ⟨false, bNot_e (b := true) ?_, iteF ?_⟩
    · show truD s5 (.ref p5) = _
      unfold truD
      simp only [a5]
      rfl
    refine ⟨st.length, _, rfl, hp5, nI i, ix0, _, hp5, by rw [List.length_map]; omega, ?_⟩
    have u6 : Up st (s5.set st.length (.lst (u.map nI ++ [nI i]))) := (hu.trans u5).set (Nat.le_refl _) _
    have hp6 := getSet (d := Cell.lst (u.map nI ++ [nI i])) hp5
    have a6 : (s5.set st.length (.lst (u.map nI ++ [nI i])))[p5]? = some (.lst ((i :: rest).map nI)) := by
      rw [List.getElem?_set_ne (by omega)]
      exact a5
    generalize s5.set st.length (.lst (u.map nI ++ [nI i])) = s6 at u6 hp6 a6 ⊢
    have ix6 : fIx s6 (.ref p5) (.int 0) = some (nI i) := getR (i := 0) a6 rfl
    refine ⟨dN t, rfl, dN (imps.getD i noImp).2, (mOp_e ((mOp_e rfl ((mOp_e rfl rfl).trans ix6)).trans (getI1 (hx.up u6) b1)) rfl).trans (imp1 _ _), t, (imps.getD i noImp).2, rfl, ?_, _, rfl, ?_⟩
    · have l1 := setIn_len ht
      have l2 := setIn_len (hi.conc _ (imp_mem imps b1))
      omega
    · cases m with
      | zero => omega
      | succ m =>
        refine ⟨m, by omega, unionM t (imps.getD i noImp).2, u ++ [i], x3, x4, _, rfl, u6, ?_, unionM_in ht.2 (hi.conc _ (imp_mem imps b1)).2, by omega, ?_, ?_⟩
        · rw [hp6, List.map_append]
          rfl
        · rw [← hgo, used_cons hb]
        · rw [List.length_append]
          simp
          omega
end GF

set_option Elab.async false
set_option linter.all false
set_option maxRecDepth 100000
set_option maxHeartbeats 4000000
namespace GF
open PySem PySem.Spec PyProof.Rows L2 GX GD
/-! ## 31. what follows, by a promise without effects -/
open Classical in
noncomputable def relF (P : List D → SS → D → Prop) : List D → SS → Option D := fun ds st => if h : ∃ d, P ds st d then some h.choose else none
theorem relF_of {P : List D → SS → D → Prop} {ds : List D} {st : SS} {d : D} (h : relF P ds st = some d) : P ds st d := by
  unfold relF at h
  split at h
  · rename_i q
    cases h
    exact q.choose_spec
  · cases h
theorem relF_eq {P : List D → SS → D → Prop} {ds : List D} {st : SS} {d : D} (u : ∀ d', P ds st d' → d' = d) (h : P ds st d) : relF P ds st = some d := by
  unfold relF
  have q : ∃ d, P ds st d := ⟨d, h⟩
  rw [dif_pos q]
  exact congrArg some (u _ q.choose_spec)
theorem mapf_inj {α β : Type} {f : α → β} (hf : ∀ a b, f a = f b → a = b) : ∀ {a b : List α}, a.map f = b.map f → a = b
  | [], [], _ => rfl
  | [], _ :: _, h => by cases h
  | _ :: _, [], h => by cases h
  | x :: a, y :: b, h => by
    rw [List.map_cons, List.map_cons] at h
    injection h with h1 h2
    rw [hf _ _ h1, mapf_inj hf h2]
theorem nI_inj (a b : Nat) (h : nI a = nI b) : a = b := by
  unfold nI at h
  injection h with h
  omega
theorem dN_inj (a b : List Nat) (h : dN a = dN b) : a = b := by
  unfold dN at h
  injection h with h
  exact mapf_inj nI_inj h
theorem impD_inj (a b : Imp) (h : impD a = impD b) : a = b := by
  unfold impD at h
  injection h with h
  injection h with h1 h2
  injection h2 with h2 h3
  exact Prod.ext (dN_inj _ _ h1) (dN_inj _ _ h2)
theorem ImpsAt.uniq {st : SS} {x : D} {a b : List Imp} (h : ImpsAt st x a) (k : ImpsAt st x b) : a = b := by
  obtain ⟨r1, e1⟩ := h.ex
  obtain ⟨r2, e2⟩ := k.ex
  rw [e1] at e2
  injection e2 with e2
  injection e2 with e2 e3
  exact mapf_inj impD_inj e2
theorem up_take {st st1 : SS} (u : Up st st1) : st1.take st.length = st := by
  refine List.ext_getElem? fun i => ?_
  rw [List.getElem?_take]
  split
  · rename_i h
    exact u i h
  · rename_i h
    rw [List.getElem?_eq_none (by omega)]
def cuP : List D → SS → D → Prop := fun ds st d => ∃ (x : D) (imps : List Imp) (s : List Nat) (many : Nat), ds = [x, dN s] ∧ ImpsAt st x imps ∧ many ≤ 16 ∧ SetIn 0 many s ∧ ImpIn many imps ∧ imps.length ≤ 1000 ∧ d = dN (cuM imps s)
noncomputable def closedUnderF : List D → SS → Option D := relF cuP
theorem closed_under_eval {st : SS} {x : D} {imps : List Imp} {s : List Nat} {many : Nat} (hx : ImpsAt st x imps) (hm : many ≤ 16) (hs : SetIn 0 many s) (hi : ImpIn many imps) (hl : imps.length ≤ 1000) : closedUnderF [x, dN s] st = some (dN (cuM imps s)) := by
  refine relF_eq (fun d' h => ?_) ⟨x, imps, s, many, rfl, hx, hm, hs, hi, hl, rfl⟩
  obtain ⟨x', imps', s', many', e, hx', _, _, _, _, rfl⟩ := h
  injection e with e1 e2
  injection e2 with e2 e3
  subst e1
  rw [hx.uniq hx', dN_inj _ _ e2]
def X_closed_under : XS := (sRet (xOp fIx (xCall T_used_from (xCons (xOf (mVar 0)) (xCons (xOf (mVar 1)) xNil))) (xOf (mC (.int 0)))))
def Y_closed_under : XT := fnT' 2 2 X_closed_under
noncomputable abbrev F_closed_under : List D → SS → Option D := closedUnderF
theorem closed_under_ok (ds : List D) (st : SS) (d : D) (h : closedUnderF ds st = some d) (_ : D.loAll st.length ds = true) : D.lo st.length d = true ∧ Y_closed_under ds st fun d' st' => d' = d ∧ st'.take st.length = st := by
  obtain ⟨x, imps, s, many, rfl, hx, hm, hs, hi, hl, rfl⟩ := relF_of h
  refine ⟨lo_dN _ _, rfl, x, rfl, dN s, rfl, x, imps, s, many, rfl, hx, hm, hs, hi, hl, fun st' p u hp hc => ⟨.int 0, rfl, dN (cuM imps s), rfl, rfl, up_take u⟩⟩
/-! ### derivations -/
/-- what may be told as a derivation -/
structure YOk (st : SS) (y : D) : Prop where
  ex : (∃ es, y = .tup es ∧ (∀ e ∈ es, isAtom e = true) ∧ es.length ≤ 2000) ∨ y = .non ∨ (∃ i, y = .int i) ∨ ∃ n l, y = .ref n ∧ st[n]? = some (.lst l)
def derV (imps : List Imp) (r : Imp) : D → Bool
  | .tup es => derB imps r es
  | _ => false
theorem YOk.up {st st1 : SS} {y : D} (h : YOk st y) (u : Up st st1) : YOk st1 y := by
  rcases h.ex with q | q | q | ⟨n, l, e, q⟩
  · exact ⟨.inl q⟩
  · exact ⟨.inr (.inl q)⟩
  · exact ⟨.inr (.inr (.inl q))⟩
  · exact ⟨.inr (.inr (.inr ⟨n, l, e, u.get q⟩))⟩
theorem YOk.cases {st : SS} {y : D} (h : YOk st y) : (∃ es, y = .tup es ∧ (∀ e ∈ es, isAtom e = true) ∧ es.length ≤ 2000 ∧ fIs "tuple" st y = some (.bl true)) ∨ (fIs "tuple" st y = some (.bl false) ∧ ∀ imps r, derV imps r y = false) := by
  rcases h.ex with ⟨es, rfl, h1, h2⟩ | rfl | ⟨i, rfl⟩ | ⟨n, l, rfl, q⟩
  · exact .inl ⟨es, rfl, h1, h2, q_tupt st es⟩
  · exact .inr ⟨q_tupn st, fun _ _ => rfl⟩
  · exact .inr ⟨q_tupi st i, fun _ _ => rfl⟩
  · exact .inr ⟨q_tupl q, fun _ _ => rfl⟩
end GF

set_option Elab.async false
set_option linter.all false
set_option maxRecDepth 100000
set_option maxHeartbeats 4000000
namespace GF
open PySem PySem.Spec PyProof.Rows L2 GX GD PySem.W
/-! ## 32. the law's own words on implications -/
theorem leD_nI (a b : Nat) : leD (nI a) (nI b) = decide (a ≤ b) := by
  show (!PyProof.Rows.lexLt itemOrd [.inl (b : Int)] [.inl (a : Int)]) = _
  rw [PyProof.Rows.lex_cons]
  show (!(decide ((b : Int) < (a : Int)) || (!decide ((a : Int) < (b : Int)) && false))) = _
  rw [Bool.and_false, Bool.or_false]
  by_cases h : a ≤ b
  · rw [decide_eq_true h, decide_eq_false (by omega)]; rfl
  · rw [decide_eq_false h, decide_eq_true (by omega)]; rfl
theorem sortOk_nI (l : List Nat) : SortOk (l.map nI) := by
  refine ⟨?_, .inr ?_, imm_nI l, ?_⟩
  · intro d hd d' hd'
    rw [List.map_map] at hd hd'
    obtain ⟨a, _, rfl⟩ := List.mem_map.mp hd
    obtain ⟨b, _, rfl⟩ := List.mem_map.mp hd'
    rfl
  · intro d hd
    rw [List.map_map] at hd
    obtain ⟨a, _, rfl⟩ := List.mem_map.mp hd
    exact ⟨fun z => (nomatch z), fun _ z => (nomatch z)⟩
  · intro d hd
    obtain ⟨a, _, rfl⟩ := List.mem_map.mp hd
    show 0 ≤ 64
    omega
theorem sort_nI {l : List Nat} (h : l.Pairwise (· < ·)) : (l.map nI).mergeSort leD = l.map nI := by
  refine List.mergeSort_of_pairwise ?_
  rw [List.pairwise_map]
  exact h.imp fun {a b} q => by rw [leD_nI]; exact decide_eq_true (Nat.le_of_lt q)
theorem fNotIn_lst {st : SS} {n k : Nat} {l : List Nat} (h : st[n]? = some (.lst (l.map nI))) : fNotIn st (nI k) (.ref n) = some (.bl (!l.contains k)) := by
  have := DF.nI.nin (st := st) (x := .ref n) (a := k) (l := l) (seqOf_lst h)
  rw [this, List.contains_eq_mem]
theorem inside_evalL {st : SS} {n : Nat} {a b : List Nat} (h : st[n]? = some (.lst (b.map nI))) : F_law_inside [dN a, .ref n] st = some (.bl (isPart a b)) := by
  refine fnR'_rt rfl ?_ rfl
  refine rRet_e ((mOp_e (mLenL_e (comp_fi (p := fun k => !b.contains k) (g := nI) (iSeq_dN rfl) fun k _ => ⟨_, rfl, bV_e ((mOp_e rfl rfl).trans (fNotIn_lst h)), fun _ => rfl⟩)) rfl).trans ?_)
  rw [eqI, List.length_map, none_left]
  rfl
def lawCuT : XT := fun ds st R => ∃ (x : D) (imps : List Imp) (s : List Nat) (many : Nat), ds = [x, dN s] ∧ ImpsAt st x imps ∧ many ≤ 16 ∧ SetIn 0 many s ∧ ImpIn many imps ∧ imps.length ≤ 1000 ∧ ∀ st', Up st st' → R (dN (cuM imps s)) st'
theorem stepM_in {many : Nat} {s : List Nat} {r : Imp} (hs : SetIn 0 many s) (hr : SetIn 0 many r.2) : SetIn 0 many (stepM s r) := by
  unfold stepM
  split
  · exact unionM_in hs.2 hr.2
  · exact hs
theorem foldl_snoc {α β : Type} (f : β → α → β) (b : β) (l : List α) (a : α) : (l ++ [a]).foldl f b = f (l.foldl f b) a := by rw [List.foldl_append]; rfl
def X_law_closed_under : XS := (sSeq (sAsg (xNew (xSortD (xOf (mVar 1)))) (tgN 2)) (sSeq (sFor (xiOf (iRng (mOp fAdd (mF1 fLen (mVar 0)) (mC (.int 1))))) (tgN 3) (sFor (xiOf (iSeq (mVar 0))) (tgN 4) (sIf (xbOf (bV (mCall F_law_inside (mCons (mOp fIx (mVar 4) (mC (.int 0))) (mCons (mVar 2) mNil))))) (sAsg (xNew (xSortSetQ (xNew (xCat (xOf (mVar 2)) (xNew (xaOf (mLstOf (mOp fIx (mVar 4) (mC (.int 1)))))))))) (tgN 2)) sNext))) (sRet (xOf (mF1 fTup (mVar 2))))))
def Y_law_closed_under : XT := fnT' 5 2 X_law_closed_under
abbrev T_law_closed_under : XT := lawCuT
theorem law_cu_ok (ds : List D) (st : SS) (R : D → SS → Prop) (h : lawCuT ds st R) : Y_law_closed_under ds st R := by
  obtain ⟨x, imps, s, many, rfl, hx, hm, hs, hi, hl, hR⟩ := h
  obtain ⟨ro0, hro0⟩ := (hx.up (Up.app st [Cell.lst (s.map nI)])).ex
  refine ⟨rfl, ?_⟩
  show X_law_closed_under _ [some x, some (dN s), none, none, none] st
  refine ⟨dN s, rfl, s.map nI, rfl, sortOk_nI s, ?_⟩
  rw [sort_nI hs.1]
  refine ⟨_, rfl, (List.range (imps.length + 1)).map nI, none, iRng_nat (n := imps.length + 1) ?_ (by omega), ?_⟩
  · refine (mOp_e ((mF1_e rfl).trans (len_seq hro0)) rfl).trans ?_
    rfl
  refine for_rg (fun i env st' => Up st st' ∧ ∃ p a b, env = [some x, some (dN s), some (.ref p), a, b] ∧ st'[p]? = some (.lst ((passN imps i s).map nI)) ∧ SetIn 0 many (passN imps i s)) ?_ ?_ ⟨Up.app _ _, st.length, none, none, rfl, getApp _ _, hs⟩
  · rintro i env st' _ ⟨hu, p, a, b, rfl, hp, hin⟩
    refine ⟨_, rfl, fun K k1 k2 k3 k4 => ?_⟩
    obtain ⟨ro, hro⟩ := (hx.up hu).ex
    refine ⟨imps.map impD, ro, hro, ?_⟩
    refine for_ls (ro := ro) (fun done env st2 => Up st' st2 ∧ Up st st2 ∧ ∃ p b, env = [some x, some (dN s), some (.ref p), some (nI i), b] ∧ st2[p]? = some (.lst ((done.foldl stepM (passN imps i s)).map nI)) ∧ SetIn 0 many (done.foldl stepM (passN imps i s))) (fun _ _ st2 q => seqI_hold q.1 hro) ?_ ?_ ⟨Up.refl _, hu, p, b, rfl, hp, hin⟩
    · rintro done r todo env st2 hsp ⟨hv, hu2, p2, b2, rfl, hp2, hin2⟩
      have hr : r ∈ imps := by rw [hsp]; exact List.mem_append_right _ List.mem_cons_self
      refine ⟨_, rfl, fun K2 k1' k2' k3' k4' => ?_⟩
      refine ⟨isPart r.1 (done.foldl stepM (passN imps i s)), bV_e ((mCall2 (imp0 st2 r) rfl).trans (inside_evalL hp2)), ite2 (fun hb => ?_) fun hb => ?_⟩
      · generalize hc : done.foldl stepM (passN imps i s) = c at hp2 hin2 hb
        have l1 := setIn_len hin2
        have l2 := setIn_len (hi.conc r hr)
        have hn2 : p2 < st2.length := (List.getElem?_eq_some_iff.mp hp2).1
        refine ⟨.ref p2, rfl, r.2.map nI, ?_, p2, st2.length, c.map nI, r.2.map nI, rfl, rfl, (Up.app _ _).get hp2, getApp _ _, by rw [List.length_map, List.length_map]; omega, (c ++ r.2).map (fun (k : Nat) => (k : Int)), ?_, by rw [List.length_map, List.length_append]; omega, fun ms q1 q2 => ?_⟩
        · rfl
        · refine (seqOf_lst (getApp _ _)).trans ?_
          rw [List.map_map, ← List.map_append]
          rfl
        · obtain ⟨more, e, h1, h2⟩ := nats_of q1 q2
          have e2 : more = unionM c r.2 := union_eq h1 fun k => by rw [h2, List.mem_append]
          rw [e, e2]
          refine ⟨_, rfl, k1' _ _ ⟨((hv.trans (Up.app _ _)).trans (Up.app _ _)).trans (Up.app _ _), ?_, _, _, rfl, ?_, ?_⟩⟩
          · exact ((hu2.trans (Up.app _ _)).trans (Up.app _ _)).trans (Up.app _ _)
          · rw [foldl_snoc, hc]
            unfold stepM
            rw [if_pos hb]
            exact getApp _ _
          · rw [foldl_snoc, hc]
            exact stepM_in hin2 (hi.conc r hr)
      · refine k1' _ _ ⟨hv, hu2, p2, _, rfl, ?_, ?_⟩
        · rw [foldl_snoc, show stepM (done.foldl stepM (passN imps i s)) r = done.foldl stepM (passN imps i s) from if_neg hb]
          exact hp2
        · rw [foldl_snoc]
          exact stepM_in hin2 (hi.conc r hr)
    · rintro env st2 ⟨hv, hu2, p2, b2, rfl, hp2, hin2⟩
      exact k1 _ _ ⟨hu2, p2, _, _, rfl, hp2, hin2⟩
  · rintro env st' ⟨hu, p, a, b, rfl, hp, hin⟩
    refine ⟨dN (cuM imps s), ?_, hR st' hu⟩
    rw [← passN_cu hs.1]
    exact tupR rfl hp
theorem keep_and (s : List Nat) (r : Imp) : (isPart r.1 s && !isPart r.2 s) = !keepB s r := by
  unfold keepB
  cases isPart r.1 s <;> cases isPart r.2 s <;> rfl
/-! ### drawn implications, changed numbers -/
theorem setIn_of {many : Nat} {l : List Nat} (h1 : l.Pairwise (· < ·)) (h2 : ∀ x ∈ l, x < many) : SetIn 0 many l := ⟨h1, fun x hx => ⟨Nat.zero_le _, h2 x hx⟩⟩
theorem app_tup {st : SS} {a b : List D} (h : a.length + b.length ≤ 1000000) : fAdd st (.tup a) (.tup b) = some (.tup (a ++ b)) := if_pos h
end GF

set_option Elab.async false
set_option linter.all false
set_option maxRecDepth 100000
set_option maxHeartbeats 2000000
namespace GD
open PySem PySem.Spec PyProof.Rows L2 GX
/-! ## 28. dicts with tuples as keys -/
/-- any cell goes into the store -/
theorem SR.addC {w : Ws} {ι : List Addr} {st : SS} {H : Hp} {p : Addr} {c : Cell} (s : SR w ι st H) (hi : p ∉ ι) (hc : CellR w (ι ++ [p]) H p c) : SR w (ι ++ [p]) (st ++ [c]) H := by
  refine ⟨by rw [List.length_append, List.length_append, s.len]; rfl, ?_, fun m a c' h1 h2 => ?_, s.tabs, s.tab⟩
  · rw [List.nodup_append]
    exact ⟨s.nd, by simp, fun a ha b hb => by rw [List.mem_singleton.mp hb]; exact fun z => hi (z ▸ ha)⟩
  · by_cases hm : m < ι.length
    · rw [List.getElem?_append_left hm] at h1
      rw [List.getElem?_append_left (by rw [← s.len]; exact hm)] at h2
      exact (s.cell m a c' h1 h2).ext (Kp.refl (ι := ι) H) (List.prefix_append _ _) rfl
    · have hlt := (List.getElem?_eq_some_iff.mp h1).1
      rw [List.length_append, List.length_singleton] at hlt
      have e : m = ι.length := by omega
      subst e
      rw [List.getElem?_append_right (Nat.le_refl _), Nat.sub_self] at h1
      rw [s.len, List.getElem?_append_right (Nat.le_refl _), Nat.sub_self] at h2
      cases h1; cases h2
      exact hc
theorem Kp.wrC {ι : List Addr} {H : Hp} {p : Addr} {u o : HO} (h : H p = some u) (nf : ¬ Fixed u) (nt : ∀ ps, u ≠ .tbl ps) (hp : p ∈ ι) : Kp ι H (upd H p o) := by
  refine ⟨fun b u' e n f => ?_, fun b ps e => ⟨ps, ?_⟩⟩
  · rw [upd_ne]
    · exact e
    · intro z
      subst z
      rw [h] at e
      cases e
      exact nf (f hp)
  · rw [upd_ne]
    · exact e
    · intro z
      rw [z, h] at e
      cases e
      exact nt ps rfl
/-- any cell of the store is written -/
theorem SR.wrC {w : Ws} {ι : List Addr} {st : SS} {H : Hp} {p : Addr} {c : Cell} {u o : HO} (s : SR w ι st H) {n : Nat} (hn : ι[n]? = some p) (h : H p = some u) (nf : ¬ Fixed u) (nt : ∀ ps, u ≠ .tbl ps) (nt2 : ∀ ps, o ≠ .tbl ps) (hc : CellR w ι (upd H p o) p c) : SR w ι (st.set n c) (upd H p o) := by
  have k : Kp [p] H (upd H p o) := Kp.wrC h nf nt (List.mem_singleton.mpr rfl)
  refine ⟨by rw [List.length_set]; exact s.len, s.nd, fun m a c' h1 h2 => ?_, allTabs_kp s.tabs k fun P ps e => ?_, fun q hq => let ⟨ps, e⟩ := s.tab q hq; k.tab _ _ e⟩
  · by_cases hm : n = m
    · subst hm
      rw [hn] at h1
      cases h1
      have hlt : n < st.length := by rw [← s.len]; exact (List.getElem?_eq_some_iff.mp hn).1
      rw [List.getElem?_set_self hlt] at h2
      cases h2
      exact hc
    · rw [List.getElem?_set_ne hm] at h2
      refine (s.cell m a c' h1 h2).ext k (List.prefix_refl _) (upd_ne fun z => hm ?_)
      subst z
      exact nodup_ix s.nd hn h1
  · by_cases hP : P = p
    · rw [hP, upd_same] at e
      exact absurd (Option.some.inj e) (nt2 ps)
    · rw [upd_ne hP] at e
      exact e
/-! ### keys -/
def keyD1 : D → Option L2.Key
  | .int i => some (.inl i)
  | .str x => some (.inr x)
  | _ => none
def keyDs : List D → Option (List L2.Key)
  | [] => some []
  | d :: ds => match keyD1 d, keyDs ds with | some k, some ks => some (k :: ks) | _, _ => none
def keyOf : D → Option (List L2.Key)
  | .tup ds => keyDs ds
  | _ => none
/-! ### what a table of pairs holds -/
section
variable {κ : Type} [DecidableEq κ]
def valD (kvs : List (κ × D)) (k : κ) : Option D := (kvs.find? fun p => decide (p.1 = k)).map (·.2)
def putD (kvs : List (κ × D)) (k : κ) (d : D) : List (κ × D) := if (kvs.any fun p => decide (p.1 = k)) = true then kvs.map (fun p => if p.1 = k then (p.1, d) else p) else kvs ++ [(k, d)]
variable {ι : List Addr} {H : Hp}
theorem pairs_nil : PairsR ι H ([] : List (κ × V)) [] := ⟨rfl, .nil⟩
theorem pairs_cons {p : κ × V} {q : κ × D} {vs : List (κ × V)} {ds : List (κ × D)} (h : PairsR ι H (p :: vs) (q :: ds)) : p.1 = q.1 ∧ Rep ι H p.2 q.2 ∧ PairsR ι H vs ds := by
  have h1 := h.keys
  have h2 := h.vals
  rw [List.map_cons, List.map_cons] at h1 h2
  injection h1 with a b
  cases h2 with
  | cons r rr => exact ⟨a, r, b, rr⟩
theorem pairs_mk {p : κ × V} {q : κ × D} {vs : List (κ × V)} {ds : List (κ × D)} (h1 : p.1 = q.1) (h2 : Rep ι H p.2 q.2) (h : PairsR ι H vs ds) : PairsR ι H (p :: vs) (q :: ds) :=
  ⟨by rw [List.map_cons, List.map_cons, h1, h.keys], by rw [List.map_cons, List.map_cons]; exact .cons h2 h.vals⟩
theorem pairs_len {vs : List (κ × V)} {ds : List (κ × D)} (h : PairsR ι H vs ds) : vs.length = ds.length := by
  have := congrArg List.length h.keys
  rw [List.length_map, List.length_map] at this
  exact this
end
section
variable {X : Cx} {w : Wd} {pos p : Pos} {o e f : Expr}
end
end GD

set_option Elab.async false
set_option linter.all false
set_option maxRecDepth 100000
set_option maxHeartbeats 4000000
namespace GF
open PySem PySem.Spec PyProof.Rows L2 GX GD
/-! ## 33. what a dict holds; Luxenburger's base tells all -/
section
variable {κ : Type} [DecidableEq κ]
end
def keyN' (s : List Nat) : List L2.Key := s.map fun (k : Nat) => .inl (k : Int)
/-! ### closed sets right below -/
section
variable {many : Nat} {rows : List (List Nat)}
/-- what the dict holds behind some rows of the base -/
structure Told (rows : List (List Nat)) (done : List Quad) (kvs : List (List L2.Key × D)) : Prop where
  val : ∀ s d, valD kvs (keyN' s) = some d → d = nI (cntM rows s)
  has : ∀ q ∈ done, (valD kvs (keyN' q.1)).isSome = true ∧ (valD kvs (keyN' q.2.1)).isSome = true
end
end GF

set_option Elab.async false
set_option linter.all false
set_option maxRecDepth 100000
set_option maxHeartbeats 4000000
namespace GF
open PySem PySem.Spec PyProof.Rows L2 GX GD
/-! ## 34. trust by the base -/
end GF

set_option Elab.async false
set_option linter.all false
set_option maxRecDepth 100000
set_option maxHeartbeats 2000000
namespace GD
open PySem PySem.Spec PyProof.Rows L2 GX
/-! ## 29. more words -/
section
variable {X : Cx} {w : Wd} {pos p p1 p2 : Pos} {a b c e o : Expr} {ma mb : MP} {xa xb : XP}
/-! ### is True, is False -/
/-! ### and, or, not as values, with effects -/
variable {rest : List Expr}
/-! ### the least, the greatest of two -/
/-! ### list(range(n)), tuple(range(a, b)) -/
/-! ### o.extend(new list), o.pop(), o.index(x), x += e -/
end
end GD

set_option Elab.async false
set_option linter.all false
set_option maxRecDepth 100000
set_option maxHeartbeats 2000000
namespace GD
open PySem PySem.Spec PyProof.Rows L2 GX PySem.W
/-! ## 30. the place of an item, name += e, max with a default -/
section
variable {X : Cx} {w : Wd} {pos p : Pos} {a b c e o : Expr} {ma mb : MP}
end
end GD

set_option Elab.async false
set_option linter.all false
set_option maxRecDepth 100000
set_option maxHeartbeats 2000000
namespace GD
open PySem PySem.Spec PyProof.Rows L2 GX PySem.W
/-! ## 31. o.pop(i), xs * n -/
theorem Reps.erase {ι : List Addr} {H : Hp} : ∀ {vs : List V} {ds : List D} (k : Nat), Reps ι H vs ds → Reps ι H (vs.eraseIdx k) (ds.eraseIdx k)
  | _, _, _, .nil => .nil
  | _, _, 0, .cons _ rr => rr
  | _, _, k + 1, .cons r rr => .cons r (Reps.erase k rr)
section
variable {X : Cx} {w : Wd} {pos p : Pos} {a b c e o : Expr} {ma mb : MP}
end
end GD

set_option Elab.async false
set_option linter.all false
set_option maxRecDepth 100000
set_option maxHeartbeats 2000000
namespace GD
open PySem PySem.Spec PyProof.Rows L2 GX PySem.W
/-! ## 32. slices of lists -/
section
variable {X : Cx} {w : Wd} {pos p : Pos} {a b c e o : Expr}
end
end GD

set_option Elab.async false
set_option linter.all false
set_option maxRecDepth 100000
set_option maxHeartbeats 4000000
namespace GF
open PySem PySem.Spec PyProof.Rows L2 GX GD
/-! ## 35. pseudo-closed sets, the stem base -/
def psF (n : Nat) (cl : List Nat → List Nat) : Nat → List Nat → Bool
  | 0, _ => false
  | k + 1, P => !decide (cl P = P) && (lecS 0 n).all fun Q => !(isPart Q P && (!decide (Q = P) && psF n cl k Q)) || isPart (cl Q) P
def psM (n : Nat) (cl : List Nat → List Nat) (P : List Nat) : Bool := psF n cl (P.length + 1) P
section
variable {n : Nat} {cl : List Nat → List Nat}
def stemI (cl : List Nat → List Nat) (P : List Nat) : Imp := (P, (cl P).filter fun k => !P.contains k)
def stemM (n : Nat) (cl : List Nat → List Nat) : List Imp := ((lecS 0 n).filter (psM n cl)).map (stemI cl)
theorem keep_stem {P X : List Nat} : keepB X (stemI cl P) = true ↔ ((∀ k ∈ P, k ∈ X) → ∀ k ∈ cl P, k ∈ X) := by
  rw [keepB_iff]
  refine ⟨fun h hp k hk => ?_, fun h hp k hk => h hp k (List.mem_filter.mp hk).1⟩
  by_cases hq : k ∈ P
  · exact hp k hq
  · exact h hp k (List.mem_filter.mpr ⟨hk, by simpa using hq⟩)
theorem stemI_in (C : ClosOp n cl) {P : List Nat} (hP : SetIn 0 n P) : SetIn 0 n (stemI cl P).1 ∧ SetIn 0 n (stemI cl P).2 :=
  ⟨hP, (C.inn P hP).1.filter _, fun x hx => (C.inn P hP).2 x (List.mem_filter.mp hx).1⟩
theorem cu_op {imps : List Imp} (hi : ImpIn n imps) : ClosOp n (cuM imps) :=
  ⟨fun s hs => cu_in hs hi.lt, fun s _ => cu_grows, fun s t _ _ h => cu_mono h, fun s hs => cu_twice hs.1⟩
/-! ### the next one -/
/-! ### no base has fewer -/
end
end GF

set_option Elab.async false
set_option linter.all false
set_option maxRecDepth 100000
set_option maxHeartbeats 4000000
namespace GF
open PySem PySem.Spec PyProof.Rows L2 GX GD
/-! ## 36. bases -/
section
variable {n : Nat} {cl : List Nat → List Nat} {imps : List Imp}
/-- each is kept by what is closed; what keeps all is closed -/
structure BaseOf (n : Nat) (cl : List Nat → List Nat) (imps : List Imp) : Prop where
  sound : ∀ X, SetIn 0 n X → cl X = X → ∀ r ∈ imps, keepB X r = true
  complete : ∀ X, SetIn 0 n X → (∀ r ∈ imps, keepB X r = true) → cl X = X
theorem ImpIn.sub {a b : List Imp} (h : ImpIn n b) (s : ∀ r ∈ a, r ∈ b) : ImpIn n a := ⟨fun r hr => h.prem r (s r hr), fun r hr => h.conc r (s r hr)⟩
/-- one that follows from the rest is left out -/
theorem BaseOf.drop {a b : List Imp} {r : Imp} (B : BaseOf n cl (a ++ r :: b)) (hr : isPart r.2 (cuM (a ++ b) r.1) = true) : BaseOf n cl (a ++ b) := by
  refine ⟨fun X hX hc q hq => B.sound X hX hc q ?_, fun X hX hk => B.complete X hX fun q hq => ?_⟩
  · rcases List.mem_append.mp hq with z | z
    · exact List.mem_append_left _ z
    · exact List.mem_append_right _ (List.mem_cons_of_mem _ z)
  · rcases List.mem_append.mp hq with z | z
    · exact hk q (List.mem_append_left _ z)
    · rcases List.mem_cons.mp z with rfl | z
      · rw [keepB_iff]
        intro hp k hk2
        have := cu_mono (imps := a ++ b) hp k (isPart_iff.mp hr k hk2)
        rwa [(cu_iff hX.1).mpr hk] at this
      · exact hk q (List.mem_append_right _ z)
end
/-! ### the first of the sets; lists cut -/
theorem find_split {α : Type} {p : α → Bool} : ∀ {l : List α} {a : α}, l.find? p = some a → ∃ mid post, l = mid ++ a :: post ∧ (∀ x ∈ mid, p x = false) ∧ p a = true
  | [], _, h => by cases h
  | b :: l, a, h => by
    rw [List.find?_cons] at h
    cases hp : p b with
    | true =>
      rw [hp] at h
      cases h
      exact ⟨[], l, rfl, fun _ h => (nomatch h), hp⟩
    | false =>
      rw [hp] at h
      obtain ⟨mid, post, e, h1, h2⟩ := find_split h
      refine ⟨b :: mid, post, by rw [e]; rfl, fun x hx => ?_, h2⟩
      rcases List.mem_cons.mp hx with rfl | hx
      · exact hp
      · exact h1 x hx
end GF

set_option Elab.async false
set_option linter.all false
set_option maxRecDepth 100000
set_option maxHeartbeats 4000000
namespace GF
open PySem PySem.Spec PyProof.Rows L2 GX GD
/-! ## 37. bases -/
end GF

set_option Elab.async false
set_option linter.all false
set_option maxRecDepth 100000
set_option maxHeartbeats 4000000
namespace GF
open PySem PySem.Spec PyProof.Rows L2 GX GD
/-! ## 38. lists cut and joined -/
/-- what stands over what was drawn from -/
theorem Ub.lt {n : Nat} {st st1 : SS} {m : Nat} {c : Cell} (u : Ub n st st1) (h : st[m]? = some c) (hn : m ≠ n) : st1[m]? = some c := u.get h hn
end GF

set_option Elab.async false
set_option linter.all false
set_option maxRecDepth 100000
set_option maxHeartbeats 2000000
/-! sorted(x, key=f): f's calls may make code and generators of their own -/
namespace GS
open PySem PySem.Spec PyProof.Rows L2 HT PySem.W PySem.Calls
section
variable {prog : Program} {w : World} {A : Around} {E : Value → Shared → Prop} {s : Shared} {a kS : Addr} {b : Bool} {vs : List Value} {e1 : Nat} {P : PySem.Fin → Shared → Prop} {kz : List PyData}
end
/-! ### over the hand layer -/
section
variable {X : Cx} {pins : List (Addr × Obj)} {σ : L2.St} {H : Hp} {s : Shared}
end
end GS

set_option Elab.async false
set_option linter.all false
set_option maxRecDepth 100000
set_option maxHeartbeats 2000000
namespace GD
open PySem PySem.Spec PyProof.Rows L2 GX GL PySem.W
/-! ## 33. sorted by a key -/
section
variable {X : Cx} {w : Ws} {pins : List (Addr × Obj)} {σ : L2.St} {H : Hp} {s : Shared}
end
end GD
namespace GD
open PySem PySem.Spec PyProof.Rows L2 GX GL PySem.W
section
variable {X : Cx} {w : Wd} {pos p kpos lp : Pos} {e : Expr} {params : Arguments} {body : Expr} {scope : Scope}
end
end GD

set_option Elab.async false
set_option linter.all false
set_option maxRecDepth 100000
set_option maxHeartbeats 2000000
namespace GD
open PySem PySem.Spec PyProof.Rows L2 GX
/-! ## 34. a def at one place of the calls (no guard stands there) -/
theorem fn_at {A : Around} {P : Program} {w : World} {K : PySem.W.Frag} {mg : Str → Option Value} {base : Heap} {k : Nat} {f : Addr} {name qual : Str} {params : Arguments} {body : List Stmt} {scope : Scope} {dV kV doc pm cdv ct oc : Value} {an od : Option Addr}
    {osl : Array (Option Value)} {N ps : List Str} {sp : Sp} (lk : K.lookup f = some ⟨oc, od, .func (PySem.W.fnOf name qual params body scope dV kV doc pm an cdv ct), osl⟩) (hcd : PySem.W.codeIn K cdv qual = true) (S : FnScope N ps scope)
    (len : ∀ vs H Q E, sp vs H Q E → vs.length = ps.length)
    (hbody : ∀ (outer : List Env) (s : Shared) (H : Hp) (vs : List V) (Q : VK) (E : XK), Room k (A.deeper (envOfC qual scope s.heap.objs.size f cdv)) → sp vs H Q E →
      ∃ t, PSs (cxOf CX0 P w K mg base N qual scope f cdv A outer s H E) body t ∧ t { nx := fun _ H' => Q .non H', rt := Q } (start N vs) H) :
    FnAt A P w K mg base (k + 1) f (PySem.W.fnOf name qual params body scope dV kV doc pm an cdv ct) ps sp := by
  refine ⟨len, fun outer s H args us vs Q E hr e0 hb r hsp => ?_⟩
  have hl := len _ _ _ _ hsp
  have KX : K.In s.heap := e0.mod.kin.keeps fun b o e => (e0.bs b o e).1
  have lim : s.heap.NoLimit := e0.mod.nolimit.keeps fun b o e => (e0.bs b o e).1
  have hkind : ∀ y ∈ ps.zip us, scope.names.lookup y.1 = some .local ∨ (scope.names.lookup y.1 = some .cell ∧ ((cellsFrom (s.heap.objs.size + 1) scope.names []).lookup y.1).isSome = true) := fun ⟨n, v⟩ hy => by
    rcases S.par n (List.of_mem_zip hy).1 with q | q
    · exact .inl q
    · exact .inr ⟨q, PySem.W.cellsFrom_some _ _ _ (.inl q)⟩
  refine codeAny_call_function hr.depth (KX _ _ lk) rfl S.co S.gen rfl (PySem.W.codeRec_of KX hcd) (hb _ _ _ _ ?_)
  refine wpAny_newFunctionEnv_cells S.kind hkind fun env he s1 x => ?_
  subst he
  refine ⟨lim.keeps x.toInCall.keep, codeAny_func ?_⟩
  obtain ⟨t, ht, hq⟩ := hbody outer s H vs Q E (hr.deeper _) hsp
  have I : Inv (cxOf CX0 P w K mg base N qual scope f cdv A outer s H E) [] (start N vs) H s1 := inv_start S hr.hd e0 hl r x
  refine wpAny_mono (ht.run [] s1 (start N vs) H _ I hq) (fun fl s' hs => ?_) fun e s' hs => hs
  have fin : ∀ {σ' : L2.St} {H' : Hp} {v : V} {u : Value}, Inv (cxOf CX0 P w K mg base N qual scope f cdv A outer s H E) [] σ' H' s' → RelV v u → Q v H' → CE outer P w H s Q u s' :=
    fun {σ' H' v u} J rv q => ⟨v, H', J.os, J.bare, J.base, J.hok, rv, q⟩
  cases fl with
  | ret u =>
    obtain ⟨v, σ', H', J, rv, q⟩ := hs
    exact fin J rv q
  | next =>
    obtain ⟨σ', H', J, q⟩ := hs
    exact fin (v := V.non) (u := Value.none) J rfl q
  | brk =>
    obtain ⟨_, _, _, q⟩ := hs
    exact False.elim q
  | cont =>
    obtain ⟨_, _, _, q⟩ := hs
    exact False.elim q
structure DefA (A : Around) (P : Program) (wl : World) (w : Ws) (mg : Str → Option Value) (k : Nat) (x : Str) (T : XTS) : Prop where
  ex : ∃ (f : Addr) (fd : FuncData) (ps : List Str), FnAt A P wl w.K mg w.base k f fd ps (spS w T) ∧ mg x = some (.ref f) ∧ PySem.W.keepIn w.K (.ref f) = true ∧ Binds w.K fd ps []
theorem DefC.sA {A : Around} {P : Program} {wl : World} {w : Ws} {mg : Str → Option Value} {x : Str} {st : Stmt} {N ps : List Str} {k : Nat} {t : List Int → XS} (F : DefC w mg x st) (S : FnScope N ps (defScope st))
    (hb : ∀ (kV doc pm : Value) (an : Option Addr) (cdv ct : Value) (us : List Value), us.length = ps.length → bindArgs (PySem.W.fnOf x x (defArgs st) (defBody st) (defScope st) .none kV doc pm an cdv ct) ⟨us, []⟩ = pure (ps.zip us))
    (hbody : ∀ (f c a : Addr) (ns : List Int) (outer : List Env) (s : Shared) (H : Hp) (E : XK), Room k (A.deeper (envOfC x (defScope st) s.heap.objs.size f (.ref c))) → Fit (cxOf CX0 P wl w.K mg w.base N x (defScope st) f (.ref c) A outer s H E).nox (WdS w c a ns) →
      PSs (cxOf CX0 P wl w.K mg w.base N x (defScope st) f (.ref c) A outer s H E).nox (defBody st) (tS (WdS w c a ns) (t ns))) : DefA A P wl w mg (k + 1) x (fnS N ps.length t) := by
  obtain ⟨f, c, Pt, fd, ⟨oc, od, kV, doc, pm, an, ct, osl, rfl, lk, hcd⟩, hm, hk, ht, hh⟩ := F.ex
  refine ⟨f, _, ps, fn_at lk hcd S (fun vs H Q E ⟨ι, st, a, ns, us, ds, R, e, _, r, s, h, q⟩ => by subst e; rw [List.length_cons, r.length]; exact h.1) fun outer s H vs Q E hr ⟨ι, st, a, ns, us, ds, R, e, hsc, r, s', h, q⟩ => ⟨_, (hbody f c a ns outer s H E hr ⟨rfl, rfl, rfl⟩).nox, ?_⟩, hm, hk, .all (hb kV doc pm an (.ref c) ct)⟩
  subst e
  have hl := r.length
  refine ⟨ι, startS N ds, st, _, ⟨?_, ?_, fun _ => ⟨Pt, .inl hh, s'.tab _ ht⟩, ?_, ?_, fun _ z => by cases z⟩, s', h.2, fun env st' ι' σ H' h g r s => q .non st' ι' .non H' h g .non s, fun d st' ι' v H' h g r s => q d st' ι' v H' h g r s, fun _ _ _ _ _ h _ _ _ => h.elim, fun _ _ _ _ _ h _ _ _ => h.elim⟩
  · unfold startS L2.start
    simp [hl]
  · intro i d hd
    unfold startS at hd
    unfold L2.start
    cases i with
    | zero => simp at hd
    | succ i =>
      simp only [List.getElem?_cons_succ] at hd
      simp only [List.map_cons, List.cons_append, List.getElem?_cons_succ]
      by_cases hi : i < ds.length
      · rw [List.getElem?_append_left (by simpa using hi)] at hd
        rw [List.getElem?_append_left (by simpa [hl] using hi)]
        rw [List.getElem?_map] at hd
        cases hd' : ds[i]? with
        | none => rw [hd'] at hd; cases hd
        | some d' =>
          rw [hd'] at hd
          simp at hd
          subst hd
          obtain ⟨v, h1, h2⟩ := r.get' hd'
          exact ⟨v, by rw [List.getElem?_map, h1]; rfl, h2⟩
      · rw [List.getElem?_append_right (by simpa using Nat.le_of_not_lt hi)] at hd
        rw [List.getElem?_replicate] at hd
        split at hd <;> cases hd
  · intro p hp
    rw [List.mem_singleton.mp hp]
    rfl
  · intro p hp
    rw [List.mem_singleton.mp hp]
    exact hsc
/-! ### repr -/
section
variable {X : Cx} {w : Wd} {pos p : Pos} {e : Expr}
end
end GD

set_option Elab.async false
set_option linter.all false
set_option maxRecDepth 100000
set_option maxHeartbeats 4000000
namespace GF
open PySem PySem.Spec PyProof.Rows L2 GX GD PySem.W
/-! ## 39. sets by size, then the smaller first -/
/-! ### the law's own stem base -/
end GF

set_option Elab.async false
set_option linter.all false
set_option maxRecDepth 100000
set_option maxHeartbeats 4000000
namespace GF
open PySem PySem.Spec PyProof.Rows L2 GX GD
/-! ## 40. the order by signs; what a set has on its own -/
end GF

set_option Elab.async false
set_option linter.all false
set_option maxRecDepth 100000
set_option maxHeartbeats 4000000
namespace GF
open PySem PySem.Spec PyProof.Rows L2 GX GD PySem.W
/-! ## 41. the order by signs; the direct base -/
end GF

set_option Elab.async false
set_option linter.all false
set_option maxRecDepth 100000
set_option maxHeartbeats 4000000
namespace GF
open PySem PySem.Spec PyProof.Rows L2 GX GD
/-! ## 42. sets of numbers, concepts; an implication decided -/
/-! ### decided -/
theorem fit_imps {many : Nat} {imps : List Imp} (h : ImpIn many imps) (hm : many ≤ 1000) (hl : imps.length ≤ 1000) : D.fit 8 (.tup (imps.map impD)) = true := by
  refine fit_list (k := 7) (by omega) fun r hr => ?_
  have h1 := setIn_len (h.prem r hr)
  have h2 := setIn_len (h.conc r hr)
  show D.fit 7 (impD r) = true
  unfold impD D.fit
  rw [List.all_cons, List.all_cons, fit_dN (by omega) 5, fit_dN (by omega) 5]
  rfl
end GF

set_option Elab.async false
set_option linter.all false
set_option maxRecDepth 100000
set_option maxHeartbeats 4000000
namespace GF
open PySem PySem.Spec PyProof.Rows L2 GX GD
/-! ## 43. what repr says -/
mutual
def tinyP : PyData → Bool
  | .none => true
  | .bool _ => true
  | .int i => decide (0 ≤ i ∧ i < 64)
  | .list xs => tinyPs xs
  | .tuple xs => tinyPs xs
  | .str _ => false
  | .dict _ => false
def tinyPs : List PyData → Bool
  | [] => true
  | x :: xs => tinyP x && tinyPs xs
end
structure Tiny (p : PyData) : Prop where
  sh : p.showable = true
  nd : p.hasDict = false
  ls : p.leavesShort 13 = true
  ch : ∀ k ∈ p.shown.cps.toList, k < 200
structure Tinys (ps : List PyData) : Prop where
  sh : PyData.showableAll ps = true
  nd : PyData.hasDictAll ps = false
  ls : PyData.leavesShortAll 13 ps = true
  ch : ∀ t ∈ PyData.shownAll ps, ∀ k ∈ t.cps.toList, k < 200
theorem join_small {ts : List Str} (h : ∀ t ∈ ts, ∀ k ∈ t.cps.toList, k < 200) : ∀ k ∈ (Str.join ", " ts).cps.toList, k < 200 := fun k hk => by
  rcases (mem_join _ _ _).mp hk with ⟨t, h1, h2⟩ | ⟨_, h2⟩
  · exact h t h1 k h2
  · rw [signs_sep] at h2
    rcases List.mem_cons.mp h2 with rfl | h2
    · decide
    · rw [List.mem_singleton.mp h2]; decide
mutual
theorem tiny_of : ∀ p : PyData, tinyP p = true → Tiny p
  | .none, _ => ⟨rfl, rfl, rfl, fun k hk => by
    have := (mem_shown_none k).mp hk
    simp only [List.mem_cons, List.not_mem_nil, or_false] at this
    omega⟩
  | .bool b, _ => ⟨rfl, rfl, rfl, fun k hk => by
    have := (mem_shown_bool k b).mp hk
    cases b <;> simp only [Bool.false_eq_true, if_false, if_true, List.mem_cons, List.not_mem_nil, or_false] at this <;> omega⟩
  | .int i, h => by
    unfold tinyP at h
    obtain ⟨h1, h2⟩ := of_decide_eq_true h
    refine ⟨?_, by unfold PyData.hasDict; rfl, ?_, fun k hk => ?_⟩
    · unfold PyData.showable
      refine decide_eq_true ?_
      by_cases hz : i.natAbs = 0
      · rw [hz]; decide
      · have : i.natAbs.log2 < 6 := (Nat.log2_lt hz).mpr (by omega)
        omega
    · unfold PyData.leavesShort
      exact decide_eq_true (PyData.shown_int_le (by omega))
    · apply Classical.byContradiction
      intro hc
      exact shown_int_free' (k := k) ⟨by omega, by omega⟩ i hk
  | .list xs, h => by
    have t := tinys_of xs (by unfold tinyP at h; exact h)
    refine ⟨by unfold PyData.showable; exact t.sh, by unfold PyData.hasDict; exact t.nd, by unfold PyData.leavesShort; exact t.ls, fun k hk => ?_⟩
    rw [PyData.shown_list, mem_cps_append, mem_cps_append, signs_lbrack, signs_rbrack] at hk
    rcases hk with (hk | hk) | hk
    · rw [List.mem_singleton.mp hk]; decide
    · exact join_small t.ch k hk
    · rw [List.mem_singleton.mp hk]; decide
  | .tuple xs, h => by
    have t := tinys_of xs (by unfold tinyP at h; exact h)
    refine ⟨by unfold PyData.showable; exact t.sh, by unfold PyData.hasDict; exact t.nd, by unfold PyData.leavesShort; exact t.ls, fun k hk => ?_⟩
    rw [PyData.shown_tuple, mem_cps_append, mem_cps_append, signs_lparen] at hk
    rcases hk with (hk | hk) | hk
    · rw [List.mem_singleton.mp hk]; decide
    · exact join_small t.ch k hk
    · split at hk
      · have e : (((",)" : String) : Str)).cps.toList = [44, 41] := by decide
        rw [e] at hk
        rcases List.mem_cons.mp hk with rfl | hk
        · decide
        · rw [List.mem_singleton.mp hk]; decide
      · have e : ((((")" : String) : Str))).cps.toList = [41] := by decide
        rw [e] at hk
        rw [List.mem_singleton.mp hk]; decide
  | .str _, h => by unfold tinyP at h; cases h
  | .dict _, h => by unfold tinyP at h; cases h
theorem tinys_of : ∀ ps : List PyData, tinyPs ps = true → Tinys ps
  | [], _ => ⟨rfl, rfl, rfl, fun t ht => by rw [PyData.shownAll_nil] at ht; cases ht⟩
  | p :: ps, h => by
    unfold tinyPs at h
    rw [Bool.and_eq_true] at h
    have a := tiny_of p h.1
    have b := tinys_of ps h.2
    refine ⟨?_, ?_, ?_, fun t ht => ?_⟩
    · unfold PyData.showableAll; rw [a.sh, b.sh]; rfl
    · unfold PyData.hasDictAll; rw [a.nd, b.nd]; rfl
    · unfold PyData.leavesShortAll; rw [a.ls, b.ls]; rfl
    · rw [PyData.shownAll_cons, List.mem_cons] at ht
      rcases ht with rfl | ht
      · exact a.ch
      · exact b.ch t ht
end
/-! ## 44. concepts -/
/-! ### what is no set, no concept -/
end GF

set_option Elab.async false
set_option linter.all false
set_option maxRecDepth 100000
set_option maxHeartbeats 4000000
namespace GF
open PySem PySem.Spec PyProof.Rows L2 GX GD
/-! ## 45. small data, shown -/
structure Sh (k w : Nat) (p : PyData) : Prop where
  ti : tinyP p = true
  de : p.depth ≤ k
  we : p.weight ≤ w
theorem Sh.mono {k w k' w' : Nat} {p : PyData} (h : Sh k w p) (a : k ≤ k') (b : w ≤ w') : Sh k' w' p := ⟨h.ti, Nat.le_trans h.de a, Nat.le_trans h.we b⟩
/-! ### how data read -/
/-! ### comprehensions whose items make lists of their own -/
/-! ## 46. the least, the greatest of some concepts -/
section
variable {many : Nat} {rows : List (List Nat)}
end
end GF

set_option Elab.async false
set_option linter.all false
set_option maxRecDepth 100000
set_option maxHeartbeats 4000000
namespace GF
open PySem PySem.Spec PyProof.Rows L2 GX GD
/-! ## 44. drawn orders and lattices -/
end GF

set_option Elab.async false
set_option linter.all false
set_option maxRecDepth 100000
set_option maxHeartbeats 4000000
namespace GF
open PySem PySem.Spec PyProof.Rows L2 GX GD
/-! ## 45. orders: below, least, join, meet -/
def blwM (up : List (List Nat)) : List (List Nat) := (List.range up.length).map fun own => (List.range up.length).filter fun other => (up.getD other []).contains own
def leastM (up : List (List Nat)) (members : List Nat) : Option Nat := (members.filter fun one => isPart members (up.getD one [])).head?
def joinM (up : List (List Nat)) (x y : Nat) : Option Nat := leastM up ((up.getD x []).filter fun k => (up.getD y []).contains k)
def InUp (up : List (List Nat)) : Prop := ∀ r ∈ up, ∀ x ∈ r, x < up.length
theorem InUp.at {up : List (List Nat)} (h : InUp up) {x : Nat} : ∀ y ∈ up.getD x [], y < up.length := by
  intro y hy
  by_cases hx : x < up.length
  · refine h _ ?_ y hy
    rw [List.getD_eq_getElem?_getD, List.getElem?_eq_getElem hx]
    exact List.getElem_mem hx
  · rw [List.getD_eq_getElem?_getD, List.getElem?_eq_none (by omega)] at hy
    cases hy
end GF

set_option Elab.async false
set_option linter.all false
set_option maxRecDepth 100000
set_option maxHeartbeats 4000000
namespace GF
open PySem PySem.Spec PyProof.Rows L2 GX GD
/-! ## 46. the law's own joins and meets -/
theorem head_find {α : Type} (p : α → Bool) : ∀ l : List α, (l.filter p).head? = l.find? p
  | [] => rfl
  | a :: l => by
    cases h : p a with
    | true => rw [List.filter_cons_of_pos h, List.find?_cons_of_pos h]; rfl
    | false => rw [List.filter_cons_of_neg (by rw [h]; decide), List.find?_cons_of_neg (by rw [h]; decide), head_find p l]
end GF

set_option Elab.async false
set_option linter.all false
set_option maxRecDepth 100000
set_option maxHeartbeats 4000000
namespace GF
open PySem PySem.Spec PyProof.Rows L2 GX GD
/-! ## 50. orders and lattices, plainly -/
def leU (up : List (List Nat)) (x y : Nat) : Prop := y ∈ up.getD x []
structure OrdU (up : List (List Nat)) : Prop where
  inU : InUp up
  srt : ∀ r ∈ up, r.Pairwise (· < ·)
  refl : ∀ x, x < up.length → leU up x x
  anti : ∀ x y, leU up x y → leU up y x → x = y
  trans : ∀ x y z, leU up x y → leU up y z → leU up x z
section
variable {up : List (List Nat)} {x y z j w : Nat} {ms : List Nat}
/-! ### lattices -/
structure LatU (up : List (List Nat)) : Prop where
  o : OrdU up
  j : ∀ x y, x < up.length → y < up.length → ∃ j, joinM up x y = some j
  m : ∀ x y, x < up.length → y < up.length → ∃ j, joinM (blwM up) x y = some j
def jn (up : List (List Nat)) (x y : Nat) : Nat := (joinM up x y).getD 0
def mt (up : List (List Nat)) (x y : Nat) : Nat := jn (blwM up) x y
end
/-! ### the lattice of closed sets -/
section
variable {many : Nat} {rows : List (List Nat)} {ord : List Nat}
end
end GF

set_option Elab.async false
set_option linter.all false
set_option maxRecDepth 100000
set_option maxHeartbeats 4000000
namespace GF
open PySem PySem.Spec PyProof.Rows L2 GX GD
/-! ## 51. congruences, plainly -/
/-- classes, told by the least element of each -/
structure Nf (n : Nat) (c : List Nat) : Prop where
  len : c.length = n
  le : ∀ i, i < n → c.getD i 0 ≤ i
  fix : ∀ i, i < n → c.getD (c.getD i 0) 0 = c.getD i 0
theorem Nf.lt {n : Nat} {c : List Nat} (h : Nf n c) {i : Nat} (hi : i < n) : c.getD i 0 < n := Nat.lt_of_le_of_lt (h.le i hi) hi
/-- the classes of the one lie within those of the other -/
def Wi (n : Nat) (c d : List Nat) : Prop := ∀ x y, x < n → y < n → c.getD x 0 = c.getD y 0 → d.getD x 0 = d.getD y 0
section
variable {n : Nat} {c d e : List Nat}
theorem Wi.refl : Wi n c c := fun _ _ _ _ h => h
theorem Wi.trans (h : Wi n c d) (k : Wi n d e) : Wi n c e := fun x y hx hy z => k x y hx hy (h x y hx hy z)
theorem wi_iff (h : Nf n c) : Wi n c d ↔ ∀ i, i < n → d.getD i 0 = d.getD (c.getD i 0) 0 := by
  constructor
  · intro w i hi
    exact (w _ _ (h.lt hi) hi (h.fix i hi)).symm
  · intro k x y hx hy z
    rw [k x hx, k y hy, z]
theorem Wi.anti (h : Nf n c) (k : Nf n d) (a : Wi n c d) (b : Wi n d c) : c = d := by
  refine List.ext_getElem (h.len.trans k.len.symm) fun i h1 h2 => ?_
  have hi : i < n := by rw [← h.len]; exact h1
  have e1 := (wi_iff h).mp a i hi
  have e2 := (wi_iff k).mp b i hi
  have l1 := k.le _ (h.lt hi)
  have l2 := h.le _ (k.lt hi)
  have f1 := k.fix i hi
  have f2 := h.fix i hi
  have : c.getD i 0 = d.getD i 0 := by omega
  rw [List.getD_eq_getElem?_getD, List.getD_eq_getElem?_getD, List.getElem?_eq_getElem h1, List.getElem?_eq_getElem h2] at this
  exact this
end
/-- an equivalence, by least elements -/
structure Eqv (n : Nat) (R : Nat → Nat → Prop) : Prop where
  refl : ∀ x, x < n → R x x
  symm : ∀ x y, R x y → R y x
  trans : ∀ x y z, R x y → R y z → R x z
open Classical in
noncomputable def nfOf (n : Nat) (R : Nat → Nat → Prop) : List Nat := (List.range n).map fun x => ((List.range n).find? fun y => decide (R x y)).getD 0
section
variable {n : Nat} {R : Nat → Nat → Prop}
end
/-! ### congruences -/
structure Con (up : List (List Nat)) (c : List Nat) : Prop where
  nf : Nf up.length c
  j : ∀ x y z, x < up.length → y < up.length → z < up.length → c.getD x 0 = c.getD y 0 → c.getD (jn up x z) 0 = c.getD (jn up y z) 0
  m : ∀ x y z, x < up.length → y < up.length → z < up.length → c.getD x 0 = c.getD y 0 → c.getD (mt up x z) 0 = c.getD (mt up y z) 0
/-- the least of the congruences with a property -/
noncomputable def leastC (up : List (List Nat)) (S : List Nat → Prop) : List Nat := nfOf up.length fun x y => ∀ c, Con up c → S c → c.getD x 0 = c.getD y 0
section
variable {up : List (List Nat)} {S T : List Nat → Prop} {c d : List Nat}
/-- the pairs stand in one class -/
def Has (pairs : List (Nat × Nat)) (c : List Nat) : Prop := ∀ p ∈ pairs, c.getD p.1 0 = c.getD p.2 0
noncomputable def genC (up : List (List Nat)) (pairs : List (Nat × Nat)) : List Nat := leastC up (Has pairs)
/-- each element, with the least one of its class, where it is another one -/
def pairsM (c : List Nat) : List (Nat × Nat) := ((List.range c.length).filter fun i => !decide (i = c.getD i 0)).map fun i => (i, c.getD i 0)
theorem pairs_len : (pairsM c).length ≤ c.length := by
  unfold pairsM
  rw [List.length_map]
  refine Nat.le_trans (List.length_filter_le _ _) ?_
  rw [List.length_range]
  exact Nat.le_refl _
/-! ### pairs one directly above the other -/
end
end GF

set_option Elab.async false
set_option linter.all false
set_option maxRecDepth 100000
set_option maxHeartbeats 4000000
namespace GF
open PySem PySem.Spec PyProof.Rows L2 GX GD
/-! ## 52. all congruences are joined from a few -/
section
variable {up : List (List Nat)} {c d : List Nat}
/-- those that are made by some below it -/
def GenBy (up : List (List Nat)) (done : List (List Nat)) (t : List Nat) : Prop := ∀ c, Con up c → (∀ o ∈ done, Wi up.length o t → Wi up.length o c) → Wi up.length t c
structure Found (up : List (List Nat)) (done found : List (List Nat)) : Prop where
  con : ∀ t ∈ found, Con up t
  has : ∀ t, Con up t → GenBy up done t → t ∈ found
  len : found.length ≤ 2 ^ done.length
end
end GF

set_option Elab.async false
set_option linter.all false
set_option maxRecDepth 100000
set_option maxHeartbeats 2000000
namespace GD
open PySem PySem.Spec PyProof.Rows L2 GX
/-! ## 35. texts -/
def fStrI : F1 := fun _ x => match x with | .int i => if i.natAbs < 1000000 then some (.str (toString i)) else none | _ => none
/-- f'x{..}' -/
def fPre (x : Str) : F1 := fun _ d => match d with
  | .str y => if x.length + y.length ≤ 1000000 then some (.str ((Str.empty ++ x) ++ y)) else none
  | .int i => if i.natAbs < 1000000 ∧ x.length ≤ 1000 then some (.str ((Str.empty ++ x) ++ (toString i : String))) else none
  | _ => none
section
variable {X : Cx} {w : Wd} {pos p kp apos : Pos} {a b c e o : Expr} {ma mb m : MP}
theorem small_log {i : Int} (h : i.natAbs < 1000000) : i.natAbs.log2 < 1920 := by
  by_cases hz : i.natAbs = 0
  · rw [hz]; decide
  · have : i.natAbs.log2 < 20 := (Nat.log2_lt hz).mpr (by omega)
    omega
theorem dp_strI (hg : Gl X "str") (hm : X.mg "str" = none) (ha : PE X a (tP w ma)) (hs : starEach [a] X.env = (false, eval a X.env) :: starEach [] X.env := by rfl) : PE X (.Call (.Name "str" p) [a] [] pos) (tP w (mF1 fStrI ma)) := by
  refine PE.mo (pe_callTy call_str_int hg hm (by decide +kernel) (pa_cons ha pa_nil hs) (he := hs)) fun σ H Q ⟨ι, env, st, d, he, hst, hmm, q⟩ => ?_
  unfold mF1 at hmm
  split at hmm
  · rename_i dx ex
    unfold fStrI at hmm
    split at hmm
    · rename_i i
      split at hmm
      · rename_i hl
        cases hmm
        refine ⟨ι, env, st, _, he, hst, ex, fun v H1 k1 r1 s1 => ?_⟩
        cases r1
        exact ⟨i, rfl, small_log hl, q _ H1 k1 (.str _) s1⟩
      · cases hmm
    · cases hmm
  · cases hmm
/-- f'x{e}' -/
theorem dp_fstr {x : Str} {k : Nat} {p1 p2 : Pos} (ha : PE X a (tP w ma)) : PE X (.JoinedStr [.Constant (.str x) k p1, .FormattedValue a (-1) none p2] pos) (tP w (mF1 (fPre x) ma)) := by
  refine PE.mo (pe_joined (.cons (pe_str (x := x) (pos := p1)) (.cons (pe_fmt ha) .nil))) fun σ H Q ⟨ι, env, st, d, he, hst, hmm, q⟩ => ?_
  unfold mF1 at hmm
  split at hmm
  · rename_i dx ex
    have hsz := sizeLine_eq
    have e0 : (Str.empty ++ x).length = x.length := by rw [Str.length_append]; show 0 + _ = _; omega
    unfold fPre at hmm
    split at hmm
    · rename_i y
      split at hmm
      · rename_i hl
        cases hmm
        refine ⟨x, rfl, by rw [e0]; omega, ι, env, st, _, he, hst, ex, fun v H1 k1 r1 s1 => ?_⟩
        cases r1
        exact .inl ⟨y, rfl, by omega, y, rfl, by rw [Str.length_append, e0]; omega, q _ H1 k1 (.str _) s1⟩
      · cases hmm
    · rename_i i
      split at hmm
      · rename_i hl
        cases hmm
        refine ⟨x, rfl, by rw [e0]; omega, ι, env, st, _, he, hst, ex, fun v H1 k1 r1 s1 => ?_⟩
        cases r1
        have hi : ((toString i : String) : Str).length ≤ 13 := by
          have := PyData.shown_int_le (i := i) (by omega)
          rwa [PyData.shown_int] at this
        exact .inr ⟨i, rfl, small_log hl.1, _, rfl, by rw [Str.length_append, e0]; omega, q _ H1 k1 (.str _) s1⟩
      · cases hmm
    · cases hmm
  · cases hmm
/-! ### over a text's signs -/
/-! ### a text cut at a text -/
/-! ### a text of the module; what is not reached; a value dropped -/
end
end GD

set_option Elab.async false
set_option linter.all false
set_option maxRecDepth 100000
set_option maxHeartbeats 2000000
namespace GD
open PySem PySem.Spec PyProof.Rows L2 GX
section
variable {X : Cx} {w : Wd} {pos p tpos : Pos} {e : Expr}
end
end GD

set_option Elab.async false
set_option linter.all false
set_option maxRecDepth 100000
set_option maxHeartbeats 2000000
namespace GD
open PySem PySem.Spec PyProof.Rows L2 GX
/-! ## 48. sorted(set(list of tuples of ints)) -/
section
variable {X : Cx} {w : Wd} {pos p : Pos}
end
end GD

set_option Elab.async false
set_option linter.all false
set_option maxRecDepth 100000
set_option maxHeartbeats 2000000
namespace GD
open PySem PySem.Spec PyProof.Rows L2 GX
/-! ## 49. len(set(tuple of ints)) -/
section
variable {X : Cx} {w : Wd} {p p2 q pos : Pos} {a : Expr} {m : MP}
end
end GD

set_option Elab.async false
set_option linter.all false
set_option maxRecDepth 100000
set_option maxHeartbeats 2000000
namespace GD
open PySem PySem.Spec PyProof.Rows L2 GX
/-! ## 58. list comprehensions of two clauses: the new list stands in the store from the start -/
section
variable {X : Cx} {w : Wd} {pos : Pos} {tg iter elt c tg1 iter1 : Expr} {ifs ifs1 : List Expr}
end
end GD

set_option Elab.async false
set_option linter.all false
set_option maxRecDepth 100000
set_option maxHeartbeats 2000000
namespace GD
open PySem PySem.Spec PyProof.Rows L2 GX
/-! ## 61. generator expressions of two clauses -/
section
variable {X : Cx} {w : Wd} {pos : Pos} {tg iter tg1 iter1 elt c : Expr} {ifs ifs1 : List Expr}
structure GenA2 (X : Cx) (w : Wd) (mi : MI) (t : MT) (b : MB) (mi1 : MI) (t1 : MT) (b1 : MB) (m : MP) (own own1 : List Nat) (k : Nat) (e : Expr) : Prop where
  ex : ∃ (g g1 : TG), PGx X k e (tGen2 X.base w.s.nm w.c (tI w mi) g (fun c' => tBo (w.at c') b) (fun c' => tI (w.at c') mi1) g1 (fun c' => tBo (w.at c') b1) (fun c' => tP (w.at c') m) own own1) ∧ (∀ c', GT (w.at c') own g t) ∧ (∀ c', GT (w.at c') own1 g1 t1) ∧ (∀ v ∈ own1, v ∈ own) ∧ ∀ v ∈ own, ∀ p ∈ w.fx, p.1 ≠ v
  gn : w.gn = true
section
variable {mi : MI} {t : MT} {b : MB} {mi1 : MI} {t1 : MT} {b1 : MB} {m : MP} {own own1 : List Nat} {k : Nat} {e : Expr} {p : Pos}
end
end
end GD

set_option Elab.async false
set_option linter.all false
set_option maxRecDepth 100000
set_option maxHeartbeats 2000000
namespace GD
open PySem PySem.Spec PyProof.Rows L2 GX
/-! ## 60. comprehensions of any number of clauses: what they make of the new cell -/
abbrev BF := EV → SS → Cell → Option Cell
def putF (mk mv : MP) : BF := fun env st c => match c, mk env (st ++ [c]), mv env (st ++ [c]) with
  | .dic kvs, some kd, some d => (match keyOf kd with | some ks => if kvs.length < 1000000 then some (.dic (putD kvs ks d)) else none | none => none)
  | _, _, _ => none
section
variable {X : Cx} {w : Wd} {pos : Pos} {tg iter e kx vx : Expr} {ifs : List Expr}
end
end GD

set_option Elab.async false
set_option linter.all false
set_option maxRecDepth 100000
set_option maxHeartbeats 2000000
namespace GD
open PySem PySem.Spec PyProof.Rows L2 GX
/-! ## 61. == and != of lists of data -/
section
variable {X : Cx} {w : Wd} {pos : Pos} {a b : Expr} {ma mb : XP} {pa pb : MP}
end
end GD

set_option Elab.async false
set_option linter.all false
set_option maxRecDepth 100000
set_option maxHeartbeats 2000000
namespace GD
open PySem PySem.Spec PyProof.Rows L2 GX
/-! ## 62. names stored from a list -/
section
variable {X : Cx} {w : Wd} {pos : Pos} {e tg : Expr}
end
end GD

set_option Elab.async false
set_option linter.all false
set_option maxRecDepth 100000
set_option maxHeartbeats 2000000
namespace GD
open PySem PySem.Spec PyProof.Rows L2 GX
/-! ## 63. own classes: objects, their attributes, their methods -/
/-- a class of the text, and names that no class of it has -/
structure ClsD (w : Ws) (cn : Str) (fs : List Str) : Prop where
  ex : ∃ C, w.cls cn = some C ∧ Cls w.K C ∧ ∀ f ∈ fs, NoAttr w.K C f
def putA (f : Str) (d : D) : List (Str × D) → List (Str × D)
  | [] => [(f, d)]
  | (g, x) :: r => if g = f then (g, d) :: r else (g, x) :: putA f d r
section
variable {ι : List Addr} {H : Hp} {f : Str}
theorem pairs_look : ∀ {vs : List (Str × V)} {ds : List (Str × D)}, PairsR ι H vs ds → (vs.lookup f = none ∧ ds.lookup f = none) ∨ ∃ v d, vs.lookup f = some v ∧ ds.lookup f = some d ∧ Rep ι H v d
  | [], [], _ => .inl ⟨rfl, rfl⟩
  | [], _ :: _, h => by cases h.keys
  | _ :: _, [], h => by cases h.keys
  | (a, v) :: vs, (b, d) :: ds, h => by
    obtain ⟨h1, h2, h3⟩ := pairs_cons h
    have h1 : a = b := h1
    subst h1
    by_cases hk : f = a
    · have e : (f == a) = true := beq_iff_eq.mpr hk
      exact .inr ⟨v, d, by simp only [List.lookup, e], by simp only [List.lookup, e], h2⟩
    · have e : (f == a) = false := beq_eq_false_iff_ne.mpr hk
      rcases pairs_look h3 with ⟨z1, z2⟩ | ⟨v', d', z1, z2, z3⟩
      · exact .inl ⟨by simp only [List.lookup, e]; exact z1, by simp only [List.lookup, e]; exact z2⟩
      · exact .inr ⟨v', d', by simp only [List.lookup, e]; exact z1, by simp only [List.lookup, e]; exact z2, z3⟩
theorem pairs_putA {v : V} {d : D} (r : Rep ι H v d) : ∀ {vs : List (Str × V)} {ds : List (Str × D)}, PairsR ι H vs ds → PairsR ι H (L2.putF f v vs) (putA f d ds)
  | [], [], _ => pairs_mk rfl r pairs_nil
  | [], _ :: _, h => by cases h.keys
  | _ :: _, [], h => by cases h.keys
  | (a, x) :: vs, (b, y) :: ds, h => by
    obtain ⟨h1, h2, h3⟩ := pairs_cons h
    have h1 : a = b := h1
    subst h1
    unfold L2.putF putA
    by_cases hk : a = f
    · rw [if_pos hk, if_pos hk]
      exact pairs_mk rfl r h3
    · rw [if_neg hk, if_neg hk]
      exact pairs_mk rfl h2 (pairs_putA r h3)
end
/-- what stands in the attribute -/
def mFld (cn f : Str) (m : MP) : MP := fun env st => match m env st with
  | some (.ref n) => (match st[n]? with | some (.obj c fs) => if c = cn then fs.lookup f else none | _ => none)
  | _ => none
/-- o.f = v -/
def sFldP (cn f : Str) (mv : XP) (mo : MP) : XS := fun D0 env st => mv env st fun d st1 => ∃ n fs, mo env st1 = some (.ref n) ∧ st1[n]? = some (.obj cn fs) ∧ fs.length < 1000 ∧ D0.nx env (st1.set n (.obj cn (putA f d fs)))
section
variable {X : Cx} {w : Wd} {pos : Pos} {e o v : Expr} {cn f : Str} {fl : List Str}
theorem dp_fld {m : MP} (hf : Fit X w) (c : ClsD w.s cn fl) (hm : f ∈ fl) (he : PE X e (tP w m)) (hb : attributeBase e f X.env (eval e X.env) = eval e X.env := by rfl) : PE X (.Attribute e f pos) (tP w (mFld cn f m)) := by
  obtain ⟨C, hC, hcl, hno⟩ := c.ex
  refine PE.mo (pe_fld he hb) fun σ H Q ⟨ι, env, st, d, hen, hst, hmm, q⟩ => ?_
  unfold mFld at hmm
  split at hmm
  · rename_i n e1
    split at hmm
    · rename_i c' fs e2
      split at hmm
      · rename_i ec
        subst ec
        refine ⟨ι, env, st, _, hen, hst, e1, fun x H1 k1 r1 s1 => ?_⟩
        cases r1 with
        | ref hn =>
          obtain ⟨C', dx, vs, h1, h2, pr⟩ := s1.cell _ _ _ hn e2
          rw [hC] at h2
          cases h2
          rcases pairs_look (f := f) pr with ⟨_, z2⟩ | ⟨v', d', z1, z2, z3⟩
          · rw [z2] at hmm; cases hmm
          · rw [z2] at hmm
            cases hmm
            exact ⟨_, C, dx, vs, v', rfl, h1, hf.k ▸ hcl, hf.k ▸ hno f hm, z1, q _ H1 k1 z3 s1⟩
      · cases hmm
    · cases hmm
  · cases hmm
theorem ds_fld {mv : XP} {mo : MP} {pos' : Pos} (hf : Fit X w) (c : ClsD w.s cn fl) (hm : f ∈ fl) (hv : PE X v (tX w mv)) (ho : PE X o (tP w mo)) (hs : swapsWith v (some (.Attribute o f pos')) pos.line X.env = pure false := by rfl) : PS X (.Assign [.Attribute o f pos'] v pos) (tS w (sFldP cn f mv mo)) := by
  obtain ⟨C, hC, hcl, hno⟩ := c.ex
  refine PS.mo (ps_fld ho hv hs) fun E σ H ⟨ι, env, st, D0, hen, hst, hm1, hE⟩ => ?_
  refine ⟨ι, env, st, _, hen, hst, hm1, fun d st1 ι1 x H1 h1 g1 r1 s1 => ?_⟩
  obtain ⟨n, fs, e1, e2, hl, hn⟩ := h1
  refine ⟨ι1, env, st1, _, hen.gr g1, s1, e1, fun y H2 k2 r2 s2 => ?_⟩
  cases r2 with
  | ref hi =>
    rename_i a
    obtain ⟨C', dx, vs, h1, h2, pr⟩ := s2.cell _ _ _ hi e2
    rw [hC] at h2
    cases h2
    have kw : Kp ι1 H2 (upd H2 a (.ins C dx (L2.putF f x vs))) := Kp.wrC h1 (fun z => z) (fun _ z => by cases z) (List.mem_of_getElem? hi)
    refine ⟨a, C, dx, vs, rfl, h1, hf.k ▸ hcl, hf.k ▸ hno f hm, by rw [pairs_len pr]; exact hl, ?_⟩
    refine hE.nx env _ ι1 σ _ hn ((g1.trans (.of k2)).trans (.of kw)) (((hen.gr g1).kp k2).kp kw) (s2.wrC hi h1 (fun z => z) (fun _ z => by cases z) (fun _ z => by cases z) ⟨C, dx, _, upd_same, hC, (pairs_putA (r1.kp k2) pr).mono kw (List.prefix_refl _)⟩)
end
/-! ### methods -/
structure FunM (K : PySem.W.Frag) (x q : Str) (st : Stmt) (f c : Addr) (fd : FuncData) : Prop where
  ex : ∃ (oc : Value) (od : Option Addr) (kV doc pm : Value) (an : Option Addr) (ct : Value) (osl : Array (Option Value)),
    fd = PySem.W.fnOf x q (defArgs st) (defBody st) (defScope st) .none kV doc pm an (.ref c) ct ∧ K.lookup f = some ⟨oc, od, .func fd, osl⟩ ∧ PySem.W.codeIn K (.ref c) q = true
/-- a method of the text, by its class's name -/
structure DefM (w : Ws) (cn x q : Str) (st : Stmt) (gn : Bool) : Prop where
  ex : ∃ (C f c : Addr) (fd : FuncData), FunM w.K x q st f c fd ∧ w.cls cn = some C ∧ Cls w.K C ∧ Meth w.K C x f ∧ (gn = true → ∃ P, (c, P) ∈ w.tabs ∧ PySem.W.CodeHd w.base c P)
/-- what a method promises -/
structure MethX (P : Program) (wl : World) (w : Ws) (mg : Str → Option Value) (k : Nat) (cn x : Str) (T : XT) : Prop where
  ex : ∃ (C f : Addr) (fd : FuncData) (ps : List Str), FnOk P wl w.K mg w.base CX0 k f fd ps (spX w T) ∧ w.cls cn = some C ∧ Cls w.K C ∧ Meth w.K C x f ∧ Binds w.K fd ps []
structure MethP (P : Program) (wl : World) (w : Ws) (mg : Str → Option Value) (k : Nat) (cn x : Str) (F : List D → SS → Option D) : Prop where
  ex : ∃ (C f : Addr) (fd : FuncData) (ps : List Str), FnOk P wl w.K mg w.base CX0 k f fd ps (spP w F) ∧ w.cls cn = some C ∧ Cls w.K C ∧ Meth w.K C x f ∧ Binds w.K fd ps []
theorem DefM.x {P : Program} {wl : World} {w : Ws} {mg : Str → Option Value} {cn x q : Str} {st : Stmt} {N ps : List Str} {k : Nat} {t : XS} {gn : Bool} (F : DefM w cn x q st gn) (S : FnScope N ps (defScope st))
    (hb : ∀ (kV doc pm : Value) (an : Option Addr) (cdv ct : Value) (us : List Value), us.length = ps.length → bindArgs (PySem.W.fnOf x q (defArgs st) (defBody st) (defScope st) .none kV doc pm an cdv ct) ⟨us, []⟩ = pure (ps.zip us))
    (hbody : ∀ (f c : Addr) (A : Around) (outer : List Env) (s : Shared) (H : Hp) (E : XK), Room k (A.deeper (envOfC q (defScope st) s.heap.objs.size f (.ref c))) → Fit (cxOf CX0 P wl w.K mg w.base N q (defScope st) f (.ref c) A outer s H E).nox ⟨w, c, [], [], [], gn⟩ →
      PSs (cxOf CX0 P wl w.K mg w.base N q (defScope st) f (.ref c) A outer s H E).nox (defBody st) (tS ⟨w, c, [], [], [], gn⟩ t)) : MethX P wl w mg (k + 1) cn x (fnT N ps.length t) := by
  obtain ⟨C, f, c, fd, ⟨oc, od, kV, doc, pm, an, ct, osl, rfl, lk, hcd⟩, hC, hcl, hM, hT⟩ := F.ex
  refine ⟨C, f, _, ps, fn_of lk hcd S (fun vs H Q E ⟨ι, st, ds, R, r, s, h, q⟩ => by rw [r.length]; exact h.1) fun A outer s H vs Q E hr ⟨ι, st, ds, R, r, s', h, q⟩ => ⟨_, (hbody f c A outer s H E hr ⟨rfl, rfl, rfl⟩).nox, ?_⟩, hC, hcl, hM, .all (hb kV doc pm an (.ref c) ct)⟩
  refine ⟨ι, startE N ds, st, _, start_env r N (fun hg => let ⟨Pt, ht, hh⟩ := hT hg; ⟨Pt, .inl hh, s'.tab _ ht⟩), s', h.2, fun env st' ι' σ H' h g r s => q .non st' ι' .non H' h g .non s, fun d st' ι' v H' h g r s => q d st' ι' v H' h g r s, fun _ _ _ _ _ h _ _ _ => h.elim, fun _ _ _ _ _ h _ _ _ => h.elim⟩
theorem MethX.imp {P : Program} {wl : World} {w : Ws} {mg : Str → Option Value} {k : Nat} {cn x : Str} {T T' : XT} (c : MethX P wl w mg k cn x T) (h : ∀ ds st R, T' ds st R → T ds st R) : MethX P wl w mg k cn x T' := by
  obtain ⟨C, f, fd, ps, hF, h1, h2, h3, h4⟩ := c.ex
  exact ⟨C, f, fd, ps, hF.imp fun vs H Q E ⟨ι, st, ds, R, r, s, ht, q⟩ => ⟨ι, st, ds, R, r, s, h _ _ _ ht, q⟩, h1, h2, h3, h4⟩
def noFld (m : Str) (fs : List (Str × D)) : Bool := (fs.lookup m).isNone
/-- o.m(..) -/
def xMeth (cn m : Str) (mo : MP) (T : XT) (r : XA) : XP := fun env st R => ∃ n fs, mo env st = some (.ref n) ∧ st[n]? = some (.obj cn fs) ∧ noFld m fs = true ∧ r env st fun ds st1 => T (.ref n :: ds) st1 R
/-- C(..) -/
def xMake (cn : Str) (T : XT) (r : XA) : XP := fun env st R => r env st fun ds st1 => T (.ref st1.length :: ds) (st1 ++ [.obj cn []]) fun d st2 => d = .non ∧ R (.ref st1.length) st2
section
variable {X : Cx} {w : Wd} {pos apos p : Pos} {e o : Expr} {es : List Expr} {cn m : Str} {k : Nat} {mo : MP}
theorem no_look {ι : List Addr} {H : Hp} {vs : List (Str × V)} {fs : List (Str × D)} (pr : PairsR ι H vs fs) (h : noFld m fs = true) : vs.lookup m = none := by
  rcases pairs_look (f := m) pr with ⟨z, _⟩ | ⟨v, d, _, z2, _⟩
  · exact z
  · unfold noFld at h
    rw [z2] at h
    cases h
theorem meth_read {T : XT} {r : XA} {C : Addr} (hC : w.s.cls cn = some C) (σ : L2.St) (H : Hp) (Q : VK) : tX w (xMeth cn m mo T r) σ H Q → tMeth C m (spX w.s T) [] E0 (tP w mo) (tXA w r) σ H Q := by
  rintro ⟨ι, env, st, R, hen, hst, ⟨n, fs, e1, e2, hno, hr⟩, q⟩
  refine ⟨ι, env, st, _, hen, hst, e1, fun y H1 k1 r1 s1 => ?_⟩
  cases r1 with
  | ref hi =>
    obtain ⟨C', dx, vs, h1, h2, pr⟩ := s1.cell _ _ _ hi e2
    rw [hC] at h2
    cases h2
    refine ⟨_, dx, vs, rfl, h1, no_look pr hno, ι, env, st, _, hen.kp k1, s1, hr, fun ds st2 ι2 ws H2 ht g2 r2 s2 => ?_⟩
    show spX w.s T (V.ref _ :: (ws ++ [])) H2 Q E0
    rw [List.append_nil]
    refine ⟨ι2, st2, _, R, .cons (.ref (pre_get g2.pre hi)) r2, s2, ht, fun d st' ι' v H' h g r s => q d st' ι' v H' h ((Gr.of k1).trans (g2.trans g)) r s⟩
theorem dx_meth {pl : Sem Bool} {T : XT} {r : XA} (hf : Fit X w) (c : MethX X.prog X.w w.s X.mg k cn m T) (hr : Room k X.A) (he : PE X o (tP w mo)) (ha : PA X (e :: es) (tXA w r))
    (hst : starEach (e :: es) X.env = (false, eval e X.env) :: starEach es X.env := by rfl) (hpl : (backTo pos (starEach es X.env)).any (·.1) = false := by rfl)
    (ht : eval (.Call (.Attribute o m apos) (e :: es) [] pos) X.env = (eval o X.env >>= fun ov => standAt apos.atName >>= fun _ => holding [ov] (getMethod ov m pl) >>= fun z => callWith pos z.1 z.2 (backTo pos (starEach (e :: es) X.env)) (backToKw pos (keywordEach [] X.env))) := by rfl) : PE X (.Call (.Attribute o m apos) (e :: es) [] pos) (tX w (xMeth cn m mo T r)) := by
  obtain ⟨C, f, fd, ps, hF, hC, hcl, hM, hb⟩ := c.ex
  rw [← hf.k, ← hf.b] at hF
  rw [← hf.k] at hcl hM hb
  exact PE.mo (pe_meth (pl := pl) (E := E0) he hcl hM hF hr hb .nil pass0 ha hst hpl ht) (meth_read hC)
theorem dx_meth0 {pl : Sem Bool} {T : XT} (hf : Fit X w) (c : MethX X.prog X.w w.s X.mg k cn m T) (hr : Room k X.A) (he : PE X o (tP w mo))
    (ht : eval (.Call (.Attribute o m apos) [] [] pos) X.env = (eval o X.env >>= fun ov => standAt apos.atName >>= fun _ => holding [ov] (getMethod ov m pl) >>= fun z => callWith pos z.1 z.2 (backTo pos (starEach [] X.env)) (backToKw pos (keywordEach [] X.env))) := by rfl) : PE X (.Call (.Attribute o m apos) [] [] pos) (tX w (xMeth cn m mo T xNil)) := by
  obtain ⟨C, f, fd, ps, hF, hC, hcl, hM, hb⟩ := c.ex
  rw [← hf.k, ← hf.b] at hF
  rw [← hf.k] at hcl hM hb
  refine PE.mo (pe_meth0 (pl := pl) (E := E0) he hcl hM hF hr hb .nil pass0 ht) fun σ H Q h => ?_
  obtain ⟨ι, env, st, d, h1, h2, h3, h4⟩ := meth_read hC σ H Q h
  refine ⟨ι, env, st, d, h1, h2, h3, fun y H1 k1 r1 s1 => ?_⟩
  obtain ⟨a, dx, fs, e1, e2, e3, h5⟩ := h4 y H1 k1 r1 s1
  obtain ⟨ι2, env2, st2, R2, g1, g2, g3, g4⟩ := h5
  exact ⟨a, dx, fs, e1, e2, e3, g4 [] st2 ι2 [] H1 g3 (.refl _) .nil g2⟩
/-- the making of an object: __init__ is the method's promise -/
structure MakeX (P : Program) (wl : World) (w : Ws) (mg : Str → Option Value) (k : Nat) (cn : Str) (T : XT) : Prop where
  ex : ∃ (C f : Addr) (fd : FuncData) (ps : List Str), FnOk P wl w.K mg w.base CX0 k f fd ps (spX w T) ∧ w.cls cn = some C ∧ mg cn = some (.ref C) ∧ Mk w.K C f ∧ Binds w.K fd ps []
theorem dx_make {T : XT} {r : XA} (hf : Fit X w) (c : MakeX X.prog X.w w.s X.mg k cn T) (hr : Room (k + 1) X.A) (hg : Gl X cn) (ha : PA X (e :: es) (tXA w r)) (hdb : (cn == ("__debug__" : Str)) = false := by decide)
    (he : starEach (e :: es) X.env = (false, eval e X.env) :: starEach es X.env := by rfl) (hpl : (backTo pos (starEach es X.env)).any (·.1) = false := by rfl) : PE X (.Call (.Name cn p) (e :: es) [] pos) (tX w (xMake cn T r)) := by
  obtain ⟨C, f, fd, ps, hF, hC, hm, hM, hb⟩ := c.ex
  rw [← hf.k, ← hf.b] at hF
  rw [← hf.k] at hM hb
  refine PE.mo (pe_make (E := E0) hM hF hr hg hm hb .nil pass0 ha hdb he hpl) fun σ H Q ⟨ι, env, st, R, hen, hst, hx, q⟩ => ?_
  refine ⟨ι, env, st, _, hen, hst, hx, fun ds st1 ι1 vs H1 h1 g1 r1 s1 x dx nx ndx ne => ?_⟩
  show spX w.s T (V.ref x :: (vs ++ [])) _ _ E0
  rw [List.append_nil]
  have hi1 : dx ∉ ι1 := nin_of s1 ndx
  have hi2 : x ∉ ι1 := nin_of s1 nx
  have k1 : Kp ι1 H1 (upd H1 dx (.own x)) := Kp.new ndx
  have s2 := s1.new (o := .own x) ndx (fun _ z => by cases z) hi1
  have nx2 : (upd H1 dx (.own x)) x = none := by rw [upd_ne (Ne.symm ne)]; exact nx
  have k2 : Kp ι1 (upd H1 dx (.own x)) (upd (upd H1 dx (.own x)) x (.ins C dx [])) := Kp.new nx2
  have s3 := s2.new (o := .ins C dx []) nx2 (fun _ z => by cases z) hi2
  have s4 : SR w.s (ι1 ++ [x]) (st1 ++ [.obj cn []]) (upd (upd H1 dx (.own x)) x (.ins C dx [])) := s3.addC hi2 ⟨C, dx, [], upd_same, hC, pairs_nil⟩
  have atx : (ι1 ++ [x])[st1.length]? = some x := by rw [← s1.len, List.getElem?_append_right (Nat.le_refl _), Nat.sub_self]; rfl
  have g2 : Gr ι1 H1 (ι1 ++ [x]) (upd (upd H1 dx (.own x)) x (.ins C dx [])) := ⟨List.prefix_append _ _, k1.trans k2, fun c hc => by
    rcases List.mem_append.mp hc with hc | hc
    · exact .inl hc
    · rw [List.mem_singleton.mp hc]; exact .inr nx⟩
  refine ⟨ι1 ++ [x], st1 ++ [.obj cn []], _, _, .cons (.ref atx) (r1.gr g2), s4, h1, fun d st' ι' v H' ⟨hd, hR⟩ g r s => ?_⟩
  subst hd
  cases r
  exact ⟨rfl, q _ st' ι' (.ref x) H' hR (g1.trans (g2.trans g)) (.ref (pre_get g.pre atx)) s⟩
end
end GD

set_option Elab.async false
set_option linter.all false
set_option maxRecDepth 100000
set_option maxHeartbeats 2000000
namespace GD
open PySem PySem.Spec PyProof.Rows L2 GX
/-! ## 64. methods without effects; the making; what the text must have -/
theorem MethX.toP {P : Program} {wl : World} {w : Ws} {mg : Str → Option Value} {k : Nat} {cn x : Str} {T : XT} {F : List D → SS → Option D} (c : MethX P wl w mg k cn x T)
    (h : ∀ ds st d, F ds st = some d → D.loAll st.length ds = true → D.lo st.length d = true ∧ T ds st fun d' st' => d' = d ∧ st'.take st.length = st) : MethP P wl w mg k cn x F := by
  obtain ⟨C, f, fd, ps, hF, m1, m2, m3, m4⟩ := c.ex
  refine ⟨C, f, fd, ps, hF.imp fun vs H Q E ⟨ι, st, ds, d, r, s, hd, q⟩ => ?_, m1, m2, m3, m4⟩
  obtain ⟨hlo, hT⟩ := h ds st d hd (s.len ▸ r.low)
  refine ⟨ι, st, ds, _, r, s, hT, fun d' st' ι' v H' ⟨e1, e2⟩ g r' s' => ?_⟩
  subst e1
  refine q v H' g.kp (r'.cut g.pre (by rw [s.len]; exact hlo)) ⟨s.len, s.nd, fun n a cl h1 h2 => ?_, s'.tabs, s'.tab⟩
  have hn : n < st.length := (List.getElem?_eq_some_iff.mp h2).1
  have h2' : st'[n]? = some cl := by
    rw [← e2, List.getElem?_take, if_pos hn] at h2
    exact h2
  have q1 := s'.cell n a cl (pre_get g.pre h1) h2'
  have q0 := s.cell n a cl h1 h2
  cases cl with
  | lst ds =>
    obtain ⟨vs0, _, _, r0⟩ := q0
    obtain ⟨vs1, e1, l1, r1⟩ := q1
    exact ⟨vs1, e1, l1, r1.cut g.pre r0.low⟩
  | frz ds =>
    obtain ⟨_, vs0, _, _, r0⟩ := q0
    obtain ⟨o1, vs1, e1, l1, r1⟩ := q1
    exact ⟨o1, vs1, e1, l1, r1.cut g.pre r0.low⟩
  | dic ds =>
    obtain ⟨vs0, _, _, r0⟩ := q0
    obtain ⟨vs1, e1, l1, r1⟩ := q1
    exact ⟨vs1, e1, l1, r1.keys, r1.vals.cut g.pre r0.vals.low⟩
  | obj x ds =>
    obtain ⟨_, _, vs0, _, _, r0⟩ := q0
    obtain ⟨C1, dx1, vs1, e1, l1, r1⟩ := q1
    exact ⟨C1, dx1, vs1, e1, l1, r1.keys, r1.vals.cut g.pre r0.vals.low⟩
  | dicN ds =>
    obtain ⟨vs0, _, _, r0⟩ := q0
    obtain ⟨vs1, e1, l1, r1⟩ := q1
    exact ⟨vs1, e1, l1, r1.keys, r1.vals.cut g.pre r0.vals.low⟩
theorem DefM.p {P : Program} {wl : World} {w : Ws} {mg : Str → Option Value} {cn x q : Str} {st : Stmt} {N ps : List Str} {k : Nat} {r : RS} {gn : Bool} (F : DefM w cn x q st gn) (S : FnScope N ps (defScope st))
    (hb : ∀ (kV doc pm : Value) (an : Option Addr) (cdv ct : Value) (us : List Value), us.length = ps.length → bindArgs (PySem.W.fnOf x q (defArgs st) (defBody st) (defScope st) .none kV doc pm an cdv ct) ⟨us, []⟩ = pure (ps.zip us))
    (hbody : ∀ (f c : Addr) (A : Around) (outer : List Env) (s : Shared) (H : Hp) (E : XK), Room k (A.deeper (envOfC q (defScope st) s.heap.objs.size f (.ref c))) → Fit (cxOf CX0 P wl w.K mg w.base N q (defScope st) f (.ref c) A outer s H E).nox ⟨w, c, [], [], [], gn⟩ →
      PSs (cxOf CX0 P wl w.K mg w.base N q (defScope st) f (.ref c) A outer s H E).nox (defBody st) (tS ⟨w, c, [], [], [], gn⟩ (xs r))) : MethP P wl w mg (k + 1) cn x (fnR N ps.length r) := by
  refine (DefM.x (mg := mg) F S hb hbody).toP fun ds st d h _ => ?_
  unfold fnR at h
  split at h
  · rename_i hl
    split at h
    · rename_i d' hr
      split at h
      · rename_i hlo
        cases h
        refine ⟨hlo, hl, ?_⟩
        unfold xs
        rw [hr]
        exact ⟨rfl, List.take_length⟩
      · cases h
    · rename_i e hr
      cases h
      refine ⟨rfl, hl, ?_⟩
      unfold xs
      rw [hr]
      exact ⟨rfl, List.take_length⟩
    · cases h
  · cases h
/-- what of the text the making must have -/
structure ClsM (w : Ws) (mg : Str → Option Value) (cn : Str) : Prop where
  ex : ∃ C f, w.cls cn = some C ∧ mg cn = some (.ref C) ∧ Mk w.K C f
theorem MethX.make {P : Program} {wl : World} {w : Ws} {mg : Str → Option Value} {k : Nat} {cn : Str} {T : XT} (c : MethX P wl w mg k cn "__init__" T) (m : ClsM w mg cn) : MakeX P wl w mg k cn T := by
  obtain ⟨C, f, fd, ps, hF, h1, h2, h3, h4⟩ := c.ex
  obtain ⟨C', f', g1, g2, g3⟩ := m.ex
  rw [h1] at g1
  cases g1
  have e : f = f' := by
    have a := h3.at_
    rw [g3.init] at a
    injection a with a
    injection a with a
    injection a with a
    exact a.symm
  subst e
  exact ⟨C, f, fd, ps, hF, h1, g2, g3, h4⟩
theorem MakeX.imp {P : Program} {wl : World} {w : Ws} {mg : Str → Option Value} {k : Nat} {cn : Str} {T T' : XT} (c : MakeX P wl w mg k cn T) (h : ∀ ds st R, T' ds st R → T ds st R) : MakeX P wl w mg k cn T' := by
  obtain ⟨C, f, fd, ps, hF, h1, h2, h3, h4⟩ := c.ex
  exact ⟨C, f, fd, ps, hF.imp fun vs H Q E ⟨ι, st, ds, R, r, s, ht, q⟩ => ⟨ι, st, ds, R, r, s, h _ _ _ ht, q⟩, h1, h2, h3, h4⟩
/-! ### the end's facts -/
theorem cls_at {K : PySem.W.Frag} {h : Heap} {mg : Str → Option Value} {cn : Str} {C : Addr} (KX : K.In h) (G : h.Ns mainGlobals mg) (a : PySem.W.nsIn K mainGlobals cn = some (some (.ref C))) : mg cn = some (.ref C) ∧ clsOf mg cn = some C := by
  have hm := PySem.W.mg_of KX G a
  refine ⟨hm, ?_⟩
  unfold clsOf
  rw [hm]
/-- a class as the end finds it: ClsD and ClsM -/
theorem clsD_of {K : PySem.W.Frag} {mg : Str → Option Value} {cn : Str} {C : Addr} {fl : List Str} {base : Heap} {nm : Nat → Nat → Option Str} {tabs : List (Addr × Addr)} (hm : clsOf mg cn = some C) (c : Cls K C) (n : ∀ f ∈ fl, NoAttr K C f) : ClsD ⟨K, base, nm, tabs, clsOf mg⟩ cn fl := ⟨C, hm, c, n⟩
theorem clsM_of {K : PySem.W.Frag} {mg : Str → Option Value} {cn : Str} {C f : Addr} {base : Heap} {nm : Nat → Nat → Option Str} {tabs : List (Addr × Addr)} (hm : mg cn = some (.ref C)) (hc : clsOf mg cn = some C) (k : Mk K C f) : ClsM ⟨K, base, nm, tabs, clsOf mg⟩ mg cn := ⟨C, f, hc, hm, k⟩
/-- a method of the text: its place, its code object, its table -/
structure DKM (K : PySem.W.Frag) (mg : Str → Option Value) (h : Heap) (cn x q : Str) (st : Stmt) (c P : Addr) : Prop where
  code : PySem.W.CodeHd h c P
  tab : h.get? P = some tblO
  free : K.lookup P = none
  dc : ∀ base nm tabs, (c, P) ∈ tabs → PySem.W.CodeHd base c P → DefM ⟨K, base, nm, tabs, clsOf mg⟩ cn x q st true
theorem DKM.of {K : PySem.W.Frag} {mg : Str → Option Value} {h : Heap} {cn x q : Str} {st : Stmt} {C f c P : Addr} {oc kV dc pm ct : Value} {od an : Option Addr} {sl : Array (Option Value)} (KX : K.In h) (hC : clsOf mg cn = some C) (hcl : Cls K C)
    (a1 : PySem.W.findIn K (.ref C) x = some (some (.ref f))) (i1 : PySem.W.isFn K (.ref f) = true) (k1 : PySem.W.keepIn K (.ref f) = true)
    (l1 : K.lookup f = some ⟨oc, od, .func (PySem.W.fnOf x q (defArgs st) (defBody st) (defScope st) .none kV dc pm an (.ref c) ct), sl⟩) (c1 : PySem.W.codeIn K (.ref c) q = true)
    (hd : PySem.W.codeHdIn K c P = true) (tP : h.get? P = some (PySem.W.tabObj #[])) (n1 : K.lookup P = none) : DKM K mg h cn x q st c P :=
  ⟨PySem.W.codeHd_of_K KX hd, tP, n1, fun base nm tabs ht hh => ⟨C, f, c, _, ⟨oc, od, kV, dc, pm, an, ct, sl, rfl, l1, c1⟩, hC, hcl, ⟨a1, i1, k1⟩, fun _ => ⟨P, ht, hh⟩⟩⟩
/-- .. without its table, where no generator and no lambda stands in it -/
theorem defM_of {K : PySem.W.Frag} {mg : Str → Option Value} {cn x q : Str} {st : Stmt} {C f c : Addr} {oc kV dc pm ct : Value} {od an : Option Addr} {sl : Array (Option Value)} {base : Heap} {nm : Nat → Nat → Option Str} {tabs : List (Addr × Addr)} (hC : clsOf mg cn = some C) (hcl : Cls K C)
    (a1 : PySem.W.findIn K (.ref C) x = some (some (.ref f))) (i1 : PySem.W.isFn K (.ref f) = true) (k1 : PySem.W.keepIn K (.ref f) = true)
    (l1 : K.lookup f = some ⟨oc, od, .func (PySem.W.fnOf x q (defArgs st) (defBody st) (defScope st) .none kV dc pm an (.ref c) ct), sl⟩) (c1 : PySem.W.codeIn K (.ref c) q = true) : DefM ⟨K, base, nm, tabs, clsOf mg⟩ cn x q st false :=
  ⟨C, f, c, _, ⟨oc, od, kV, dc, pm, an, ct, sl, rfl, l1, c1⟩, hC, hcl, ⟨a1, i1, k1⟩, fun z => nomatch z⟩
end GD

set_option Elab.async false
set_option linter.all false
set_option maxRecDepth 100000
set_option maxHeartbeats 2000000
namespace GD
open PySem PySem.Spec PyProof.Rows L2 GX HT
/-! ## 65. o.f += a tuple -/
theorem noI_tup : typeLookup (.type "tuple") (dunderI "add") = pure none := by first | rfl | decide | exact PySem.F.noI_tuple_add
section
variable {prog : Program} {w : World} {A : Around} {E : Value → Shared → Prop} {s : Shared}
theorem iroad {T id : String} {B : Builtin} {a b : Value} {S : PySem.Spec} {Q : Value → Shared → Prop} (ha : s.TypeIs a T) (hb : s.TypeIs b T) (hno : typeLookup (.type T) (dunderI "add") = pure none)
    (hfill : fillsNumberSlot (.type T) "add" = pure false) (hseq : seqSlot? (.type T) "__add__" = pure (some (.builtin id))) (slot : Slot T "__add__" id) (entry : entryFor table id = some B) (args : argsOk id ⟨[a, b], []⟩) (g : Meets (B ⟨[a, b], []⟩) S) (h : S A (wants Q E) s) :
    wpAny (model prog w) A (inplaceOp .Add a b) Q E s := wpAny_inplaceOp_concat ha hb hno hfill hseq (call_meets slot ha entry args g h)
theorem icat_tup {t b : Addr} {vs ws : List Value} {Q : Value → Shared → Prop} (ht : IsTup s.heap t vs.toArray) (hb : IsTup s.heap b ws.toArray) (h0 : vs = [] → Q (.ref b) s) (h1 : vs ≠ [] → ws = [] → Q (.ref t) s)
    (h2 : vs ≠ [] → ws ≠ [] → Q (.ref s.heap.objs.size) { s with heap := s.heap.push { cls := .type "tuple", data := .seq (vs ++ ws).toArray } }) (hsz : vs.length + ws.length ≤ sizeLine) : wpAny (model prog w) A (inplaceOp .Add (.ref t) (.ref b)) Q E s := by
  obtain ⟨⟨cls, dd, data, sl⟩, ho, hc, n, hd⟩ := id ht
  obtain ⟨⟨cls2, dd2, data2, sl2⟩, ho2, hc2, n2, hd2⟩ := id hb
  simp only at hc hd hc2 hd2
  subst hc hd hc2 hd2
  have e : vs.toArray ++ ws.toArray = (vs ++ ws).toArray := by simp
  by_cases hv : vs = []
  · subst hv
    exact iroad ⟨_, ho, rfl⟩ ⟨_, ho2, rfl⟩ noI_tup noFill_tuple_add seq_tuple_add PySem.F.slot_tuple_add PySem.F.entry_tuple_add (PySem.F.args_tuple_add_2 _ _) (tuple_addW0 t b ([] : List Value).toArray ws.toArray n n2 dd dd2 sl sl2 (by simp)) ⟨ho, ho2, h0 rfl⟩
  · by_cases hw : ws = []
    · exact iroad ⟨_, ho, rfl⟩ ⟨_, ho2, rfl⟩ noI_tup noFill_tuple_add seq_tuple_add PySem.F.slot_tuple_add PySem.F.entry_tuple_add (PySem.F.args_tuple_add_2 _ _) (tuple_addW1 t b vs.toArray ws.toArray n n2 dd dd2 sl sl2 (by simpa using hv) (by simp [hw])) ⟨ho, ho2, h1 hv hw⟩
    · refine iroad ⟨_, ho, rfl⟩ ⟨_, ho2, rfl⟩ noI_tup noFill_tuple_add seq_tuple_add PySem.F.slot_tuple_add PySem.F.entry_tuple_add (PySem.F.args_tuple_add_2 _ _) (tuple_addW2 t b vs.toArray ws.toArray n n2 dd dd2 sl sl2 (by simpa using hv) (by simpa using hw) (by rw [List.size_toArray, List.size_toArray]; exact hsz)) ⟨ho, ho2, ?_⟩
      rw [e]
      exact h2 hv hw
end
theorem in_catA {X : Cx} : InOp X .Add (rCatA X.K) := by
  intro pins s σ H x y u v Q I rx ry h
  obtain ⟨a, b, xs, ys, rfl, rfl, ha, hb, hz, q0, q1, q2⟩ := h
  cases rx
  cases ry
  obtain ⟨its, r1, p1, _⟩ := I.tuple ha
  obtain ⟨its2, r2, p2, _⟩ := I.tuple hb
  refine icat_tup p1 p2 (fun z => ⟨.ref b, H, I, rfl, q0 (r1.nil_iff.mp z)⟩) (fun z z2 => ⟨.ref a, H, I, rfl, q1 (fun w => z (r1.nil_iff.mpr w)) (r2.nil_iff.mp z2)⟩) (fun z z2 => ?_) (by rw [← r1.length, ← r2.length]; exact hz)
  refine ⟨.ref s.heap.objs.size, _, I.laid (t' := s.toks) (o := .tup (xs ++ ys)) (fun b ob q => Heap.get?_push_of_some _ q) (Nat.le_refl _) ?_, rfl, q2 (fun w => z (r1.nil_iff.mpr w)) (fun w => z2 (r2.nil_iff.mpr w)) _ (I.hok.fresh (Nat.le_refl _))⟩
  exact ⟨by rw [List.length_append]; exact hz, _, r1.append r2, IsTup.new _ _⟩
/-- o.f += a tuple -/
def sAugA (cn f : Str) (mo mv : MP) : XS := fun D0 env st => ∃ n fs a b, mo env st = some (.ref n) ∧ st[n]? = some (.obj cn fs) ∧ fs.lookup f = some (.tup a) ∧ mv env st = some (.tup b) ∧ a.length + b.length ≤ 1000000 ∧ fs.length < 1000 ∧ D0.nx env (st.set n (.obj cn (putA f (.tup (a ++ b)) fs)))
section
variable {X : Cx} {w : Wd} {pos tpos : Pos} {o v : Expr} {cn f : Str} {fl : List Str}
theorem ds_fldaug {mo mv : MP} (hf : Fit X w) (c : ClsD w.s cn fl) (hm : f ∈ fl) (ho : PE X o (tP w mo)) (hv : PE X v (tP w mv)) : PS X (.AugAssign (.Attribute o f tpos) .Add v pos) (tS w (sAugA cn f mo mv)) := by
  obtain ⟨C, hC, hcl, hno⟩ := c.ex
  refine PS.mo (ps_fldaug ho hv in_catA) fun E σ H ⟨ι, env, st, D0, hen, hst, hm1, hE⟩ => ?_
  obtain ⟨n, fs, a, b, e1, e2, e3, e4, hl, hl2, hn⟩ := hm1
  refine ⟨ι, env, st, _, hen, hst, e1, fun y H1 k1 r1 s1 => ?_⟩
  cases r1 with
  | ref hi =>
    rename_i ad
    obtain ⟨C', dx, vs, h1, h2, pr⟩ := s1.cell _ _ _ hi e2
    rw [hC] at h2
    cases h2
    rcases pairs_look (f := f) pr with ⟨_, z2⟩ | ⟨v', d', z1, z2, z3⟩
    · rw [e3] at z2; cases z2
    · rw [e3] at z2
      cases z2
      refine ⟨ad, C, dx, vs, v', rfl, h1, hf.k ▸ hcl, hf.k ▸ hno f hm, z1, ι, env, st, _, hen.kp k1, s1, e4, fun z H2 k2 r2 s2 => ?_⟩
      have z3' := z3.kp k2
      -- what is behind, from the new tuple
      have fin : ∀ (u : V) (H3 : Hp), Kp ι H2 H3 → SR w.s ι st H3 → Rep ι H3 u (.tup (a ++ b)) → ∃ dx' fs', H3 ad = some (.ins C dx' fs') ∧ fs'.length < 1000 ∧ E.nx σ (upd H3 ad (.ins C dx' (L2.putF f u fs'))) := fun u H3 k3 s3 r3 => by
        obtain ⟨C', dx', vs', h1', h2', pr'⟩ := s3.cell _ _ _ hi e2
        rw [hC] at h2'
        cases h2'
        have kw : Kp ι H3 (upd H3 ad (.ins C dx' (L2.putF f u vs'))) := Kp.wrC h1' (fun z => z) (fun _ z => by cases z) (List.mem_of_getElem? hi)
        refine ⟨dx', vs', h1', by rw [pairs_len pr']; exact hl2, ?_⟩
        exact hE.nx env _ ι σ _ hn (.of (((k1.trans k2).trans k3).trans kw)) (hen.kp (((k1.trans k2).trans k3).trans kw)) (s3.wrC hi h1' (fun z => z) (fun _ z => by cases z) (fun _ z => by cases z) ⟨C, dx', _, upd_same, hC, (pairs_putA r3 pr').mono kw (List.prefix_refl _)⟩)
      cases z3' with
      | tup h3 l3 q3 =>
        cases r2 with
        | tup h4 l4 q4 =>
          refine ⟨_, _, _, _, rfl, rfl, sqt_of h3, sqt_of h4, by rw [q3.length, q4.length]; exact big_size hl, fun z => ?_, fun z z2 => ?_, fun z z2 p hp => ?_⟩
          · have e0 : a = [] := List.length_eq_zero_iff.mp (by rw [← q3.length, z]; rfl)
            subst e0
            exact fin _ H2 (.refl _) s2 (.tup h4 l4 q4)
          · have e0 : b = [] := List.length_eq_zero_iff.mp (by rw [← q4.length, z2]; rfl)
            subst e0
            exact fin _ H2 (.refl _) s2 (by rw [List.append_nil]; exact .tup h3 l3 q3)
          · exact fin _ _ (Kp.new hp) (s2.new hp (fun _ z => by cases z) (nin_of s2 hp)) (.tup upd_same (by rw [List.length_append]; exact big_size hl) ((q3.append q4).kp (Kp.new hp)))
end
end GD

set_option Elab.async false
set_option linter.all false
set_option maxRecDepth 100000
set_option maxHeartbeats 2000000
namespace GD
open PySem PySem.Spec PyProof.Rows L2 GX PySem.W
/-! ## 66. min of a list of tuples of ints -/
section
variable {X : Cx} {w : Wd} {pos p : Pos} {a : Expr}
end
/-! ## 67. the size of a displayed set -/
def cntM : List MP → EV → SS → Option (List Int)
  | [], _, _ => some []
  | m :: ms, env, st => (match m env st, cntM ms env st with | some (.int i), some l => some (i :: l) | _, _ => none)
inductive PEsP (X : Cx) (w : Wd) : List Expr → List MP → Prop
  | nil : PEsP X w [] []
  | cons {e : Expr} {m : MP} {es : List Expr} {ms : List MP} : PE X e (tP w m) → PEsP X w es ms → PEsP X w (e :: es) (m :: ms)
section
variable {X : Cx} {w : Wd} {pos p q : Pos} {a : Expr}
theorem PEsP.to : ∀ {es : List Expr} {ms : List MP}, PEsP X w es ms → PEsI X es (ms.map (tP w))
  | _, _, .nil => .nil
  | _, _, .cons h t => .cons h t.to
end
/-! ## 68. methods whose text displays a set -/
/-! ## 69. a method of an object that was just made -/
section
variable {X : Cx} {w : Wd} {pos apos : Pos} {o : Expr} {cn m : Str} {k : Nat}
end
end GD

set_option Elab.async false
set_option linter.all false
set_option maxRecDepth 100000
set_option maxHeartbeats 2000000
namespace GD
open PySem PySem.Spec PyProof.Rows L2 GX
/-! ## 70. a method's code object, read off its record -/
theorem DKM.of2 {K : PySem.W.Frag} {mg : Str → Option Value} {h : Heap} {cn x q : Str} {st : Stmt} {C f c P : Addr} {oc kV dc pm ct e : Value} {od an dd : Option Addr} {sl sm : Array (Option Value)} {vs : Array Value} (KX : K.In h) (hC : clsOf mg cn = some C) (hcl : Cls K C)
    (a1 : PySem.W.findIn K (.ref C) x = some (some (.ref f))) (i1 : PySem.W.isFn K (.ref f) = true) (k1 : PySem.W.keepIn K (.ref f) = true) (l1 : K.lookup f = some ⟨oc, od, .func (PySem.W.fnOf x q (defArgs st) (defBody st) (defScope st) .none kV dc pm an (.ref c) ct), sl⟩) (c1 : PySem.W.codeIn K (.ref c) q = true)
    (t1 : K.lookup c = some ⟨e, dd, .fields vs, sm⟩) (p1 : vs[11]? = some (.ref P)) (y1 : PySem.W.codeHdIn [(c, ⟨e, dd, .fields vs, sm⟩)] c P = true) (tP : h.get? P = some (PySem.W.tabObj #[])) (n1 : K.lookup P = none) : DKM K mg h cn x q st c P := by
  refine DKM.of KX hC hcl a1 i1 k1 l1 c1 ?_ tP n1
  have e1 : List.lookup c [(c, (⟨e, dd, .fields vs, sm⟩ : Obj))] = some ⟨e, dd, .fields vs, sm⟩ := by simp [List.lookup]
  have y2 := y1
  unfold PySem.W.codeHdIn at y2 ⊢
  rw [t1]
  rw [e1] at y2
  exact y2
end GD

set_option Elab.async false
set_option linter.all false
set_option maxRecDepth 100000
set_option maxHeartbeats 4000000
namespace GF
open PySem PySem.Spec PyProof.Rows L2 GX GD
/-! ## 66. an expert is asked, plainly -/
def askP (cl : List Nat → List Nat) (acc : List Imp) (s : List Nat) : Bool := decide (cuM acc s = s) && !decide (cl s = s)
def askM (many : Nat) (cl : List Nat → List Nat) (acc : List Imp) : Option (List Nat) := (lecS 0 many).find? (askP cl acc)
section
variable {many n : Nat} {rows more world R : List (List Nat)} {acc A : List Imp} {s t : List Nat} {cl : List Nat → List Nat}
theorem inS (h : s ∈ lecS 0 n) : SetIn 0 n s := by have := (mem_lecS n 0 s).mp h; rwa [Nat.zero_add] at this
theorem inL (h : SetIn 0 n s) : s ∈ lecS 0 n := (mem_lecS n 0 s).mpr (by rwa [Nat.zero_add])
theorem ask_some (h : askM many cl acc = some s) : SetIn 0 many s ∧ cuM acc s = s ∧ cl s ≠ s ∧ ∀ t, SetIn 0 many t → LecLt t s → cuM acc t = t → cl t = t := by
  obtain ⟨mid, post, e, h1, h2⟩ := find_split h
  unfold askP at h2
  rw [Bool.and_eq_true] at h2
  refine ⟨inS (by rw [e]; exact List.mem_append_right _ List.mem_cons_self), of_decide_eq_true h2.1, by simpa using h2.2, fun t ht lt hc => ?_⟩
  have pw := lecS_pw many 0
  rw [e] at pw
  have hm := inL ht
  rw [e] at hm
  rcases List.mem_append.mp hm with hm | hm
  · have := h1 t hm
    unfold askP at this
    rw [decide_eq_true hc, Bool.true_and] at this
    simpa using this
  · rcases List.mem_cons.mp hm with rfl | hm
    · exact absurd lt fun l => l.asym l
    · exact absurd ((List.pairwise_cons.mp (List.pairwise_append.mp pw).2.1).1 t hm) fun l => l.asym lt
theorem mem_closure {m : Nat} : m ∈ closureM many rows s ↔ m < many ∧ ∀ r ∈ rows, (∀ k ∈ s, k ∈ r) → m ∈ r := by
  show m ∈ commonM _ _ (havingM _ _) ↔ _
  rw [mem_common]
  refine and_congr_right fun _ => ⟨fun h r hr hs => ?_, fun h g hg => ?_⟩
  · obtain ⟨g, hg, rfl⟩ := List.getElem_of_mem hr
    have e : rows.getD g [] = rows[g] := by rw [List.getD_eq_getElem?_getD, List.getElem?_eq_getElem hg]; rfl
    rw [← e]
    exact h g (mem_having.mpr ⟨hg, fun k hk => by rw [e]; exact hs k hk⟩)
  · obtain ⟨h1, h2⟩ := mem_having.mp hg
    exact h _ (List.mem_of_getElem? (rowD rows h1)) h2
theorem broken_none {q : Imp} : brokenM rows q = none ↔ ∀ r ∈ rows, keepB r q = true := by
  unfold brokenM
  rw [List.find?_eq_none]
  refine ⟨fun h r hr => ?_, fun h g hg => ?_⟩
  · obtain ⟨g, hg, rfl⟩ := List.getElem_of_mem hr
    have := h g (List.mem_range.mpr hg)
    rw [List.getD_eq_getElem?_getD, List.getElem?_eq_getElem hg] at this
    simpa using this
  · rw [h _ (List.mem_of_getElem? (rowD rows (List.mem_range.mp hg)))]
    simp
theorem stem_keeps (rows : List (List Nat)) : ∀ r ∈ rows, keepB r (stemI (closureM many rows) s) = true := fun r hr => keep_stem.mpr fun hs k hk => (mem_closure.mp hk).2 r hr hs
end
end GF

set_option Elab.async false
set_option linter.all false
set_option maxRecDepth 100000
set_option maxHeartbeats 4000000
namespace GF
open PySem PySem.Spec PyProof.Rows L2 GX GD
/-! ## 67. what an exploration ends with -/
structure ExInv (many : Nat) (world rows : List (List Nat)) (acc : List Imp) : Prop where
  rin : ∀ r ∈ rows, SetIn 0 many r
  win : ∀ r ∈ world, SetIn 0 many r
  imp : ImpIn many acc
  rk : ∀ r ∈ rows, ∀ q ∈ acc, keepB r q = true
  wk : ∀ r ∈ world, ∀ q ∈ acc, keepB r q = true
section
variable {many : Nat} {rows world R : List (List Nat)} {acc A : List Imp} {s t : List Nat}
theorem ExInv.accept (I : ExInv many world rows acc) (hs : SetIn 0 many s) (hb : brokenM world (stemI (closureM many rows) s) = none) : ExInv many world rows (acc ++ [stemI (closureM many rows) s]) := by
  have C : ClosOp many (closureM many rows) := closure_op
  have si := stemI_in C hs
  refine ⟨I.rin, I.win, ⟨fun r hr => ?_, fun r hr => ?_⟩, fun r hr q hq => ?_, fun r hr q hq => ?_⟩
  · rcases List.mem_append.mp hr with hr | hr
    · exact I.imp.prem r hr
    · rw [List.mem_singleton.mp hr]; exact si.1
  · rcases List.mem_append.mp hr with hr | hr
    · exact I.imp.conc r hr
    · rw [List.mem_singleton.mp hr]; exact si.2
  · rcases List.mem_append.mp hq with hq | hq
    · exact I.rk r hr q hq
    · rw [List.mem_singleton.mp hq]; exact stem_keeps rows r hr
  · rcases List.mem_append.mp hq with hq | hq
    · exact I.wk r hr q hq
    · rw [List.mem_singleton.mp hq]; exact broken_none.mp hb r hr
theorem ExInv.reject (I : ExInv many world rows acc) {g : Nat} (hg : g < world.length) : ExInv many world (rows ++ [world.getD g []]) acc := by
  have hm : world.getD g [] ∈ world := List.mem_of_getElem? (rowD world hg)
  refine ⟨fun r hr => ?_, I.win, I.imp, fun r hr q hq => ?_, I.wk⟩
  · rcases List.mem_append.mp hr with hr | hr
    · exact I.rin r hr
    · rw [List.mem_singleton.mp hr]; exact I.win _ hm
  · rcases List.mem_append.mp hr with hr | hr
    · exact I.rk r hr q hq
    · rw [List.mem_singleton.mp hr]; exact I.wk _ hm q hq
theorem ask_true {cl : List Nat → List Nat} : askP cl acc s = true ↔ cuM acc s = s ∧ cl s ≠ s := by
  unfold askP
  rw [Bool.and_eq_true, decide_eq_true_eq]
  simp
structure ExEnd (many : Nat) (world rows R : List (List Nat)) (acc A : List Imp) (k : Nat) : Prop where
  inv : ExInv many world R A
  more : ∃ more, R = rows ++ more ∧ ∀ r ∈ more, r ∈ world
  none : askM many (closureM many R) A = none
  stem : ∀ i, acc = (stemM many (closureM many R)).take i → A = stemM many (closureM many R)
  grow : ∀ j, rows.length ≤ j → j < R.length → (closedM many (R.take j)).length < (closedM many (R.take (j + 1))).length
  sub : ∀ q ∈ acc, q ∈ A
  la : A.length ≤ acc.length + k
  lr : R.length ≤ rows.length + k
end
end GF

set_option Elab.async false
set_option linter.all false
set_option maxRecDepth 100000
set_option maxHeartbeats 4000000
namespace GF
open PySem PySem.Spec PyProof.Rows L2 GX GD
/-! ## 68. an exploration that began with rows of the world -/
section
variable {many n : Nat} {rows world R : List (List Nat)} {A : List Imp} {cl cl' : List Nat → List Nat}
end
end GF

set_option Elab.async false
set_option linter.all false
set_option maxRecDepth 100000
set_option maxHeartbeats 2000000
namespace GX
open PySem PySem.Spec PyProof.Rows L2 GenW RZ

/-! ## 17. enumerate(zip(t, u)), t and u tuples -/
/-- a zip, whether its tuple is out or not -/
abbrev ZipG (h : Heap) (z TI TO : Addr) (f0 : Value) (f : Bool) : Prop :=
  h.get? z = some { cls := .type "zip", dict := none, data := .fields #[f0, .bool f, .bool false, .ref TI, .ref TO], slots := #[] }
def F0Ok (f0 : Value) : Prop := f0 = .none ∨ ∃ T : Addr, f0 = rawInt T
section
variable {prog : Program} {w : World} {A : Around} {E : Value → Shared → Prop} {s : Shared}
/-! ### enumerate over it -/
/-- the zip as it stands -/
structure ZSt (h : Heap) (z TI TO i1 i2 l1 l2 : Addr) (k : Nat) : Prop where
  z : ∃ f0 f, ZipG h z TI TO f0 f ∧ F0Ok f0
  ti : IsPair h TI (.ref i1) (.ref i2)
  to : ∃ a b, IsPair h TO a b
  i1 : h.IsTupleIter i1 l1 k
  i2 : h.IsTupleIter i2 l2 k
theorem ZSt.keep {h h' : Heap} {z TI TO i1 i2 l1 l2 : Addr} {k : Nat} (Z : ZSt h z TI TO i1 i2 l1 l2 k) (kp : ∀ b, (b = z ∨ b = TI ∨ b = TO ∨ b = i1 ∨ b = i2) → ∀ o, h.get? b = some o → h'.get? b = some o) : ZSt h' z TI TO i1 i2 l1 l2 k := by
  obtain ⟨f0, f, hz, h0⟩ := Z.z
  obtain ⟨a, b, ht⟩ := Z.to
  exact ⟨⟨f0, f, kp _ (.inl rfl) _ hz, h0⟩, kp _ (.inr (.inl rfl)) _ Z.ti, ⟨a, b, kp _ (.inr (.inr (.inl rfl))) _ ht⟩, Z.i1.at fun o e => kp _ (.inr (.inr (.inr (.inl rfl)))) o e, Z.i2.at fun o e => kp _ (.inr (.inr (.inr (.inr rfl)))) o e⟩
end
end GX

set_option Elab.async false
set_option linter.all false
set_option maxRecDepth 100000
set_option maxHeartbeats 2000000
namespace GX
open PySem PySem.Spec PyProof.Rows L2 GenW RZ
end GX
namespace GD
open PySem PySem.Spec PyProof.Rows L2 GX
/-! ## 68. enumerate(zip(t, u)) -/
section
variable {X : Cx} {w : Wd} {ι : List Addr} {st : SS} {H0 : Hp} {a b : Addr} {K : PySem.W.Frag}
end
end GD

set_option Elab.async false
set_option linter.all false
set_option maxRecDepth 100000
set_option maxHeartbeats 2000000
namespace GD
open PySem PySem.Spec PyProof.Rows L2 GX
/-! ## 70. a method, with arguments, of an object that was just made; methods that call themselves -/
section
variable {X : Cx} {w : Wd} {pos apos : Pos} {o e : Expr} {es : List Expr} {cn m : Str} {k : Nat}
end
theorem MethP.mono {P : Program} {wl : World} {w : Ws} {mg : Str → Option Value} {j k : Nat} {cn x : Str} {F : List D → SS → Option D} (c : MethP P wl w mg j cn x F) (h : j ≤ k) : MethP P wl w mg k cn x F := by
  obtain ⟨C, f, fd, ps, hF, r⟩ := c.ex
  exact ⟨C, f, fd, ps, hF.mono h, r⟩
theorem DefM.none {P : Program} {wl : World} {w : Ws} {mg : Str → Option Value} {cn x q : Str} {st : Stmt} {N ps : List Str} {k : Nat} {gn : Bool} (F : DefM w cn x q st gn) (S : FnScope N ps (defScope st))
    (hb : ∀ (kV doc pm : Value) (an : Option Addr) (cdv ct : Value) (us : List Value), us.length = ps.length → bindArgs (PySem.W.fnOf x q (defArgs st) (defBody st) (defScope st) .none kV doc pm an cdv ct) ⟨us, []⟩ = pure (ps.zip us)) : MethP P wl w mg (k + 1) cn x (fun _ _ => Option.none) := by
  have q : MethX P wl w mg (k + 1) cn x (fnT N ps.length fun _ _ _ => False) := DefM.x (mg := mg) F S hb fun f c A outer s H E hr hf => PSs.mo pss_never fun E σ H ⟨_, _, _, _, _, _, h, _⟩ => h.elim
  exact q.toP fun ds st d h => by cases h
end GD

set_option Elab.async false
set_option linter.all false
set_option maxRecDepth 100000
set_option maxHeartbeats 2000000
namespace GX
open PySem PySem.Spec PyProof.Rows L2
/-! ## 15. faults: own exceptions whose __init__ hands on to their base and keeps a reason -/
section
variable {X : Cx} {e : Expr} {es : List Expr} {ta : TA} {x : Str} {C : Addr} {mc : Value} {p1 p2 pos : Pos}
/-- Base.__init__(self, ..), Base an own class that has ValueError's -/
theorem pe_cinit {pl : Sem Bool} (hg : Gl X x) (hm : X.mg x = some (.ref C)) (r : ClX.CRead X.K C mc) (at_ : PySem.W.findCls X.K (.ref C) mc "__init__" = some (.val (.builtin "ValueError.__init__"))) (ha : PA X (e :: es) ta) (hdb : (x == ("__debug__" : Str)) = false := by decide)
    (hc : eval (.Call (.Attribute (.Name x p1) "__init__" p2) (e :: es) [] pos) X.env = (do let ov ← eval (.Name x p1) X.env; standAt p2.atName; let (f, first) ← holding [ov] (getMethod ov "__init__" pl); callWith pos f first (backTo pos (starEach (e :: es) X.env)) (backToKw pos (keywordEach [] X.env))) := by rfl)
    (he : starEach (e :: es) X.env = (false, eval e X.env) :: starEach es X.env := by rfl) (hpl : (backTo pos (starEach es X.env)).any (·.1) = false := by rfl) :
    PE X (.Call (.Attribute (.Name x p1) "__init__" p2) (e :: es) [] pos) (tVeI X.K ta) := by
  refine ⟨fun pins s σ H Q I h => ?_⟩
  refine PySem.W.methodCall_KW (ld_glob I hg hm ?_ hdb) hc
  refine PySem.W.method_cls I.kIn r.ga (PySem.W.cls_value I.kIn r.rd at_ (by decide +kernel) ?_)
  show wpAny _ _ (callWith pos (Value.builtin "ValueError.__init__") [] (backTo pos (starEach (e :: es) X.env)) []) _ _ _
  refine PyProof.Rows.callWith_method1 (thn (ha.run pos pins _ σ H _ (I.tok _) h) fun us s1 ⟨vs, H1, I1, r1, a, C, ws, ev, hl, T, ea, q⟩ => ?_) he hpl
  subst ev
  cases r1 with
  | @cons _ u0 _ ur ra rw' =>
    obtain rfl : u0 = Value.ref a := ra
    have hlen : ur.length ≤ sizeLine := by rw [← Paired.length rw', sizeLine_eq]; omega
    exact oinit_ok T I1 ea hlen fun s' J => ⟨.non, H1, J, rfl, q⟩
end
/-! ### the own __init__ -/
def spInit (K : PySem.W.Frag) : Sp := fun vs H Q _ => ∃ (a C : Addr) (r : V), vs = [.ref a, r] ∧ OexC K C ∧ PySem.W.findIn K (.ref C) "reason" = some none ∧ H a = some (exo a C none) ∧ ∀ dx, H dx = none → dx ≠ a → Q .non (upd (upd H dx (exd dx [("reason", r)])) a (exo a C (some dx)))
theorem init_fn {P : Program} {wl : World} {K : PySem.W.Frag} {mg : Str → Option Value} {base : Heap} {k : Nat} {f : Addr} {qual : Str} {params : Arguments} {scope : Scope} {dV kV doc pm cdv ct oc mc : Value} {an od : Option Addr} {osl : Array (Option Value)} {bn : Str} {B : Addr}
    {p1 p2 p3 p4 p5 p6 p7 pa pb pc : Pos} (lk : K.lookup f = some ⟨oc, od, .func (PySem.W.fnOf "__init__" qual params [.Expr (.Call (.Attribute (.Name bn p1) "__init__" p2) [.Name "self" p3, .Name "reason" p4] [] pa) pb, .Assign [.Attribute (.Name "self" p5) "reason" p6] (.Name "reason" p7) pc] scope dV kV doc pm an cdv ct), osl⟩) (hcd : PySem.W.codeIn K cdv qual = true) (S : FnScope [("self" : Str), ("reason" : Str)] [("self" : Str), ("reason" : Str)] scope)
    (v0 : Vis scope "self") (v1 : Vis scope "reason") (hg : ∀ X : Cx, X.env.scope = scope → Gl X bn) (hm : mg bn = some (.ref B)) (r : ClX.CRead K B mc) (at_ : PySem.W.findCls K (.ref B) mc "__init__" = some (.val (.builtin "ValueError.__init__"))) (hbn : (bn == ("__debug__" : Str)) = false) (hln : ∀ env : Env, swapsWith (.Call (.Attribute (.Name bn p1) "__init__" p2) [.Name "self" p3, .Name "reason" p4] [] pa) none pb.line env = pure false)
    (hls : ∀ env : Env, swapsWith (.Name "reason" p7) (some (.Attribute (.Name "self" p5) "reason" p6)) pc.line env = pure false)
    (hc : ∀ env : Env, ∃ pl, eval (.Call (.Attribute (.Name bn p1) "__init__" p2) [.Name "self" p3, .Name "reason" p4] [] pa) env = (do let ov ← eval (.Name bn p1) env; standAt p2.atName; let (f, first) ← holding [ov] (getMethod ov "__init__" pl); callWith pa f first (backTo pa (starEach [.Name "self" p3, .Name "reason" p4] env)) (backToKw pa (keywordEach [] env)))) :
    FnOk P wl K mg base CX0 (k + 1) f (PySem.W.fnOf "__init__" qual params [.Expr (.Call (.Attribute (.Name bn p1) "__init__" p2) [.Name "self" p3, .Name "reason" p4] [] pa) pb, .Assign [.Attribute (.Name "self" p5) "reason" p6] (.Name "reason" p7) pc] scope dV kV doc pm an cdv ct) [("self" : Str), ("reason" : Str)] (spInit K) := by
  refine fn_of lk hcd S (fun vs H Q E ⟨a, C, r, e, _⟩ => by rw [e]; rfl) fun A outer s H vs Q E hr ⟨a, C, rv, e, T, hno, ha, hQ⟩ => ?_
  subst e
  generalize hX : cxOf CX0 P wl K mg base [("self" : Str), ("reason" : Str)] qual scope f cdv A outer s H E = X
  have xs : X.env.scope = scope := by subst hX; rfl
  have xN : X.N = [("self" : Str), ("reason" : Str)] := by subst hX; rfl
  have xK : X.K = K := by subst hX; rfl
  have xm : X.mg = mg := by subst hX; rfl
  have s0 : ∀ p, PE X (.Name "self" p) (tVar 0) := fun p => pe_var (by rw [xN]; rfl) (by rw [xs]; exact v0)
  have s1 : ∀ p, PE X (.Name "reason" p) (tVar 1) := fun p => pe_var (by rw [xN]; rfl) (by rw [xs]; exact v1)
  obtain ⟨pl, hcx⟩ := hc X.env
  have c1 := pe_cinit (X := X) (pl := pl) (p1 := p1) (p2 := p2) (pos := pa) (x := bn) (hg X xs) (by rw [xm]; exact hm) (by rw [xK]; exact r) (by rw [xK]; exact at_) (pa_cons (s0 p3) (pa_cons (s1 p4) pa_nil)) hbn hcx
  refine ⟨_, pss_cons (ps_expr c1 (hln _)) (pss_one (ps_ost (s0 p5) (s1 p7) (hls _))), ?_⟩
  refine ⟨_, rfl, _, rfl, a, C, [rv], rfl, by show 1 ≤ 1000; decide, by rw [xK]; exact T, ha, ?_⟩
  refine ⟨_, rfl, _, rfl, a, C, rfl, by rw [xK]; exact T, by rw [xK]; exact hno, .inl ⟨ha, fun dx n ne => hQ dx n ne⟩⟩
end GX

set_option Elab.async false
set_option linter.all false
set_option maxRecDepth 100000
set_option maxHeartbeats 2000000
namespace GX
open PySem PySem.Spec PyProof.Rows L2
/-! ## 16. except X as e: what is asked of e, which has a reason -/
theorem call_isED {X : Cx} {a D dd : Addr} {oe : Obj} {pn : List (Addr × Obj)} (C : ExcC X.K D) (hz : Zc (.ref D) (some dd) oe) (hf : ∃ vs, oe.data = .fields vs) : CallR (X.suite a ((a, oe) :: pn)) (.builtin "isinstance") (fun xs H Q => (∃ fs, H dd = some (.xd fs)) ∧ rIsE X.K D a xs H Q) := by
  intro pins s σ H xs us Q I r h
  obtain ⟨⟨fs, hdd⟩, c, cv, b, rfl, hcv, e, q⟩ := h
  cases r with
  | cons rx rr =>
    cases rr with
    | cons rt rr =>
      cases rr
      cases rx
      have ec := hcv _ rt
      subst ec
      obtain ⟨hget, _⟩ := I.pin (a, oe) (List.mem_append.mpr (.inl List.mem_cons_self))
      obtain ⟨vs, hv⟩ := hf
      have hx : ObjOk X.prog X.w H s.heap dd (.xd fs) := I.hok dd _ hdd
      obtain ⟨mA, hns, hr⟩ := hx
      obtain ⟨od, ho, hl⟩ := lookIn_ns hns
      have J : PySem.W.InstAt s.heap a oe D (some od) := ⟨hget, hz.1, by unfold PySem.W.notCls; rw [hv] <;> rfl, by rw [hz.2]; exact ho⟩
      obtain ⟨cd, hcd, _⟩ := PySem.W.any_some C.hd
      exact PySem.W.kia_one (PySem.W.kitx_exc (by rw [hcd]; rfl) C.hg C.hk C.hs C.ha C.hn C.ht C.hm) I.kIn J e (fun z => nomatch z) fun tk => ⟨.bl b, H, I.kept (t' := tk) fun _ _ z => z, rfl, q⟩
theorem PSs.mo' {X : Cx} {ss : List Stmt} {t t' : TS} (h : PSs X ss t) (q : ∀ D σ H, t' D σ H → t D σ H) : PSs X ss t' := ⟨fun pins s σ H D I h' => h.run pins s σ H D I (q D σ H h')⟩
theorem PSs.when {X : Cx} {ss : List Stmt} {t : TS} {P : Prop} (h : P → PSs X ss t) : PSs X ss (fun D σ H => P ∧ t D σ H) := ⟨fun pins s σ H D I q => (h q.1).run pins s σ H D I q.2⟩
end GX

set_option Elab.async false
set_option linter.all false
set_option maxRecDepth 100000
set_option maxHeartbeats 2000000
namespace GX
open PySem PySem.Spec PyProof.Rows L2
/-! ## 17. the suite that tells a fault's reason -/
def oddIf (n A : Str) (q1 q2 q3 q4 q5 q6 q7 q8 q9 q10 q11 q12 q13 q14 q15 q16 : Pos) (j1 j2 x1 : Nat) : Stmt := .If (.BoolOp .Or [.UnaryOp .Not (.Call (.Name "isinstance" q1) [.Name n q2, .Name A q3] [] q4) q5, .UnaryOp .Not (.Call (.Name "isinstance" q6) [.Name n q7, .Name "ValueError" q8] [] q9) q10] q11) [.Return (some (.Tuple [.Constant (.str "odd") j1 q12, .Constant .none j2 q13] x1 q14)) q15] [] q16
def tellRet (n : Str) (q17 q18 q19 q20 q21 : Pos) (j3 x2 : Nat) : Stmt := .Return (some (.Tuple [.Constant (.str "fault") j3 q17, .Attribute (.Name n q18) "reason" q19] x2 q20)) q21
/-- ("fault", e.reason) is handed out -/
def tFault (i : Nat) (a C : Addr) (cls : Value) (d : Option Addr) : TS := fun D σ H => (cls = .ref C ∧ ∃ dd, d = some dd) ∧ ∃ dd v, d = some dd ∧ σ[i]? = some (some (.ref a)) ∧ H dd = some (.xd [(("reason" : Str), v)]) ∧ ∀ p, H p = none → D.rt (.ref p) (upd H p (.tup [.str "fault", v]))
/-- what is asked of the classes -/
structure FltC (K : PySem.W.Frag) (C B : Addr) : Prop where
  x : ExcC K C
  f : XfC K C
  no : PySem.W.findIn K (.ref C) "reason" = some none
  kb : PySem.W.kitOne K (.ref C) (.ref B) = some true
  kv : PySem.W.kitOne K (.ref C) (.type "ValueError") = some true
theorem suite_ok {X : Cx} {i : Nat} {n A : Str} {a C B : Addr} {oe : Obj} {cls : Value} {d : Option Addr} {pn : List (Addr × Obj)} {q1 q2 q3 q4 q5 q6 q7 q8 q9 q10 q11 q12 q13 q14 q15 q16 q17 q18 q19 q20 q21 : Pos} {j1 j2 j3 x1 x2 : Nat} (F : FltC X.K C B) (hN : X.N[i]? = some n) (hv : Vis X.env.scope n)
    (hd1 : (n == ("__debug__" : Str)) = false) (hd2 : (n == ("__classdict__" : Str)) = false) (gi : Gl X "isinstance") (mi : X.mg "isinstance" = none) (gA : Gl X A) (mA : X.mg A = some (.ref B)) (dA : (A == ("__debug__" : Str)) = false) (gV : Gl X "ValueError") (mV : X.mg "ValueError" = none)
    (sA : starEach [.Name n q2, .Name A q3] X.env = (false, eval (.Name n q2) X.env) :: starEach [.Name A q3] X.env) (sA2 : starEach [.Name A q3] X.env = (false, eval (.Name A q3) X.env) :: starEach [] X.env) (pA : (backTo q4 (starEach [.Name A q3] X.env)).any (·.1) = false)
    (sV : starEach [.Name n q7, .Name "ValueError" q8] X.env = (false, eval (.Name n q7) X.env) :: starEach [.Name "ValueError" q8] X.env) (sV2 : starEach [.Name "ValueError" q8] X.env = (false, eval (.Name "ValueError" q8) X.env) :: starEach [] X.env) (pV : (backTo q9 (starEach [.Name "ValueError" q8] X.env)).any (·.1) = false)
    (hat : attributeBase (.Name n q18) "reason" X.env (eval (.Name n q18) X.env) = eval (.Name n q18) X.env) (hz : Zc cls d oe) (hf : ∃ vs, oe.data = .fields vs) :
    PSs (X.suite a ((a, oe) :: pn)) [oddIf n A q1 q2 q3 q4 q5 q6 q7 q8 q9 q10 q11 q12 q13 q14 q15 q16 j1 j2 x1, tellRet n q17 q18 q19 q20 q21 j3 x2] (tFault i a C cls d) := by
  refine PSs.when fun ⟨ec, dd, ed⟩ => ?_
  subst ec ed
  have vn : ∀ q, PE (X.suite a ((a, oe) :: pn)) (.Name n q) (tVar i) := fun q => pe_var hN hv hd1 hd2
  have cA := pe_callB (X := X.suite a ((a, oe) :: pn)) (p := q1) (pos := q4) (call_isED F.x hz hf) gi mi (by decide +kernel) (pa_cons (vn q2) (pa_cons (pe_glob (pos := q3) (v := .ref B) gA mA rfl dA) pa_nil sA2) sA) (he := sA) (hpl := pA)
  have cV := pe_callB (X := X.suite a ((a, oe) :: pn)) (p := q6) (pos := q9) (call_isED F.x hz hf) gi mi (by decide +kernel) (pa_cons (vn q7) (pa_cons (pe_bltn (pos := q8) (v := .ty "ValueError") (u := .type "ValueError") gV mV (by decide +kernel) rfl) pa_nil sV2) sV) (he := sV) (hpl := pV)
  have xr := pe_xf (X := X) (a := a) (pn := pn) (pos := q19) F.f F.no hz hf (vn q18) hat
  refine PSs.mo' (pss_cons (ps_if (PW.pt (pw_or (pt_not (pt_val cA)) (pw_or1 (pt_not (pt_val cV))))) (pss_one (ps_ret (pe_tup (pa_cons pe_str (pa_cons pe_non pa_nil))))) pss_nil) (pss_one (ps_ret (pe_tup (pa_cons pe_str (pa_cons xr pa_nil)))))) fun D σ H h => ?_
  obtain ⟨dd', v, e1, hσ, hx, hR⟩ := h
  cases e1
  refine ⟨_, hσ, ⟨⟨_, hx⟩, .ref B, .ref B, true, rfl, fun u r => r, F.kb, true, rfl, ?_⟩⟩
  refine ⟨_, hσ, ⟨⟨_, hx⟩, .ty "ValueError", .type "ValueError", true, rfl, fun u r => r, F.kv, true, rfl, ?_⟩⟩
  refine ⟨_, hσ, rfl, rfl, dd, _, v, rfl, hx, rfl, by rw [sizeLine_eq]; show 2 ≤ _; decide, fun p hp => hR p hp⟩
end GX

set_option Elab.async false
set_option linter.all false
set_option maxRecDepth 100000
set_option maxHeartbeats 2000000
namespace GD
open PySem PySem.Spec PyProof.Rows L2 GX
/-! ## 73. faults: statements and methods that may end in an exception with a reason -/
/-- what is wanted where a fault of the class named is raised for a reason -/
abbrev EXC := Str → D → SS → Prop
abbrev XSE := EXC → XS
abbrev XPE := EXC → XP
abbrev XAE := EXC → XA
abbrev XTE := List D → SS → (D → SS → Prop) → EXC → Prop
def ExK (w : Ws) (E : XK) (ι : List Addr) (H : Hp) (Ex : EXC) : Prop := ∀ c r st' ι' C dd H' v, Ex c r st' → Gr ι H ι' H' → SR w ι' st' H' → w.cls c = some C → H' dd = some (.xd [(("reason" : Str), v)]) → Rep ι' H' v r → dd ∉ ι' → E (.ref C) (some dd) H'
theorem ExK.gr {w : Ws} {E : XK} {ι ι1 : List Addr} {H H1 : Hp} {Ex : EXC} (e : ExK w E ι H Ex) (g : Gr ι H ι1 H1) : ExK w E ι1 H1 Ex := fun c r st' ι' C dd H' v h k s hc hd hr hn => e c r st' ι' C dd H' v h (g.trans k) s hc hd hr hn
theorem ExK.mo {w : Ws} {E : XK} {ι : List Addr} {H : Hp} {Ex Ex' : EXC} (e : ExK w E ι H Ex) (q : ∀ c r st, Ex' c r st → Ex c r st) : ExK w E ι H Ex' := fun c r st' ι' C dd H' v h k s hc hd hr hn => e c r st' ι' C dd H' v (q _ _ _ h) k s hc hd hr hn
def allK (W : WX) : XK := fun cls d H' => ∀ σ', W cls d σ' H'
def tSE (w : Wd) (W : WX) (t : XSE) : TS := fun E σ H => ∃ ι env st D0 Ex, EnvR w ι env σ H ∧ SR w.s ι st H ∧ t Ex D0 env st ∧ EndOk w ι H D0 E ∧ ExK w.s (allK W) ι H Ex
def tXE (w : Wd) (W : WX) (t : XPE) : TE := fun σ H Q => ∃ ι env st R Ex, EnvR w ι env σ H ∧ SR w.s ι st H ∧ t Ex env st R ∧ (∀ d st' ι' v H', R d st' → Gr ι H ι' H' → Rep ι' H' v d → SR w.s ι' st' H' → Q v H') ∧ ExK w.s (allK W) ι H Ex
def tXAE (w : Wd) (W : WX) (t : XAE) : TA := fun σ H Q => ∃ ι env st R Ex, EnvR w ι env σ H ∧ SR w.s ι st H ∧ t Ex env st R ∧ (∀ ds st' ι' vs H', R ds st' → Gr ι H ι' H' → Reps ι' H' vs ds → SR w.s ι' st' H' → Q vs H') ∧ ExK w.s (allK W) ι H Ex
section
variable {X : Cx} {w : Wd} {W : WX} {pos : Pos} {s : Stmt} {rest : List Stmt} {e : Expr} {es : List Expr}
theorem de_lift {t : XS} (h : PS X s (tS w t)) : PS X s (tSE w W fun _ => t) := PS.mo h fun E σ H ⟨ι, env, st, D0, _, he, hs, ht, hE, _⟩ => ⟨ι, env, st, D0, he, hs, ht, hE⟩
theorem des_lift {ss : List Stmt} {t : XS} (h : PSs X ss (tS w t)) : PSs X ss (tSE w W fun _ => t) := PSs.mo h fun E σ H ⟨ι, env, st, D0, _, he, hs, ht, hE, _⟩ => ⟨ι, env, st, D0, he, hs, ht, hE⟩
theorem dee_lift {t : XP} (h : PE X e (tX w t)) : PE X e (tXE w W fun _ => t) := PE.mo h fun σ H Q ⟨ι, env, st, R, _, he, hs, ht, q, _⟩ => ⟨ι, env, st, R, he, hs, ht, q⟩
theorem dea_lift {t : XA} (h : PA X es (tXA w t)) : PA X es (tXAE w W fun _ => t) := PA.mo h fun σ H Q ⟨ι, env, st, R, _, he, hs, ht, q, _⟩ => ⟨ι, env, st, R, he, hs, ht, q⟩
def sSeqE (t u : XSE) : XSE := fun Ex => sSeq (t Ex) (u Ex)
def sIfE (m : XB) (t u : XSE) : XSE := fun Ex => sIf m (t Ex) (u Ex)
def sRetE (m : XPE) : XSE := fun Ex => sRet (m Ex)
def xTupE (r : XAE) : XPE := fun Ex => xTup (r Ex)
def xConsE (m : XPE) (r : XAE) : XAE := fun Ex => xCons (m Ex) (r Ex)
theorem de_cons {t u : XSE} (h1 : PS X s (tSE w W t)) (h2 : PSs X rest (tSE w W u)) : PSs X (s :: rest) (tSE w W (sSeqE t u)) :=
  PSs.mo (pss_cons h1 h2) fun E σ H ⟨ι, env, st, D0, Ex, he, hs, ht, hE, hX⟩ => ⟨ι, env, st, _, Ex, he, hs, ht, ⟨fun env1 st1 ι1 σ1 H1 h g r s => ⟨ι1, env1, st1, D0, Ex, r, s, h, hE.gr g, hX.gr g⟩, hE.rt, hE.bk, hE.ct⟩, hX⟩
theorem de_one {t : XSE} (h1 : PS X s (tSE w W t)) : PSs X [s] (tSE w W t) := pss_one h1
theorem de_if {m : XB} {c : Expr} {sa sb : List Stmt} {t u : XSE} (hc : PT X c (tXB w m)) (ha : PSs X sa (tSE w W t)) (hb : PSs X sb (tSE w W u)) : PS X (.If c sa sb pos) (tSE w W (sIfE m t u)) :=
  PS.mo (ps_if hc ha hb) fun E σ H ⟨ι, env, st, D0, Ex, he, hs, ht, hE, hX⟩ => ⟨ι, env, st, _, he, hs, ht, fun b st1 ι1 H1 h g s => by
    cases b with
    | true => exact iteT ⟨ι1, env, st1, D0, Ex, he.gr g, s, by simpa using h, hE.gr g, hX.gr g⟩
    | false => exact iteF ⟨ι1, env, st1, D0, Ex, he.gr g, s, by simpa using h, hE.gr g, hX.gr g⟩⟩
theorem de_ret {m : XPE} (he : PE X e (tXE w W m)) : PS X (.Return (some e) pos) (tSE w W (sRetE m)) := PS.mo (ps_ret he) fun E σ H ⟨ι, env, st, D0, Ex, he, hs, ht, hE, hX⟩ => ⟨ι, env, st, D0.rt, Ex, he, hs, ht, hE.rt, hX⟩
theorem dae_nil : PA X [] (tXAE w W fun _ => xNil) := dea_lift dxa_nil
theorem dae_cons {m : XPE} {r : XAE} (ha : PE X e (tXE w W m)) (hr : PA X es (tXAE w W r)) (hs : starEach (e :: es) X.env = (false, eval e X.env) :: starEach es X.env := by rfl) : PA X (e :: es) (tXAE w W (xConsE m r)) :=
  PA.mo (pa_cons ha hr hs) fun σ H Q ⟨ι, env, st, R, Ex, he, hst, hm, q, hX⟩ => ⟨ι, env, st, _, Ex, he, hst, hm, fun d st1 ι1 v H1 h1 g1 r1 s1 => ⟨ι1, env, st1, _, Ex, he.gr g1, s1, h1, fun ds st2 ι2 vs H2 h2 g2 r2 s2 => q (d :: ds) st2 ι2 (v :: vs) H2 h2 (g1.trans g2) (.cons (r1.gr g2) r2) s2, hX.gr g1⟩, hX⟩
theorem dee_tup {r : XAE} {x1 : Nat} (h : PA X es (tXAE w W r)) : PE X (.Tuple es x1 pos) (tXE w W (xTupE r)) := by
  refine PE.mo (pe_tup h) fun σ H Q ⟨ι, env, st, R, Ex, he, hst, hm, q, hX⟩ => ⟨ι, env, st, _, Ex, he, hst, hm, fun ds st1 ι1 vs H1 h1 g1 r1 s1 => ⟨by rw [r1.length]; exact small_size h1.1, fun p hp => ?_⟩, hX⟩
  exact q _ st1 ι1 _ _ h1.2 (g1.trans (.of (Kp.new hp))) (.tup upd_same (small_size h1.1) (r1.kp (Kp.new hp))) (s1.new hp (fun _ z => by cases z) (nin_of s1 hp))
/-! ### raise -/
def sRaise (c : Str) (m : XP) : XSE := fun Ex _ env st => xCons m xNil env st fun ds st1 => ∃ d, ds = [d] ∧ Ex c d st1
theorem de_raise {c : Str} {C : Addr} {m : XP} (hc : X.calm = true) (tk : Takes X W) (hC : w.s.cls c = some C) (T : OexC X.K C) (hno : PySem.W.findIn X.K (.ref C) "reason" = some none) (he : PMk X e (tMkO C (spInit X.K) [] (tXA w (xCons m xNil)))) : PS X (.Raise (some e) none pos) (tSE w W (sRaise c m)) :=
  PS.mo (ps_raise hc tk he) fun E σ H ⟨ι, env, st, D0, Ex, he, hs, ht, hE, hX⟩ => by
    refine ⟨ι, env, st, fun ds st1 => ∃ d, ds = [d] ∧ Ex c d st1, he, hs, ht, fun ds st1 ι1 vs H1 ⟨d, ed, hd⟩ g1 r1 s1 => ?_⟩
    · subst ed
      cases r1 with
      | cons r2 r3 =>
        cases r3
        rename_i v
        refine ⟨by show 1 ≤ 1000; decide, fun a ha => ⟨a, C, v, rfl, T, hno, upd_same, fun dx n ne => ⟨rfl, dx, [("reason", v)], upd_same, ?_, ?_, ?_⟩⟩⟩
        · rw [upd_ne ne, upd_same]
        · rw [upd_ne ne] at n
          exact n
        · have n' : H1 dx = none := by rw [upd_ne ne] at n; exact n
          have eH : upd (del (upd (upd (upd H1 a (exo a C none)) dx (exd dx [("reason", v)])) a (exo a C (some dx))) a) dx (.xd [("reason", v)]) = upd H1 dx (.xd [("reason", v)]) := by
            funext b
            by_cases hb : b = dx
            · rw [hb, upd_same, upd_same]
            · rw [upd_ne hb, upd_ne hb]
              by_cases hb2 : b = a
              · rw [hb2, del_same, ha]
              · rw [del_ne hb2, upd_ne hb2, upd_ne hb, upd_ne hb2]
          rw [eH]
          have kp : Kp ι1 H1 (upd H1 dx (.xd [("reason", v)])) := Kp.new n'
          have := hX c d st1 ι1 C dx (upd H1 dx (.xd [("reason", v)])) v hd (g1.trans (.of kp)) (s1.new n' (fun _ z => by cases z) (nin_of s1 n')) hC upd_same (r2.kp kp) (nin_of s1 n')
          exact this σ
/-! ### methods -/
def spE (w : Ws) (T : XTE) : Sp := fun vs H Q E => ∃ ι st ds R Ex, Reps ι H vs ds ∧ SR w ι st H ∧ T ds st R Ex ∧ (∀ d st' ι' v H', R d st' → Gr ι H ι' H' → Rep ι' H' v d → SR w ι' st' H' → Q v H') ∧ ExK w E ι H Ex
def fnTE (N : List Str) (n : Nat) (t : XSE) : XTE := fun ds st R Ex => ds.length = n ∧ t Ex { nx := fun _ st' => R .non st', rt := R } (startE N ds) st
structure MethE (P : Program) (wl : World) (w : Ws) (mg : Str → Option Value) (k : Nat) (cn x : Str) (T : XTE) : Prop where
  ex : ∃ (C f : Addr) (fd : FuncData) (ps : List Str), FnOk P wl w.K mg w.base (L2.CX P wl) k f fd ps (spE w T) ∧ w.cls cn = some C ∧ Cls w.K C ∧ Meth w.K C x f ∧ Binds w.K fd ps []
theorem MethE.imp {P : Program} {wl : World} {w : Ws} {mg : Str → Option Value} {k : Nat} {cn x : Str} {T T' : XTE} (c : MethE P wl w mg k cn x T) (h : ∀ ds st R Ex, T' ds st R Ex → T ds st R Ex) : MethE P wl w mg k cn x T' := by
  obtain ⟨C, f, fd, ps, hF, h1, h2, h3, h4⟩ := c.ex
  exact ⟨C, f, fd, ps, hF.imp fun vs H Q E ⟨ι, st, ds, R, Ex, r, s, ht, q⟩ => ⟨ι, st, ds, R, Ex, r, s, h _ _ _ _ ht, q⟩, h1, h2, h3, h4⟩
theorem MethE.mono {P : Program} {wl : World} {w : Ws} {mg : Str → Option Value} {j k : Nat} {cn x : Str} {T : XTE} (c : MethE P wl w mg j cn x T) (h : j ≤ k) : MethE P wl w mg k cn x T := by
  obtain ⟨C, f, fd, ps, hF, r⟩ := c.ex
  exact ⟨C, f, fd, ps, hF.mono h, r⟩
/-- the body of a method that may end in a fault -/
theorem DefM.xe {P : Program} {wl : World} {w : Ws} {mg : Str → Option Value} {cn x q : Str} {st : Stmt} {N ps : List Str} {k : Nat} {t : XSE} {gn : Bool} (F : DefM w cn x q st gn) (S : FnScope N ps (defScope st))
    (hb : ∀ (kV doc pm : Value) (an : Option Addr) (cdv ct : Value) (us : List Value), us.length = ps.length → bindArgs (PySem.W.fnOf x q (defArgs st) (defBody st) (defScope st) .none kV doc pm an cdv ct) ⟨us, []⟩ = pure (ps.zip us))
    (hbody : ∀ (f c : Addr) (A : Around) (outer : List Env) (s : Shared) (H : Hp) (E : XK) (X : Cx), X = cxOf (L2.CX P wl) P wl w.K mg w.base N q (defScope st) f (.ref c) A outer s H E → Room k X.A → Fit X ⟨w, c, [], [], [], gn⟩ → Takes X (fun cls d _ H => E cls d H) →
      PSs X (defBody st) (tSE ⟨w, c, [], [], [], gn⟩ (fun cls d _ H => E cls d H) t)) : MethE P wl w mg (k + 1) cn x (fnTE N ps.length t) := by
  obtain ⟨C, f, c, fd, ⟨oc, od, kV, doc, pm, an, ct, osl, rfl, lk, hcd⟩, hC, hcl, hM, hT⟩ := F.ex
  refine ⟨C, f, _, ps, fn_of lk hcd S (fun vs H Q E ⟨ι, st, ds, R, Ex, r, s, h, q⟩ => by rw [r.length]; exact h.1) fun A outer s H vs Q E hr ⟨ι, st, ds, R, Ex, r, s', h, q, hX⟩ => ⟨_, hbody f c A outer s H E _ rfl hr ⟨rfl, rfl, rfl⟩ (takes_of rfl rfl rfl rfl), ?_⟩, hC, hcl, hM, .all (hb kV doc pm an (.ref c) ct)⟩
  exact ⟨ι, startE N ds, st, _, Ex, start_env r N (fun hg => let ⟨Pt, ht, hh⟩ := hT hg; ⟨Pt, .inl hh, s'.tab _ ht⟩), s', h.2, ⟨fun env st' ι' σ H' h g r s => q .non st' ι' .non H' h g .non s, fun d st' ι' v H' h g r s => q d st' ι' v H' h g r s, fun _ _ _ _ _ h _ _ _ => h.elim, fun _ _ _ _ _ h _ _ _ => h.elim⟩, fun c r st' ι' C dd H' v h k s hc hd hr hn σ' => hX c r st' ι' C dd H' v h k s hc hd hr hn⟩
section
variable {o : Expr} {m cn : Str} {apos : Pos} {mo : MP} {k : Nat}
/-- o.m(..), which may end in a fault -/
def xMethE (cn m : Str) (mo : MP) (T : XTE) (r : XA) : XPE := fun Ex env st R => ∃ n fs, mo env st = some (.ref n) ∧ st[n]? = some (.obj cn fs) ∧ noFld m fs = true ∧ r env st fun ds st1 => T (.ref n :: ds) st1 R Ex
theorem methE_read {T : XTE} {r : XA} {C : Addr} (hC : w.s.cls cn = some C) (σ : L2.St) (H : Hp) (Q : VK) : tXE w W (xMethE cn m mo T r) σ H Q → tMeth C m (spE w.s T) [] (allK W) (tP w mo) (tXA w r) σ H Q := by
  rintro ⟨ι, env, st, R, Ex, hen, hst, ⟨n, fs, e1, e2, hno, hr⟩, q, hX⟩
  refine ⟨ι, env, st, _, hen, hst, e1, fun y H1 k1 r1 s1 => ?_⟩
  cases r1 with
  | ref hi =>
    obtain ⟨C', dx, vs, h1, h2, pr⟩ := s1.cell _ _ _ hi e2
    rw [hC] at h2
    cases h2
    refine ⟨_, dx, vs, rfl, h1, no_look pr hno, ι, env, st, _, hen.kp k1, s1, hr, fun ds st2 ι2 ws H2 ht g2 r2 s2 => ?_⟩
    show spE w.s T (V.ref _ :: (ws ++ [])) H2 Q (allK W)
    rw [List.append_nil]
    exact ⟨ι2, st2, _, R, Ex, .cons (.ref (pre_get g2.pre hi)) r2, s2, ht, fun d st' ι' v H' h g r s => q d st' ι' v H' h ((Gr.of k1).trans (g2.trans g)) r s, hX.gr ((Gr.of k1).trans g2)⟩
theorem dee_meth {pl : Sem Bool} {T : XTE} {r : XA} (hf : Fit X w) (tk : Takes X W) (c : MethE X.prog X.w w.s X.mg k cn m T) (hr : Room k X.A) (he : PE X o (tP w mo)) (ha : PA X (e :: es) (tXA w r))
    (hst : starEach (e :: es) X.env = (false, eval e X.env) :: starEach es X.env := by rfl) (hpl : (backTo pos (starEach es X.env)).any (·.1) = false := by rfl)
    (ht : eval (.Call (.Attribute o m apos) (e :: es) [] pos) X.env = (eval o X.env >>= fun ov => standAt apos.atName >>= fun _ => holding [ov] (getMethod ov m pl) >>= fun z => callWith pos z.1 z.2 (backTo pos (starEach (e :: es) X.env)) (backToKw pos (keywordEach [] X.env))) := by rfl) : PE X (.Call (.Attribute o m apos) (e :: es) [] pos) (tXE w W (xMethE cn m mo T r)) := by
  obtain ⟨C, f, fd, ps, hF, hC, hcl, hM, hb⟩ := c.ex
  rw [← hf.k, ← hf.b] at hF
  rw [← hf.k] at hcl hM hb
  exact PE.mo (pe_meth (pl := pl) (E := allK W) he hcl hM hF hr hb .nil (passes_call tk fun cls d σ H h => h σ) ha hst hpl ht) (methE_read hC)
end
end
end GD

set_option Elab.async false
set_option linter.all false
set_option maxRecDepth 100000
set_option maxHeartbeats 2000000
namespace GD
open PySem PySem.Spec PyProof.Rows L2 GX
/-! ## 74. try: .. except X as e: the reason is told -/
def guardW (n : Nat) (W : WX) : WX := fun cls d σ H => σ.length = n → W cls d σ H
theorem takes_guard {X : Cx} {W : WX} (tk : Takes X W) : Takes X (guardW X.N.length W) := fun u s' ⟨a, B, sI, pins, σ, H, cls, d, e, I, h1, h2, h3, h4, h5, h6, h7⟩ => tk u s' ⟨a, B, sI, pins, σ, H, cls, d, e, I, h1, h2, h3, h4, h5, h6, h7 I.len⟩
def sTry (c : Str) (t : XSE) : XS := fun D0 env st => t (fun c' r st' => c' = c ∧ D0.rt (.tup [.str "fault", r]) st') D0 env st
section
variable {X : Cx} {w : Wd} {x n : Str} {C : Addr} {i : Nat} {body suite : List Stmt} {b₀ : Stmt} {np pos pos' : Pos} {t : XSE}
theorem ds_try (hs : X.stack = X.env :: X.outer) (hf : X.env.frame = some X.env.locals) (hN : X.N.Nodup) (hi : X.N[i]? = some n) (hln : X.env.kindOf n = some .local) (hc : Names X x (.ref C)) (hC : w.s.cls x = some C) (hm : PySem.W.exmOne X.K (.ref C) (.ref C) = some true)
    (hb : ∀ (W : WX) (pn : List (Addr × Obj)) (xe : Value → Shared → Prop), Takes (X.tr pn xe) W → PSs (X.tr pn xe) body (tSE w W t))
    (hsu : ∀ (a : Addr) (oe : Obj) (cls : Value) (d : Option Addr) (pn : List (Addr × Obj)), Zc cls d oe → (∃ vs, oe.data = .fields vs) → PSs (X.suite a ((a, oe) :: pn)) (b₀ :: suite) (tFault i a C cls d)) :
    PS X (.Try body [.ExceptHandler (some (.Name x np)) (some n) (b₀ :: suite) pos'] [] [] pos) (tS w (sTry x t)) := by
  refine PS.mo (ps_try_as (tb := fun W => tSE w (guardW X.N.length W) t) (Wout := fun _ _ _ _ => False) hs hf hN hi hln hc (fun _ _ ⟨_, _, _, _, _, _, _, _, _, _, _, _, _, _, _, _, w⟩ => w.elim) (fun W pn xe tk _ => hb _ pn xe (takes_guard (X := X.tr pn xe) tk)) hsu) fun E σ H ⟨ι, env, st, D0, he, hst, ht, hE⟩ => ?_
  refine ⟨ι, env, st, D0, _, he, hst, ht, hE, fun c r st' ι' C' dd H' v h g s hc' hd hr hn σ' hl => ?_⟩
  obtain ⟨ec, hrt⟩ := h
  subst ec
  rw [hC] at hc'
  cases hc'
  refine ⟨true, hm, fun _ a ha => ⟨⟨rfl, dd, rfl⟩, dd, v, rfl, ?_, hd, fun p hp => ?_⟩, fun z => by cases z⟩
  · exact List.getElem?_set_self (by rw [hl]; exact (List.getElem?_eq_some_iff.mp hi).1)
  · exact hE.rt _ st' ι' _ _ hrt (g.trans (.of (Kp.new hp))) (.tup upd_same (by rw [sizeLine_eq]; show 2 ≤ _; decide) (.cons (.str _) (.cons (hr.kp (Kp.new hp)) .nil))) (s.new hp (fun _ z => by cases z) (nin_of s hp))
end
end GD

set_option Elab.async false
set_option linter.all false
set_option maxRecDepth 100000
set_option maxHeartbeats 2000000
namespace GD
open PySem PySem.Spec PyProof.Rows L2 GX
/-! ## 75. what the text's own faults promise -/
structure FltD (P : Program) (wl : World) (w : Ws) (mg : Str → Option Value) (k : Nat) (cn bn : Str) : Prop where
  ex : ∃ (C B fI : Addr) (fd : FuncData), FnOk P wl w.K mg w.base CX0 k fI fd [("self" : Str), ("reason" : Str)] (spInit w.K) ∧ Binds w.K fd [("self" : Str), ("reason" : Str)] [] ∧ w.cls cn = some C ∧ mg cn = some (.ref C) ∧ mg bn = some (.ref B) ∧ OexC w.K C ∧ FltC w.K C B ∧
    PySem.W.findIn w.K (.ref C) "__init__" = some (some (.ref fI)) ∧ PySem.W.typeIn w.K (.ref fI) = some (.type "function") ∧ PySem.W.exmOne w.K (.ref C) (.ref C) = some true
theorem FltD.mono {P : Program} {wl : World} {w : Ws} {mg : Str → Option Value} {j k : Nat} {cn bn : Str} (c : FltD P wl w mg j cn bn) (h : j ≤ k) : FltD P wl w mg k cn bn := by
  obtain ⟨C, B, fI, fd, F, r⟩ := c.ex
  exact ⟨C, B, fI, fd, F.mono h, r⟩
theorem psNox {X : Cx} {s : Stmt} {t : TS} (h : PS X.nox s t) : PS X s t := ⟨fun pins s σ H D I hw => wpAny_mono (h.run pins s σ H D (I.wish _) hw) (fun _ _ q => q.unwish) fun _ _ z => False.elim z⟩
theorem fit_nox {X : Cx} {w : Wd} (hf : Fit X w) : Fit X.nox w := ⟨hf.k, hf.b, hf.c⟩
theorem fit_tr {X : Cx} {w : Wd} {pn : List (Addr × Obj)} {xe : Value → Shared → Prop} (hf : Fit X w) : Fit (X.tr pn xe) w := ⟨hf.k, hf.b, hf.c⟩
section
variable {X : Cx} {w : Wd} {W : WX} {p q pos : Pos} {e : Expr} {cn bn : Str} {k : Nat} {m : XP}
/-- raise X(reason) -/
theorem de_raiseF (hf : Fit X w) (F : FltD X.prog X.w w.s X.mg k cn bn) (hr : Room (k + 1) X.A) (hc : X.calm = true) (tk : Takes X W) (hg : Gl X cn) (he : PE X e (tX w m)) (hdb : (cn == ("__debug__" : Str)) = false := by decide) (hst : starEach [e] X.env = (false, eval e X.env) :: starEach [] X.env := by rfl) (hpl : (backTo q (starEach [] X.env)).any (·.1) = false := by rfl) :
    PS X (.Raise (some (.Call (.Name cn p) [e] [] q)) none pos) (tSE w W (sRaise cn m)) := by
  obtain ⟨C, B, fI, fd, hF, hb, hC, hm, _, T, FC, iC, tI, _⟩ := F.ex
  rw [← hf.k, ← hf.b] at hF
  rw [← hf.k] at hb T FC iC tI
  exact de_raise hc tk hC T FC.no (pmk_oex T iC tI hF hr hb .nil pass0 hg hm (dxa_cons he dxa_nil hst) hdb hst hpl)
theorem ds_tryF {n : Str} {i : Nat} {body : List Stmt} {np pos' q1 q2 q3 q4 q5 q6 q7 q8 q9 q10 q11 q12 q13 q14 q15 q16 q17 q18 q19 q20 q21 : Pos} {j1 j2 j3 x1 x2 : Nat} {t : XSE} (hf : Fit X w) (F : FltD X.prog X.w w.s X.mg k cn bn) (hN : X.N.Nodup) (gx : Gl X cn) (gi : Gl X "isinstance") (mi : X.mg "isinstance" = none) (gA : Gl X bn) (gV : Gl X "ValueError") (mV : X.mg "ValueError" = none)
    (hb : ∀ (W : WX) (pn : List (Addr × Obj)) (xe : Value → Shared → Prop), Takes (X.tr pn xe) W → PSs (X.tr pn xe) body (tSE w W t))
    (hi : X.N[i]? = some n := by rfl) (hln : X.env.kindOf n = some .local := by rfl) (hv : Vis X.env.scope n := by exact Or.inl rfl) (hs : X.stack = X.env :: X.outer := by rfl) (hfr : X.env.frame = some X.env.locals := by rfl) (hd1 : (n == ("__debug__" : Str)) = false := by decide) (hd2 : (n == ("__classdict__" : Str)) = false := by decide) (dx : (cn == ("__debug__" : Str)) = false := by decide) (dA : (bn == ("__debug__" : Str)) = false := by decide)
    (sA : starEach [.Name n q2, .Name bn q3] X.env = (false, eval (.Name n q2) X.env) :: starEach [.Name bn q3] X.env := by rfl) (sA2 : starEach [.Name bn q3] X.env = (false, eval (.Name bn q3) X.env) :: starEach [] X.env := by rfl) (pA : (backTo q4 (starEach [.Name bn q3] X.env)).any (·.1) = false := by rfl)
    (sV : starEach [.Name n q7, .Name "ValueError" q8] X.env = (false, eval (.Name n q7) X.env) :: starEach [.Name "ValueError" q8] X.env := by rfl) (sV2 : starEach [.Name "ValueError" q8] X.env = (false, eval (.Name "ValueError" q8) X.env) :: starEach [] X.env := by rfl) (pV : (backTo q9 (starEach [.Name "ValueError" q8] X.env)).any (·.1) = false := by rfl)
    (hat : attributeBase (.Name n q18) "reason" X.env (eval (.Name n q18) X.env) = eval (.Name n q18) X.env := by rfl) :
    PS X (.Try body [.ExceptHandler (some (.Name cn np)) (some n) [oddIf n bn q1 q2 q3 q4 q5 q6 q7 q8 q9 q10 q11 q12 q13 q14 q15 q16 j1 j2 x1, tellRet n q17 q18 q19 q20 q21 j3 x2] pos'] [] [] pos) (tS w (sTry cn t)) := by
  obtain ⟨C, B, fI, fd, hF, hbd, hC, hm, hmB, T, FC, iC, tI, ex⟩ := F.ex
  rw [← hf.k] at FC ex
  exact ds_try hs hfr hN hi hln ⟨gx, dx, .inl hm⟩ hC ex hb fun a oe cls d pn hz hfd => suite_ok FC hi hv hd1 hd2 gi mi gA hmB dA gV mV sA sA2 pA sV sV2 pV hat hz hfd
end
end GD

set_option Elab.async false
set_option linter.all false
set_option maxRecDepth 100000
set_option maxHeartbeats 2000000
namespace GD
open PySem PySem.Spec PyProof.Rows L2 GX
/-! ## 76. a fault's class, from what the machine has laid -/
theorem flt_of {P : Program} {wl : World} {w : Ws} {mg : Str → Option Value} {cn bn q : Str} {st : Stmt} {C B fI c : Addr} {fd : FuncData} {mc : Value} {p1 p2 p3 p4 p5 p6 p7 pa pb pc : Pos} (FM : FunM w.K "__init__" q st fI c fd)
    (hbody : defBody st = [.Expr (.Call (.Attribute (.Name bn p1) "__init__" p2) [.Name "self" p3, .Name "reason" p4] [] pa) pb, .Assign [.Attribute (.Name "self" p5) "reason" p6] (.Name "reason" p7) pc]) (S : FnScope [("self" : Str), ("reason" : Str)] [("self" : Str), ("reason" : Str)] (defScope st))
    (hb : ∀ (kV doc pm : Value) (an : Option Addr) (cdv ct : Value) (us : List Value), us.length = 2 → bindArgs (PySem.W.fnOf "__init__" q (defArgs st) (defBody st) (defScope st) .none kV doc pm an cdv ct) ⟨us, []⟩ = pure ([("self" : Str), ("reason" : Str)].zip us))
    (v0 : Vis (defScope st) "self") (v1 : Vis (defScope st) "reason") (hg : ∀ X : Cx, X.env.scope = defScope st → Gl X bn) (hbn : (bn == ("__debug__" : Str)) = false) (hln : ∀ env : Env, swapsWith (.Call (.Attribute (.Name bn p1) "__init__" p2) [.Name "self" p3, .Name "reason" p4] [] pa) none pb.line env = pure false)
    (hls : ∀ env : Env, swapsWith (.Name "reason" p7) (some (.Attribute (.Name "self" p5) "reason" p6)) pc.line env = pure false)
    (hc : ∀ env : Env, ∃ pl, eval (.Call (.Attribute (.Name bn p1) "__init__" p2) [.Name "self" p3, .Name "reason" p4] [] pa) env = (do let ov ← eval (.Name bn p1) env; standAt p2.atName; let (f, first) ← holding [ov] (getMethod ov "__init__" pl); callWith pa f first (backTo pa (starEach [.Name "self" p3, .Name "reason" p4] env)) (backToKw pa (keywordEach [] env))))
    (hC : w.cls cn = some C) (hm : mg cn = some (.ref C)) (hmB : mg bn = some (.ref B)) (r : ClX.CRead w.K B mc) (at_ : PySem.W.findCls w.K (.ref B) mc "__init__" = some (.val (.builtin "ValueError.__init__"))) (T : OexC w.K C) (FC : FltC w.K C B)
    (iC : PySem.W.findIn w.K (.ref C) "__init__" = some (some (.ref fI))) (tI : PySem.W.typeIn w.K (.ref fI) = some (.type "function")) (ex : PySem.W.exmOne w.K (.ref C) (.ref C) = some true) : FltD P wl w mg 1 cn bn := by
  obtain ⟨oc, od, kV, doc, pm, an, ct, osl, rfl, lk, hcd⟩ := FM.ex
  refine ⟨C, B, fI, _, ?_, .all fun us hl => hb kV doc pm an (.ref c) ct us hl, hC, hm, hmB, T, FC, iC, tI, ex⟩
  rw [hbody] at lk ⊢
  exact init_fn lk hcd S v0 v1 hg hmB r at_ hbn hln hls hc
end GD

set_option Elab.async false
set_option linter.all false
set_option maxRecDepth 100000
set_option maxHeartbeats 2000000
namespace GD
open PySem PySem.Spec PyProof.Rows L2 GX
/-! ## 77. a fault's class, asked of the machine's part as one truth value -/
def foIn (K : PySem.W.Frag) (C : Addr) : Bool := match K.lookup C with
  | some ⟨.type "type", _, .cls cd, sl⟩ => (match cd.mro, sl.toList with
    | .ref D :: bm, [_, _, _, _, some (.builtin n), _] => D == C && (n == "ValueError.__new__" && (!cd.hasDel && (cd.hasDict && PySem.HandSPX.refsVE bm)))
    | _, _ => false)
  | _ => false
theorem fo_of {K : PySem.W.Frag} {C : Addr} (q : foIn K C = true) : ∃ nm q N bs bm sn sub ab col dd k0 k1 k2 k3 k5, K.lookup C = some (excClassObj nm q C N bs bm true sn sub ab col dd k0 k1 k2 k3 k5 "ValueError.__new__") ∧ PySem.HandSPX.refsVE bm = true := by
  unfold foIn at q
  split at q
  · rename_i dd cd sl ho
    split at q
    · rename_i D bm k0 k1 k2 k3 n k5 hm hs
      simp only [Bool.and_eq_true, beq_iff_eq, Bool.not_eq_true'] at q
      obtain ⟨rfl, rfl, hdel, hdc, ht⟩ := q
      obtain ⟨nm, bs, mro, ns, qn, hd, sn, sub, ab, col, del⟩ := cd
      dsimp only at hm hdel hdc
      subst hm hdel hdc
      have hsl : sl = #[k0, k1, k2, k3, some (.builtin "ValueError.__new__"), k5] := by
        obtain ⟨l⟩ := sl
        simp only at hs
        rw [hs]
      subst hsl
      exact ⟨nm, qn, ns, bs, bm, sn, sub, ab, col, dd, k0, k1, k2, k3, k5, ho, ht⟩
    · cases q
  · cases q
section
variable {X : Cx} {w : Wd} {W : WX} {pos apos : Pos} {o : Expr} {m cn : Str} {mo : MP} {k : Nat}
/-- o.m(), which may end in a fault -/
theorem dee_meth0 {pl : Sem Bool} {T : XTE} (hf : Fit X w) (tk : Takes X W) (c : MethE X.prog X.w w.s X.mg k cn m T) (hr : Room k X.A) (he : PE X o (tP w mo))
    (ht : eval (.Call (.Attribute o m apos) [] [] pos) X.env = (eval o X.env >>= fun ov => standAt apos.atName >>= fun _ => holding [ov] (getMethod ov m pl) >>= fun z => callWith pos z.1 z.2 (backTo pos (starEach [] X.env)) (backToKw pos (keywordEach [] X.env))) := by rfl) : PE X (.Call (.Attribute o m apos) [] [] pos) (tXE w W (xMethE cn m mo T xNil)) := by
  obtain ⟨C, f, fd, ps, hF, hC, hcl, hM, hb⟩ := c.ex
  rw [← hf.k, ← hf.b] at hF
  rw [← hf.k] at hcl hM hb
  refine PE.mo (pe_meth0 (pl := pl) (E := allK W) he hcl hM hF hr hb .nil (passes_call tk fun cls d σ H h => h σ) ht) fun σ H Q h => ?_
  obtain ⟨ι, env, st, d, h1, h2, h3, h4⟩ := methE_read hC σ H Q h
  refine ⟨ι, env, st, d, h1, h2, h3, fun y H1 k1 r1 s1 => ?_⟩
  obtain ⟨a, dx, fs, e1, e2, e3, h5⟩ := h4 y H1 k1 r1 s1
  obtain ⟨ι2, env2, st2, R2, g1, g2, g3, g4⟩ := h5
  exact ⟨a, dx, fs, e1, e2, e3, g4 [] st2 ι2 [] H1 g3 (.refl _) .nil g2⟩
end
end GD

set_option Elab.async false
set_option linter.all false
set_option maxRecDepth 100000
set_option maxHeartbeats 4000000
namespace Lk70
open PySem PySem.Spec PyProof.Rows L2 GX GD GF
noncomputable section
/-! the text by places; each def, walked -/
def top (i : Nat) : Stmt := PySem.Challenge.pw_formalconcepts_k70_an_expert_is_asked.main.body.getD i (.Pass ⟨0, 0, 0, 0⟩)
/-- the built-ins that no name of the module hides -/
structure Blt (mg : Str → Option Value) : Prop where
  ValueError : mg "ValueError" = none
  all_ : mg "all" = none
  bool : mg "bool" = none
  enumerate : mg "enumerate" = none
  int : mg "int" = none
  isinstance : mg "isinstance" = none
  len : mg "len" = none
  list : mg "list" = none
  range : mg "range" = none
  set : mg "set" = none
  sorted : mg "sorted" = none
  str : mg "str" = none
  tuple : mg "tuple" = none
/-- the lambdas of the text, by their places -/
def NM (l c : Nat) : Option Str := if l = 61 ∧ c = 45 then some (("Explorer.question" : Str) ++ ".<locals>." ++ "<lambda>") else none
structure Gnd (w : Ws) (mg : Str → Option Value) : Prop where
  bm : Bm w.base mg
  nm : ∀ l c, w.nm l c = NM l c
def N_is_part : List Str := [("part" : Str), ("whole" : Str), ("one" : Str)]
theorem sc_is_part : FnScope N_is_part [("part" : Str), ("whole" : Str)] (defScope (top 4)) := ⟨rfl, rfl, rfl, by decide +kernel, rfl, by decide +kernel, by decide +kernel⟩
theorem wk_is_part {P : Program} {wl : World} {w : Ws} {mg : Str → Option Value} (M : Blt mg) (G : Gnd w mg) (D : DefC w mg "is_part" (top 4)) : DefP P wl w mg 4 "is_part" GF.F_is_part :=
  have S := sc_is_part
  DefP.n (D.p (k := 3) S (fun _ _ _ _ _ _ us hl => match us, hl with | [_, _], _ => rfl) fun f c A outer s H E hr hf => (dr_one (dr_ret (dp_allG hf (dg_gen (k := 0) (own := [(("one" : Str), 2)]) rfl S.nd (hr.mono (by decide)) hf G.bm ((G.nm _ _).trans (by rfl)) (di_seq (dp_var 0)) (genOk_by (by rfl)) (fun _ => (gt_name (i := 2) (by decide))) (fun _ _ _ _ _ _ _ _ => (pg_name S.nd rfl (by first | exact Or.inl rfl | exact Or.inr rfl))) (fun _ _ _ _ _ _ _ _ hr1 hf1 => dts_nil) (fun _ _ _ _ _ _ _ _ hr1 hf1 => (dp_in (hr1.mono (by decide)) (dp_var 2) (dp_var 1)))) (hr.mono (by decide)) (by rfl) M.all_)))) rfl

def N_together : List Str := [("one" : Str), ("other" : Str)]
theorem sc_together : FnScope N_together [("one" : Str), ("other" : Str)] (defScope (top 5)) := ⟨rfl, rfl, rfl, by decide +kernel, rfl, by decide +kernel, by decide +kernel⟩
abbrev T_together : XT := togT
theorem wk_together {P : Program} {wl : World} {w : Ws} {mg : Str → Option Value} (M : Blt mg) (G : Gnd w mg) (D : DefC w mg "together" (top 5)) : DefX P wl w mg 1 "together" GF.Y_together :=
  have S := sc_together
  DefX.n (D.x (k := 0) S (fun _ _ _ _ _ _ us hl => match us, hl with | [_, _], _ => rfl) fun f c A outer s H E hr hf => (ds_one (ds_ret (dx_tupL (by rfl) M.tuple (dxl_sortSet rfl (by rfl) M.sorted (by rfl) M.set (dx_of (dp_add (dp_var 0) (dp_var 1)))))))) rfl

def N_without : List Str := [("one" : Str), ("other" : Str), ("number" : Str)]
theorem sc_without : FnScope N_without [("one" : Str), ("other" : Str)] (defScope (top 6)) := ⟨rfl, rfl, rfl, by decide +kernel, rfl, by decide +kernel, by decide +kernel⟩
theorem wk_without {P : Program} {wl : World} {w : Ws} {mg : Str → Option Value} (M : Blt mg) (G : Gnd w mg) (D : DefC w mg "without" (top 6)) : DefP P wl w mg 6 "without" GF.F_without :=
  have S := sc_without
  DefP.n (D.p (k := 5) S (fun _ _ _ _ _ _ us hl => match us, hl with | [_, _], _ => rfl) fun f c A outer s H E hr hf => (dr_one (dr_ret (dp_tupG hf (dg_gen (k := 0) (own := [(("number" : Str), 2)]) rfl S.nd (hr.mono (by decide)) hf G.bm ((G.nm _ _).trans (by rfl)) (di_seq (dp_var 0)) (genOk_by (by rfl)) (fun _ => (gt_name (i := 2) (by decide))) (fun _ _ _ _ _ _ _ _ => (pg_name S.nd rfl (by first | exact Or.inl rfl | exact Or.inr rfl))) (fun _ _ _ _ _ _ _ _ hr1 hf1 => (dts_one (dt_nin (hr1.mono (by decide)) (dp_var 2) (dp_var 1)))) (fun _ _ _ _ _ _ _ _ hr1 hf1 => (dp_var 2))) (hr.mono (by decide)) (by rfl) M.tuple)))) rfl

def N_common : List Str := [("table" : Str), ("things" : Str), ("_" : Str), ("many" : Str), ("rows" : Str), ("mark" : Str), ("thing" : Str)]
theorem sc_common : FnScope N_common [("table" : Str), ("things" : Str)] (defScope (top 8)) := ⟨rfl, rfl, rfl, by decide +kernel, rfl, by decide +kernel, by decide +kernel⟩
theorem wk_common {P : Program} {wl : World} {w : Ws} {mg : Str → Option Value} (M : Blt mg) (G : Gnd w mg) (D : DefC w mg "common" (top 8)) : DefP P wl w mg 9 "common" GF.F_common :=
  have S := sc_common
  DefP.n (D.p (k := 8) S (fun _ _ _ _ _ _ us hl => match us, hl with | [_, _], _ => rfl) fun f c A outer s H E hr hf => (dr_cons (dr_asg (own := [2, 3, 4]) (gt_tup (gts_cons (gt_name (i := 2) (by decide)) (gts_cons (gt_name (i := 3) (by decide)) (gts_cons (gt_name (i := 4) (by decide)) gts_nil)))) (dp_var 0) (pg_tup rfl (pgs_cons (pg_name S.nd rfl (by first | exact Or.inl rfl | exact Or.inr rfl)) (pgs_cons (pg_name S.nd rfl (by first | exact Or.inl rfl | exact Or.inr rfl)) (pgs_cons (pg_name S.nd rfl (by first | exact Or.inl rfl | exact Or.inr rfl)) pgs_nil))))) (dr_one (dr_ret (dp_tupG hf (dg_gen (k := 3) (own := [(("mark" : Str), 5)]) rfl S.nd (hr.mono (by decide)) hf G.bm ((G.nm _ _).trans (by rfl)) (di_rng (by rfl) M.range (dp_var 3)) (genOk_by (by rfl)) (fun _ => (gt_name (i := 5) (by decide))) (fun _ _ _ _ _ _ _ _ => (pg_name S.nd rfl (by first | exact Or.inl rfl | exact Or.inr rfl))) (fun _ _ _ _ _ _ _ _ hr1 hf1 => (dts_one (db_val (dp_allG hf1 (dg_gen (k := 0) (own := [(("thing" : Str), 6)]) rfl S.nd (hr1.mono (by decide)) hf1 G.bm ((G.nm _ _).trans (by rfl)) (di_seq (dp_var 1)) (genOk_by (by rfl)) (fun _ => (gt_name (i := 6) (by decide))) (fun _ _ _ _ _ _ _ _ => (pg_name S.nd rfl (by first | exact Or.inl rfl | exact Or.inr rfl))) (fun _ _ _ _ _ _ _ _ hr2 hf2 => dts_nil) (fun _ _ _ _ _ _ _ _ hr2 hf2 => (dp_in (hr2.mono (by decide)) (dp_var 5) (dp_ix (dp_var 4) (dp_var 6))))) (hr1.mono (by decide)) (by rfl) M.all_)))) (fun _ _ _ _ _ _ _ _ hr1 hf1 => (dp_var 5))) (hr.mono (by decide)) (by rfl) M.tuple))))) rfl

def N_having : List Str := [("table" : Str), ("marks" : Str), ("thing" : Str), ("row" : Str)]
theorem sc_having : FnScope N_having [("table" : Str), ("marks" : Str)] (defScope (top 9)) := ⟨rfl, rfl, rfl, by decide +kernel, rfl, by decide +kernel, by decide +kernel⟩
theorem wk_having {P : Program} {wl : World} {w : Ws} {mg : Str → Option Value} (M : Blt mg) (G : Gnd w mg) (c_is_part : DefP P wl w mg 4 "is_part" F_is_part) (D : DefC w mg "having" (top 9)) : DefP P wl w mg 10 "having" GF.F_having :=
  have S := sc_having
  DefP.n (D.p (k := 9) S (fun _ _ _ _ _ _ us hl => match us, hl with | [_, _], _ => rfl) fun f c A outer s H E hr hf => (dr_one (dr_ret (dp_tupG hf (dg_gen (k := 4) (own := [(("thing" : Str), 2), (("row" : Str), 3)]) rfl S.nd (hr.mono (by decide)) hf G.bm ((G.nm _ _).trans (by rfl)) (di_enum (by rfl) M.enumerate (dp_ix (dp_var 0) dp_int)) (genOk_by (by rfl)) (fun _ => (gt_tup (gts_cons (gt_name (i := 2) (by decide)) (gts_cons (gt_name (i := 3) (by decide)) gts_nil)))) (fun _ _ _ _ _ _ _ _ => (pg_tup rfl (pgs_cons (pg_name S.nd rfl (by first | exact Or.inl rfl | exact Or.inr rfl)) (pgs_cons (pg_name S.nd rfl (by first | exact Or.inl rfl | exact Or.inr rfl)) pgs_nil)))) (fun _ _ _ _ _ _ _ _ hr1 hf1 => (dts_one (db_val (dp_call hf1 c_is_part (hr1.mono (by decide)) (by rfl) (da_cons (dp_var 1) (da_cons (dp_var 3) da_nil)))))) (fun _ _ _ _ _ _ _ _ hr1 hf1 => (dp_var 2))) (hr.mono (by decide)) (by rfl) M.tuple)))) rfl

def N_closure : List Str := [("table" : Str), ("marks" : Str)]
theorem sc_closure : FnScope N_closure [("table" : Str), ("marks" : Str)] (defScope (top 10)) := ⟨rfl, rfl, rfl, by decide +kernel, rfl, by decide +kernel, by decide +kernel⟩
theorem wk_closure {P : Program} {wl : World} {w : Ws} {mg : Str → Option Value} (M : Blt mg) (G : Gnd w mg) (c_common : DefP P wl w mg 9 "common" F_common) (c_having : DefP P wl w mg 10 "having" F_having) (D : DefC w mg "closure" (top 10)) : DefP P wl w mg 11 "closure" GF.F_closure :=
  have S := sc_closure
  DefP.n (D.p (k := 10) S (fun _ _ _ _ _ _ us hl => match us, hl with | [_, _], _ => rfl) fun f c A outer s H E hr hf => (dr_one (dr_ret (dp_call hf c_common (hr.mono (by decide)) (by rfl) (da_cons (dp_var 0) (da_cons (dp_call hf c_having (hr.mono (by decide)) (by rfl) (da_cons (dp_var 0) (da_cons (dp_var 1) da_nil))) da_nil)))))) rfl

def N_keeps : List Str := [("marks" : Str), ("implication" : Str)]
theorem sc_keeps : FnScope N_keeps [("marks" : Str), ("implication" : Str)] (defScope (top 12)) := ⟨rfl, rfl, rfl, by decide +kernel, rfl, by decide +kernel, by decide +kernel⟩
theorem wk_keeps {P : Program} {wl : World} {w : Ws} {mg : Str → Option Value} (M : Blt mg) (G : Gnd w mg) (c_is_part : DefP P wl w mg 4 "is_part" F_is_part) (D : DefC w mg "keeps" (top 12)) : DefP P wl w mg 5 "keeps" GF.F_keeps :=
  have S := sc_keeps
  DefP.n (D.p (k := 4) S (fun _ _ _ _ _ _ us hl => match us, hl with | [_, _], _ => rfl) fun f c A outer s H E hr hf => (dr_one (dr_ret (dp_or (dp_not (dp_call hf c_is_part (hr.mono (by decide)) (by rfl) (da_cons (dp_ix (dp_var 1) dp_int) (da_cons (dp_var 0) da_nil)))) (dp_one (dp_call hf c_is_part (hr.mono (by decide)) (by rfl) (da_cons (dp_ix (dp_var 1) dp_int) (da_cons (dp_var 0) da_nil)))))))) rfl

def N_used_from : List Str := [("implications" : Str), ("marks" : Str), ("used" : Str), ("number" : Str), ("row" : Str), ("found" : Str)]
theorem sc_used_from : FnScope N_used_from [("implications" : Str), ("marks" : Str)] (defScope (top 13)) := ⟨rfl, rfl, rfl, by decide +kernel, rfl, by decide +kernel, by decide +kernel⟩
abbrev T_used_from : XT := usedT
theorem wk_used_from {P : Program} {wl : World} {w : Ws} {mg : Str → Option Value} (M : Blt mg) (G : Gnd w mg) (c_keeps : DefP P wl w mg 5 "keeps" F_keeps) (c_together : DefX P wl w mg 1 "together" T_together) (D : DefC w mg "used_from" (top 13)) : DefX P wl w mg 6 "used_from" GF.Y_used_from :=
  have S := sc_used_from
  DefX.n (D.x (k := 5) S (fun _ _ _ _ _ _ us hl => match us, hl with | [_, _], _ => rfl) fun f c A outer s H E hr hf => (ds_cons (ds_set (i := 2) S.nd rfl (by first | exact Or.inl rfl | exact Or.inr rfl) (dx_new (dxl_of (dl_lst da_nil)))) (ds_one (ds_while PassesOwn.never (dxb_of (db_val dp_bl)) (ds_cons (ds_setLp (i := 5) (own := [(("number" : Str), 3), (("row" : Str), 4)]) rfl S.nd rfl rfl rfl rfl (by rfl) (di_enum (by rfl) M.enumerate (dp_var 0)) (blkOk_by (by rfl)) (gt_tup (gts_cons (gt_name (i := 3) (by decide)) (gts_cons (gt_name (i := 4) (by decide)) gts_nil))) (fun _ _ _ _ _ => (pg_tup rfl (pgs_cons (pg_name S.nd rfl (by first | exact Or.inl rfl | exact Or.inr rfl)) (pgs_cons (pg_name S.nd rfl (by first | exact Or.inl rfl | exact Or.inr rfl)) pgs_nil)))) (fun _ _ _ _ _ => (dts_one (db_not (db_val (dp_call hf.blk c_keeps (hr.mono (by decide)) (by rfl) (da_cons (dp_var 1) (da_cons (dp_var 4) da_nil))))))) (fun _ _ _ _ _ => (dp_var 3))) (ds_cons (ds_if (dxb_of (db_not (db_tru (dp_var 5)))) (ds_one (ds_ret (dx_of (dp_tup (da_cons (dp_var 1) (da_cons (dp_var 2) da_nil)))))) ds_nil) (ds_cons (ds_app (dp_var 2) (dx_of (dp_ix (dp_var 5) dp_int))) (ds_one (ds_set (i := 1) S.nd rfl (by first | exact Or.inl rfl | exact Or.inr rfl) (dx_call hf c_together (hr.mono (by decide)) (by rfl) (dxa_cons (dx_of (dp_var 1)) (dxa_cons (dx_of (dp_ix (dp_ix (dp_var 0) (dp_ix (dp_var 5) dp_int)) dp_int)) dxa_nil)))))))))))) rfl

def N_closed_under : List Str := [("implications" : Str), ("marks" : Str)]
theorem sc_closed_under : FnScope N_closed_under [("implications" : Str), ("marks" : Str)] (defScope (top 14)) := ⟨rfl, rfl, rfl, by decide +kernel, rfl, by decide +kernel, by decide +kernel⟩
abbrev F_closed_under : List D → SS → Option D := closedUnderF
theorem wk_closed_under {P : Program} {wl : World} {w : Ws} {mg : Str → Option Value} (M : Blt mg) (G : Gnd w mg) (c_used_from : DefX P wl w mg 6 "used_from" T_used_from) (D : DefC w mg "closed_under" (top 14)) : DefX P wl w mg 7 "closed_under" GF.Y_closed_under :=
  have S := sc_closed_under
  DefX.n (D.x (k := 6) S (fun _ _ _ _ _ _ us hl => match us, hl with | [_, _], _ => rfl) fun f c A outer s H E hr hf => (ds_one (ds_ret (dx_ix (dx_call hf c_used_from (hr.mono (by decide)) (by rfl) (dxa_cons (dx_of (dp_var 0)) (dxa_cons (dx_of (dp_var 1)) dxa_nil))) (dx_of dp_int))))) rfl

def N_next_set : List Str := [("many" : Str), ("close" : Str), ("marks" : Str), ("mark" : Str), ("one" : Str), ("start" : Str), ("found" : Str)]
theorem sc_next_set : FnScope N_next_set [("many" : Str), ("close" : Str), ("marks" : Str)] (defScope (top 16)) := ⟨rfl, rfl, rfl, by decide +kernel, rfl, by decide +kernel, by decide +kernel⟩
abbrev T_next_set : XT → XT := nextT
theorem wk_next_set {P : Program} {wl : World} {w : Ws} {mg : Str → Option Value} (M : Blt mg) (G : Gnd w mg) (c_together : DefX P wl w mg 1 "together" T_together) (D : DefC w mg "next_set" (top 16)) : DefL P wl w mg 31 30 "next_set" GF.Y_next_set :=
  have S := sc_next_set
  DefL.n (D.l (k := 30) (j := 30) S (fun _ _ _ _ _ _ us hl => match us, hl with | [_, _, _], _ => rfl) fun f c fl l caps U A outer s H E hC hr hf => (ds_cons (ds_for PassesOwn.never rfl (own := [3]) (gt_name (i := 3) (by decide) (hfx := fxL (i := 3) (by decide))) (dxi_of (di_rngD (by rfl) M.range (dp_sub (dp_var 0) dp_int) (dp_neg dp_int))) (pg_name S.nd rfl (by first | exact Or.inl rfl | exact Or.inr rfl)) (ds_one (ds_if (dxb_of (dt_nin (hr.mono (by decide)) (dp_var 3) (dp_var 2))) (ds_cons (ds_set (i := 5) S.nd rfl (by first | exact Or.inl rfl | exact Or.inr rfl) (dx_of (dp_tupG hf (dg_gen (k := 0) (own := [(("one" : Str), 4)]) rfl S.nd (hr.mono (by decide)) hf G.bm ((G.nm _ _).trans (by rfl)) (di_seq (dp_var 2)) (genOk_by (by rfl)) (fun _ => (gt_name (i := 4) (by decide) (hfx := fxL (i := 4) (by decide)))) (fun _ _ _ _ _ _ _ _ => (pg_name S.nd rfl (by first | exact Or.inl rfl | exact Or.inr rfl))) (fun _ _ _ _ _ _ _ _ hr1 hf1 => (dts_one (dt_lt (dp_var 4) (dp_var 3)))) (fun _ _ _ _ _ _ _ _ hr1 hf1 => (dp_var 4)) (hfx := fxLl (js := [4]) (by decide))) (hr.mono (by decide)) (by rfl) M.tuple)) (hfx := fxL (i := 5) (by decide))) (ds_cons (ds_set (i := 6) S.nd rfl (by first | exact Or.inl rfl | exact Or.inr rfl) (dx_callC (i := 1) hC hf (hr.mono (by decide)) rfl (by first | exact .inl rfl | exact .inr (.inl rfl)) List.mem_cons_self List.mem_cons_self (dx_call hf c_together (hr.mono (by decide)) (by rfl) (dxa_cons (dx_of (dp_var 5)) (dxa_cons (dx_of (dp_tup (da_cons (dp_var 3) da_nil))) dxa_nil)))) (hfx := fxL (i := 6) (by decide))) (ds_one (ds_if (dxb_of (db_val (dp_allG hf (dg_gen (k := 0) (own := [(("one" : Str), 4)]) rfl S.nd (hr.mono (by decide)) hf G.bm ((G.nm _ _).trans (by rfl)) (di_seq (dp_var 6)) (genOk_by (by rfl)) (fun _ => (gt_name (i := 4) (by decide) (hfx := fxL (i := 4) (by decide)))) (fun _ _ _ _ _ _ _ _ => (pg_name S.nd rfl (by first | exact Or.inl rfl | exact Or.inr rfl))) (fun _ _ _ _ _ _ _ _ hr1 hf1 => dts_nil) (fun _ _ _ _ _ _ _ _ hr1 hf1 => (dp_or (dp_in (hr1.mono (by decide)) (dp_var 4) (dp_var 5)) (dp_one (dp_ge (dp_var 4) (dp_var 3))))) (hfx := fxLl (js := [4]) (by decide))) (hr.mono (by decide)) (by rfl) M.all_))) (ds_one (ds_ret (dx_of (dp_var 6)))) ds_nil)))) ds_nil))) (ds_one (ds_ret (dx_of dp_non))))) rfl

def N_all_sets : List Str := [("many" : Str), ("close" : Str), ("found" : Str), ("marks" : Str)]
theorem sc_all_sets : FnScope N_all_sets [("many" : Str), ("close" : Str)] (defScope (top 17)) := ⟨rfl, rfl, rfl, by decide +kernel, rfl, by decide +kernel, by decide +kernel⟩
abbrev T_all_sets : XT → XT := allT
theorem wk_all_sets {P : Program} {wl : World} {w : Ws} {mg : Str → Option Value} (M : Blt mg) (G : Gnd w mg) (c_next_set : DefL P wl w mg 31 30 "next_set" T_next_set) (D : DefC w mg "all_sets" (top 17)) : DefL P wl w mg 32 30 "all_sets" GF.Y_all_sets :=
  have S := sc_all_sets
  DefL.n (D.l (k := 31) (j := 30) S (fun _ _ _ _ _ _ us hl => match us, hl with | [_, _], _ => rfl) fun f c fl l caps U A outer s H E hC hr hf => (ds_cons (ds_set (i := 2) S.nd rfl (by first | exact Or.inl rfl | exact Or.inr rfl) (dx_new (dxl_of (dl_lst da_nil))) (hfx := fxL (i := 2) (by decide))) (ds_cons (ds_set (i := 3) S.nd rfl (by first | exact Or.inl rfl | exact Or.inr rfl) (dx_callC (i := 1) hC hf (hr.mono (by decide)) rfl (by first | exact .inl rfl | exact .inr (.inl rfl)) List.mem_cons_self List.mem_cons_self (dx_of (dp_tup da_nil))) (hfx := fxL (i := 3) (by decide))) (ds_cons (ds_while PassesOwn.never (dxb_of (dt_notN (dp_var 3) dp_non)) (ds_cons (ds_app (dp_var 2) (dx_of (dp_var 3))) (ds_one (ds_set (i := 3) S.nd rfl (by first | exact Or.inl rfl | exact Or.inr rfl) (dx_pass2 (i := 1) hf c_next_set hC (hr.mono (by decide)) (by rfl) rfl (by first | exact .inl rfl | exact .inr (.inl rfl)) List.mem_cons_self List.mem_cons_self (dx_of (dp_var 0)) (dx_of (dp_var 3))) (hfx := fxL (i := 3) (by decide)))))) (ds_one (ds_ret (dx_of (dp_var 2)))))))) rfl

def N_Explorer___init__ : List Str := [("self" : Str), ("many" : Str), ("rows" : Str)]
theorem sc_Explorer___init__ : FnScope N_Explorer___init__ [("self" : Str), ("many" : Str), ("rows" : Str)] (defScope (inClass (top 19) 0)) := ⟨rfl, rfl, rfl, by decide +kernel, rfl, by decide +kernel, by decide +kernel⟩
def X_Explorer___init__ : XS := (sSeq (sFldP "Explorer" "table" (xOf (mTup (mCons (mC (.str ("table" : Str))) (mCons (mVar 1) (mCons (mVar 2) mNil))))) (mVar 0)) (sFldP "Explorer" "accepted" (xOf (mTup mNil)) (mVar 0)))
def T_Explorer___init__ : XT := fnT N_Explorer___init__ 3 X_Explorer___init__
theorem wk_Explorer___init__ {P : Program} {wl : World} {w : Ws} {mg : Str → Option Value} (M : Blt mg) (G : Gnd w mg) (C_Explorer : ClsD w "Explorer" [("accepted" : Str), ("table" : Str)]) (D : DefM w "Explorer" "__init__" "Explorer.__init__" (inClass (top 19) 0) false) : MethX P wl w mg 1 "Explorer" "__init__" T_Explorer___init__ :=
  have S := sc_Explorer___init__
  D.x (mg := mg) (k := 0) S (fun _ _ _ _ _ _ us hl => match us, hl with | [_, _, _], _ => rfl) fun f c A outer s H E hr hf => (ds_cons (ds_fld hf C_Explorer (by decide) (dx_of (dp_tup (da_cons dp_str (da_cons (dp_var 1) (da_cons (dp_var 2) da_nil))))) (dp_var 0)) (ds_one (ds_fld hf C_Explorer (by decide) (dx_of (dp_tup da_nil)) (dp_var 0))))

def N_Explorer_question : List Str := [("self" : Str), ("marks" : Str), ("whole" : Str)]
theorem sc_Explorer_question : FnScope N_Explorer_question [("self" : Str)] (defScope (inClass (top 19) 1)) := ⟨rfl, rfl, rfl, by decide +kernel, rfl, by decide +kernel, by decide +kernel⟩
def X_Explorer_question : XS := (sSeq (sFor (xSeq (xCallM (fun caps => T_all_sets (uLam (xOf (mCall F_closed_under (mCons (mFld "Explorer" "accepted" (mVar 1)) (mCons (mVar 0) mNil)))) caps)) [0] (xCons (xOf (mOp fIx (mFld "Explorer" "table" (mVar 0)) (mC (.int 1)))) xNil))) (tgN 1) (sSeq (sAsg (xOf (mCall F_closure (mCons (mFld "Explorer" "table" (mVar 0)) (mCons (mVar 1) mNil)))) (tgN 2)) (sIf (xbOf (bV (mOp fNe (mVar 2) (mVar 1)))) (sRet (xOf (mTup (mCons (mVar 1) (mCons (mCall F_without (mCons (mVar 2) (mCons (mVar 1) mNil))) mNil))))) sNext))) (sRet (xOf (mC .non))))
def T_Explorer_question : XT := fnT N_Explorer_question 1 X_Explorer_question
theorem wk_Explorer_question {P : Program} {wl : World} {w : Ws} {mg : Str → Option Value} (M : Blt mg) (G : Gnd w mg) (c_all_sets : DefL P wl w mg 32 30 "all_sets" T_all_sets) (c_closed_under : DefP P wl w mg 7 "closed_under" F_closed_under) (c_closure : DefP P wl w mg 11 "closure" F_closure) (c_without : DefP P wl w mg 6 "without" F_without) (C_Explorer : ClsD w "Explorer" [("accepted" : Str), ("table" : Str)]) (D : DefM w "Explorer" "question" "Explorer.question" (inClass (top 19) 1) true) : MethX P wl w mg 33 "Explorer" "question" T_Explorer_question :=
  have S := sc_Explorer_question
  D.x (mg := mg) (k := 32) S (fun _ _ _ _ _ _ us hl => match us, hl with | [_], _ => rfl) fun f c A outer s H E hr hf => (ds_cons (ds_for PassesOwn.never rfl (own := [1]) (gt_name (i := 1) (by decide)) (dxi_seq (dx_lam1 (js := [0]) (U := fun caps => uLam (xOf (mCall F_closed_under (mCons (mFld "Explorer" "accepted" (mVar 1)) (mCons (mVar 0) mNil)))) caps) hf c_all_sets (fun caps => (lamD_of (k := 7) (p := "own") (m := (xOf (mCall F_closed_under (mCons (mFld "Explorer" "accepted" (mVar 1)) (mCons (mVar 0) mNil))))) (lamSc_by (by decide +kernel)) (by intros; rfl) (fun A outer s H q f c' cl hrl hfl => (dx_of (dp_call hfl c_closed_under (hrl.mono (by decide)) (by rfl) (da_cons (dp_fld hfl C_Explorer (by decide) (dp_var 1)) (da_cons (dp_var 0) da_nil))))) caps).mono (by decide)) (hr.mono (by decide)) (by rfl) G.bm ((G.nm _ _).trans (by rfl)) (fun _ => rfl) (freeOk (sc := defScope (inClass (top 19) 1)) (by decide +kernel)) (by rfl) (by rfl) (dx_of (dp_ix (dp_fld hf C_Explorer (by decide) (dp_var 0)) dp_int)))) (pg_name S.nd rfl (by first | exact Or.inl rfl | exact Or.inr rfl)) (ds_cons (ds_set (i := 2) S.nd rfl (by first | exact Or.inl rfl | exact Or.inr rfl) (dx_of (dp_call hf c_closure (hr.mono (by decide)) (by rfl) (da_cons (dp_fld hf C_Explorer (by decide) (dp_var 0)) (da_cons (dp_var 1) da_nil))))) (ds_one (ds_if (dxb_of (dt_ne (hr.mono (by decide)) (dp_var 2) (dp_var 1))) (ds_one (ds_ret (dx_of (dp_tup (da_cons (dp_var 1) (da_cons (dp_call hf c_without (hr.mono (by decide)) (by rfl) (da_cons (dp_var 2) (da_cons (dp_var 1) da_nil))) da_nil)))))) ds_nil)))) (ds_one (ds_ret (dx_of dp_non))))

def N_Explorer_accept : List Str := [("self" : Str), ("question" : Str)]
theorem sc_Explorer_accept : FnScope N_Explorer_accept [("self" : Str)] (defScope (inClass (top 19) 2)) := ⟨rfl, rfl, rfl, by decide +kernel, rfl, by decide +kernel, by decide +kernel⟩
def X_Explorer_accept : XSE := (sSeqE (fun _ => (sAsg (xMeth "Explorer" "question" (mVar 0) T_Explorer_question xNil) (tgN 1))) (sSeqE (sIfE (xbOf (bV (mOp fIsN (mVar 1) (mC .non)))) (sRaise "AnswerFault" (xOf (mC (.str ("no question" : Str))))) (fun _ => sNext)) (fun _ => (sAugA "Explorer" "accepted" (mVar 0) (mTup (mCons (mVar 1) mNil))))))
def T_Explorer_accept : XTE := fnTE N_Explorer_accept 1 X_Explorer_accept
theorem wk_Explorer_accept {P : Program} {wl : World} {w : Ws} {mg : Str → Option Value} (M : Blt mg) (G : Gnd w mg) (c_Explorer_question : MethX P wl w mg 33 "Explorer" "question" T_Explorer_question) (C_Explorer : ClsD w "Explorer" [("accepted" : Str), ("table" : Str)]) (F_AnswerFault : FltD P wl w mg 1 "AnswerFault" "ConceptFault") (D : DefM w "Explorer" "accept" "Explorer.accept" (inClass (top 19) 2) false) : MethE P wl w mg 34 "Explorer" "accept" T_Explorer_accept :=
  have S := sc_Explorer_accept
  D.xe (mg := mg) (k := 33) S (fun _ _ _ _ _ _ us hl => match us, hl with | [_], _ => rfl) fun f c A outer s H E X hX hr hf tk => by subst hX; exact (de_cons (de_lift (psNox (have hf := fit_nox hf; (ds_set (i := 1) S.nd rfl (by first | exact Or.inl rfl | exact Or.inr rfl) (dx_meth0 hf c_Explorer_question (hr.mono (by decide)) (dp_var 0)))))) (de_cons (de_if (PT.nox (have hf := fit_nox hf; (dxb_of (dt_isN (dp_var 1) dp_non)))) (de_one (de_raiseF hf F_AnswerFault (hr.mono (by decide)) rfl tk (by rfl) (PE.nox (have hf := fit_nox hf; (dx_of dp_str))))) (des_lift (PSs.nox (have hf := fit_nox hf; ds_nil)))) (de_one (de_lift (psNox (have hf := fit_nox hf; (ds_fldaug hf C_Explorer (by decide) (dp_var 0) (dp_tup (da_cons (dp_var 1) da_nil)))))))))

def N_Explorer_fault : List Str := [("self" : Str), ("row" : Str), ("question" : Str), ("number" : Str), ("known" : Str), ("broken" : Str)]
theorem sc_Explorer_fault : FnScope N_Explorer_fault [("self" : Str), ("row" : Str)] (defScope (inClass (top 19) 3)) := ⟨rfl, rfl, rfl, by decide +kernel, rfl, by decide +kernel, by decide +kernel⟩
def X_Explorer_fault : XS := (sSeq (sAsg (xMeth "Explorer" "question" (mVar 0) T_Explorer_question xNil) (tgN 2)) (sSeq (sIf (xbOf (bV (mOp fIsN (mVar 2) (mC .non)))) (sRet (xOf (mC (.str ("no question" : Str))))) sNext) (sSeq (sIf (xbOf (bNot (bV (mCall F_is_part (mCons (mOp fIx (mVar 2) (mC (.int 0))) (mCons (mVar 1) mNil)))))) (sRet (xOf (mC (.str ("lacks the premise" : Str))))) sNext) (sSeq (sIf (xbOf (bV (mCall F_is_part (mCons (mOp fIx (mVar 2) (mC (.int 1))) (mCons (mVar 1) mNil))))) (sRet (xOf (mC (.str ("has the conclusion" : Str))))) sNext) (sSeq (sAsg (xNew (xaOf (mComp (iEnum (mFld "Explorer" "accepted" (mVar 0))) (tgTup 2 (tgCons (tgN 3) (tgCons (tgN 4) tgNil))) (bNot (bV (mCall F_keeps (mCons (mVar 1) (mCons (mVar 4) mNil))))) (mVar 3) [3, 4]))) (tgN 5)) (sRet (xOf (mIf (bT (mVar 5)) (mF1 (fPre ("breaks " : Str)) (mOp fIx (mVar 5) (mC (.int 0)))) (mC .non)))))))))
def T_Explorer_fault : XT := fnT N_Explorer_fault 2 X_Explorer_fault
theorem wk_Explorer_fault {P : Program} {wl : World} {w : Ws} {mg : Str → Option Value} (M : Blt mg) (G : Gnd w mg) (c_Explorer_question : MethX P wl w mg 33 "Explorer" "question" T_Explorer_question) (c_is_part : DefP P wl w mg 4 "is_part" F_is_part) (c_keeps : DefP P wl w mg 5 "keeps" F_keeps) (C_Explorer : ClsD w "Explorer" [("accepted" : Str), ("table" : Str)]) (D : DefM w "Explorer" "fault" "Explorer.fault" (inClass (top 19) 3) false) : MethX P wl w mg 34 "Explorer" "fault" T_Explorer_fault :=
  have S := sc_Explorer_fault
  D.x (mg := mg) (k := 33) S (fun _ _ _ _ _ _ us hl => match us, hl with | [_, _], _ => rfl) fun f c A outer s H E hr hf => (ds_cons (ds_set (i := 2) S.nd rfl (by first | exact Or.inl rfl | exact Or.inr rfl) (dx_meth0 hf c_Explorer_question (hr.mono (by decide)) (dp_var 0))) (ds_cons (ds_if (dxb_of (dt_isN (dp_var 2) dp_non)) (ds_one (ds_ret (dx_of dp_str))) ds_nil) (ds_cons (ds_if (dxb_of (db_not (db_val (dp_call hf c_is_part (hr.mono (by decide)) (by rfl) (da_cons (dp_ix (dp_var 2) dp_int) (da_cons (dp_var 1) da_nil)))))) (ds_one (ds_ret (dx_of dp_str))) ds_nil) (ds_cons (ds_if (dxb_of (db_val (dp_call hf c_is_part (hr.mono (by decide)) (by rfl) (da_cons (dp_ix (dp_var 2) dp_int) (da_cons (dp_var 1) da_nil))))) (ds_one (ds_ret (dx_of dp_str))) ds_nil) (ds_cons (ds_setLp (i := 5) (own := [(("number" : Str), 3), (("known" : Str), 4)]) rfl S.nd rfl rfl rfl rfl (by rfl) (di_enum (by rfl) M.enumerate (dp_fld hf C_Explorer (by decide) (dp_var 0))) (blkOk_by (by rfl)) (gt_tup (gts_cons (gt_name (i := 3) (by decide)) (gts_cons (gt_name (i := 4) (by decide)) gts_nil))) (fun _ _ _ _ _ => (pg_tup rfl (pgs_cons (pg_name S.nd rfl (by first | exact Or.inl rfl | exact Or.inr rfl)) (pgs_cons (pg_name S.nd rfl (by first | exact Or.inl rfl | exact Or.inr rfl)) pgs_nil)))) (fun _ _ _ _ _ => (dts_one (db_not (db_val (dp_call hf.blk c_keeps (hr.mono (by decide)) (by rfl) (da_cons (dp_var 1) (da_cons (dp_var 4) da_nil))))))) (fun _ _ _ _ _ => (dp_var 3))) (ds_one (ds_ret (dx_of (dp_if (db_tru (dp_var 5)) (dp_fstr (dp_ix (dp_var 5) dp_int)) dp_non)))))))))

def N_Explorer_reject : List Str := [("self" : Str), ("row" : Str), ("reason" : Str)]
theorem sc_Explorer_reject : FnScope N_Explorer_reject [("self" : Str), ("row" : Str)] (defScope (inClass (top 19) 4)) := ⟨rfl, rfl, rfl, by decide +kernel, rfl, by decide +kernel, by decide +kernel⟩
def X_Explorer_reject : XSE := (sSeqE (fun _ => (sAsg (xMeth "Explorer" "fault" (mVar 0) T_Explorer_fault (xCons (xOf (mVar 1)) xNil)) (tgN 2))) (sSeqE (sIfE (xbOf (bV (mOp fNotN (mVar 2) (mC .non)))) (sRaise "AnswerFault" (xOf (mVar 2))) (fun _ => sNext)) (fun _ => (sFldP "Explorer" "table" (xOf (mTup (mCons (mC (.str ("table" : Str))) (mCons (mOp fIx (mFld "Explorer" "table" (mVar 0)) (mC (.int 1))) (mCons (mOp fAdd (mOp fIx (mFld "Explorer" "table" (mVar 0)) (mC (.int 2))) (mTup (mCons (mVar 1) mNil))) mNil))))) (mVar 0)))))
def T_Explorer_reject : XTE := fnTE N_Explorer_reject 2 X_Explorer_reject
theorem wk_Explorer_reject {P : Program} {wl : World} {w : Ws} {mg : Str → Option Value} (M : Blt mg) (G : Gnd w mg) (c_Explorer_fault : MethX P wl w mg 34 "Explorer" "fault" T_Explorer_fault) (C_Explorer : ClsD w "Explorer" [("accepted" : Str), ("table" : Str)]) (F_AnswerFault : FltD P wl w mg 1 "AnswerFault" "ConceptFault") (D : DefM w "Explorer" "reject" "Explorer.reject" (inClass (top 19) 4) false) : MethE P wl w mg 35 "Explorer" "reject" T_Explorer_reject :=
  have S := sc_Explorer_reject
  D.xe (mg := mg) (k := 34) S (fun _ _ _ _ _ _ us hl => match us, hl with | [_, _], _ => rfl) fun f c A outer s H E X hX hr hf tk => by subst hX; exact (de_cons (de_lift (psNox (have hf := fit_nox hf; (ds_set (i := 2) S.nd rfl (by first | exact Or.inl rfl | exact Or.inr rfl) (dx_meth hf c_Explorer_fault (hr.mono (by decide)) (dp_var 0) (dxa_cons (dx_of (dp_var 1)) dxa_nil)))))) (de_cons (de_if (PT.nox (have hf := fit_nox hf; (dxb_of (dt_notN (dp_var 2) dp_non)))) (de_one (de_raiseF hf F_AnswerFault (hr.mono (by decide)) rfl tk (by rfl) (PE.nox (have hf := fit_nox hf; (dx_of (dp_var 2)))))) (des_lift (PSs.nox (have hf := fit_nox hf; ds_nil)))) (de_one (de_lift (psNox (have hf := fit_nox hf; (ds_fld hf C_Explorer (by decide) (dx_of (dp_tup (da_cons dp_str (da_cons (dp_ix (dp_fld hf C_Explorer (by decide) (dp_var 0)) dp_int) (da_cons (dp_add (dp_ix (dp_fld hf C_Explorer (by decide) (dp_var 0)) dp_int) (dp_tup (da_cons (dp_var 1) da_nil))) da_nil))))) (dp_var 0))))))))

def N_law_cell : List Str := [("_law_script" : Str), ("_law_k" : Str)]
theorem sc_law_cell : FnScope N_law_cell [("_law_script" : Str), ("_law_k" : Str)] (defScope (top 21)) := ⟨rfl, rfl, rfl, by decide +kernel, rfl, by decide +kernel, by decide +kernel⟩
def X_law_cell (ns : List Int) : XS := (sSeq (sIf (xbOf (bV (mOp fLt (mVar 1) (mLenS ns)))) (sRet (xOf (mIxS ns (mVar 1)))) sNext) (sRet (xOf (mC (.int 0)))))
abbrev T_law_cell : XTS := cellT
def Y_law_cell : XTS := fnS N_law_cell 2 X_law_cell
theorem wk_law_cell {P : Program} {wl : World} {w : Ws} {mg : Str → Option Value} (M : Blt mg) (G : Gnd w mg) (D : DefC w mg "_law_cell" (top 21)) : DefS P wl w mg 1 "_law_cell" Y_law_cell :=
  have S := sc_law_cell
  D.s (k := 0) S (fun _ _ _ _ _ _ us hl => match us, hl with | [_, _], _ => rfl) fun f c a ns A outer s H E hr hf => (ds_cons (ds_if (dxb_of (dt_lt (dp_var 1) (dp_lenS hf (by rfl) M.len pe_scr))) (ds_one (ds_ret (dx_of (dp_ixS hf pe_scr (dp_var 1))))) ds_nil) (ds_one (ds_ret (dx_of dp_int))))

def N_law_digits : List Str := [("_law_script" : Str), ("_law_first" : Str), ("_law_last" : Str), ("_law_digits_here" : Str), ("_law_k" : Str), ("_law_cell_here" : Str), ("_law_turn" : Str), ("_law_seed" : Str)]
theorem sc_law_digits : FnScope N_law_digits [("_law_script" : Str), ("_law_first" : Str), ("_law_last" : Str)] (defScope (top 22)) := ⟨rfl, rfl, rfl, by decide +kernel, rfl, by decide +kernel, by decide +kernel⟩
def X_law_digits (ns : List Int) : XS := (sSeq (sAsg (xNew (xaOf (mLst mNil))) (tgN 3)) (sSeq (sFor (xiOf (iRng2 (mVar 1) (mVar 2))) (tgN 4) (sSeq (sAsg (xCallS T_law_cell ns (xCons (xOf (mVar 4)) xNil)) (tgN 5)) (sSeq (sIf (xbOf (bV (mOp fLt (mVar 5) (mC (.int 0))))) (sAsg (xOf (mOp fSub (mC (.int 1)) (mOp fMul (mC (.int 2)) (mVar 5)))) (tgN 5)) sNext) (sIf (xbOf (bV (mOp fGe (mVar 5) (mOp fPow (mC (.int 10)) (mC (.int 18)))))) (sFor (xiOf (iRng (mC (.int 60)))) (tgN 6) (sIf (xbOf (bV (mOp fGt (mVar 5) (mC (.int 0))))) (sSeq (sAppP (mVar 3) (xOf (mOp fMod (mF1 fInt (mVar 5)) (mC (.int 1000))))) (sAsg (xOf (mOp fDiv (mVar 5) (mC (.int 1000)))) (tgN 5))) sNext)) (sSeq (sAsg (xOf (mOp fMod (mF1 fInt (mOp fAdd (mOp fAdd (mOp fMul (mVar 5) (mC (.int 48271))) (mOp fMul (mVar 4) (mC (.int 69621)))) (mC (.int 11)))) (mC (.int 2147483647)))) (tgN 7)) (sFor (xiOf (iRng (mC (.int 12)))) (tgN 6) (sSeq (sAsg (xOf (mOp fMod (mF1 fInt (mOp fAdd (mOp fAdd (mOp fMul (mVar 7) (mC (.int 16807))) (mOp fMul (mC (.int 7)) (mVar 6))) (mC (.int 1)))) (mC (.int 2147483647)))) (tgN 7)) (sAppP (mVar 3) (xOf (mOp fMod (mF1 fInt (mOp fDiv (mVar 7) (mC (.int 997)))) (mC (.int 1000)))))))))))) (sRet (xOf (mVar 3)))))
abbrev T_law_digits : XTS := digitsT
def Y_law_digits : XTS := fnS N_law_digits 3 X_law_digits
theorem wk_law_digits {P : Program} {wl : World} {w : Ws} {mg : Str → Option Value} (M : Blt mg) (G : Gnd w mg) (c_law_cell : DefS P wl w mg 1 "_law_cell" T_law_cell) (D : DefC w mg "_law_digits" (top 22)) : DefS P wl w mg 2 "_law_digits" Y_law_digits :=
  have S := sc_law_digits
  D.s (k := 1) S (fun _ _ _ _ _ _ us hl => match us, hl with | [_, _, _], _ => rfl) fun f c a ns A outer s H E hr hf => (ds_cons (ds_set (i := 3) S.nd rfl (by first | exact Or.inl rfl | exact Or.inr rfl) (dx_new (dxl_of (dl_lst da_nil))) (hfx := fxS (i := 3) (by decide))) (ds_cons (ds_for PassesOwn.never rfl (own := [4]) (gt_name (i := 4) (by decide) (hfx := fxS (i := 4) (by decide))) (dxi_of (di_rng2 (by rfl) M.range (dp_var 1) (dp_var 2))) (pg_name S.nd rfl (by first | exact Or.inl rfl | exact Or.inr rfl)) (ds_cons (ds_set (i := 5) S.nd rfl (by first | exact Or.inl rfl | exact Or.inr rfl) (dx_callS hf c_law_cell (hr.mono (by decide)) (by rfl) pe_scr (dxa_cons (dx_of (dp_var 4)) dxa_nil)) (hfx := fxS (i := 5) (by decide))) (ds_cons (ds_if (dxb_of (dt_lt (dp_var 5) dp_int)) (ds_one (ds_set (i := 5) S.nd rfl (by first | exact Or.inl rfl | exact Or.inr rfl) (dx_of (dp_sub dp_int (dp_mul dp_int (dp_var 5)))) (hfx := fxS (i := 5) (by decide)))) ds_nil) (ds_one (ds_if (dxb_of (dt_ge (dp_var 5) (dp_pow dp_int dp_int))) (ds_one (ds_for PassesOwn.never rfl (own := [6]) (gt_name (i := 6) (by decide) (hfx := fxS (i := 6) (by decide))) (dxi_of (di_rng (by rfl) M.range dp_int)) (pg_name S.nd rfl (by first | exact Or.inl rfl | exact Or.inr rfl)) (ds_one (ds_if (dxb_of (dt_gt (dp_var 5) dp_int)) (ds_cons (ds_app (dp_var 3) (dx_of (dp_mod (dp_intc (by rfl) M.int (dp_var 5)) dp_int))) (ds_one (ds_set (i := 5) S.nd rfl (by first | exact Or.inl rfl | exact Or.inr rfl) (dx_of (dp_div (dp_var 5) dp_int)) (hfx := fxS (i := 5) (by decide))))) ds_nil)))) (ds_cons (ds_set (i := 7) S.nd rfl (by first | exact Or.inl rfl | exact Or.inr rfl) (dx_of (dp_mod (dp_intc (by rfl) M.int (dp_add (dp_add (dp_mul (dp_var 5) dp_int) (dp_mul (dp_var 4) dp_int)) dp_int)) dp_int)) (hfx := fxS (i := 7) (by decide))) (ds_one (ds_for PassesOwn.never rfl (own := [6]) (gt_name (i := 6) (by decide) (hfx := fxS (i := 6) (by decide))) (dxi_of (di_rng (by rfl) M.range dp_int)) (pg_name S.nd rfl (by first | exact Or.inl rfl | exact Or.inr rfl)) (ds_cons (ds_set (i := 7) S.nd rfl (by first | exact Or.inl rfl | exact Or.inr rfl) (dx_of (dp_mod (dp_intc (by rfl) M.int (dp_add (dp_add (dp_mul (dp_var 7) dp_int) (dp_mul dp_int (dp_var 6))) dp_int)) dp_int)) (hfx := fxS (i := 7) (by decide))) (ds_one (ds_app (dp_var 3) (dx_of (dp_mod (dp_intc (by rfl) M.int (dp_div (dp_var 7) dp_int)) dp_int))))))))))))) (ds_one (ds_ret (dx_of (dp_var 3))))))

def N_law_draw : List Str := [("_law_box_here" : Str), ("_law_many" : Str), ("_law_at" : Str)]
theorem sc_law_draw : FnScope N_law_draw [("_law_box_here" : Str), ("_law_many" : Str)] (defScope (top 23)) := ⟨rfl, rfl, rfl, by decide +kernel, rfl, by decide +kernel, by decide +kernel⟩
def X_law_draw : XS := (sSeq (sAsg (xOf (mOp fIx (mVar 0) (mC (.int 1)))) (tgN 2)) (sSeq (sSub (xOf (mOp fAdd (mVar 2) (mC (.int 1)))) (mVar 0) (mC (.int 1))) (sSeq (sIf (xbOf (bV (mOp fLt (mVar 2) (mF1 fLen (mOp fIx (mVar 0) (mC (.int 0))))))) (sRet (xOf (mOp fMod (mF1 fInt (mOp fIx (mOp fIx (mVar 0) (mC (.int 0))) (mVar 2))) (mVar 1)))) sNext) (sRet (xOf (mC (.int 0)))))))
abbrev T_law_draw : XT := drawT
def Y_law_draw : XT := fnT N_law_draw 2 X_law_draw
theorem wk_law_draw {P : Program} {wl : World} {w : Ws} {mg : Str → Option Value} (M : Blt mg) (G : Gnd w mg) (D : DefC w mg "_law_draw" (top 23)) : DefX P wl w mg 1 "_law_draw" Y_law_draw :=
  have S := sc_law_draw
  D.x (k := 0) S (fun _ _ _ _ _ _ us hl => match us, hl with | [_, _], _ => rfl) fun f c A outer s H E hr hf => (ds_cons (ds_set (i := 2) S.nd rfl (by first | exact Or.inl rfl | exact Or.inr rfl) (dx_of (dp_ix (dp_var 0) dp_int))) (ds_cons (ds_sub (dx_of (dp_add (dp_var 2) dp_int)) (dp_var 0) dp_int) (ds_cons (ds_if (dxb_of (dt_lt (dp_var 2) (dp_len (by rfl) M.len (dp_ix (dp_var 0) dp_int)))) (ds_one (ds_ret (dx_of (dp_mod (dp_intc (by rfl) M.int (dp_ix (dp_ix (dp_var 0) dp_int) (dp_var 2))) (dp_var 1))))) ds_nil) (ds_one (ds_ret (dx_of dp_int))))))

def N_law_same : List Str := [("_law_actual" : Str), ("_law_expected" : Str), ("_law_k" : Str)]
theorem sc_law_same : FnScope N_law_same [("_law_actual" : Str), ("_law_expected" : Str)] (defScope (top 24)) := ⟨rfl, rfl, rfl, by decide +kernel, rfl, by decide +kernel, by decide +kernel⟩
def R_law_same (F_rec : List D → SS → Option D) : RS := (rSeq (rIf (bV (mF1 (fIs "tuple") (mVar 1))) (rSeq (rIf (bOr (bNot (bV (mF1 (fIs "tuple") (mVar 0)))) (bV (mOp fNe (mF1 fLen (mVar 0)) (mF1 fLen (mVar 1))))) (rRet (mC (.bl false))) rNext) (rSeq (rFor (iRng (mF1 fLen (mVar 1))) (tgN 2) (rIf (bNot (bV (mCall F_rec (mCons (mOp fIx (mVar 0) (mVar 2)) (mCons (mOp fIx (mVar 1) (mVar 2)) mNil))))) (rRet (mC (.bl false))) rNext)) (rRet (mC (.bl true))))) rNext) (rSeq (rIf (bV (mOp fIsN (mVar 1) (mC .non))) (rRet (mOp fIsN (mVar 0) (mC .non))) rNext) (rSeq (rIf (bV (mF1 (fIs "bool") (mVar 1))) (rRet (mAnd (mF1 (fIs "bool") (mVar 0)) (mOp fEq (mVar 0) (mVar 1)))) rNext) (rSeq (rIf (bV (mF1 (fIs "int") (mVar 1))) (rRet (mAnd (mF1 (fIs "int") (mVar 0)) (mAnd (mNot (mF1 (fIs "bool") (mVar 0))) (mOp fEq (mVar 0) (mVar 1))))) rNext) (rRet (mAnd (mF1 (fIs "str") (mVar 0)) (mOp fEq (mVar 0) (mVar 1))))))))
theorem wk_law_same {k : Nat} {F_rec : List D → SS → Option D} {P : Program} {wl : World} {w : Ws} {mg : Str → Option Value} (M : Blt mg) (G : Gnd w mg) (D : DefC w mg "_law_same" (top 24)) (c_rec : DefP P wl w mg (k + 1) "_law_same" F_rec) : DefP P wl w mg (k + 2) "_law_same" (fnR N_law_same 2 (R_law_same F_rec)) :=
  have S := sc_law_same
  D.p (k := k + 1) S (fun _ _ _ _ _ _ us hl => match us, hl with | [_, _], _ => rfl) fun f c A outer s H E hr hf => (dr_cons (dr_if (db_val (dp_isi (by rfl) M.isinstance (by rfl) M.tuple (by decide +kernel) (dp_var 1))) (dr_cons (dr_if ((db_or (db_not (db_val (dp_isi (by rfl) M.isinstance (by rfl) M.tuple (by decide +kernel) (dp_var 0)))) (db_or1 (dt_ne (hr.mono (by omega)) (dp_len (by rfl) M.len (dp_var 0)) (dp_len (by rfl) M.len (dp_var 1))))).pt) (dr_one (dr_ret dp_bl)) dr_nil) (dr_cons (dr_for PassesOwn.never rfl (own := [2]) (gt_name (i := 2) (by decide)) (di_rng (by rfl) M.range (dp_len (by rfl) M.len (dp_var 1))) (pg_name S.nd rfl (by first | exact Or.inl rfl | exact Or.inr rfl)) (dr_one (dr_if (db_not (db_val (dp_call hf c_rec hr (by rfl) (da_cons (dp_ix (dp_var 0) (dp_var 2)) (da_cons (dp_ix (dp_var 1) (dp_var 2)) da_nil))))) (dr_one (dr_ret dp_bl)) dr_nil))) (dr_one (dr_ret dp_bl)))) dr_nil) (dr_cons (dr_if (dt_isN (dp_var 1) dp_non) (dr_one (dr_ret (dp_isN (dp_var 0) dp_non))) dr_nil) (dr_cons (dr_if (db_val (dp_isi (by rfl) M.isinstance (by rfl) M.bool (by decide +kernel) (dp_var 1))) (dr_one (dr_ret (dp_and (dp_isi (by rfl) M.isinstance (by rfl) M.bool (by decide +kernel) (dp_var 0)) (dp_one (dp_eq (hr.mono (by omega)) (dp_var 0) (dp_var 1)))))) dr_nil) (dr_cons (dr_if (db_val (dp_isi (by rfl) M.isinstance (by rfl) M.int (by decide +kernel) (dp_var 1))) (dr_one (dr_ret (dp_and (dp_isi (by rfl) M.isinstance (by rfl) M.int (by decide +kernel) (dp_var 0)) (dp_and (dp_not (dp_isi (by rfl) M.isinstance (by rfl) M.bool (by decide +kernel) (dp_var 0))) (dp_one (dp_eq (hr.mono (by omega)) (dp_var 0) (dp_var 1))))))) dr_nil) (dr_one (dr_ret (dp_and (dp_isi (by rfl) M.isinstance (by rfl) M.str (by decide +kernel) (dp_var 0)) (dp_one (dp_eq (hr.mono (by omega)) (dp_var 0) (dp_var 1))))))))))

abbrev F_law_same : List D → SS → Option D := sameF
def N_law_box : List Str := [("_law_script" : Str), ("_law_first" : Str), ("_law_last" : Str)]
theorem sc_law_box : FnScope N_law_box [("_law_script" : Str), ("_law_first" : Str), ("_law_last" : Str)] (defScope (top 25)) := ⟨rfl, rfl, rfl, by decide +kernel, rfl, by decide +kernel, by decide +kernel⟩
def X_law_box (ns : List Int) : XS := (sRet (xNew (xLst (xCons (xCallS T_law_digits ns (xCons (xOf (mVar 1)) (xCons (xOf (mVar 2)) xNil))) (xCons (xOf (mC (.int 0))) xNil)))))
abbrev T_law_box : XTS := boxT
def Y_law_box : XTS := fnS N_law_box 3 X_law_box
theorem wk_law_box {P : Program} {wl : World} {w : Ws} {mg : Str → Option Value} (M : Blt mg) (G : Gnd w mg) (c_law_digits : DefS P wl w mg 2 "_law_digits" T_law_digits) (D : DefC w mg "_law_box" (top 25)) : DefS P wl w mg 3 "_law_box" Y_law_box :=
  have S := sc_law_box
  D.s (k := 2) S (fun _ _ _ _ _ _ us hl => match us, hl with | [_, _, _], _ => rfl) fun f c a ns A outer s H E hr hf => (ds_one (ds_ret (dx_new (dxl_lst (dxa_cons (dx_callS hf c_law_digits (hr.mono (by decide)) (by rfl) pe_scr (dxa_cons (dx_of (dp_var 1)) (dxa_cons (dx_of (dp_var 2)) dxa_nil))) (dxa_cons (dx_of dp_int) dxa_nil))))))

def N_law_some : List Str := [("_law_box_here" : Str), ("_law_many" : Str), ("_law_sparse" : Str), ("_law_k" : Str)]
theorem sc_law_some : FnScope N_law_some [("_law_box_here" : Str), ("_law_many" : Str), ("_law_sparse" : Str)] (defScope (top 26)) := ⟨rfl, rfl, rfl, by decide +kernel, rfl, by decide +kernel, by decide +kernel⟩
def X_law_some : XS := (sRet (xTupL (xComp (xiOf (iRng (mVar 1))) (tgN 3) (xV (xOp fLt (xCall T_law_draw (xCons (xOf (mVar 0)) (xCons (xOf (mC (.int 6))) xNil))) (xOf (mVar 2)))) (xOf (mVar 3)) [3])))
abbrev T_law_some : XT := someT
def Y_law_some : XT := fnT N_law_some 3 X_law_some
theorem wk_law_some {P : Program} {wl : World} {w : Ws} {mg : Str → Option Value} (M : Blt mg) (G : Gnd w mg) (c_law_draw : DefX P wl w mg 1 "_law_draw" T_law_draw) (D : DefC w mg "_law_some" (top 26)) : DefX P wl w mg 2 "_law_some" Y_law_some :=
  have S := sc_law_some
  D.x (k := 1) S (fun _ _ _ _ _ _ us hl => match us, hl with | [_, _, _], _ => rfl) fun f c A outer s H E hr hf => (ds_one (ds_ret (dx_tupL (by rfl) M.tuple (dxl_lc (own := [(("_law_k" : Str), 3)]) rfl S.nd (dxi_of (di_rng (by rfl) M.range (dp_var 1))) (blkOk_by (by rfl)) (gt_name (i := 3) (by decide)) (fun _ _ _ _ _ => (pg_name S.nd rfl (by first | exact Or.inl rfl | exact Or.inr rfl))) (fun _ _ _ _ _ => (dxts_one (dxt_lt (dx_call hf.blk c_law_draw (hr.mono (by decide)) (by rfl) (dxa_cons (dx_of (dp_var 0)) (dxa_cons (dx_of dp_int) dxa_nil))) (dx_of (dp_var 2))))) (fun _ _ _ _ _ => (dx_of (dp_var 3)))))))

def N_law_inside : List Str := [("_law_one" : Str), ("_law_other" : Str), ("_law_k" : Str)]
theorem sc_law_inside : FnScope N_law_inside [("_law_one" : Str), ("_law_other" : Str)] (defScope (top 27)) := ⟨rfl, rfl, rfl, by decide +kernel, rfl, by decide +kernel, by decide +kernel⟩
theorem wk_law_inside {P : Program} {wl : World} {w : Ws} {mg : Str → Option Value} (M : Blt mg) (G : Gnd w mg) (D : DefC w mg "_law_inside" (top 27)) : DefP P wl w mg 1 "_law_inside" GF.F_law_inside :=
  have S := sc_law_inside
  DefP.n (D.p (k := 0) S (fun _ _ _ _ _ _ us hl => match us, hl with | [_, _], _ => rfl) fun f c A outer s H E hr hf => (dr_one (dr_ret (dp_eq (hr.mono (by decide)) (dp_lenL (by rfl) M.len (dl_lc (own := [(("_law_k" : Str), 2)]) rfl S.nd (di_seq (dp_var 0)) (blkOk_by (by rfl)) (gt_name (i := 2) (by decide)) (fun _ _ _ _ _ => (pg_name S.nd rfl (by first | exact Or.inl rfl | exact Or.inr rfl))) (fun _ _ _ _ _ => (dts_one (dt_nin (hr.mono (by decide)) (dp_var 2) (dp_var 1)))) (fun _ _ _ _ _ => (dp_var 2)))) dp_int)))) rfl

def N_law_common : List Str := [("_law_table" : Str), ("_law_things" : Str), ("_law_m" : Str), ("_law_g" : Str)]
theorem sc_law_common : FnScope N_law_common [("_law_table" : Str), ("_law_things" : Str)] (defScope (top 28)) := ⟨rfl, rfl, rfl, by decide +kernel, rfl, by decide +kernel, by decide +kernel⟩
theorem wk_law_common {P : Program} {wl : World} {w : Ws} {mg : Str → Option Value} (M : Blt mg) (G : Gnd w mg) (D : DefC w mg "_law_common" (top 28)) : DefP P wl w mg 1 "_law_common" GF.F_law_common :=
  have S := sc_law_common
  DefP.n (D.p (k := 0) S (fun _ _ _ _ _ _ us hl => match us, hl with | [_, _], _ => rfl) fun f c A outer s H E hr hf => (dr_one (dr_ret (dp_tupL (by rfl) M.tuple (dl_lc (own := [(("_law_m" : Str), 2)]) rfl S.nd (di_rng (by rfl) M.range (dp_ix (dp_var 0) dp_int)) (blkOk_by (by rfl)) (gt_name (i := 2) (by decide)) (fun _ _ _ _ _ => (pg_name S.nd rfl (by first | exact Or.inl rfl | exact Or.inr rfl))) (fun _ _ _ _ _ => (dts_one (dt_eq (hr.mono (by decide)) (dp_lenL (by rfl) M.len (dl_lc (own := [(("_law_g" : Str), 3)]) rfl S.nd (di_seq (dp_var 1)) (blkOk_by (by rfl)) (gt_name (i := 3) (by decide)) (fun _ _ _ _ _ => (pg_name S.nd rfl (by first | exact Or.inl rfl | exact Or.inr rfl))) (fun _ _ _ _ _ => (dts_one (dt_nin (hr.mono (by decide)) (dp_var 2) (dp_ix (dp_ix (dp_var 0) dp_int) (dp_var 3))))) (fun _ _ _ _ _ => (dp_var 3)))) dp_int))) (fun _ _ _ _ _ => (dp_var 2))))))) rfl

def N_law_having : List Str := [("_law_table" : Str), ("_law_marks" : Str), ("_law_g" : Str)]
theorem sc_law_having : FnScope N_law_having [("_law_table" : Str), ("_law_marks" : Str)] (defScope (top 29)) := ⟨rfl, rfl, rfl, by decide +kernel, rfl, by decide +kernel, by decide +kernel⟩
theorem wk_law_having {P : Program} {wl : World} {w : Ws} {mg : Str → Option Value} (M : Blt mg) (G : Gnd w mg) (c_law_inside : DefP P wl w mg 1 "_law_inside" F_law_inside) (D : DefC w mg "_law_having" (top 29)) : DefP P wl w mg 2 "_law_having" GF.F_law_having :=
  have S := sc_law_having
  DefP.n (D.p (k := 1) S (fun _ _ _ _ _ _ us hl => match us, hl with | [_, _], _ => rfl) fun f c A outer s H E hr hf => (dr_one (dr_ret (dp_tupL (by rfl) M.tuple (dl_lc (own := [(("_law_g" : Str), 2)]) rfl S.nd (di_rng (by rfl) M.range (dp_len (by rfl) M.len (dp_ix (dp_var 0) dp_int))) (blkOk_by (by rfl)) (gt_name (i := 2) (by decide)) (fun _ _ _ _ _ => (pg_name S.nd rfl (by first | exact Or.inl rfl | exact Or.inr rfl))) (fun _ _ _ _ _ => (dts_one (db_val (dp_call hf.blk c_law_inside (hr.mono (by decide)) (by rfl) (da_cons (dp_var 1) (da_cons (dp_ix (dp_ix (dp_var 0) dp_int) (dp_var 2)) da_nil)))))) (fun _ _ _ _ _ => (dp_var 2))))))) rfl

def N_law_closure : List Str := [("_law_table" : Str), ("_law_marks" : Str)]
theorem sc_law_closure : FnScope N_law_closure [("_law_table" : Str), ("_law_marks" : Str)] (defScope (top 30)) := ⟨rfl, rfl, rfl, by decide +kernel, rfl, by decide +kernel, by decide +kernel⟩
theorem wk_law_closure {P : Program} {wl : World} {w : Ws} {mg : Str → Option Value} (M : Blt mg) (G : Gnd w mg) (c_law_common : DefP P wl w mg 1 "_law_common" F_law_common) (c_law_having : DefP P wl w mg 2 "_law_having" F_law_having) (D : DefC w mg "_law_closure" (top 30)) : DefP P wl w mg 3 "_law_closure" GF.F_law_closure :=
  have S := sc_law_closure
  DefP.n (D.p (k := 2) S (fun _ _ _ _ _ _ us hl => match us, hl with | [_, _], _ => rfl) fun f c A outer s H E hr hf => (dr_one (dr_ret (dp_call hf c_law_common (hr.mono (by decide)) (by rfl) (da_cons (dp_var 0) (da_cons (dp_call hf c_law_having (hr.mono (by decide)) (by rfl) (da_cons (dp_var 0) (da_cons (dp_var 1) da_nil))) da_nil)))))) rfl

def N_law_lectic : List Str := [("_law_many" : Str), ("_law_sets" : Str), ("_law_rows" : Str), ("_law_row" : Str), ("_law_m" : Str), ("_law_pair" : Str)]
theorem sc_law_lectic : FnScope N_law_lectic [("_law_many" : Str), ("_law_sets" : Str)] (defScope (top 31)) := ⟨rfl, rfl, rfl, by decide +kernel, rfl, by decide +kernel, by decide +kernel⟩
abbrev T_law_lectic : XT := lecticT
theorem wk_law_lectic {P : Program} {wl : World} {w : Ws} {mg : Str → Option Value} (M : Blt mg) (G : Gnd w mg) (D : DefC w mg "_law_lectic" (top 31)) : DefX P wl w mg 1 "_law_lectic" GF.Y_law_lectic :=
  have S := sc_law_lectic
  DefX.n (D.x (k := 0) S (fun _ _ _ _ _ _ us hl => match us, hl with | [_, _], _ => rfl) fun f c A outer s H E hr hf => (ds_cons (ds_set (i := 2) S.nd rfl (by first | exact Or.inl rfl | exact Or.inr rfl) (dx_new (dxl_of (dl_lst da_nil)))) (ds_cons (ds_for PassesOwn.never rfl (own := [3]) (gt_name (i := 3) (by decide)) (dxi_of (di_seq (dp_var 1))) (pg_name S.nd rfl (by first | exact Or.inl rfl | exact Or.inr rfl)) (ds_one (ds_app (dp_var 2) (dx_of (dp_tup (da_cons (dp_tupL (by rfl) M.tuple (dl_lc (own := [(("_law_m" : Str), 4)]) rfl S.nd (di_rng (by rfl) M.range (dp_var 0)) (blkOk_by (by rfl)) (gt_name (i := 4) (by decide)) (fun _ _ _ _ _ => (pg_name S.nd rfl (by first | exact Or.inl rfl | exact Or.inr rfl))) (fun _ _ _ _ _ => dts_nil) (fun _ _ _ _ _ => (dp_intc (by rfl) M.int (dp_in (hr.mono (by decide)) (dp_var 4) (dp_var 3)))))) (da_cons (dp_var 3) da_nil))))))) (ds_one (ds_ret (dx_new (dxl_lc (own := [(("_law_pair" : Str), 5)]) rfl S.nd (dxi_seq (dx_new (dxl_sortK (hr.mono (by decide)) (by rfl) M.sorted (dx_of (dp_var 2))))) (blkOk_by (by rfl)) (gt_name (i := 5) (by decide)) (fun _ _ _ _ _ => (pg_name S.nd rfl (by first | exact Or.inl rfl | exact Or.inr rfl))) (fun _ _ _ _ _ => dxts_nil) (fun _ _ _ _ _ => (dx_of (dp_ix (dp_var 5) dp_int)))))))))) rfl

def N_law_subsets : List Str := [("_law_many" : Str), ("_law_rows" : Str), ("_law_k" : Str), ("_law_row" : Str)]
theorem sc_law_subsets : FnScope N_law_subsets [("_law_many" : Str)] (defScope (top 32)) := ⟨rfl, rfl, rfl, by decide +kernel, rfl, by decide +kernel, by decide +kernel⟩
abbrev T_law_subsets : XT := subsetsT
theorem wk_law_subsets {P : Program} {wl : World} {w : Ws} {mg : Str → Option Value} (M : Blt mg) (G : Gnd w mg) (c_law_lectic : DefX P wl w mg 1 "_law_lectic" T_law_lectic) (D : DefC w mg "_law_subsets" (top 32)) : DefX P wl w mg 2 "_law_subsets" GF.Y_law_subsets :=
  have S := sc_law_subsets
  DefX.n (D.x (k := 1) S (fun _ _ _ _ _ _ us hl => match us, hl with | [_], _ => rfl) fun f c A outer s H E hr hf => (ds_cons (ds_set (i := 1) S.nd rfl (by first | exact Or.inl rfl | exact Or.inr rfl) (dx_new (dxl_of (dl_lst (da_cons (dp_tup da_nil) da_nil))))) (ds_cons (ds_for PassesOwn.never rfl (own := [2]) (gt_name (i := 2) (by decide)) (dxi_of (di_rng (by rfl) M.range (dp_var 0))) (pg_name S.nd rfl (by first | exact Or.inl rfl | exact Or.inr rfl)) (ds_one (ds_set (i := 1) S.nd rfl (by first | exact Or.inl rfl | exact Or.inr rfl) (dx_new (dxl_cat (dx_of (dp_var 1)) (dx_new (dxl_of (dl_lc (own := [(("_law_row" : Str), 3)]) rfl S.nd (di_seq (dp_var 1)) (blkOk_by (by rfl)) (gt_name (i := 3) (by decide)) (fun _ _ _ _ _ => (pg_name S.nd rfl (by first | exact Or.inl rfl | exact Or.inr rfl))) (fun _ _ _ _ _ => dts_nil) (fun _ _ _ _ _ => (dp_add (dp_var 3) (dp_tup (da_cons (dp_var 2) da_nil)))))))))))) (ds_one (ds_ret (dx_call hf c_law_lectic (hr.mono (by decide)) (by rfl) (dxa_cons (dx_of (dp_var 0)) (dxa_cons (dx_of (dp_var 1)) dxa_nil)))))))) rfl

def N_law_closed_under : List Str := [("_law_rows" : Str), ("_law_marks" : Str), ("_law_found" : Str), ("_law_turn" : Str), ("_law_row" : Str)]
theorem sc_law_closed_under : FnScope N_law_closed_under [("_law_rows" : Str), ("_law_marks" : Str)] (defScope (top 33)) := ⟨rfl, rfl, rfl, by decide +kernel, rfl, by decide +kernel, by decide +kernel⟩
abbrev T_law_closed_under : XT := lawCuT
theorem wk_law_closed_under {P : Program} {wl : World} {w : Ws} {mg : Str → Option Value} (M : Blt mg) (G : Gnd w mg) (c_law_inside : DefP P wl w mg 1 "_law_inside" F_law_inside) (D : DefC w mg "_law_closed_under" (top 33)) : DefX P wl w mg 2 "_law_closed_under" GF.Y_law_closed_under :=
  have S := sc_law_closed_under
  DefX.n (D.x (k := 1) S (fun _ _ _ _ _ _ us hl => match us, hl with | [_, _], _ => rfl) fun f c A outer s H E hr hf => (ds_cons (ds_set (i := 2) S.nd rfl (by first | exact Or.inl rfl | exact Or.inr rfl) (dx_new (dxl_sortD (hr.mono (by decide)) (by rfl) M.sorted (dx_of (dp_var 1))))) (ds_cons (ds_for PassesOwn.never rfl (own := [3]) (gt_name (i := 3) (by decide)) (dxi_of (di_rng (by rfl) M.range (dp_add (dp_len (by rfl) M.len (dp_var 0)) dp_int))) (pg_name S.nd rfl (by first | exact Or.inl rfl | exact Or.inr rfl)) (ds_one (ds_for PassesOwn.never rfl (own := [4]) (gt_name (i := 4) (by decide)) (dxi_of (di_seq (dp_var 0))) (pg_name S.nd rfl (by first | exact Or.inl rfl | exact Or.inr rfl)) (ds_one (ds_if (dxb_of (db_val (dp_call hf c_law_inside (hr.mono (by decide)) (by rfl) (da_cons (dp_ix (dp_var 4) dp_int) (da_cons (dp_var 2) da_nil))))) (ds_one (ds_set (i := 2) S.nd rfl (by first | exact Or.inl rfl | exact Or.inr rfl) (dx_new (dxl_sortSetQ rfl (by rfl) M.sorted (by rfl) M.set (dx_new (dxl_cat (dx_of (dp_var 2)) (dx_new (dxl_of (dl_list (by rfl) M.list (dp_ix (dp_var 4) dp_int)))))))))) ds_nil))))) (ds_one (ds_ret (dx_of (dp_tupV (by rfl) M.tuple (dp_var 2)))))))) rfl

def N_law_asked : List Str := [("_law_table" : Str), ("_law_accepted" : Str), ("_law_marks" : Str), ("_law_closure_here" : Str), ("_law_m" : Str)]
theorem sc_law_asked : FnScope N_law_asked [("_law_table" : Str), ("_law_accepted" : Str)] (defScope (top 34)) := ⟨rfl, rfl, rfl, by decide +kernel, rfl, by decide +kernel, by decide +kernel⟩
def X_law_asked : XS := (sSeq (sFor (xSeq (xCall T_law_subsets (xCons (xOf (mOp fIx (mVar 0) (mC (.int 1)))) xNil))) (tgN 2) (sSeq (sAsg (xOf (mCall F_law_closure (mCons (mVar 0) (mCons (mVar 2) mNil)))) (tgN 3)) (sIf (xAnd (xbOf (bV (mOp fNe (mVar 3) (mVar 2)))) (xV (xOp fEq (xCall T_law_closed_under (xCons (xOf (mVar 1)) (xCons (xOf (mVar 2)) xNil))) (xOf (mVar 2))))) (sRet (xOf (mTup (mCons (mVar 2) (mCons (mTupL (mComp (iSeq (mVar 3)) (tgN 4) (bV (mOp fNotIn (mVar 4) (mVar 2))) (mVar 4) [4])) mNil))))) sNext))) (sRet (xOf (mC .non))))
def T_law_asked : XT := fnT N_law_asked 2 X_law_asked
theorem wk_law_asked {P : Program} {wl : World} {w : Ws} {mg : Str → Option Value} (M : Blt mg) (G : Gnd w mg) (c_law_closed_under : DefX P wl w mg 2 "_law_closed_under" T_law_closed_under) (c_law_closure : DefP P wl w mg 3 "_law_closure" F_law_closure) (c_law_subsets : DefX P wl w mg 2 "_law_subsets" T_law_subsets) (D : DefC w mg "_law_asked" (top 34)) : DefX P wl w mg 4 "_law_asked" T_law_asked :=
  have S := sc_law_asked
  D.x (k := 3) S (fun _ _ _ _ _ _ us hl => match us, hl with | [_, _], _ => rfl) fun f c A outer s H E hr hf => (ds_cons (ds_for PassesOwn.never rfl (own := [2]) (gt_name (i := 2) (by decide)) (dxi_seq (dx_call hf c_law_subsets (hr.mono (by decide)) (by rfl) (dxa_cons (dx_of (dp_ix (dp_var 0) dp_int)) dxa_nil))) (pg_name S.nd rfl (by first | exact Or.inl rfl | exact Or.inr rfl)) (ds_cons (ds_set (i := 3) S.nd rfl (by first | exact Or.inl rfl | exact Or.inr rfl) (dx_of (dp_call hf c_law_closure (hr.mono (by decide)) (by rfl) (da_cons (dp_var 0) (da_cons (dp_var 2) da_nil))))) (ds_one (ds_if ((dxb_and (dxb_of (dt_ne (hr.mono (by decide)) (dp_var 3) (dp_var 2))) (dxb_and1 (dxt_eq (hr.mono (by decide)) (dx_call hf c_law_closed_under (hr.mono (by decide)) (by rfl) (dxa_cons (dx_of (dp_var 1)) (dxa_cons (dx_of (dp_var 2)) dxa_nil))) (dx_of (dp_var 2))))).pt) (ds_one (ds_ret (dx_of (dp_tup (da_cons (dp_var 2) (da_cons (dp_tupL (by rfl) M.tuple (dl_lc (own := [(("_law_m" : Str), 4)]) rfl S.nd (di_seq (dp_var 3)) (blkOk_by (by rfl)) (gt_name (i := 4) (by decide)) (fun _ _ _ _ _ => (pg_name S.nd rfl (by first | exact Or.inl rfl | exact Or.inr rfl))) (fun _ _ _ _ _ => (dts_one (dt_nin (hr.mono (by decide)) (dp_var 4) (dp_var 2)))) (fun _ _ _ _ _ => (dp_var 4)))) da_nil)))))) ds_nil)))) (ds_one (ds_ret (dx_of dp_non))))

def N_law_refusal : List Str := [("_law_accepted" : Str), ("_law_question" : Str), ("_law_row" : Str), ("_law_k" : Str)]
theorem sc_law_refusal : FnScope N_law_refusal [("_law_accepted" : Str), ("_law_question" : Str), ("_law_row" : Str)] (defScope (top 35)) := ⟨rfl, rfl, rfl, by decide +kernel, rfl, by decide +kernel, by decide +kernel⟩
def R_law_refusal : RS := (rSeq (rIf (bV (mOp fIsN (mVar 1) (mC .non))) (rRet (mC (.str ("no question" : Str)))) rNext) (rSeq (rIf (bNot (bV (mCall F_law_inside (mCons (mOp fIx (mVar 1) (mC (.int 0))) (mCons (mVar 2) mNil))))) (rRet (mC (.str ("lacks the premise" : Str)))) rNext) (rSeq (rIf (bV (mCall F_law_inside (mCons (mOp fIx (mVar 1) (mC (.int 1))) (mCons (mVar 2) mNil)))) (rRet (mC (.str ("has the conclusion" : Str)))) rNext) (rSeq (rFor (iRng (mF1 fLen (mVar 0))) (tgN 3) (rIf (bAnd (bV (mCall F_law_inside (mCons (mOp fIx (mOp fIx (mVar 0) (mVar 3)) (mC (.int 0))) (mCons (mVar 2) mNil)))) (bNot (bV (mCall F_law_inside (mCons (mOp fIx (mOp fIx (mVar 0) (mVar 3)) (mC (.int 1))) (mCons (mVar 2) mNil)))))) (rRet (mOp fAdd (mC (.str ("breaks " : Str))) (mF1 fStrI (mVar 3)))) rNext)) (rRet (mC .non))))))
def F_law_refusal : List D → SS → Option D := fnR N_law_refusal 3 R_law_refusal
theorem wk_law_refusal {P : Program} {wl : World} {w : Ws} {mg : Str → Option Value} (M : Blt mg) (G : Gnd w mg) (c_law_inside : DefP P wl w mg 1 "_law_inside" F_law_inside) (D : DefC w mg "_law_refusal" (top 35)) : DefP P wl w mg 2 "_law_refusal" F_law_refusal :=
  have S := sc_law_refusal
  D.p (k := 1) S (fun _ _ _ _ _ _ us hl => match us, hl with | [_, _, _], _ => rfl) fun f c A outer s H E hr hf => (dr_cons (dr_if (dt_isN (dp_var 1) dp_non) (dr_one (dr_ret dp_str)) dr_nil) (dr_cons (dr_if (db_not (db_val (dp_call hf c_law_inside (hr.mono (by decide)) (by rfl) (da_cons (dp_ix (dp_var 1) dp_int) (da_cons (dp_var 2) da_nil))))) (dr_one (dr_ret dp_str)) dr_nil) (dr_cons (dr_if (db_val (dp_call hf c_law_inside (hr.mono (by decide)) (by rfl) (da_cons (dp_ix (dp_var 1) dp_int) (da_cons (dp_var 2) da_nil)))) (dr_one (dr_ret dp_str)) dr_nil) (dr_cons (dr_for PassesOwn.never rfl (own := [3]) (gt_name (i := 3) (by decide)) (di_rng (by rfl) M.range (dp_len (by rfl) M.len (dp_var 0))) (pg_name S.nd rfl (by first | exact Or.inl rfl | exact Or.inr rfl)) (dr_one (dr_if ((db_and (db_val (dp_call hf c_law_inside (hr.mono (by decide)) (by rfl) (da_cons (dp_ix (dp_ix (dp_var 0) (dp_var 3)) dp_int) (da_cons (dp_var 2) da_nil)))) (db_and1 (db_not (db_val (dp_call hf c_law_inside (hr.mono (by decide)) (by rfl) (da_cons (dp_ix (dp_ix (dp_var 0) (dp_var 3)) dp_int) (da_cons (dp_var 2) da_nil))))))).pt) (dr_one (dr_ret (dp_add dp_str (dp_strI (by rfl) M.str (dp_var 3))))) dr_nil))) (dr_one (dr_ret dp_non))))))

def N_law_answered : List Str := [("_law_explorer" : Str), ("_law_row" : Str), ("e" : Str)]
theorem sc_law_answered : FnScope N_law_answered [("_law_explorer" : Str), ("_law_row" : Str)] (defScope (top 36)) := ⟨rfl, rfl, rfl, by decide +kernel, rfl, by decide +kernel, by decide +kernel⟩
def X_law_answered : XS := (sTry "AnswerFault" (sSeqE (sIfE (xbOf (bV (mOp fIsN (mVar 1) (mC .non)))) (sRetE (xTupE (xConsE (fun _ => (xOf (mC (.str ("done" : Str))))) (xConsE (xMethE "Explorer" "accept" (mVar 0) T_Explorer_accept xNil) (fun _ => xNil))))) (fun _ => sNext)) (sRetE (xTupE (xConsE (fun _ => (xOf (mC (.str ("done" : Str))))) (xConsE (xMethE "Explorer" "reject" (mVar 0) T_Explorer_reject (xCons (xOf (mVar 1)) xNil)) (fun _ => xNil)))))))
def T_law_answered : XT := fnT N_law_answered 2 X_law_answered
theorem wk_law_answered {P : Program} {wl : World} {w : Ws} {mg : Str → Option Value} (M : Blt mg) (G : Gnd w mg) (c_Explorer_accept : MethE P wl w mg 34 "Explorer" "accept" T_Explorer_accept) (c_Explorer_reject : MethE P wl w mg 35 "Explorer" "reject" T_Explorer_reject) (F_AnswerFault : FltD P wl w mg 1 "AnswerFault" "ConceptFault") (D : DefC w mg "_law_answered" (top 36)) : DefX P wl w mg 36 "_law_answered" T_law_answered :=
  have S := sc_law_answered
  D.x (k := 35) S (fun _ _ _ _ _ _ us hl => match us, hl with | [_, _], _ => rfl) fun f c A outer s H E hr hf => (ds_one (ds_tryF (i := 2) hf F_AnswerFault S.nd (by rfl) (by rfl) M.isinstance (by rfl) (by rfl) M.ValueError (fun W pn xe tk => (have hf := fit_tr hf; (de_cons (de_if (PT.nox (have hf := fit_nox hf; (dxb_of (dt_isN (dp_var 1) dp_non)))) (de_one (de_ret (dee_tup (dae_cons (dee_lift (PE.nox (have hf := fit_nox hf; (dx_of dp_str)))) (dae_cons (dee_meth0 hf tk c_Explorer_accept (hr.mono (by decide)) (dp_var 0)) dae_nil))))) (des_lift (PSs.nox (have hf := fit_nox hf; ds_nil)))) (de_one (de_ret (dee_tup (dae_cons (dee_lift (PE.nox (have hf := fit_nox hf; (dx_of dp_str)))) (dae_cons (dee_meth hf tk c_Explorer_reject (hr.mono (by decide)) (dp_var 0) (dxa_cons (dx_of (dp_var 1)) dxa_nil)) dae_nil))))))))))

def N_law : List Str := [("_law_script" : Str), ("_law_box_here" : Str), ("_law_many" : Str), ("_law_k" : Str), ("_law_rows" : Str), ("_law_explorer" : Str), ("_law_table" : Str), ("_law_accepted" : Str), ("_law_turn" : Str), ("_law_question" : Str), ("_law_row" : Str), ("_law_reason" : Str), ("_law_m" : Str), ("_law_told" : Str)]
theorem sc_law : FnScope N_law [("_law_script" : Str)] (defScope (top 37)) := ⟨rfl, rfl, rfl, by decide +kernel, rfl, by decide +kernel, by decide +kernel⟩
def X_law (ns : List Int) : XS := (sSeq (sAsg (xCallS T_law_box ns (xCons (xOf (mC (.int 0))) (xCons (xOf (mC (.int 62))) xNil))) (tgN 1)) (sSeq (sAsg (xCall T_law_draw (xCons (xOf (mVar 1)) (xCons (xOf (mC (.int 5))) xNil))) (tgN 2)) (sSeq (sAsg (xTupL (xComp (xRng (xCall T_law_draw (xCons (xOf (mVar 1)) (xCons (xOf (mC (.int 4))) xNil)))) (tgN 3) (xbOf bYes) (xCall T_law_some (xCons (xOf (mVar 1)) (xCons (xOf (mVar 2)) (xCons (xOf (mC (.int 3))) xNil)))) [3])) (tgN 4)) (sSeq (sAsg (xMake "Explorer" T_Explorer___init__ (xCons (xOf (mVar 2)) (xCons (xOf (mVar 4)) xNil))) (tgN 5)) (sSeq (sAsg (xOf (mTup (mCons (mC (.str ("table" : Str))) (mCons (mVar 2) (mCons (mVar 4) mNil))))) (tgN 6)) (sSeq (sAsg (xOf (mTup mNil)) (tgN 7)) (sSeq (sFor (xiOf (iRng (mC (.int 12)))) (tgN 8) (sSeq (sAsg (xCall T_law_asked (xCons (xOf (mVar 6)) (xCons (xOf (mVar 7)) xNil))) (tgN 9)) (sSeq (sIf (xAnd (xV (xOp fGt (xCall T_law_draw (xCons (xOf (mVar 1)) (xCons (xOf (mC (.int 3))) xNil))) (xOf (mC (.int 0))))) (xNot (xV (xCall (xF F_law_same) (xCons (xMeth "Explorer" "question" (mVar 5) T_Explorer_question xNil) (xCons (xOf (mVar 9)) xNil)))))) (sRet (xOf (mC (.bl false)))) sNext) (sSeq (sAsg (xOf (mC .non)) (tgN 10)) (sSeq (sAsg (xOf (mC .non)) (tgN 11)) (sSeq (sIf (xV (xOp fGt (xCall T_law_draw (xCons (xOf (mVar 1)) (xCons (xOf (mC (.int 3))) xNil))) (xOf (mC (.int 0))))) (sSeq (sAsg (xCall T_law_some (xCons (xOf (mVar 1)) (xCons (xOf (mVar 2)) (xCons (xOf (mC (.int 3))) xNil)))) (tgN 10)) (sSeq (sIf (xAnd (xbOf (bV (mOp fNotN (mVar 9) (mC .non)))) (xV (xOp fEq (xCall T_law_draw (xCons (xOf (mVar 1)) (xCons (xOf (mC (.int 2))) xNil))) (xOf (mC (.int 0)))))) (sSeq (sAsg (xTupL (xSortSet (xOf (mOp fAdd (mVar 10) (mOp fIx (mVar 9) (mC (.int 0))))))) (tgN 10)) (sAsg (xOf (mTupL (mComp (iSeq (mVar 10)) (tgN 12) (bV (mOp fNe (mVar 12) (mOp fIx (mOp fIx (mVar 9) (mC (.int 1))) (mC (.int 0))))) (mVar 12) [12]))) (tgN 10))) sNext) (sAsg (xOf (mCall F_law_refusal (mCons (mVar 7) (mCons (mVar 9) (mCons (mVar 10) mNil))))) (tgN 11)))) (sIf (xbOf (bV (mOp fIsN (mVar 9) (mC .non)))) (sAsg (xOf (mC (.str ("no question" : Str)))) (tgN 11)) sNext)) (sSeq (sAsg (xCall T_law_answered (xCons (xOf (mVar 5)) (xCons (xOf (mVar 10)) xNil))) (tgN 13)) (sSeq (sIf (xbOf (bV (mOp fNotN (mVar 11) (mC .non)))) (sIf (xbOf (bNot (bV (mCall F_law_same (mCons (mVar 13) (mCons (mTup (mCons (mC (.str ("fault" : Str))) (mCons (mVar 11) mNil))) mNil)))))) (sRet (xOf (mC (.bl false)))) sNext) (sIf (xbOf (bV (mOp fNe (mOp fIx (mVar 13) (mC (.int 0))) (mC (.str ("done" : Str)))))) (sRet (xOf (mC (.bl false)))) (sIf (xbOf (bV (mOp fIsN (mVar 10) (mC .non)))) (sAsg (xOf (mOp fAdd (mVar 7) (mTup (mCons (mVar 9) mNil)))) (tgN 7)) (sAsg (xOf (mTup (mCons (mC (.str ("table" : Str))) (mCons (mVar 2) (mCons (mOp fAdd (mOp fIx (mVar 6) (mC (.int 2))) (mTup (mCons (mVar 10) mNil))) mNil))))) (tgN 6))))) (sIf (xbOf (bOr (bNot (bV (mCall F_law_same (mCons (mFld "Explorer" "table" (mVar 5)) (mCons (mVar 6) mNil))))) (bNot (bV (mCall F_law_same (mCons (mFld "Explorer" "accepted" (mVar 5)) (mCons (mVar 7) mNil))))))) (sRet (xOf (mC (.bl false)))) sNext))))))))) (sRet (xOf (mC (.bl true)))))))))))
def T_law : XTS := fnS N_law 1 X_law
theorem wk_law {P : Program} {wl : World} {w : Ws} {mg : Str → Option Value} (M : Blt mg) (G : Gnd w mg) (c_Explorer___init__ : MakeX P wl w mg 1 "Explorer" T_Explorer___init__) (c_Explorer_question : MethX P wl w mg 33 "Explorer" "question" T_Explorer_question) (c_law_answered : DefX P wl w mg 36 "_law_answered" T_law_answered) (c_law_asked : DefX P wl w mg 4 "_law_asked" T_law_asked) (c_law_box : DefS P wl w mg 3 "_law_box" T_law_box) (c_law_draw : DefX P wl w mg 1 "_law_draw" T_law_draw) (c_law_refusal : DefP P wl w mg 2 "_law_refusal" F_law_refusal) (c_law_same : DefP P wl w mg 12 "_law_same" F_law_same) (c_law_some : DefX P wl w mg 2 "_law_some" T_law_some) (C_Explorer : ClsD w "Explorer" [("accepted" : Str), ("table" : Str)]) (D : DefC w mg "law" (top 37)) : DefS P wl w mg 37 "law" T_law :=
  have S := sc_law
  D.s (k := 36) S (fun _ _ _ _ _ _ us hl => match us, hl with | [_], _ => rfl) fun f c a ns A outer s H E hr hf => (ds_cons (ds_set (i := 1) S.nd rfl (by first | exact Or.inl rfl | exact Or.inr rfl) (dx_callS hf c_law_box (hr.mono (by decide)) (by rfl) pe_scr (dxa_cons (dx_of dp_int) (dxa_cons (dx_of dp_int) dxa_nil))) (hfx := fxS (i := 1) (by decide))) (ds_cons (ds_set (i := 2) S.nd rfl (by first | exact Or.inl rfl | exact Or.inr rfl) (dx_call hf c_law_draw (hr.mono (by decide)) (by rfl) (dxa_cons (dx_of (dp_var 1)) (dxa_cons (dx_of dp_int) dxa_nil))) (hfx := fxS (i := 2) (by decide))) (ds_cons (ds_set (i := 4) S.nd rfl (by first | exact Or.inl rfl | exact Or.inr rfl) (dx_tupL (by rfl) M.tuple (dxl_lc (own := [(("_law_k" : Str), 3)]) rfl S.nd (dxi_rng (by rfl) M.range (dx_call hf c_law_draw (hr.mono (by decide)) (by rfl) (dxa_cons (dx_of (dp_var 1)) (dxa_cons (dx_of dp_int) dxa_nil)))) (blkOk_by (by rfl)) (gt_name (i := 3) (by decide) (hfx := fxS (i := 3) (by decide))) (fun _ _ _ _ _ => (pg_name S.nd rfl (by first | exact Or.inl rfl | exact Or.inr rfl))) (fun _ _ _ _ _ => dxts_nil) (fun _ _ _ _ _ => (dx_call hf.blk c_law_some (hr.mono (by decide)) (by rfl) (dxa_cons (dx_of (dp_var 1)) (dxa_cons (dx_of (dp_var 2)) (dxa_cons (dx_of dp_int) dxa_nil))))) (hfx := fxSl (l := [3]) (by decide)))) (hfx := fxS (i := 4) (by decide))) (ds_cons (ds_set (i := 5) S.nd rfl (by first | exact Or.inl rfl | exact Or.inr rfl) (dx_make hf c_Explorer___init__ (hr.mono (by decide)) (by rfl) (dxa_cons (dx_of (dp_var 2)) (dxa_cons (dx_of (dp_var 4)) dxa_nil))) (hfx := fxS (i := 5) (by decide))) (ds_cons (ds_set (i := 6) S.nd rfl (by first | exact Or.inl rfl | exact Or.inr rfl) (dx_of (dp_tup (da_cons dp_str (da_cons (dp_var 2) (da_cons (dp_var 4) da_nil))))) (hfx := fxS (i := 6) (by decide))) (ds_cons (ds_set (i := 7) S.nd rfl (by first | exact Or.inl rfl | exact Or.inr rfl) (dx_of (dp_tup da_nil)) (hfx := fxS (i := 7) (by decide))) (ds_cons (ds_for PassesOwn.never rfl (own := [8]) (gt_name (i := 8) (by decide) (hfx := fxS (i := 8) (by decide))) (dxi_of (di_rng (by rfl) M.range dp_int)) (pg_name S.nd rfl (by first | exact Or.inl rfl | exact Or.inr rfl)) (ds_cons (ds_set (i := 9) S.nd rfl (by first | exact Or.inl rfl | exact Or.inr rfl) (dx_call hf c_law_asked (hr.mono (by decide)) (by rfl) (dxa_cons (dx_of (dp_var 6)) (dxa_cons (dx_of (dp_var 7)) dxa_nil))) (hfx := fxS (i := 9) (by decide))) (ds_cons (ds_if ((dxb_and (dxt_gt (dx_call hf c_law_draw (hr.mono (by decide)) (by rfl) (dxa_cons (dx_of (dp_var 1)) (dxa_cons (dx_of dp_int) dxa_nil))) (dx_of dp_int)) (dxb_and1 (dxb_not (dxb_val (dx_call hf c_law_same.x (hr.mono (by decide)) (by rfl) (dxa_cons (dx_meth0 hf c_Explorer_question (hr.mono (by decide)) (dp_var 5)) (dxa_cons (dx_of (dp_var 9)) dxa_nil))))))).pt) (ds_one (ds_ret (dx_of dp_bl))) ds_nil) (ds_cons (ds_set (i := 10) S.nd rfl (by first | exact Or.inl rfl | exact Or.inr rfl) (dx_of dp_non) (hfx := fxS (i := 10) (by decide))) (ds_cons (ds_set (i := 11) S.nd rfl (by first | exact Or.inl rfl | exact Or.inr rfl) (dx_of dp_non) (hfx := fxS (i := 11) (by decide))) (ds_cons (ds_if (dxt_gt (dx_call hf c_law_draw (hr.mono (by decide)) (by rfl) (dxa_cons (dx_of (dp_var 1)) (dxa_cons (dx_of dp_int) dxa_nil))) (dx_of dp_int)) (ds_cons (ds_set (i := 10) S.nd rfl (by first | exact Or.inl rfl | exact Or.inr rfl) (dx_call hf c_law_some (hr.mono (by decide)) (by rfl) (dxa_cons (dx_of (dp_var 1)) (dxa_cons (dx_of (dp_var 2)) (dxa_cons (dx_of dp_int) dxa_nil)))) (hfx := fxS (i := 10) (by decide))) (ds_cons (ds_if ((dxb_and (dxb_of (dt_notN (dp_var 9) dp_non)) (dxb_and1 (dxt_eq (hr.mono (by decide)) (dx_call hf c_law_draw (hr.mono (by decide)) (by rfl) (dxa_cons (dx_of (dp_var 1)) (dxa_cons (dx_of dp_int) dxa_nil))) (dx_of dp_int)))).pt) (ds_cons (ds_set (i := 10) S.nd rfl (by first | exact Or.inl rfl | exact Or.inr rfl) (dx_tupL (by rfl) M.tuple (dxl_sortSet rfl (by rfl) M.sorted (by rfl) M.set (dx_of (dp_add (dp_var 10) (dp_ix (dp_var 9) dp_int))))) (hfx := fxS (i := 10) (by decide))) (ds_one (ds_set (i := 10) S.nd rfl (by first | exact Or.inl rfl | exact Or.inr rfl) (dx_of (dp_tupL (by rfl) M.tuple (dl_lc (own := [(("_law_m" : Str), 12)]) rfl S.nd (di_seq (dp_var 10)) (blkOk_by (by rfl)) (gt_name (i := 12) (by decide) (hfx := fxS (i := 12) (by decide))) (fun _ _ _ _ _ => (pg_name S.nd rfl (by first | exact Or.inl rfl | exact Or.inr rfl))) (fun _ _ _ _ _ => (dts_one (dt_ne (hr.mono (by decide)) (dp_var 12) (dp_ix (dp_ix (dp_var 9) dp_int) dp_int)))) (fun _ _ _ _ _ => (dp_var 12)) (hfx := fxSl (l := [12]) (by decide))))) (hfx := fxS (i := 10) (by decide))))) ds_nil) (ds_one (ds_set (i := 11) S.nd rfl (by first | exact Or.inl rfl | exact Or.inr rfl) (dx_of (dp_call hf c_law_refusal (hr.mono (by decide)) (by rfl) (da_cons (dp_var 7) (da_cons (dp_var 9) (da_cons (dp_var 10) da_nil))))) (hfx := fxS (i := 11) (by decide)))))) (ds_one (ds_if (dxb_of (dt_isN (dp_var 9) dp_non)) (ds_one (ds_set (i := 11) S.nd rfl (by first | exact Or.inl rfl | exact Or.inr rfl) (dx_of dp_str) (hfx := fxS (i := 11) (by decide)))) ds_nil))) (ds_cons (ds_set (i := 13) S.nd rfl (by first | exact Or.inl rfl | exact Or.inr rfl) (dx_call hf c_law_answered (hr.mono (by decide)) (by rfl) (dxa_cons (dx_of (dp_var 5)) (dxa_cons (dx_of (dp_var 10)) dxa_nil))) (hfx := fxS (i := 13) (by decide))) (ds_cons (ds_if (dxb_of (dt_notN (dp_var 11) dp_non)) (ds_one (ds_if (dxb_of (db_not (db_val (dp_call hf c_law_same (hr.mono (by decide)) (by rfl) (da_cons (dp_var 13) (da_cons (dp_tup (da_cons dp_str (da_cons (dp_var 11) da_nil))) da_nil)))))) (ds_one (ds_ret (dx_of dp_bl))) ds_nil)) (ds_one (ds_if (dxb_of (dt_ne (hr.mono (by decide)) (dp_ix (dp_var 13) dp_int) dp_str)) (ds_one (ds_ret (dx_of dp_bl))) (ds_one (ds_if (dxb_of (dt_isN (dp_var 10) dp_non)) (ds_one (ds_set (i := 7) S.nd rfl (by first | exact Or.inl rfl | exact Or.inr rfl) (dx_of (dp_add (dp_var 7) (dp_tup (da_cons (dp_var 9) da_nil)))) (hfx := fxS (i := 7) (by decide)))) (ds_one (ds_set (i := 6) S.nd rfl (by first | exact Or.inl rfl | exact Or.inr rfl) (dx_of (dp_tup (da_cons dp_str (da_cons (dp_var 2) (da_cons (dp_add (dp_ix (dp_var 6) dp_int) (dp_tup (da_cons (dp_var 10) da_nil))) da_nil))))) (hfx := fxS (i := 6) (by decide))))))))) (ds_one (ds_if (dxb_of ((db_or (db_not (db_val (dp_call hf c_law_same (hr.mono (by decide)) (by rfl) (da_cons (dp_fld hf C_Explorer (by decide) (dp_var 5)) (da_cons (dp_var 6) da_nil))))) (db_or1 (db_not (db_val (dp_call hf c_law_same (hr.mono (by decide)) (by rfl) (da_cons (dp_fld hf C_Explorer (by decide) (dp_var 5)) (da_cons (dp_var 7) da_nil))))))).pt)) (ds_one (ds_ret (dx_of dp_bl))) ds_nil)))))))))) (ds_one (ds_ret (dx_of dp_bl))))))))))
end
end Lk70

set_option Elab.async false
set_option linter.all false
set_option maxRecDepth 100000
set_option maxHeartbeats 4000000
namespace Lk70
open PySem PySem.Spec PyProof.Rows L2 GX GD GF
/-- the law's def, by those that it calls -/
theorem all_ok {P : Program} {wl : World} {w : Ws} {mg : Str → Option Value} (M : Blt mg) (G : Gnd w mg) (C_Explorer : ClsD w "Explorer" [("accepted" : Str), ("table" : Str)]) (K_Explorer : ClsM w mg "Explorer") (F_AnswerFault : FltD P wl w mg 1 "AnswerFault" "ConceptFault") (D_is_part : DefC w mg "is_part" (top 4)) (D_together : DefC w mg "together" (top 5)) (D_without : DefC w mg "without" (top 6)) (D_common : DefC w mg "common" (top 8)) (D_having : DefC w mg "having" (top 9)) (D_closure : DefC w mg "closure" (top 10)) (D_keeps : DefC w mg "keeps" (top 12)) (D_used_from : DefC w mg "used_from" (top 13)) (D_closed_under : DefC w mg "closed_under" (top 14)) (D_next_set : DefC w mg "next_set" (top 16)) (D_all_sets : DefC w mg "all_sets" (top 17)) (D_Explorer___init__ : DefM w "Explorer" "__init__" "Explorer.__init__" (inClass (top 19) 0) false) (D_Explorer_question : DefM w "Explorer" "question" "Explorer.question" (inClass (top 19) 1) true) (D_Explorer_accept : DefM w "Explorer" "accept" "Explorer.accept" (inClass (top 19) 2) false) (D_Explorer_fault : DefM w "Explorer" "fault" "Explorer.fault" (inClass (top 19) 3) false) (D_Explorer_reject : DefM w "Explorer" "reject" "Explorer.reject" (inClass (top 19) 4) false) (D_law_cell : DefC w mg "_law_cell" (top 21)) (D_law_digits : DefC w mg "_law_digits" (top 22)) (D_law_draw : DefC w mg "_law_draw" (top 23)) (D_law_same : DefC w mg "_law_same" (top 24)) (D_law_box : DefC w mg "_law_box" (top 25)) (D_law_some : DefC w mg "_law_some" (top 26)) (D_law_inside : DefC w mg "_law_inside" (top 27)) (D_law_common : DefC w mg "_law_common" (top 28)) (D_law_having : DefC w mg "_law_having" (top 29)) (D_law_closure : DefC w mg "_law_closure" (top 30)) (D_law_lectic : DefC w mg "_law_lectic" (top 31)) (D_law_subsets : DefC w mg "_law_subsets" (top 32)) (D_law_closed_under : DefC w mg "_law_closed_under" (top 33)) (D_law_asked : DefC w mg "_law_asked" (top 34)) (D_law_refusal : DefC w mg "_law_refusal" (top 35)) (D_law_answered : DefC w mg "_law_answered" (top 36)) (D_law : DefC w mg "law" (top 37)) : DefS P wl w mg 37 "law" T_law := by
  have c_is_part := wk_is_part (P := P) (wl := wl) M G D_is_part
  have c_together : DefX P wl w mg 1 "together" T_together := DefX.imp (wk_together (P := P) (wl := wl) M G D_together) tog_ok
  have c_without := wk_without (P := P) (wl := wl) M G D_without
  have c_common := wk_common (P := P) (wl := wl) M G D_common
  have c_having := wk_having (P := P) (wl := wl) M G c_is_part D_having
  have c_closure := wk_closure (P := P) (wl := wl) M G c_common c_having D_closure
  have c_keeps := wk_keeps (P := P) (wl := wl) M G c_is_part D_keeps
  have c_used_from : DefX P wl w mg 6 "used_from" T_used_from := DefX.imp (wk_used_from (P := P) (wl := wl) M G c_keeps c_together D_used_from) used_ok
  have c_closed_under : DefP P wl w mg 7 "closed_under" F_closed_under := DefX.toP (wk_closed_under (P := P) (wl := wl) M G c_used_from D_closed_under) closed_under_ok
  have c_next_set : DefL P wl w mg 31 30 "next_set" T_next_set := DefL.imp (wk_next_set (P := P) (wl := wl) M G c_together D_next_set) next_ok
  have c_all_sets : DefL P wl w mg 32 30 "all_sets" T_all_sets := DefL.imp (wk_all_sets (P := P) (wl := wl) M G c_next_set D_all_sets) all_sets_ok
  have c_Explorer___init__ := (wk_Explorer___init__ (P := P) (wl := wl) M G C_Explorer D_Explorer___init__).make K_Explorer
  have c_Explorer_question := wk_Explorer_question (P := P) (wl := wl) M G c_all_sets c_closed_under c_closure c_without C_Explorer D_Explorer_question
  have c_Explorer_accept := wk_Explorer_accept (P := P) (wl := wl) M G c_Explorer_question C_Explorer F_AnswerFault D_Explorer_accept
  have c_Explorer_fault := wk_Explorer_fault (P := P) (wl := wl) M G c_Explorer_question c_is_part c_keeps C_Explorer D_Explorer_fault
  have c_Explorer_reject := wk_Explorer_reject (P := P) (wl := wl) M G c_Explorer_fault C_Explorer F_AnswerFault D_Explorer_reject
  have c_law_cell : DefS P wl w mg 1 "_law_cell" T_law_cell := DefS.imp (wk_law_cell (P := P) (wl := wl) M G D_law_cell) cell_ok
  have c_law_digits : DefS P wl w mg 2 "_law_digits" T_law_digits := DefS.imp (wk_law_digits (P := P) (wl := wl) M G c_law_cell D_law_digits) digits_ok
  have c_law_draw : DefX P wl w mg 1 "_law_draw" T_law_draw := DefX.imp (wk_law_draw (P := P) (wl := wl) M G D_law_draw) draw_ok
  have c_law_same : DefP P wl w mg 12 "_law_same" F_law_same := same_def (fun q => wk_law_same (P := P) (wl := wl) M G D_law_same q) (DefC.none (k := 0) D_law_same sc_law_same (fun _ _ _ _ _ _ us hl => match us, hl with | [_, _], _ => rfl))
  have c_law_box : DefS P wl w mg 3 "_law_box" T_law_box := DefS.imp (wk_law_box (P := P) (wl := wl) M G c_law_digits D_law_box) box_ok
  have c_law_some : DefX P wl w mg 2 "_law_some" T_law_some := DefX.imp (wk_law_some (P := P) (wl := wl) M G c_law_draw D_law_some) some_ok
  have c_law_inside := wk_law_inside (P := P) (wl := wl) M G D_law_inside
  have c_law_common := wk_law_common (P := P) (wl := wl) M G D_law_common
  have c_law_having := wk_law_having (P := P) (wl := wl) M G c_law_inside D_law_having
  have c_law_closure := wk_law_closure (P := P) (wl := wl) M G c_law_common c_law_having D_law_closure
  have c_law_lectic : DefX P wl w mg 1 "_law_lectic" T_law_lectic := DefX.imp (wk_law_lectic (P := P) (wl := wl) M G D_law_lectic) lectic_ok
  have c_law_subsets : DefX P wl w mg 2 "_law_subsets" T_law_subsets := DefX.imp (wk_law_subsets (P := P) (wl := wl) M G c_law_lectic D_law_subsets) subsets_ok
  have c_law_closed_under : DefX P wl w mg 2 "_law_closed_under" T_law_closed_under := DefX.imp (wk_law_closed_under (P := P) (wl := wl) M G c_law_inside D_law_closed_under) law_cu_ok
  have c_law_asked := wk_law_asked (P := P) (wl := wl) M G c_law_closed_under c_law_closure c_law_subsets D_law_asked
  have c_law_refusal := wk_law_refusal (P := P) (wl := wl) M G c_law_inside D_law_refusal
  have c_law_answered := wk_law_answered (P := P) (wl := wl) M G c_Explorer_accept c_Explorer_reject F_AnswerFault D_law_answered
  have c_law := wk_law (P := P) (wl := wl) M G c_Explorer___init__ c_Explorer_question c_law_answered c_law_asked c_law_box c_law_draw c_law_refusal c_law_same c_law_some C_Explorer D_law
  exact c_law
end Lk70

set_option Elab.async false
set_option linter.all false
set_option maxRecDepth 100000
set_option maxHeartbeats 4000000
namespace Lk70
open PySem PySem.Spec PyProof.Rows L2 GX GD GF
/-! an explorer in the store -/
theorem kne : ¬ (("table" : Str) = "accepted") := by decide +kernel
def fsO (t a : D) : List (Str × D) := [(("table" : Str), t), (("accepted" : Str), a)]
def exO (many : Nat) (rows : List (List Nat)) (acc : List Imp) : Cell := .obj "Explorer" (fsO (tblD many rows) (.tup (acc.map impD)))
section
variable {many n : Nat} {rows world : List (List Nat)} {acc : List Imp} {st : SS} {s : List Nat} {env : EV} {m : MP} {R : D → SS → Prop}
theorem f_tab (h : m env st = some (.ref n)) (c : st[n]? = some (exO many rows acc)) : mFld "Explorer" "table" m env st = some (tblD many rows) := by
  unfold mFld
  rw [h]
  simp only [c, exO]
  rw [if_pos trivial]
  rfl
theorem f_acc (h : m env st = some (.ref n)) (c : st[n]? = some (exO many rows acc)) : mFld "Explorer" "accepted" m env st = some (.tup (acc.map impD)) := by
  unfold mFld
  rw [h]
  simp only [c, exO]
  rw [if_pos trivial]
  rfl
theorem put_tab (t a d : D) : putA "table" d (fsO t a) = fsO d a := by
  unfold fsO putA
  rw [if_pos rfl]
theorem put_acc (t a d : D) : putA "accepted" d (fsO t a) = fsO t d := by
  unfold fsO putA
  rw [if_neg kne]
  unfold putA
  rw [if_pos rfl]
theorem put_acc' (t d : D) : putA "accepted" d (putA "table" t []) = fsO t d := by
  show putA _ _ [((("table" : Str)), t)] = _
  unfold putA
  rw [if_neg kne]
  rfl
theorem bT_l {m : MP} {env : EV} {st : SS} {q : Nat} {l : List D} (h : m env st = some (.ref q)) (c : st[q]? = some (.lst l)) : bT m env st = some (!l.isEmpty) := by
  unfold bT
  rw [h]
  show truD _ _ = _
  unfold truD
  simp only [c]
def optQ (cl : List Nat → List Nat) : Option (List Nat) → D
  | none => .non
  | some s => impD (stemI cl s)
theorem ask_closedL {cl : List Nat → List Nat} : askM many cl acc = (closedL many (cuM acc)).find? fun s => !decide (cl s = s) := by
  unfold closedL askM
  rw [List.find?_filter]
  congr 1
  funext a
  unfold askP
  rw [Bool.eq_iff_iff, decide_eq_true_eq, Bool.and_eq_true]
theorem tab_e (st : SS) : fIx st (tblD many rows) (.int 1) = some (nI many) := rfl
theorem q_ev (c : st[n]? = some (exO many rows acc)) (hm : many ≤ 16) (hi : ImpIn many acc) (hl : acc.length ≤ 1000) (hR : ∀ st1, Up st st1 → R (optQ (closureM many rows) (askM many (closureM many rows) acc)) st1) : T_Explorer_question [.ref n] st R := by
  refine ⟨rfl, ?_⟩
  show X_Explorer_question _ [some (.ref n), none, none] st
  refine ⟨nI many, (mOp_e (f_tab rfl c) rfl).trans (tab_e _), [.ref n], rfl, many, cuM acc, rfl, hm, cu_op hi, ?_, fun s1 p hp u1 hc1 => ⟨_, some p, seqI_lst hc1, ?_⟩⟩
  · rintro ds' st' R' ⟨s, e, hs, hu, h⟩
    subst e
    exact ⟨_, (mCall2 (f_acc rfl (hu.get c)) rfl).trans (closed_under_eval (ImpsAt.tup _ _) hm hs hi hl), h st' (Up.refl _)⟩
  · rw [ask_closedL] at hR
    refine for_ls (st0 := s1) (ro := some p) (f := dN) (items := closedL many (cuM acc)) (fun done env s => ∃ x1 x2, env = [some (.ref n), x1, x2] ∧ Up s1 s ∧ ∀ x ∈ done, closureM many rows x = x) (fun done env s ⟨_, _, _, u, _⟩ => u _ (List.getElem?_eq_some_iff.mp hc1).1) ?_ ?_ ⟨none, none, rfl, Up.refl _, fun _ z => nomatch z⟩
    · rintro done x todo env s hsp ⟨x1, x2, rfl, u, hd⟩
      refine ⟨_, rfl, fun K k1 _ k3 _ => ?_⟩
      refine ⟨dN (closureM many rows x), (mCall2 (f_tab rfl (u.get (u1.get c))) rfl).trans (closure_eval (by omega)), _, rfl, ?_⟩
      refine ⟨!decide (closureM many rows x = x), bV_e ((mOp_e rfl rfl).trans (fNe_dN _ _ _)), ?_⟩
      by_cases hx : closureM many rows x = x
      · rw [decide_eq_true hx]
        refine iteF (k1 _ _ ⟨_, _, rfl, u, fun y hy => ?_⟩)
        rcases List.mem_append.mp hy with hy | hy
        · exact hd y hy
        · rw [List.mem_singleton.mp hy]; exact hx
      · rw [decide_eq_false hx]
        refine iteT ⟨impD (stemI (closureM many rows) x), mTup_e (mCons_e rfl (mCons1 ((mCall2 rfl rfl).trans (without_eval _ _ _)))) (by show 2 ≤ 1000; omega), ?_⟩
        rw [k3]
        have : (closedL many (cuM acc)).find? (fun s => !decide (closureM many rows s = s)) = some x := by
          rw [hsp, List.find?_append, List.find?_eq_none.mpr fun y hy => by rw [hd y hy]; simp, Option.none_or, List.find?_cons, decide_eq_false hx]
          rfl
        rw [this] at hR
        exact hR s (u1.trans u)
    · rintro env s ⟨x1, x2, rfl, u, hd⟩
      have : (closedL many (cuM acc)).find? (fun s => !decide (closureM many rows s = s)) = none := List.find?_eq_none.mpr fun y hy => by rw [hd y hy]; simp
      rw [this] at hR
      exact ⟨_, rfl, hR s (u1.trans u)⟩
variable {Ex : EXC} {row : List Nat}
def eND : D := .str ("no question" : Str)
theorem a_ev (c : st[n]? = some (exO many rows acc)) (hm : many ≤ 16) (hi : ImpIn many acc) (hl : acc.length ≤ 900) (h1 : ∀ s st1, askM many (closureM many rows) acc = some s → Up st st1 → R .non (st1.set n (exO many rows (acc ++ [stemI (closureM many rows) s])))) (h2 : ∀ st1, askM many (closureM many rows) acc = none → Up st st1 → Ex "AnswerFault" eND st1) : T_Explorer_accept [.ref n] st R Ex := by
  refine ⟨rfl, ?_⟩
  show X_Explorer_accept Ex _ [some (.ref n), none] st
  refine ⟨n, _, rfl, c, rfl, q_ev c hm hi (by omega) fun s1 u1 => ⟨_, rfl, ?_⟩⟩
  have c1 := u1.get c
  cases ha : askM many (closureM many rows) acc with
  | none => exact ⟨true, rfl, iteT ⟨_, rfl, _, rfl, h2 s1 ha u1⟩⟩
  | some s =>
    refine ⟨false, rfl, iteF ⟨n, _, acc.map impD, [impD (stemI (closureM many rows) s)], rfl, c1, rfl, rfl, by rw [List.length_map]; show _ + 1 ≤ _; omega, by show 2 < 1000; omega, ?_⟩⟩
    rw [put_acc]
    have := h1 s s1 ha u1
    unfold exO at this
    rw [List.map_append] at this
    exact this
/-! ### the reason for which a row is refused -/
def brkD (k : Nat) : D := .str (("breaks " : Str) ++ ((toString ((k : Nat) : Int) : String) : Str))
def brkM (acc : List Imp) (row : List Nat) : Option Nat := (List.range acc.length).find? fun i => !keepB row (acc.getD i noImp)
def refM (acc : List Imp) (q : Option Imp) (row : List Nat) : Option D := match q with
  | none => some eND
  | some q => if isPart q.1 row = false then some (.str ("lacks the premise" : Str)) else if isPart q.2 row = true then some (.str ("has the conclusion" : Str)) else (brkM acc row).map brkD
def optR (o : Option D) : D := o.getD .non
theorem brk_short : ∀ k : Nat, k ≤ 16 → (("breaks " : Str)).length + ((toString ((k : Nat) : Int) : String) : Str).length ≤ 1000000 := by decide +kernel
theorem brk_good : ∀ k : Nat, k ≤ 16 → D.good (brkD k) = true := by decide +kernel
theorem str_empty (x : Str) : Str.empty ++ x = x := by
  obtain ⟨a⟩ := x
  show (Str.mk (#[] ++ a)) = _
  rw [Array.empty_append]
theorem brk_pre {st : SS} {k : Nat} (h : k ≤ 16) : fPre ("breaks " : Str) st (nI k) = some (brkD k) := by
  show (if ((k : Int)).natAbs < 1000000 ∧ ("breaks " : Str).length ≤ 1000 then some (D.str ((Str.empty ++ ("breaks " : Str)) ++ ((toString ((k : Nat) : Int) : String) : Str))) else none) = _
  rw [if_pos ⟨by omega, by decide +kernel⟩, str_empty]
  rfl
theorem brk_add {st : SS} {k : Nat} (h : k ≤ 16) : ∃ d, fStrI st (nI k) = some d ∧ fAdd st (.str ("breaks " : Str)) d = some (brkD k) := by
  refine ⟨.str ((toString ((k : Nat) : Int) : String) : Str), ?_, ?_⟩
  · show (if ((k : Int)).natAbs < 1000000 then some (D.str ((toString ((k : Nat) : Int) : String) : Str)) else none) = _
    rw [if_pos (by omega)]
  · show (if _ + _ ≤ 1000000 then some (D.str (("breaks " : Str) ++ ((toString ((k : Nat) : Int) : String) : Str))) else none) = _
    rw [if_pos (brk_short k h)]
    rfl
theorem brk_lt {k : Nat} (h : brkM acc row = some k) : k < acc.length := List.mem_range.mp (List.mem_of_find?_eq_some h)
theorem head_find {α : Type} (p : α → Bool) (l : List α) : (l.filter p).head? = l.find? p := List.head?_filter
theorem fa_ev (c : st[n]? = some (exO many rows acc)) (hm : many ≤ 16) (hi : ImpIn many acc) (hl : acc.length ≤ 16) (hR : ∀ st1, Up st st1 → R (optR (refM acc ((askM many (closureM many rows) acc).map (stemI (closureM many rows))) row)) st1) : T_Explorer_fault [.ref n, dN row] st R := by
  refine ⟨rfl, ?_⟩
  show X_Explorer_fault _ [some (.ref n), some (dN row), none, none, none, none] st
  refine ⟨n, _, rfl, c, rfl, q_ev c hm hi (by omega) fun s1 u1 => ⟨_, rfl, ?_⟩⟩
  have c1 := u1.get c
  cases ha : askM many (closureM many rows) acc with
  | none =>
    rw [ha] at hR
    exact ⟨true, rfl, iteT ⟨_, rfl, hR s1 u1⟩⟩
  | some s =>
    rw [ha] at hR
    unfold refM at hR
    refine ⟨false, rfl, iteF ?_⟩
    refine ⟨!isPart s row, bNot_e (bV_e ((mCall2 (x := dN s) rfl rfl).trans (is_part_eval _ _ _))), ?_⟩
    cases h1 : isPart s row with
    | false =>
      refine iteT ⟨_, rfl, ?_⟩
      have := hR s1 u1
      simp only [Option.map_some, stemI] at this
      rw [if_pos h1] at this
      exact this
    | true =>
      refine iteF ?_
      simp only [Option.map_some] at hR
      rw [if_neg (by show ¬ isPart s row = false; rw [h1]; decide)] at hR
      refine ⟨isPart (stemI (closureM many rows) s).2 row, bV_e ((mCall2 (x := dN (stemI (closureM many rows) s).2) rfl rfl).trans (is_part_eval _ _ _)), ?_⟩
      cases h2 : isPart (stemI (closureM many rows) s).2 row with
      | true =>
        rw [if_pos h2] at hR
        exact iteT ⟨_, rfl, hR s1 u1⟩
      | false =>
        rw [if_neg (by rw [h2]; decide)] at hR
        refine iteF ⟨((List.range acc.length).filter fun i => !keepB row (acc.getD i noImp)).map nI, ?_, _, rfl, ?_⟩
        · have he : iEnum (mFld "Explorer" "accepted" (mVar 0)) [some (.ref n), some (dN row), some (impD (stemI (closureM many rows) s)), none, none, none] s1 = some ((List.range acc.length).map (fun i => D.tup [nI i, impD (acc.getD i noImp)]), none) := iEnum_e (f := impD) noImp (f_acc rfl c1) rfl
          exact comp_fi (f := fun i => D.tup [nI i, impD (acc.getD i noImp)]) (g := nI) (p := fun i => !keepB row (acc.getD i noImp)) (t := tgTup 2 (tgCons (tgN 3) (tgCons (tgN 4) tgNil))) (b := bNot (bV (mCall F_keeps (mCons (mVar 1) (mCons (mVar 4) mNil))))) (m := mVar 3) (own := [3, 4]) he fun i _ => ⟨_, rfl, bNot_e (bV_e ((mCall2 rfl rfl).trans (keeps_eval _ _ _))), fun _ => rfl⟩
        · have hb : brkM acc row = ((List.range acc.length).filter fun i => !keepB row (acc.getD i noImp)).head? := (head_find _ _).symm
          have g := getApp s1 (.lst (((List.range acc.length).filter fun i => !keepB row (acc.getD i noImp)).map nI))
          have u9 := u1.trans (Up.app s1 [.lst (((List.range acc.length).filter fun i => !keepB row (acc.getD i noImp)).map nI)])
          have hlt : ∀ k, brkM acc row = some k → k ≤ 16 := fun k hk => by have := brk_lt hk; omega
          generalize ((List.range acc.length).filter fun i => !keepB row (acc.getD i noImp)) = fl at hb g u9 ⊢
          cases fl with
          | nil =>
            rw [hb] at hR
            exact ⟨.non, mIf_e (x := false) ((bT_l rfl g).trans rfl) (fun z => by cases z) fun _ => rfl, hR _ u9⟩
          | cons k fl =>
            rw [hb] at hR hlt
            have ix : fIx (s1 ++ [Cell.lst (List.map nI (k :: fl))]) (.ref s1.length) (.int 0) = some (nI k) := getR (f := nI) (l := k :: fl) (i := 0) g rfl
            refine ⟨brkD k, mIf_e (x := true) ((bT_l rfl g).trans rfl) (fun _ => ?_) (fun z => by cases z), hR _ u9⟩
            exact (mF1_e (x := nI k) ((mOp_e (x := .ref s1.length) (y := .int 0) rfl rfl).trans ix)).trans (brk_pre (hlt k rfl))
theorem ref_str {o : Option Imp} {row : List Nat} {d : D} (h : refM acc o row = some d) : ∃ x, d = .str x := by
  unfold refM at h
  cases o with
  | none => exact ⟨_, (Option.some.inj h).symm⟩
  | some q =>
    simp only at h
    split at h
    · exact ⟨_, (Option.some.inj h).symm⟩
    · split at h
      · exact ⟨_, (Option.some.inj h).symm⟩
      · cases hb : brkM acc row with
        | none => rw [hb] at h; cases h
        | some k => rw [hb] at h; exact ⟨_, (Option.some.inj h).symm⟩
theorem r_ev (c : st[n]? = some (exO many rows acc)) (hm : many ≤ 16) (hi : ImpIn many acc) (hl : acc.length ≤ 16) (hr : rows.length ≤ 900) (h1 : ∀ st1, refM acc ((askM many (closureM many rows) acc).map (stemI (closureM many rows))) row = none → Up st st1 → R .non (st1.set n (exO many (rows ++ [row]) acc))) (h2 : ∀ d st1, refM acc ((askM many (closureM many rows) acc).map (stemI (closureM many rows))) row = some d → Up st st1 → Ex "AnswerFault" d st1) : T_Explorer_reject [.ref n, dN row] st R Ex := by
  refine ⟨rfl, ?_⟩
  show X_Explorer_reject Ex _ [some (.ref n), some (dN row), none] st
  refine ⟨n, _, rfl, c, rfl, dN row, rfl, fa_ev c hm hi hl fun s1 u1 => ⟨_, rfl, ?_⟩⟩
  have c1 := u1.get c
  cases hq : refM acc ((askM many (closureM many rows) acc).map (stemI (closureM many rows))) row with
  | some d => exact (by obtain ⟨x, rfl⟩ := ref_str hq; exact ⟨true, rfl, iteT ⟨_, rfl, _, rfl, h2 _ s1 hq u1⟩⟩)
  | none =>
    refine ⟨false, rfl, iteF ⟨tblD many (rows ++ [row]), ?_, n, _, rfl, c1, by show 2 < 1000; omega, ?_⟩⟩
    · refine mTup_e (mCons_e rfl (mCons_e ((mOp_e (f_tab rfl c1) rfl).trans (tab_e _)) (mCons1 ?_))) (by show 3 ≤ 1000; omega)
      refine (mOp_e ((mOp_e (y := .int 2) (f_tab rfl c1) rfl).trans (show fIx s1 (tblD many rows) (.int 2) = some (.tup (rows.map dN)) from rfl)) (y := .tup [dN row]) rfl).trans ?_
      refine (app_tup (by rw [List.length_map]; show _ + 1 ≤ _; omega)).trans ?_
      rw [List.map_append]
      rfl
    · rw [put_tab]
      exact h1 s1 hq u1
theorem i_ev {p : Nat} (c : st[p]? = some (.obj "Explorer" [])) (hR : R .non (st.set p (exO many rows []))) : T_Explorer___init__ [.ref p, nI many, .tup (rows.map dN)] st R := by
  refine ⟨rfl, ?_⟩
  show X_Explorer___init__ _ [some (.ref p), some (nI many), some (.tup (rows.map dN))] st
  have hp : p < st.length := (List.getElem?_eq_some_iff.mp c).1
  refine ⟨tblD many rows, mTup_e (mCons_e rfl (mCons_e rfl (mCons1 rfl))) (by show 3 ≤ 1000; omega), p, [], rfl, c, by show 0 < 1000; omega, ?_⟩
  refine ⟨.tup [], rfl, p, _, rfl, List.getElem?_set_self hp, by show 1 < 1000; omega, ?_⟩
  rw [List.set_set, put_acc' ]
  exact hR
end
end Lk70

set_option Elab.async false
set_option linter.all false
set_option maxRecDepth 100000
set_option maxHeartbeats 4000000
namespace Lk70
open PySem PySem.Spec PyProof.Rows L2 GX GD GF
section
variable {many n : Nat} {rows : List (List Nat)} {acc : List Imp} {st : SS} {s : List Nat} {R : D → SS → Prop}
theorem as_ev (hm : many ≤ 10) (hr : rows.length ≤ 1000000) (hi : ImpIn many acc) (hl : acc.length ≤ 1000) (hR : ∀ st1, Up st st1 → R (optQ (closureM many rows) (askM many (closureM many rows) acc)) st1) : T_law_asked [tblD many rows, .tup (acc.map impD)] st R := by
  refine ⟨rfl, ?_⟩
  show X_law_asked _ [some (tblD many rows), some (.tup (acc.map impD)), none, none, none] st
  refine ⟨nI many, rfl, many, rfl, hm, fun s1 p hp u1 hc1 => ⟨_, some p, seqI_lst hc1, ?_⟩⟩
  refine for_ls (st0 := s1) (ro := some p) (f := dN) (items := lecS 0 many) (fun done env s => ∃ x2 x3 x4, env = [some (tblD many rows), some (.tup (acc.map impD)), x2, x3, x4] ∧ Up s1 s ∧ ∀ x ∈ done, askP (closureM many rows) acc x = false) (fun done env s ⟨_, _, _, _, u, _⟩ => u _ (List.getElem?_eq_some_iff.mp hc1).1) ?_ ?_ ⟨none, none, none, rfl, Up.refl _, fun _ z => nomatch z⟩
  · rintro done x todo env s hsp ⟨x2, x3, x4, rfl, u, hd⟩
    have xin : SetIn 0 many x := inS (by rw [hsp]; exact List.mem_append_right _ List.mem_cons_self)
    have next : ∀ s2, Up s1 s2 → ∀ (x3 : Option D), askP (closureM many rows) acc x = false → ∃ y2 y3 y4, [some (tblD many rows), some (D.tup (acc.map impD)), some (dN x), x3, x4] = [some (tblD many rows), some (D.tup (acc.map impD)), y2, y3, y4] ∧ Up s1 s2 ∧ ∀ y ∈ done ++ [x], askP (closureM many rows) acc y = false := fun s2 u2 x3 h => ⟨_, _, _, rfl, u2, fun y hy => by
      rcases List.mem_append.mp hy with hy | hy
      · exact hd y hy
      · rw [List.mem_singleton.mp hy]; exact h⟩
    refine ⟨_, rfl, fun K k1 _ k3 _ => ?_⟩
    refine ⟨dN (closureM many rows x), (mCall2 rfl rfl).trans (law_closure_eval (by omega) hr), _, rfl, ?_⟩
    refine ⟨!decide (closureM many rows x = x), bV_e ((mOp_e rfl rfl).trans (fNe_dN _ _ _)), ?_⟩
    by_cases hx : closureM many rows x = x
    · rw [decide_eq_true hx]
      refine iteF (iteF (k1 _ _ (next s u _ ?_)))
      exact Bool.eq_false_iff.mpr fun z => (ask_true.mp z).2 hx
    · rw [decide_eq_false hx]
      refine iteT ⟨_, rfl, _, rfl, _, acc, x, many, rfl, ImpsAt.tup _ _, by omega, xin, hi, hl, fun s2 u2 => ⟨_, rfl, _, fEq_dN _ _ _, _, rfl, ?_⟩⟩
      by_cases hcu : cuM acc x = x
      · rw [decide_eq_true hcu]
        refine iteT ⟨impD (stemI (closureM many rows) x), mTup_e (mCons_e rfl (mCons1 (mTupL_e (comp_fi (f := nI) (g := nI) (p := fun k => !x.contains k) (iSeq_dN rfl) fun k _ => ⟨_, rfl, bV_e ((mOp_e rfl rfl).trans (fNotIn_nI _ _ _)), fun _ => rfl⟩)))) (by show 2 ≤ 1000; omega), ?_⟩
        rw [k3]
        have : askM many (closureM many rows) acc = some x := by
          unfold askM
          rw [hsp, List.find?_append, List.find?_eq_none.mpr fun y hy => by rw [hd y hy]; simp, Option.none_or, List.find?_cons, ask_true.mpr ⟨hcu, hx⟩]
        rw [this] at hR
        exact hR s2 ((u1.trans u).trans u2)
      · rw [decide_eq_false hcu]
        refine iteF (k1 _ _ (next s2 (u.trans u2) _ ?_))
        exact Bool.eq_false_iff.mpr fun z => hcu (ask_true.mp z).1
  · rintro env s ⟨x2, x3, x4, rfl, u, hd⟩
    have : askM many (closureM many rows) acc = none := List.find?_eq_none.mpr fun y hy => by rw [hd y hy]; simp
    rw [this] at hR
    exact ⟨_, rfl, hR s (u1.trans u)⟩
theorem ref_good {o : Option Imp} {row : List Nat} {d : D} (hl : acc.length ≤ 16) (h : refM acc o row = some d) : D.good d = true := by
  unfold refM at h
  cases o with
  | none => rw [← Option.some.inj h]; decide +kernel
  | some q =>
    simp only at h
    split at h
    · rw [← Option.some.inj h]; decide +kernel
    · split at h
      · rw [← Option.some.inj h]; decide +kernel
      · cases hb : brkM acc row with
        | none => rw [hb] at h; cases h
        | some k => rw [hb] at h; rw [← Option.some.inj h]; exact brk_good k (by have := brk_lt hb; omega)
theorem lo_ref (n : Nat) (o : Option Imp) (row : List Nat) : D.lo n (optR (refM acc o row)) = true := by
  cases h : refM acc o row with
  | none => rfl
  | some d => obtain ⟨x, rfl⟩ := ref_str h; rfl
theorem ref1 {q : Imp} {row : List Nat} (h : isPart q.1 row = false) : refM acc (some q) row = some (.str ("lacks the premise" : Str)) := by
  unfold refM
  exact if_pos h
theorem ref2 {q : Imp} {row : List Nat} (h : isPart q.1 row = true) (h2 : isPart q.2 row = true) : refM acc (some q) row = some (.str ("has the conclusion" : Str)) := by
  unfold refM
  exact (if_neg (by rw [h]; decide)).trans (if_pos h2)
theorem ref3 {q : Imp} {row : List Nat} (h : isPart q.1 row = true) (h2 : isPart q.2 row = false) : refM acc (some q) row = (brkM acc row).map brkD := by
  unfold refM
  exact (if_neg (by rw [h]; decide)).trans (if_neg (by rw [h2]; decide))
theorem refusal_eval {o : Option Imp} {row : List Nat} (hl : acc.length ≤ 16) : F_law_refusal [.tup (acc.map impD), retO impD o, dN row] st = some (optR (refM acc o row)) := by
  refine fnR_rt rfl ?_ (lo_ref _ _ _)
  show R_law_refusal [some (.tup (acc.map impD)), some (retO impD o), some (dN row), none] st = _
  cases o with
  | none => exact rSeq_rt ((rIf_t (bV_e rfl)).trans (rRet_e rfl))
  | some q =>
    refine (rSeq_nx ((rIf_f (bV_e rfl)).trans rfl)).trans ?_
    have e1 : bNot (bV (mCall F_law_inside (mCons (mOp fIx (mVar 1) (mC (.int 0))) (mCons (mVar 2) mNil)))) [some (.tup (acc.map impD)), some (impD q), some (dN row), none] st = some (!isPart q.1 row) := bNot_e (bV_e ((mCall2 (imp0 st q) rfl).trans (inside_eval st _ _)))
    have e2 : bV (mCall F_law_inside (mCons (mOp fIx (mVar 1) (mC (.int 1))) (mCons (mVar 2) mNil))) [some (.tup (acc.map impD)), some (impD q), some (dN row), none] st = some (isPart q.2 row) := bV_e ((mCall2 (imp1 st q) rfl).trans (inside_eval st _ _))
    cases h1 : isPart q.1 row with
    | false =>
      rw [h1] at e1
      rw [ref1 h1]
      exact rSeq_rt ((rIf_t e1).trans (rRet_e rfl))
    | true =>
      rw [h1] at e1
      refine (rSeq_nx ((rIf_f e1).trans rfl)).trans ?_
      cases h2 : isPart q.2 row with
      | true =>
        rw [h2] at e2
        rw [ref2 h1 h2]
        exact rSeq_rt ((rIf_t e2).trans (rRet_e rfl))
      | false =>
        rw [h2] at e2
        rw [ref3 h1 h2]
        refine (rSeq_nx ((rIf_f e2).trans rfl)).trans ?_
        refine (find_eval (f := nI) (g := brkD) (p := fun i => !keepB row (acc.getD i noImp)) (l := List.range acc.length) (fun env => ∃ a, env = [some (.tup (acc.map impD)), some (impD q), some (dN row), a]) (iRng_nat (n := acc.length) (lenE (f := impD) (l := acc) rfl) (by omega)) ⟨_, rfl⟩ ?_).trans ?_
        · rintro env ⟨a, rfl⟩ i hi
          have hi := List.mem_range.mp hi
          refine ⟨_, rfl, ⟨_, rfl⟩, ?_, fun _ => ?_⟩
          · rw [← GF.keep_and]
            exact bAnd_e (bV_e ((mCall2 ((mOp_e ((mOp_e rfl rfl).trans (getI1 (ImpsAt.tup st acc) hi)) rfl).trans (imp0 st _)) rfl).trans (inside_eval st _ _))) fun _ => bNot_e (bV_e ((mCall2 ((mOp_e ((mOp_e rfl rfl).trans (getI1 (ImpsAt.tup st acc) hi)) rfl).trans (imp1 st _)) rfl).trans (inside_eval st _ _)))
          · obtain ⟨d, h3, h4⟩ := brk_add (st := st) (k := i) (by omega)
            exact (mOp_e rfl ((mF1_e rfl).trans h3)).trans h4
        · unfold brkM
          cases (List.range acc.length).find? fun i => !keepB row (acc.getD i noImp) <;> rfl
/-! ### an answer -/
def reaM (acc : List Imp) (o : Option Imp) : Option (List Nat) → Option D
  | none => match o with | none => some eND | some _ => none
  | some row => refM acc o row
def newR (rows : List (List Nat)) : Option (List Nat) → List (List Nat)
  | none => rows
  | some row => rows ++ [row]
def newA (acc : List Imp) (o : Option Imp) : Option (List Nat) → List Imp
  | none => match o with | none => acc | some q => acc ++ [q]
  | some _ => acc
def askI (many : Nat) (rows : List (List Nat)) (acc : List Imp) : Option Imp := (askM many (closureM many rows) acc).map (stemI (closureM many rows))
theorem optQ_ret : optQ (closureM many rows) (askM many (closureM many rows) acc) = retO impD (askI many rows acc) := by
  unfold askI
  cases askM many (closureM many rows) acc <;> rfl
theorem ans_ev {p : Nat} {w : Option (List Nat)} (c : st[p]? = some (exO many rows acc)) (hm : many ≤ 16) (hi : ImpIn many acc) (hl : acc.length ≤ 16) (hr : rows.length ≤ 900)
    (h1 : ∀ s1, reaM acc (askI many rows acc) w = none → Up st s1 → R (.tup [.str ("done" : Str), .non]) (s1.set p (exO many (newR rows w) (newA acc (askI many rows acc) w))))
    (h2 : ∀ d s1, reaM acc (askI many rows acc) w = some d → Up st s1 → R (.tup [.str ("fault" : Str), d]) s1) : T_law_answered [.ref p, retO dN w] st R := by
  refine ⟨rfl, ?_⟩
  show X_law_answered _ [some (.ref p), some (retO dN w), none] st
  cases w with
  | none =>
    refine ⟨true, bV_e rfl, iteT ?_⟩
    refine ⟨.str ("done" : Str), rfl, p, _, rfl, c, rfl, a_ev c hm hi (by omega) (fun s s1 ha u1 => ?_) (fun s1 ha u1 => ?_)⟩
    · refine ⟨by show 2 ≤ 1000; decide, ?_⟩
      have e : askI many rows acc = some (stemI (closureM many rows) s) := by unfold askI; rw [ha]; rfl
      have := h1 s1 (by rw [e]; rfl) u1
      rw [e] at this
      exact this
    · have e : askI many rows acc = none := by unfold askI; rw [ha]; rfl
      exact ⟨rfl, h2 eND s1 (by rw [e]; rfl) u1⟩
  | some row =>
    refine ⟨false, bV_e rfl, iteF ?_⟩
    exact ⟨.str ("done" : Str), rfl, p, _, rfl, c, rfl, dN row, rfl, r_ev c hm hi hl hr (fun s1 ha u1 => ⟨by show 2 ≤ 1000; decide, h1 s1 ha u1⟩) fun d s1 ha u1 => ⟨rfl, h2 d s1 ha u1⟩⟩
end
end Lk70

set_option Elab.async false
set_option linter.all false
set_option maxRecDepth 100000
set_option maxHeartbeats 4000000
namespace Lk70
open PySem PySem.Spec PyProof.Rows L2 GX GD GF
def X_fin : XS := (sIf (xbOf (bOr (bNot (bV (mCall F_law_same (mCons (mFld "Explorer" "table" (mVar 5)) (mCons (mVar 6) mNil))))) (bNot (bV (mCall F_law_same (mCons (mFld "Explorer" "accepted" (mVar 5)) (mCons (mVar 7) mNil))))))) (sRet (xOf (mC (.bl false)))) sNext)
def X_tell : XS := (sSeq (sAsg (xCall T_law_answered (xCons (xOf (mVar 5)) (xCons (xOf (mVar 10)) xNil))) (tgN 13)) (sSeq (sIf (xbOf (bV (mOp fNotN (mVar 11) (mC .non)))) (sIf (xbOf (bNot (bV (mCall F_law_same (mCons (mVar 13) (mCons (mTup (mCons (mC (.str ("fault" : Str))) (mCons (mVar 11) mNil))) mNil)))))) (sRet (xOf (mC (.bl false)))) sNext) (sIf (xbOf (bV (mOp fNe (mOp fIx (mVar 13) (mC (.int 0))) (mC (.str ("done" : Str)))))) (sRet (xOf (mC (.bl false)))) (sIf (xbOf (bV (mOp fIsN (mVar 10) (mC .non)))) (sAsg (xOf (mOp fAdd (mVar 7) (mTup (mCons (mVar 9) mNil)))) (tgN 7)) (sAsg (xOf (mTup (mCons (mC (.str ("table" : Str))) (mCons (mVar 2) (mCons (mOp fAdd (mOp fIx (mVar 6) (mC (.int 2))) (mTup (mCons (mVar 10) mNil))) mNil))))) (tgN 6))))) (sIf (xbOf (bOr (bNot (bV (mCall F_law_same (mCons (mFld "Explorer" "table" (mVar 5)) (mCons (mVar 6) mNil))))) (bNot (bV (mCall F_law_same (mCons (mFld "Explorer" "accepted" (mVar 5)) (mCons (mVar 7) mNil))))))) (sRet (xOf (mC (.bl false)))) sNext)))
def X_pick : XS := (sSeq (sAsg (xOf (mC .non)) (tgN 10)) (sSeq (sAsg (xOf (mC .non)) (tgN 11)) (sSeq (sIf (xV (xOp fGt (xCall T_law_draw (xCons (xOf (mVar 1)) (xCons (xOf (mC (.int 3))) xNil))) (xOf (mC (.int 0))))) (sSeq (sAsg (xCall T_law_some (xCons (xOf (mVar 1)) (xCons (xOf (mVar 2)) (xCons (xOf (mC (.int 3))) xNil)))) (tgN 10)) (sSeq (sIf (xAnd (xbOf (bV (mOp fNotN (mVar 9) (mC .non)))) (xV (xOp fEq (xCall T_law_draw (xCons (xOf (mVar 1)) (xCons (xOf (mC (.int 2))) xNil))) (xOf (mC (.int 0)))))) (sSeq (sAsg (xTupL (xSortSet (xOf (mOp fAdd (mVar 10) (mOp fIx (mVar 9) (mC (.int 0))))))) (tgN 10)) (sAsg (xOf (mTupL (mComp (iSeq (mVar 10)) (tgN 12) (bV (mOp fNe (mVar 12) (mOp fIx (mOp fIx (mVar 9) (mC (.int 1))) (mC (.int 0))))) (mVar 12) [12]))) (tgN 10))) sNext) (sAsg (xOf (mCall F_law_refusal (mCons (mVar 7) (mCons (mVar 9) (mCons (mVar 10) mNil))))) (tgN 11)))) (sIf (xbOf (bV (mOp fIsN (mVar 9) (mC .non)))) (sAsg (xOf (mC (.str ("no question" : Str)))) (tgN 11)) sNext)) (sSeq (sAsg (xCall T_law_answered (xCons (xOf (mVar 5)) (xCons (xOf (mVar 10)) xNil))) (tgN 13)) (sSeq (sIf (xbOf (bV (mOp fNotN (mVar 11) (mC .non)))) (sIf (xbOf (bNot (bV (mCall F_law_same (mCons (mVar 13) (mCons (mTup (mCons (mC (.str ("fault" : Str))) (mCons (mVar 11) mNil))) mNil)))))) (sRet (xOf (mC (.bl false)))) sNext) (sIf (xbOf (bV (mOp fNe (mOp fIx (mVar 13) (mC (.int 0))) (mC (.str ("done" : Str)))))) (sRet (xOf (mC (.bl false)))) (sIf (xbOf (bV (mOp fIsN (mVar 10) (mC .non)))) (sAsg (xOf (mOp fAdd (mVar 7) (mTup (mCons (mVar 9) mNil)))) (tgN 7)) (sAsg (xOf (mTup (mCons (mC (.str ("table" : Str))) (mCons (mVar 2) (mCons (mOp fAdd (mOp fIx (mVar 6) (mC (.int 2))) (mTup (mCons (mVar 10) mNil))) mNil))))) (tgN 6))))) (sIf (xbOf (bOr (bNot (bV (mCall F_law_same (mCons (mFld "Explorer" "table" (mVar 5)) (mCons (mVar 6) mNil))))) (bNot (bV (mCall F_law_same (mCons (mFld "Explorer" "accepted" (mVar 5)) (mCons (mVar 7) mNil))))))) (sRet (xOf (mC (.bl false)))) sNext))))))
theorem fEqN (st : SS) (a b : Nat) : fEq st (nI a) (nI b) = some (.bl (decide (a = b))) := by
  have e : decide ((a : Int) = (b : Int)) = decide (a = b) := decide_eq_decide.mpr ⟨fun h => by omega, fun h => by omega⟩
  exact (eqI _ _ _).trans (by rw [e])
theorem fGtN (st : SS) (a b : Nat) : fGt st (nI a) (nI b) = some (.bl (decide (b < a))) := by
  show some (D.bl (decide ((a : Int) > (b : Int)))) = _
  rw [show decide ((a : Int) > (b : Int)) = decide (b < a) from decide_eq_decide.mpr ⟨fun h => by omega, fun h => by omega⟩]
theorem fNe_done (st : SS) : fNe st (.str ("done" : Str)) (.str ("done" : Str)) = some (.bl false) := by
  have h : D.good (.str ("done" : Str)) = true := by decide +kernel
  unfold fNe
  rw [if_pos ⟨h, h⟩, PySem.SeqAt.eqv_refl _ (SeqAt.canLay_of_shaped (good_and h).2)]
  rfl
theorem neN (st : SS) (a b : Nat) : fNe st (nI a) (nI b) = some (.bl (!decide (a = b))) := by
  have e : decide ((a : Int) = (b : Int)) = decide (a = b) := decide_eq_decide.mpr ⟨fun h => by omega, fun h => by omega⟩
  exact (neI _ _ _).trans (by rw [e])
theorem mCall3 {F : List D → SS → Option D} {a b c : MP} {env : EV} {st : SS} {x y z : D} (h1 : a env st = some x) (h2 : b env st = some y) (h3 : c env st = some z) : mCall F (mCons a (mCons b (mCons c mNil))) env st = F [x, y, z] st := by
  unfold mCall
  rw [mCons_e h1 (mCons_e h2 (mCons1 h3))]
theorem fit_s {x : Str} (k : Nat) (h : D.good (.str x) = true) : D.fit k (.str x) = true := by unfold D.fit; exact h
theorem g_fault : D.good (.str ("fault" : Str)) = true := by decide +kernel
theorem rea_str {acc : List Imp} {o : Option Imp} {w : Option (List Nat)} {d : D} (hl : acc.length ≤ 16) (h : reaM acc o w = some d) : ∃ x, d = .str x ∧ D.good (.str x) = true := by
  cases w with
  | none =>
    cases o with
    | none => exact ⟨_, (Option.some.inj h).symm, by decide +kernel⟩
    | some q => cases h
  | some row =>
    obtain ⟨x, e⟩ := ref_str h
    have := ref_good hl h
    rw [e] at this
    exact ⟨x, e, this⟩
def Inv (n p many i : Nat) (env : EV) (s : SS) : Prop := ∃ (rows : List (List Nat)) (acc : List Imp) (x3 x4 x8 x9 x10 x11 x12 x13 : Option D), env = [none, some (.ref n), some (nI many), x3, x4, some (.ref p), some (tblD many rows), some (.tup (acc.map impD)), x8, x9, x10, x11, x12, x13] ∧ Boxed s n ∧ s[p]? = some (exO many rows acc) ∧ ImpIn many acc ∧ rows.length ≤ 3 + i ∧ acc.length ≤ i ∧ ∀ r ∈ rows, SetIn 0 many r
theorem set_len {many : Nat} {r : List Nat} (h : SetIn 0 many r) (hm : many ≤ 1000) : r.length ≤ 1000000 := by
  have := sorted_len h.1 fun x hx => (h.2 x hx).2
  omega
section
variable {K : DE} {n p many i : Nat} {rows : List (List Nat)} {acc : List Imp} {s : SS} {w : Option (List Nat)} {x3 x4 x8 x9 x10 x11 x12 x13 : Option D}
theorem fin_ok (B : Boxed s n) (c : s[p]? = some (exO many rows acc)) (hm : many ≤ 4) (hi : ImpIn many acc) (hl : acc.length ≤ i) (hr : rows.length ≤ 3 + i) (hin : i ≤ 12) (rin : ∀ r ∈ rows, SetIn 0 many r) (k1 : ∀ env s1, Inv n p many i env s1 → K.nx env s1) :
    X_fin K [none, some (.ref n), some (nI many), x3, x4, some (.ref p), some (tblD many rows), some (.tup (acc.map impD)), x8, x9, x10, x11, x12, x13] s := by
  refine ⟨false, bOr_e (x := false) (y := false) (bNot_e (b := true) (bV_e ((mCall2 (f_tab rfl c) rfl).trans (sameF_refl (d := tblD many rows) (fit_tbl (by omega) (fun r h => set_len (rin r h) (by omega)) 5)))))
    (bNot_e (b := true) (bV_e ((mCall2 (f_acc rfl c) rfl).trans (sameF_refl (d := .tup (acc.map impD)) (fit_imps hi (by omega) (by omega)))))), iteF (k1 _ _ ⟨rows, acc, _, _, _, _, _, _, _, _, rfl, B, c, hi, hr, hl, rin⟩)⟩
theorem newA_imp (hi : ImpIn many acc) : ImpIn many (newA acc (askI many rows acc) w) := by
  cases w with
  | some r => exact hi
  | none =>
    cases ho : askI many rows acc with
    | none => exact hi
    | some q =>
      unfold askI at ho
      obtain ⟨s, hs, rfl⟩ := Option.map_eq_some_iff.mp ho
      have si := stemI_in (n := many) (cl := closureM many rows) closure_op (ask_some hs).1
      refine ⟨fun r hr => ?_, fun r hr => ?_⟩
      · rcases List.mem_append.mp hr with hr | hr
        · exact hi.prem r hr
        · rw [List.mem_singleton.mp hr]; exact si.1
      · rcases List.mem_append.mp hr with hr | hr
        · exact hi.conc r hr
        · rw [List.mem_singleton.mp hr]; exact si.2
theorem newA_len {o : Option Imp} : (newA acc o w).length ≤ acc.length + 1 := by
  cases w with
  | some r => exact Nat.le_succ _
  | none =>
    cases o with
    | none => exact Nat.le_succ _
    | some q => show (acc ++ [q]).length ≤ _; rw [List.length_append]; exact Nat.le_refl _
theorem newR_len : (newR rows w).length ≤ rows.length + 1 := by
  cases w with
  | none => exact Nat.le_succ _
  | some r => show (rows ++ [r]).length ≤ _; rw [List.length_append]; exact Nat.le_refl _
theorem newR_in (rin : ∀ r ∈ rows, SetIn 0 many r) (win : ∀ r, w = some r → SetIn 0 many r) : ∀ r ∈ newR rows w, SetIn 0 many r := by
  cases w with
  | none => exact rin
  | some r =>
    intro r' hr
    rcases List.mem_append.mp hr with hr | hr
    · exact rin r' hr
    · rw [List.mem_singleton.mp hr]; exact win r rfl
theorem tell_ok (hp : n < p) (B : Boxed s n) (c : s[p]? = some (exO many rows acc)) (hm : many ≤ 4) (hi : ImpIn many acc) (hl : acc.length ≤ i) (hr : rows.length ≤ 3 + i) (hin : i < 12) (rin : ∀ r ∈ rows, SetIn 0 many r) (win : ∀ r, w = some r → SetIn 0 many r) (k1 : ∀ env s1, Inv n p many (i + 1) env s1 → K.nx env s1) :
    X_tell K [none, some (.ref n), some (nI many), x3, x4, some (.ref p), some (tblD many rows), some (.tup (acc.map impD)), x8, some (retO impD (askI many rows acc)), some (retO dN w), some (optR (reaM acc (askI many rows acc) w)), x12, x13] s := by
  have hps : p < s.length := (List.getElem?_eq_some_iff.mp c).1
  refine ⟨.ref p, rfl, retO dN w, rfl, ans_ev c (by omega) hi (by omega) (by omega) (fun s1 hn u1 => ⟨_, rfl, ?_⟩) (fun d s1 hd u1 => ⟨_, rfl, ?_⟩)⟩
  · have c2 : (s1.set p (exO many (newR rows w) (newA acc (askI many rows acc) w)))[p]? = some (exO many (newR rows w) (newA acc (askI many rows acc) w)) := List.getElem?_set_self (Nat.lt_of_lt_of_le hps u1.len)
    have B2 : Boxed (s1.set p (exO many (newR rows w) (newA acc (askI many rows acc) w))) n := (B.up u1).hi hp _
    have hi2 := newA_imp (w := w) (rows := rows) hi
    have l1 := newA_len (acc := acc) (w := w) (o := askI many rows acc)
    have l2 := newR_len (rows := rows) (w := w)
    have rin2 := newR_in rin win
    rw [hn]
    refine ⟨false, rfl, iteF ?_⟩
    refine ⟨false, bV_e ((mOp_e ((mOp_e (x := .tup [.str ("done" : Str), .non]) (y := .int 0) rfl rfl).trans (show fIx _ (.tup [.str ("done" : Str), .non]) (.int 0) = some (.str ("done" : Str)) from rfl)) rfl).trans (fNe_done _)), iteF ?_⟩
    cases w with
    | none =>
      cases ho : askI many rows acc with
      | none => rw [ho] at hn; cases hn
      | some q =>
        rw [ho] at c2 B2 hi2 l1
        have l1' : (acc ++ [q]).length ≤ acc.length + 1 := l1
        refine ⟨true, rfl, iteT ⟨.tup ((acc ++ [q]).map impD), ?_, _, rfl, fin_ok (i := i + 1) B2 c2 hm hi2 (by omega) (by omega) (by omega) rin2 k1⟩⟩
        refine (mOp_e (x := .tup (acc.map impD)) (y := .tup [impD q]) rfl rfl).trans ((app_tup (by rw [List.length_map]; show _ + 1 ≤ _; omega)).trans ?_)
        rw [List.map_append]
        rfl
    | some row =>
      have l2' : (rows ++ [row]).length ≤ rows.length + 1 := l2
      have l1' : acc.length ≤ acc.length + 1 := l1
      refine ⟨false, rfl, iteF ⟨tblD many (rows ++ [row]), mTup_e (mCons_e rfl (mCons_e rfl (mCons1 ?_))) (by show 3 ≤ 1000; omega), _, rfl, fin_ok (i := i + 1) B2 c2 hm hi2 (by omega) (by omega) (by omega) rin2 k1⟩⟩
      refine (mOp_e (x := .tup (rows.map dN)) (y := .tup [dN row]) rfl (mTup_e (mCons1 rfl) (by show 1 ≤ 1000; omega))).trans ((app_tup (by rw [List.length_map]; show _ + 1 ≤ _; omega)).trans ?_)
      rw [List.map_append]
      rfl
  · obtain ⟨x, rfl, hg⟩ := rea_str (by omega) hd
    rw [hd]
    refine ⟨true, rfl, iteT ⟨false, bNot_e (b := true) (bV_e ((mCall2 (x := .tup [.str ("fault" : Str), .str x]) (y := .tup [.str ("fault" : Str), .str x]) rfl (mTup_e (mCons_e rfl (mCons1 rfl)) (by show 2 ≤ 1000; omega))).trans (sameF_refl (fit_two (k := 7) (fit_s 7 g_fault) (fit_s 7 hg))))), iteF ?_⟩⟩
    exact fin_ok (i := i + 1) (B.up u1) (u1.get c) hm hi (by omega) (by omega) (by omega) rin k1
theorem concl_ne {q : Imp} (h : askI many rows acc = some q) : q.2 ≠ [] := by
  unfold askI at h
  obtain ⟨s, hs, rfl⟩ := Option.map_eq_some_iff.mp h
  obtain ⟨si, _, hne, _⟩ := ask_some hs
  have C : ClosOp many (closureM many rows) := closure_op
  intro e
  refine hne (sorted_ext (C.inn s si).1 si.1 fun k => ⟨fun hk => ?_, fun hk => C.ext s si k hk⟩)
  by_cases hc : s.contains k
  · exact List.contains_iff_mem.mp hc
  · have : k ∈ (stemI (closureM many rows) s).2 := List.mem_filter.mpr ⟨hk, by simpa using hc⟩
    rw [e] at this
    cases this
theorem ask_in {q : Imp} (h : askI many rows acc = some q) : SetIn 0 many q.1 := by
  unfold askI at h
  obtain ⟨s, hs, rfl⟩ := Option.map_eq_some_iff.mp h
  exact (ask_some hs).1
theorem pick_ok (hp : n < p) (B : Boxed s n) (c : s[p]? = some (exO many rows acc)) (hm : many ≤ 4) (hi : ImpIn many acc) (hl : acc.length ≤ i) (hr : rows.length ≤ 3 + i) (hin : i < 12) (rin : ∀ r ∈ rows, SetIn 0 many r) (k1 : ∀ env s1, Inv n p many (i + 1) env s1 → K.nx env s1) :
    X_pick K [none, some (.ref n), some (nI many), x3, x4, some (.ref p), some (tblD many rows), some (.tup (acc.map impD)), x8, some (retO impD (askI many rows acc)), x10, x11, x12, x13] s := by
  refine ⟨_, rfl, _, rfl, _, rfl, _, rfl, ?_⟩
  refine ⟨.ref n, rfl, .int 3, rfl, n, 3, rfl, by decide, B, fun v s1 hv B1 E1 => ⟨_, rfl, .bl (decide (0 < v)), fGtN s1 v 0, _, rfl, ?_⟩⟩
  have c1 := E1.keep c (Nat.ne_of_gt hp)
  by_cases h : 0 < v
  · rw [decide_eq_true h]
    refine iteT ⟨.ref n, rfl, nI many, rfl, .int 3, rfl, n, many, 3, rfl, by omega, B1, fun row s2 r1 r2 B2 E2 => ⟨_, rfl, ?_⟩⟩
    have c2 := E2.keep c1 (Nat.ne_of_gt hp)
    have hrow : SetIn 0 many row := setIn_of r1 r2
    have fin : ∀ (row' : List Nat) (s' : SS), SetIn 0 many row' → Boxed s' n → s'[p]? = some (exO many rows acc) → (sSeq (sAsg (xOf (mCall F_law_refusal (mCons (mVar 7) (mCons (mVar 9) (mCons (mVar 10) mNil))))) (tgN 11)) X_tell) K [none, some (.ref n), some (nI many), x3, x4, some (.ref p), some (tblD many rows), some (.tup (acc.map impD)), x8, some (retO impD (askI many rows acc)), some (dN row'), some .non, x12, x13] s' := fun row' s' h1 h2 h3 => ⟨optR (refM acc (askI many rows acc) row'), (mCall3 rfl rfl rfl).trans (refusal_eval (by omega)), _, rfl, tell_ok (w := some row') hp h2 h3 hm hi hl hr hin rin (fun r e => by cases e; exact h1) k1⟩
    cases ho : askI many rows acc with
    | none =>
      rw [ho] at fin
      exact ⟨false, rfl, iteF (iteF (fin row s2 hrow B2 c2))⟩
    | some q =>
      have hne := concl_ne ho
      have hq := ask_in ho
      rw [ho] at fin
      refine ⟨true, rfl, iteT ⟨.ref n, rfl, .int 2, rfl, n, 2, rfl, by decide, B2, fun v2 s3 hv2 B3 E3 => ⟨_, rfl, .bl (decide (v2 = 0)), fEqN s3 v2 0, _, rfl, ?_⟩⟩⟩
      have c3 := E3.keep c2 (Nat.ne_of_gt hp)
      by_cases h2 : v2 = 0
      · rw [decide_eq_true h2]
        have e1 := sorted_len hrow.1 fun x hx => (hrow.2 x hx).2
        have e2 := sorted_len hq.1 fun x hx => (hq.2 x hx).2
        refine iteT ⟨.tup (row.map nI ++ q.1.map nI), if_pos (by rw [List.length_map, List.length_map]; omega), (row ++ q.1).map (fun (k : Nat) => (k : Int)), ?_, by rw [List.length_map, List.length_append]; omega, fun ms hp' hk => ?_⟩
        · rw [List.map_map, List.map_append]
          rfl
        · obtain ⟨more, e, h3, h4⟩ := nats_of hp' hk
          rw [e]
          refine ⟨_, rfl, ?_⟩
          have ix : ∀ (st : SS), fIx st (dN q.2) (.int 0) = some (nI (q.2.getD 0 0)) := fun st => by
            cases hq2 : q.2 with
            | nil => exact absurd hq2 hne
            | cons a l => exact fIx_map st nI (a :: l) 0 rfl
          have g : mTupL (mComp (iSeq (mVar 10)) (tgN 12) (bV (mOp fNe (mVar 12) (mOp fIx (mOp fIx (mVar 9) (mC (.int 1))) (mC (.int 0))))) (mVar 12) [12]) [none, some (.ref n), some (nI many), x3, x4, some (.ref p), some (tblD many rows), some (.tup (acc.map impD)), x8, some (impD q), some (dN more), some .non, x12, x13] s3 = some (dN (more.filter fun k => !decide (k = q.2.getD 0 0))) :=
            mTupL_e (comp_fi (f := nI) (g := nI) (p := fun k => !decide (k = q.2.getD 0 0)) (l := more) (iSeq_dN rfl) fun k _ => ⟨_, rfl, bV_e ((mOp_e rfl ((mOp_e (x := dN q.2) rfl rfl).trans (ix s3))).trans (neN _ _ _)), fun _ => rfl⟩)
          refine ⟨_, g, _, rfl, fin _ s3 ?_ B3 c3⟩
          have hin2 : ∀ x ∈ more, x < many := fun x hx => by
            rcases List.mem_append.mp ((h4 x).mp hx) with hx | hx
            · exact (hrow.2 x hx).2
            · exact (hq.2 x hx).2
          exact setIn_of (h3.filter _) fun x hx => hin2 x (List.mem_filter.mp hx).1
      · rw [decide_eq_false h2]
        exact iteF (fin row s3 hrow B3 c3)
  · rw [decide_eq_false h]
    refine iteF ?_
    cases ho : askI many rows acc with
    | none =>
      have := @tell_ok K n p many i rows acc s1 none x3 x4 x8 x12 x13 hp B1 c1 hm hi hl hr hin rin (fun r e => by cases e) k1
      rw [ho] at this
      exact ⟨true, rfl, iteT ⟨_, rfl, _, rfl, this⟩⟩
    | some q =>
      have := @tell_ok K n p many i rows acc s1 none x3 x4 x8 x12 x13 hp B1 c1 hm hi hl hr hin rin (fun r e => by cases e) k1
      rw [ho] at this
      exact ⟨false, rfl, iteF this⟩
end
theorem fitQ {many : Nat} {rows : List (List Nat)} {acc : List Imp} (hm : many ≤ 4) : D.fit 8 (optQ (closureM many rows) (askM many (closureM many rows) acc)) = true := by
  cases ha : askM many (closureM many rows) acc with
  | none => rfl
  | some s =>
    have si := stemI_in (n := many) (cl := closureM many rows) closure_op (ask_some ha).1
    exact fit_two (k := 7) (fit_dN (set_len si.1 (by omega)) 6) (fit_dN (set_len si.2 (by omega)) 6)
theorem rows_go {n many : Nat} {a0 a4 a5 a6 a7 a8 a9 a10 a11 a12 a13 : Option D} {st0 : SS} (hm : many ≤ 1000) : ∀ (l : List Nat) (st : SS) (R : List D → SS → Prop), Boxed st n → (∀ (rows : List (List Nat)) st1, (∀ r ∈ rows, SetIn 0 many r) → rows.length ≤ l.length → Boxed st1 n → Ev n st st1 → R (rows.map dN) st1) →
    xGo (tgN 3) (xbOf bYes) (xCall T_law_some (xCons (xOf (mVar 1)) (xCons (xOf (mVar 2)) (xCons (xOf (mC (.int 3))) xNil)))) [a0, some (.ref n), some (nI many), none, a4, a5, a6, a7, a8, a9, a10, a11, a12, a13] st0 none (l.map nI) st R
  | [], st, R, B, hR => ⟨trivial, hR [] st (fun _ z => nomatch z) (Nat.le_refl _) B (Ev.refl _ _)⟩
  | k :: l, st, R, B, hR => by
    refine ⟨trivial, _, rfl, true, rfl, iteT ⟨.ref n, rfl, nI many, rfl, .int 3, rfl, n, many, 3, rfl, hm, B, fun row st1 s1 s2 B1 E1 => ?_⟩⟩
    refine rows_go hm l st1 _ B1 fun rows st2 h1 h2 B2 E2 => hR (row :: rows) st2 (fun x hx => ?_) (by rw [List.length_cons, List.length_cons]; omega) B2 (E1.trans E2)
    rcases List.mem_cons.mp hx with rfl | hx
    · exact setIn_of s1 s2
    · exact h1 x hx
theorem law_true (ns : List Int) (hns : ns.length ≤ 63) : T_law ns [] [] fun d _ => d = .bl true := by
  refine ⟨rfl, ?_⟩
  show X_law ns _ [none, none, none, none, none, none, none, none, none, none, none, none, none, none] []
  refine ⟨.int 0, rfl, .int 62, rfl, 0, 62, rfl, by decide, by decide, fun st0 n _ _ _ hB0 => ⟨_, rfl, ?_⟩⟩
  refine ⟨.ref n, rfl, .int 5, rfl, n, 5, rfl, by decide, hB0, fun many s1 hm0 B1 E1 => ⟨_, rfl, ?_⟩⟩
  have hm : many ≤ 4 := by omega
  refine ⟨.ref n, rfl, .int 4, rfl, n, 4, rfl, by decide, B1, fun v s2 hv B2 E2 => ⟨(v : Int), rfl, by omega, by omega, ?_⟩⟩
  have e : intsD 0 ((v : Int)).toNat = (List.range v).map nI := by
    unfold intsD
    rw [Int.toNat_natCast]
    exact List.map_congr_left fun k _ => by show D.int (0 + (k : Int)) = D.int (k : Int); rw [Int.zero_add]
  rw [e]
  refine rows_go (by omega) (List.range v) s2 _ B2 fun rows s3 rin rl B3 E3 => ⟨_, rfl, ?_⟩
  rw [List.length_range] at rl
  refine ⟨nI many, rfl, .tup (rows.map dN), rfl, ?_⟩
  refine i_ev (p := s3.length) (getApp _ _) ⟨rfl, _, rfl, ?_⟩
  rw [setApp]
  have c0 := getApp s3 (exO many rows [])
  have hp : n < s3.length := B3.lt
  have B4 : Boxed (s3 ++ [exO many rows []]) n := B3.up (Up.app _ _)
  generalize s3 ++ [exO many rows []] = s4 at c0 B4 ⊢
  generalize s3.length = p at hp c0 ⊢
  refine ⟨tblD many rows, mTup_e (mCons_e rfl (mCons_e rfl (mCons1 rfl))) (by show 3 ≤ 1000; decide), _, rfl, ?_⟩
  refine ⟨.tup [], mTup_e rfl (by show 0 ≤ 1000; decide), _, rfl, ?_⟩
  refine ⟨_, none, iRng_nat (n := 12) rfl (by omega), ?_⟩
  refine for_rg (fun i env s => Inv n p many i env s) ?_ ?_ ⟨rows, [], _, _, _, _, _, _, _, _, rfl, B4, c0, ⟨(fun _ z => nomatch z), (fun _ z => nomatch z)⟩, by omega, Nat.le_refl _, rin⟩
  · rintro i env s hi ⟨rows, acc, x3, x4, x8, x9, x10, x11, x12, x13, rfl, B, c, hI, hr, hl, rin⟩
    refine ⟨_, rfl, fun K k1 kc _ _ => ?_⟩
    refine ⟨_, rfl, _, rfl, as_ev (by omega) (by omega) hI (by omega) fun s1 u1 => ⟨_, rfl, ?_⟩⟩
    have c1 := u1.get c
    have hpick : ∀ (s' : SS) (x13 : Option D), Boxed s' n → s'[p]? = some (exO many rows acc) → X_pick K [none, some (.ref n), some (nI many), x3, x4, some (.ref p), some (tblD many rows), some (.tup (acc.map impD)), some (nI i), some (retO impD (askI many rows acc)), x10, x11, x12, x13] s' := fun s' x13 h1 h2 => pick_ok hp h1 h2 hm hI hl hr hi rin k1
    rw [← optQ_ret] at hpick
    refine ⟨.ref n, rfl, .int 3, rfl, n, 3, rfl, by decide, B.up u1, fun v s2 hv B2 E2 => ⟨_, rfl, .bl (decide (0 < v)), fGtN s2 v 0, _, rfl, ?_⟩⟩
    have c2 := E2.keep c1 (Nat.ne_of_gt hp)
    by_cases h : 0 < v
    · rw [decide_eq_true h]
      refine iteT ⟨p, _, rfl, c2, rfl, q_ev c2 (by omega) hI (by omega) fun s3 u3 => ⟨_, rfl, .bl true, sameF_refl (fitQ hm), true, rfl, iteF (hpick s3 _ (B2.up u3) (u3.get c2))⟩⟩
    · rw [decide_eq_false h]
      exact iteF (iteF (hpick s2 _ B2 c2))
  · rintro env s ⟨rows, acc, x3, x4, x8, x9, x10, x11, x12, x13, rfl, B, c, hI, hr, hl, rin⟩
    exact ⟨_, rfl, rfl⟩
end Lk70

set_option Elab.async false
set_option linter.all false
set_option maxRecDepth 100000
set_option maxHeartbeats 4000000
namespace Lk70
open PySem PySem.Spec PyProof PyProof.Rows L2 GX GD GF
/-! the fault AnswerFault, from the facts of the machine -/
theorem sc_AnswerFault : FnScope [("self" : Str), ("reason" : Str)] [("self" : Str), ("reason" : Str)] (defScope (inClass (top 2) 0)) := ⟨rfl, rfl, rfl, by decide +kernel, rfl, by decide +kernel, by decide +kernel⟩
theorem fault_of {P : Program} {wl : World} {K : PySem.W.Frag} {h : Heap} {mg : Str → Option Value} {base : Heap} {nm : Nat → Nat → Option Str} {tabs : List (Addr × Addr)} {C B fI c : Addr} {oc kV dc pm ct mc : Value} {od an : Option Addr} {sl : Array (Option Value)}
    (KX : K.In h) (G : h.Ns mainGlobals mg)
    (ac : PySem.W.nsIn K mainGlobals "AnswerFault" = some (some (.ref C))) (ab : PySem.W.nsIn K mainGlobals "ConceptFault" = some (some (.ref B)))
    (l1 : K.lookup fI = some ⟨oc, od, .func (PySem.W.fnOf "__init__" "AnswerFault.__init__" (defArgs (inClass (top 2) 0)) (defBody (inClass (top 2) 0)) (defScope (inClass (top 2) 0)) .none kV dc pm an (.ref c) ct), sl⟩) (c1 : PySem.W.codeIn K (.ref c) "AnswerFault.__init__" = true)
    (rd : PySem.W.readsIn K B mc = true) (ga : PySem.W.specialIn K (.ref B) "__getattribute__" = some (some (.builtin "type.__getattribute__"))) (at_ : PySem.W.findCls K (.ref B) mc "__init__" = some (.val (.builtin "ValueError.__init__")))
    (oe : ∃ nm q N bs bm sn sub ab col dd k0 k1 k2 k3 k5, K.lookup C = some (excClassObj nm q C N bs bm true sn sub ab col dd k0 k1 k2 k3 k5 "ValueError.__new__") ∧ PySem.HandSPX.refsVE bm = true)
    (sa : PySem.W.findIn K (.ref C) "__setattr__" = some (some (.builtin "object.__setattr__"))) (sb : PySem.W.subIn K (.ref C) (.type "BaseException") = some true) (ty : PySem.W.typeIn K (.ref C) = some (.type "type")) (kc : PySem.W.keepIn K (.ref C) = true)
    (hg : PySem.W.findIn K (.ref C) "__getattribute__" = some (some (.builtin "BaseException.__getattribute__"))) (hk : PySem.W.findIn K (.ref C) "__getattr__" = some none) (hd : PySem.W.hasDictIn K C = true)
    (ha : PySem.W.findIn K (.ref C) "__class__" = some (some (.builtin "object.__class__"))) (hn : PySem.W.specialIn K (.builtin "object.__class__") "__get__" = some (some (.builtin "getset_descriptor.__get__"))) (ht : PySem.W.takesIn K (.builtin "object.__class__") = some true) (hm : PySem.W.mroIn K C (.type "object") = some true)
    (no : PySem.W.findIn K (.ref C) "reason" = some none) (kb : PySem.W.kitOne K (.ref C) (.ref B) = some true) (kv : PySem.W.kitOne K (.ref C) (.type "ValueError") = some true)
    (iC : PySem.W.findIn K (.ref C) "__init__" = some (some (.ref fI))) (tI : PySem.W.typeIn K (.ref fI) = some (.type "function")) (ex : PySem.W.exmOne K (.ref C) (.ref C) = some true) :
    FltD P wl ⟨K, base, nm, tabs, clsOf mg⟩ mg 1 "AnswerFault" "ConceptFault" :=
  have d := cls_at KX G ac
  flt_of (w := ⟨K, base, nm, tabs, clsOf mg⟩) (st := inClass (top 2) 0) ⟨oc, od, kV, dc, pm, an, ct, sl, rfl, l1, c1⟩ rfl sc_AnswerFault (fun _ _ _ _ _ _ us hl => match us, hl with | [_, _], _ => rfl) (by first | exact Or.inl rfl | exact Or.inr (Or.inl rfl)) (by first | exact Or.inl rfl | exact Or.inr (Or.inl rfl))
    (fun X e => by unfold Gl Env.kindOf; rw [e]; rfl) (by decide +kernel) (fun _ => rfl) (fun _ => rfl) (fun _ => ⟨_, rfl⟩) d.2 d.1 (cls_at KX G ab).1 ⟨rd, ga⟩ at_ ⟨oe, sa, sb, ty, kc⟩ ⟨⟨hg, hk, sb, hd, ha, hn, ht, hm⟩, ⟨hg, hk, sb, hd⟩, no, kb, kv⟩ iC tI ex
end Lk70

set_option Elab.async false
set_option linter.all false
set_option maxRecDepth 100000
set_option maxHeartbeats 4000000
namespace Lk70
open PySem PySem.Spec PyProof PyProof.Rows L2 GX GD GF
theorem mk {w : World} {K : PySem.W.Frag} {h : Heap} {mg : Str → Option Value} {fa f_0 c_0 P_0 f_1 c_1 P_1 f_2 c_2 P_2 f_3 c_3 P_3 f_4 c_4 P_4 f_5 c_5 P_5 f_6 c_6 P_6 f_7 c_7 P_7 f_8 c_8 P_8 f_9 c_9 P_9 f_10 c_10 P_10 f_11 c_11 f_12 c_12 P_12 f_13 c_13 f_14 c_14 f_15 c_15 f_16 c_16 P_16 f_17 c_17 P_17 f_18 c_18 P_18 f_19 c_19 P_19 f_20 c_20 P_20 f_21 c_21 P_21 f_22 c_22 P_22 f_23 c_23 P_23 f_24 c_24 P_24 f_25 c_25 P_25 f_26 c_26 P_26 f_27 c_27 P_27 f_28 c_28 P_28 f_29 c_29 P_29 f_30 c_30 P_30 f_31 c_31 P_31 f_32 c_32 P_32 C_Explorer C_AnswerFault B_AnswerFault fi_AnswerFault ci_AnswerFault : Addr} {oc_0 kV_0 dc_0 pm_0 ct_0 e_0 : Value} {od_0 an_0 dd_0 : Option Addr} {sl_0 sm_0 : Array (Option Value)} {vs_0 : Array Value} {oc_1 kV_1 dc_1 pm_1 ct_1 e_1 : Value} {od_1 an_1 dd_1 : Option Addr} {sl_1 sm_1 : Array (Option Value)} {vs_1 : Array Value} {oc_2 kV_2 dc_2 pm_2 ct_2 e_2 : Value} {od_2 an_2 dd_2 : Option Addr} {sl_2 sm_2 : Array (Option Value)} {vs_2 : Array Value} {oc_3 kV_3 dc_3 pm_3 ct_3 e_3 : Value} {od_3 an_3 dd_3 : Option Addr} {sl_3 sm_3 : Array (Option Value)} {vs_3 : Array Value} {oc_4 kV_4 dc_4 pm_4 ct_4 e_4 : Value} {od_4 an_4 dd_4 : Option Addr} {sl_4 sm_4 : Array (Option Value)} {vs_4 : Array Value} {oc_5 kV_5 dc_5 pm_5 ct_5 e_5 : Value} {od_5 an_5 dd_5 : Option Addr} {sl_5 sm_5 : Array (Option Value)} {vs_5 : Array Value} {oc_6 kV_6 dc_6 pm_6 ct_6 e_6 : Value} {od_6 an_6 dd_6 : Option Addr} {sl_6 sm_6 : Array (Option Value)} {vs_6 : Array Value} {oc_7 kV_7 dc_7 pm_7 ct_7 e_7 : Value} {od_7 an_7 dd_7 : Option Addr} {sl_7 sm_7 : Array (Option Value)} {vs_7 : Array Value} {oc_8 kV_8 dc_8 pm_8 ct_8 e_8 : Value} {od_8 an_8 dd_8 : Option Addr} {sl_8 sm_8 : Array (Option Value)} {vs_8 : Array Value} {oc_9 kV_9 dc_9 pm_9 ct_9 e_9 : Value} {od_9 an_9 dd_9 : Option Addr} {sl_9 sm_9 : Array (Option Value)} {vs_9 : Array Value} {oc_10 kV_10 dc_10 pm_10 ct_10 e_10 : Value} {od_10 an_10 dd_10 : Option Addr} {sl_10 sm_10 : Array (Option Value)} {vs_10 : Array Value} {oc_11 kV_11 dc_11 pm_11 ct_11 : Value} {od_11 an_11 : Option Addr} {sl_11 : Array (Option Value)} {oc_12 kV_12 dc_12 pm_12 ct_12 e_12 : Value} {od_12 an_12 dd_12 : Option Addr} {sl_12 sm_12 : Array (Option Value)} {vs_12 : Array Value} {oc_13 kV_13 dc_13 pm_13 ct_13 : Value} {od_13 an_13 : Option Addr} {sl_13 : Array (Option Value)} {oc_14 kV_14 dc_14 pm_14 ct_14 : Value} {od_14 an_14 : Option Addr} {sl_14 : Array (Option Value)} {oc_15 kV_15 dc_15 pm_15 ct_15 : Value} {od_15 an_15 : Option Addr} {sl_15 : Array (Option Value)} {oc_16 kV_16 dc_16 pm_16 ct_16 e_16 : Value} {od_16 an_16 dd_16 : Option Addr} {sl_16 sm_16 : Array (Option Value)} {vs_16 : Array Value} {oc_17 kV_17 dc_17 pm_17 ct_17 e_17 : Value} {od_17 an_17 dd_17 : Option Addr} {sl_17 sm_17 : Array (Option Value)} {vs_17 : Array Value} {oc_18 kV_18 dc_18 pm_18 ct_18 e_18 : Value} {od_18 an_18 dd_18 : Option Addr} {sl_18 sm_18 : Array (Option Value)} {vs_18 : Array Value} {oc_19 kV_19 dc_19 pm_19 ct_19 e_19 : Value} {od_19 an_19 dd_19 : Option Addr} {sl_19 sm_19 : Array (Option Value)} {vs_19 : Array Value} {oc_20 kV_20 dc_20 pm_20 ct_20 e_20 : Value} {od_20 an_20 dd_20 : Option Addr} {sl_20 sm_20 : Array (Option Value)} {vs_20 : Array Value} {oc_21 kV_21 dc_21 pm_21 ct_21 e_21 : Value} {od_21 an_21 dd_21 : Option Addr} {sl_21 sm_21 : Array (Option Value)} {vs_21 : Array Value} {oc_22 kV_22 dc_22 pm_22 ct_22 e_22 : Value} {od_22 an_22 dd_22 : Option Addr} {sl_22 sm_22 : Array (Option Value)} {vs_22 : Array Value} {oc_23 kV_23 dc_23 pm_23 ct_23 e_23 : Value} {od_23 an_23 dd_23 : Option Addr} {sl_23 sm_23 : Array (Option Value)} {vs_23 : Array Value} {oc_24 kV_24 dc_24 pm_24 ct_24 e_24 : Value} {od_24 an_24 dd_24 : Option Addr} {sl_24 sm_24 : Array (Option Value)} {vs_24 : Array Value} {oc_25 kV_25 dc_25 pm_25 ct_25 e_25 : Value} {od_25 an_25 dd_25 : Option Addr} {sl_25 sm_25 : Array (Option Value)} {vs_25 : Array Value} {oc_26 kV_26 dc_26 pm_26 ct_26 e_26 : Value} {od_26 an_26 dd_26 : Option Addr} {sl_26 sm_26 : Array (Option Value)} {vs_26 : Array Value} {oc_27 kV_27 dc_27 pm_27 ct_27 e_27 : Value} {od_27 an_27 dd_27 : Option Addr} {sl_27 sm_27 : Array (Option Value)} {vs_27 : Array Value} {oc_28 kV_28 dc_28 pm_28 ct_28 e_28 : Value} {od_28 an_28 dd_28 : Option Addr} {sl_28 sm_28 : Array (Option Value)} {vs_28 : Array Value} {oc_29 kV_29 dc_29 pm_29 ct_29 e_29 : Value} {od_29 an_29 dd_29 : Option Addr} {sl_29 sm_29 : Array (Option Value)} {vs_29 : Array Value} {oc_30 kV_30 dc_30 pm_30 ct_30 e_30 : Value} {od_30 an_30 dd_30 : Option Addr} {sl_30 sm_30 : Array (Option Value)} {vs_30 : Array Value} {oc_31 kV_31 dc_31 pm_31 ct_31 e_31 : Value} {od_31 an_31 dd_31 : Option Addr} {sl_31 sm_31 : Array (Option Value)} {vs_31 : Array Value} {oc_32 kV_32 dc_32 pm_32 ct_32 e_32 : Value} {od_32 an_32 dd_32 : Option Addr} {sl_32 sm_32 : Array (Option Value)} {vs_32 : Array Value} {oc_AnswerFault kV_AnswerFault dc_AnswerFault pm_AnswerFault ct_AnswerFault : Value} {od_AnswerFault an_AnswerFault : Option Addr} {sl_AnswerFault : Array (Option Value)} (KX : K.In h) (G : h.Ns mainGlobals mg) (L : Laid PySem.Challenge.pw_formalconcepts_k70_an_expert_is_asked mg h) (hfa : mg "law" = some (.ref fa)) (ac_Explorer : PySem.W.nsIn K mainGlobals "Explorer" = some (some (.ref C_Explorer))) (pg_Explorer : PySem.W.plainGet K C_Explorer Str.empty = true) (hd_Explorer : PySem.W.hasDictIn K C_Explorer = true) (po_Explorer : PySem.W.plainOver K C_Explorer = true) (sa_Explorer : PySem.W.findIn K (.ref C_Explorer) "__setattr__" = some (some (.builtin "object.__setattr__"))) (mk_Explorer : PySem.W.makesIn K C_Explorer = true) (kc_Explorer : PySem.W.keepIn K (.ref C_Explorer) = true) (nf_Explorer_accepted : PySem.W.findIn K (.ref C_Explorer) "accepted" = some none) (nf_Explorer_table : PySem.W.findIn K (.ref C_Explorer) "table" = some none) (fac_AnswerFault : PySem.W.nsIn K mainGlobals "AnswerFault" = some (some (.ref C_AnswerFault))) (fab_AnswerFault : PySem.W.nsIn K mainGlobals "ConceptFault" = some (some (.ref B_AnswerFault))) (fl1_AnswerFault : K.lookup fi_AnswerFault = some ⟨oc_AnswerFault, od_AnswerFault, .func (PySem.W.fnOf "__init__" "AnswerFault.__init__" (defArgs (inClass (top 2) 0)) (defBody (inClass (top 2) 0)) (defScope (inClass (top 2) 0)) .none kV_AnswerFault dc_AnswerFault pm_AnswerFault an_AnswerFault (.ref ci_AnswerFault) ct_AnswerFault), sl_AnswerFault⟩) (fc1_AnswerFault : PySem.W.codeIn K (.ref ci_AnswerFault) "AnswerFault.__init__" = true) (frd_AnswerFault : PySem.W.readsIn K B_AnswerFault (.type "type") = true) (fga_AnswerFault : PySem.W.specialIn K (.ref B_AnswerFault) "__getattribute__" = some (some (.builtin "type.__getattribute__"))) (fat_AnswerFault : PySem.W.findCls K (.ref B_AnswerFault) (.type "type") "__init__" = some (.val (.builtin "ValueError.__init__"))) (foe_AnswerFault : ∃ nm q N bs bm sn sub ab col dd k0 k1 k2 k3 k5, K.lookup C_AnswerFault = some (excClassObj nm q C_AnswerFault N bs bm true sn sub ab col dd k0 k1 k2 k3 k5 "ValueError.__new__") ∧ PySem.HandSPX.refsVE bm = true) (fsa_AnswerFault : PySem.W.findIn K (.ref C_AnswerFault) "__setattr__" = some (some (.builtin "object.__setattr__"))) (fsb_AnswerFault : PySem.W.subIn K (.ref C_AnswerFault) (.type "BaseException") = some true) (fty_AnswerFault : PySem.W.typeIn K (.ref C_AnswerFault) = some (.type "type")) (fkc_AnswerFault : PySem.W.keepIn K (.ref C_AnswerFault) = true) (fhg_AnswerFault : PySem.W.findIn K (.ref C_AnswerFault) "__getattribute__" = some (some (.builtin "BaseException.__getattribute__"))) (fhk_AnswerFault : PySem.W.findIn K (.ref C_AnswerFault) "__getattr__" = some none) (fhd_AnswerFault : PySem.W.hasDictIn K C_AnswerFault = true) (fha_AnswerFault : PySem.W.findIn K (.ref C_AnswerFault) "__class__" = some (some (.builtin "object.__class__"))) (fhn_AnswerFault : PySem.W.specialIn K (.builtin "object.__class__") "__get__" = some (some (.builtin "getset_descriptor.__get__"))) (fht_AnswerFault : PySem.W.takesIn K (.builtin "object.__class__") = some true) (fhm_AnswerFault : PySem.W.mroIn K C_AnswerFault (.type "object") = some true) (fno_AnswerFault : PySem.W.findIn K (.ref C_AnswerFault) "reason" = some none) (fkb_AnswerFault : PySem.W.kitOne K (.ref C_AnswerFault) (.ref B_AnswerFault) = some true) (fkv_AnswerFault : PySem.W.kitOne K (.ref C_AnswerFault) (.type "ValueError") = some true) (fiC_AnswerFault : PySem.W.findIn K (.ref C_AnswerFault) "__init__" = some (some (.ref fi_AnswerFault))) (ftI_AnswerFault : PySem.W.typeIn K (.ref fi_AnswerFault) = some (.type "function")) (fex_AnswerFault : PySem.W.exmOne K (.ref C_AnswerFault) (.ref C_AnswerFault) = some true) (a0 : PySem.W.nsIn K mainGlobals "is_part" = some (some (.ref f_0))) (l0 : K.lookup f_0 = some ⟨oc_0, od_0, .func (PySem.W.fnOf "is_part" "is_part" (defArgs (top 4)) (defBody (top 4)) (defScope (top 4)) .none kV_0 dc_0 pm_0 an_0 (.ref c_0) ct_0), sl_0⟩) (k0 : PySem.W.codeIn K (.ref c_0) "is_part" = true) (g0 : PySem.W.keepIn K (.ref f_0) = true) (t0 : K.lookup c_0 = some ⟨e_0, dd_0, .fields vs_0, sm_0⟩) (p0 : vs_0[11]? = some (.ref P_0)) (n0 : K.lookup P_0 = none) (a1 : PySem.W.nsIn K mainGlobals "together" = some (some (.ref f_1))) (l1 : K.lookup f_1 = some ⟨oc_1, od_1, .func (PySem.W.fnOf "together" "together" (defArgs (top 5)) (defBody (top 5)) (defScope (top 5)) .none kV_1 dc_1 pm_1 an_1 (.ref c_1) ct_1), sl_1⟩) (k1 : PySem.W.codeIn K (.ref c_1) "together" = true) (g1 : PySem.W.keepIn K (.ref f_1) = true) (t1 : K.lookup c_1 = some ⟨e_1, dd_1, .fields vs_1, sm_1⟩) (p1 : vs_1[11]? = some (.ref P_1)) (n1 : K.lookup P_1 = none) (a2 : PySem.W.nsIn K mainGlobals "without" = some (some (.ref f_2))) (l2 : K.lookup f_2 = some ⟨oc_2, od_2, .func (PySem.W.fnOf "without" "without" (defArgs (top 6)) (defBody (top 6)) (defScope (top 6)) .none kV_2 dc_2 pm_2 an_2 (.ref c_2) ct_2), sl_2⟩) (k2 : PySem.W.codeIn K (.ref c_2) "without" = true) (g2 : PySem.W.keepIn K (.ref f_2) = true) (t2 : K.lookup c_2 = some ⟨e_2, dd_2, .fields vs_2, sm_2⟩) (p2 : vs_2[11]? = some (.ref P_2)) (n2 : K.lookup P_2 = none) (a3 : PySem.W.nsIn K mainGlobals "common" = some (some (.ref f_3))) (l3 : K.lookup f_3 = some ⟨oc_3, od_3, .func (PySem.W.fnOf "common" "common" (defArgs (top 8)) (defBody (top 8)) (defScope (top 8)) .none kV_3 dc_3 pm_3 an_3 (.ref c_3) ct_3), sl_3⟩) (k3 : PySem.W.codeIn K (.ref c_3) "common" = true) (g3 : PySem.W.keepIn K (.ref f_3) = true) (t3 : K.lookup c_3 = some ⟨e_3, dd_3, .fields vs_3, sm_3⟩) (p3 : vs_3[11]? = some (.ref P_3)) (n3 : K.lookup P_3 = none) (a4 : PySem.W.nsIn K mainGlobals "having" = some (some (.ref f_4))) (l4 : K.lookup f_4 = some ⟨oc_4, od_4, .func (PySem.W.fnOf "having" "having" (defArgs (top 9)) (defBody (top 9)) (defScope (top 9)) .none kV_4 dc_4 pm_4 an_4 (.ref c_4) ct_4), sl_4⟩) (k4 : PySem.W.codeIn K (.ref c_4) "having" = true) (g4 : PySem.W.keepIn K (.ref f_4) = true) (t4 : K.lookup c_4 = some ⟨e_4, dd_4, .fields vs_4, sm_4⟩) (p4 : vs_4[11]? = some (.ref P_4)) (n4 : K.lookup P_4 = none) (a5 : PySem.W.nsIn K mainGlobals "closure" = some (some (.ref f_5))) (l5 : K.lookup f_5 = some ⟨oc_5, od_5, .func (PySem.W.fnOf "closure" "closure" (defArgs (top 10)) (defBody (top 10)) (defScope (top 10)) .none kV_5 dc_5 pm_5 an_5 (.ref c_5) ct_5), sl_5⟩) (k5 : PySem.W.codeIn K (.ref c_5) "closure" = true) (g5 : PySem.W.keepIn K (.ref f_5) = true) (t5 : K.lookup c_5 = some ⟨e_5, dd_5, .fields vs_5, sm_5⟩) (p5 : vs_5[11]? = some (.ref P_5)) (n5 : K.lookup P_5 = none) (a6 : PySem.W.nsIn K mainGlobals "keeps" = some (some (.ref f_6))) (l6 : K.lookup f_6 = some ⟨oc_6, od_6, .func (PySem.W.fnOf "keeps" "keeps" (defArgs (top 12)) (defBody (top 12)) (defScope (top 12)) .none kV_6 dc_6 pm_6 an_6 (.ref c_6) ct_6), sl_6⟩) (k6 : PySem.W.codeIn K (.ref c_6) "keeps" = true) (g6 : PySem.W.keepIn K (.ref f_6) = true) (t6 : K.lookup c_6 = some ⟨e_6, dd_6, .fields vs_6, sm_6⟩) (p6 : vs_6[11]? = some (.ref P_6)) (n6 : K.lookup P_6 = none) (a7 : PySem.W.nsIn K mainGlobals "used_from" = some (some (.ref f_7))) (l7 : K.lookup f_7 = some ⟨oc_7, od_7, .func (PySem.W.fnOf "used_from" "used_from" (defArgs (top 13)) (defBody (top 13)) (defScope (top 13)) .none kV_7 dc_7 pm_7 an_7 (.ref c_7) ct_7), sl_7⟩) (k7 : PySem.W.codeIn K (.ref c_7) "used_from" = true) (g7 : PySem.W.keepIn K (.ref f_7) = true) (t7 : K.lookup c_7 = some ⟨e_7, dd_7, .fields vs_7, sm_7⟩) (p7 : vs_7[11]? = some (.ref P_7)) (n7 : K.lookup P_7 = none) (a8 : PySem.W.nsIn K mainGlobals "closed_under" = some (some (.ref f_8))) (l8 : K.lookup f_8 = some ⟨oc_8, od_8, .func (PySem.W.fnOf "closed_under" "closed_under" (defArgs (top 14)) (defBody (top 14)) (defScope (top 14)) .none kV_8 dc_8 pm_8 an_8 (.ref c_8) ct_8), sl_8⟩) (k8 : PySem.W.codeIn K (.ref c_8) "closed_under" = true) (g8 : PySem.W.keepIn K (.ref f_8) = true) (t8 : K.lookup c_8 = some ⟨e_8, dd_8, .fields vs_8, sm_8⟩) (p8 : vs_8[11]? = some (.ref P_8)) (n8 : K.lookup P_8 = none) (a9 : PySem.W.nsIn K mainGlobals "next_set" = some (some (.ref f_9))) (l9 : K.lookup f_9 = some ⟨oc_9, od_9, .func (PySem.W.fnOf "next_set" "next_set" (defArgs (top 16)) (defBody (top 16)) (defScope (top 16)) .none kV_9 dc_9 pm_9 an_9 (.ref c_9) ct_9), sl_9⟩) (k9 : PySem.W.codeIn K (.ref c_9) "next_set" = true) (g9 : PySem.W.keepIn K (.ref f_9) = true) (t9 : K.lookup c_9 = some ⟨e_9, dd_9, .fields vs_9, sm_9⟩) (p9 : vs_9[11]? = some (.ref P_9)) (n9 : K.lookup P_9 = none) (a10 : PySem.W.nsIn K mainGlobals "all_sets" = some (some (.ref f_10))) (l10 : K.lookup f_10 = some ⟨oc_10, od_10, .func (PySem.W.fnOf "all_sets" "all_sets" (defArgs (top 17)) (defBody (top 17)) (defScope (top 17)) .none kV_10 dc_10 pm_10 an_10 (.ref c_10) ct_10), sl_10⟩) (k10 : PySem.W.codeIn K (.ref c_10) "all_sets" = true) (g10 : PySem.W.keepIn K (.ref f_10) = true) (t10 : K.lookup c_10 = some ⟨e_10, dd_10, .fields vs_10, sm_10⟩) (p10 : vs_10[11]? = some (.ref P_10)) (n10 : K.lookup P_10 = none) (a11 : PySem.W.findIn K (.ref C_Explorer) "__init__" = some (some (.ref f_11))) (i11 : PySem.W.isFn K (.ref f_11) = true) (l11 : K.lookup f_11 = some ⟨oc_11, od_11, .func (PySem.W.fnOf "__init__" "Explorer.__init__" (defArgs (inClass (top 19) 0)) (defBody (inClass (top 19) 0)) (defScope (inClass (top 19) 0)) .none kV_11 dc_11 pm_11 an_11 (.ref c_11) ct_11), sl_11⟩) (k11 : PySem.W.codeIn K (.ref c_11) "Explorer.__init__" = true) (g11 : PySem.W.keepIn K (.ref f_11) = true) (a12 : PySem.W.findIn K (.ref C_Explorer) "question" = some (some (.ref f_12))) (i12 : PySem.W.isFn K (.ref f_12) = true) (l12 : K.lookup f_12 = some ⟨oc_12, od_12, .func (PySem.W.fnOf "question" "Explorer.question" (defArgs (inClass (top 19) 1)) (defBody (inClass (top 19) 1)) (defScope (inClass (top 19) 1)) .none kV_12 dc_12 pm_12 an_12 (.ref c_12) ct_12), sl_12⟩) (k12 : PySem.W.codeIn K (.ref c_12) "Explorer.question" = true) (g12 : PySem.W.keepIn K (.ref f_12) = true) (t12 : K.lookup c_12 = some ⟨e_12, dd_12, .fields vs_12, sm_12⟩) (p12 : vs_12[11]? = some (.ref P_12)) (y12 : PySem.W.codeHdIn [(c_12, ⟨e_12, dd_12, .fields vs_12, sm_12⟩)] c_12 P_12 = true) (q12 : h.get? P_12 = some (PySem.W.tabObj #[])) (n12 : K.lookup P_12 = none) (a13 : PySem.W.findIn K (.ref C_Explorer) "accept" = some (some (.ref f_13))) (i13 : PySem.W.isFn K (.ref f_13) = true) (l13 : K.lookup f_13 = some ⟨oc_13, od_13, .func (PySem.W.fnOf "accept" "Explorer.accept" (defArgs (inClass (top 19) 2)) (defBody (inClass (top 19) 2)) (defScope (inClass (top 19) 2)) .none kV_13 dc_13 pm_13 an_13 (.ref c_13) ct_13), sl_13⟩) (k13 : PySem.W.codeIn K (.ref c_13) "Explorer.accept" = true) (g13 : PySem.W.keepIn K (.ref f_13) = true) (a14 : PySem.W.findIn K (.ref C_Explorer) "fault" = some (some (.ref f_14))) (i14 : PySem.W.isFn K (.ref f_14) = true) (l14 : K.lookup f_14 = some ⟨oc_14, od_14, .func (PySem.W.fnOf "fault" "Explorer.fault" (defArgs (inClass (top 19) 3)) (defBody (inClass (top 19) 3)) (defScope (inClass (top 19) 3)) .none kV_14 dc_14 pm_14 an_14 (.ref c_14) ct_14), sl_14⟩) (k14 : PySem.W.codeIn K (.ref c_14) "Explorer.fault" = true) (g14 : PySem.W.keepIn K (.ref f_14) = true) (a15 : PySem.W.findIn K (.ref C_Explorer) "reject" = some (some (.ref f_15))) (i15 : PySem.W.isFn K (.ref f_15) = true) (l15 : K.lookup f_15 = some ⟨oc_15, od_15, .func (PySem.W.fnOf "reject" "Explorer.reject" (defArgs (inClass (top 19) 4)) (defBody (inClass (top 19) 4)) (defScope (inClass (top 19) 4)) .none kV_15 dc_15 pm_15 an_15 (.ref c_15) ct_15), sl_15⟩) (k15 : PySem.W.codeIn K (.ref c_15) "Explorer.reject" = true) (g15 : PySem.W.keepIn K (.ref f_15) = true) (a16 : PySem.W.nsIn K mainGlobals "_law_cell" = some (some (.ref f_16))) (l16 : K.lookup f_16 = some ⟨oc_16, od_16, .func (PySem.W.fnOf "_law_cell" "_law_cell" (defArgs (top 21)) (defBody (top 21)) (defScope (top 21)) .none kV_16 dc_16 pm_16 an_16 (.ref c_16) ct_16), sl_16⟩) (k16 : PySem.W.codeIn K (.ref c_16) "_law_cell" = true) (g16 : PySem.W.keepIn K (.ref f_16) = true) (t16 : K.lookup c_16 = some ⟨e_16, dd_16, .fields vs_16, sm_16⟩) (p16 : vs_16[11]? = some (.ref P_16)) (n16 : K.lookup P_16 = none) (a17 : PySem.W.nsIn K mainGlobals "_law_digits" = some (some (.ref f_17))) (l17 : K.lookup f_17 = some ⟨oc_17, od_17, .func (PySem.W.fnOf "_law_digits" "_law_digits" (defArgs (top 22)) (defBody (top 22)) (defScope (top 22)) .none kV_17 dc_17 pm_17 an_17 (.ref c_17) ct_17), sl_17⟩) (k17 : PySem.W.codeIn K (.ref c_17) "_law_digits" = true) (g17 : PySem.W.keepIn K (.ref f_17) = true) (t17 : K.lookup c_17 = some ⟨e_17, dd_17, .fields vs_17, sm_17⟩) (p17 : vs_17[11]? = some (.ref P_17)) (n17 : K.lookup P_17 = none) (a18 : PySem.W.nsIn K mainGlobals "_law_draw" = some (some (.ref f_18))) (l18 : K.lookup f_18 = some ⟨oc_18, od_18, .func (PySem.W.fnOf "_law_draw" "_law_draw" (defArgs (top 23)) (defBody (top 23)) (defScope (top 23)) .none kV_18 dc_18 pm_18 an_18 (.ref c_18) ct_18), sl_18⟩) (k18 : PySem.W.codeIn K (.ref c_18) "_law_draw" = true) (g18 : PySem.W.keepIn K (.ref f_18) = true) (t18 : K.lookup c_18 = some ⟨e_18, dd_18, .fields vs_18, sm_18⟩) (p18 : vs_18[11]? = some (.ref P_18)) (n18 : K.lookup P_18 = none) (a19 : PySem.W.nsIn K mainGlobals "_law_same" = some (some (.ref f_19))) (l19 : K.lookup f_19 = some ⟨oc_19, od_19, .func (PySem.W.fnOf "_law_same" "_law_same" (defArgs (top 24)) (defBody (top 24)) (defScope (top 24)) .none kV_19 dc_19 pm_19 an_19 (.ref c_19) ct_19), sl_19⟩) (k19 : PySem.W.codeIn K (.ref c_19) "_law_same" = true) (g19 : PySem.W.keepIn K (.ref f_19) = true) (t19 : K.lookup c_19 = some ⟨e_19, dd_19, .fields vs_19, sm_19⟩) (p19 : vs_19[11]? = some (.ref P_19)) (n19 : K.lookup P_19 = none) (a20 : PySem.W.nsIn K mainGlobals "_law_box" = some (some (.ref f_20))) (l20 : K.lookup f_20 = some ⟨oc_20, od_20, .func (PySem.W.fnOf "_law_box" "_law_box" (defArgs (top 25)) (defBody (top 25)) (defScope (top 25)) .none kV_20 dc_20 pm_20 an_20 (.ref c_20) ct_20), sl_20⟩) (k20 : PySem.W.codeIn K (.ref c_20) "_law_box" = true) (g20 : PySem.W.keepIn K (.ref f_20) = true) (t20 : K.lookup c_20 = some ⟨e_20, dd_20, .fields vs_20, sm_20⟩) (p20 : vs_20[11]? = some (.ref P_20)) (n20 : K.lookup P_20 = none) (a21 : PySem.W.nsIn K mainGlobals "_law_some" = some (some (.ref f_21))) (l21 : K.lookup f_21 = some ⟨oc_21, od_21, .func (PySem.W.fnOf "_law_some" "_law_some" (defArgs (top 26)) (defBody (top 26)) (defScope (top 26)) .none kV_21 dc_21 pm_21 an_21 (.ref c_21) ct_21), sl_21⟩) (k21 : PySem.W.codeIn K (.ref c_21) "_law_some" = true) (g21 : PySem.W.keepIn K (.ref f_21) = true) (t21 : K.lookup c_21 = some ⟨e_21, dd_21, .fields vs_21, sm_21⟩) (p21 : vs_21[11]? = some (.ref P_21)) (n21 : K.lookup P_21 = none) (a22 : PySem.W.nsIn K mainGlobals "_law_inside" = some (some (.ref f_22))) (l22 : K.lookup f_22 = some ⟨oc_22, od_22, .func (PySem.W.fnOf "_law_inside" "_law_inside" (defArgs (top 27)) (defBody (top 27)) (defScope (top 27)) .none kV_22 dc_22 pm_22 an_22 (.ref c_22) ct_22), sl_22⟩) (k22 : PySem.W.codeIn K (.ref c_22) "_law_inside" = true) (g22 : PySem.W.keepIn K (.ref f_22) = true) (t22 : K.lookup c_22 = some ⟨e_22, dd_22, .fields vs_22, sm_22⟩) (p22 : vs_22[11]? = some (.ref P_22)) (n22 : K.lookup P_22 = none) (a23 : PySem.W.nsIn K mainGlobals "_law_common" = some (some (.ref f_23))) (l23 : K.lookup f_23 = some ⟨oc_23, od_23, .func (PySem.W.fnOf "_law_common" "_law_common" (defArgs (top 28)) (defBody (top 28)) (defScope (top 28)) .none kV_23 dc_23 pm_23 an_23 (.ref c_23) ct_23), sl_23⟩) (k23 : PySem.W.codeIn K (.ref c_23) "_law_common" = true) (g23 : PySem.W.keepIn K (.ref f_23) = true) (t23 : K.lookup c_23 = some ⟨e_23, dd_23, .fields vs_23, sm_23⟩) (p23 : vs_23[11]? = some (.ref P_23)) (n23 : K.lookup P_23 = none) (a24 : PySem.W.nsIn K mainGlobals "_law_having" = some (some (.ref f_24))) (l24 : K.lookup f_24 = some ⟨oc_24, od_24, .func (PySem.W.fnOf "_law_having" "_law_having" (defArgs (top 29)) (defBody (top 29)) (defScope (top 29)) .none kV_24 dc_24 pm_24 an_24 (.ref c_24) ct_24), sl_24⟩) (k24 : PySem.W.codeIn K (.ref c_24) "_law_having" = true) (g24 : PySem.W.keepIn K (.ref f_24) = true) (t24 : K.lookup c_24 = some ⟨e_24, dd_24, .fields vs_24, sm_24⟩) (p24 : vs_24[11]? = some (.ref P_24)) (n24 : K.lookup P_24 = none) (a25 : PySem.W.nsIn K mainGlobals "_law_closure" = some (some (.ref f_25))) (l25 : K.lookup f_25 = some ⟨oc_25, od_25, .func (PySem.W.fnOf "_law_closure" "_law_closure" (defArgs (top 30)) (defBody (top 30)) (defScope (top 30)) .none kV_25 dc_25 pm_25 an_25 (.ref c_25) ct_25), sl_25⟩) (k25 : PySem.W.codeIn K (.ref c_25) "_law_closure" = true) (g25 : PySem.W.keepIn K (.ref f_25) = true) (t25 : K.lookup c_25 = some ⟨e_25, dd_25, .fields vs_25, sm_25⟩) (p25 : vs_25[11]? = some (.ref P_25)) (n25 : K.lookup P_25 = none) (a26 : PySem.W.nsIn K mainGlobals "_law_lectic" = some (some (.ref f_26))) (l26 : K.lookup f_26 = some ⟨oc_26, od_26, .func (PySem.W.fnOf "_law_lectic" "_law_lectic" (defArgs (top 31)) (defBody (top 31)) (defScope (top 31)) .none kV_26 dc_26 pm_26 an_26 (.ref c_26) ct_26), sl_26⟩) (k26 : PySem.W.codeIn K (.ref c_26) "_law_lectic" = true) (g26 : PySem.W.keepIn K (.ref f_26) = true) (t26 : K.lookup c_26 = some ⟨e_26, dd_26, .fields vs_26, sm_26⟩) (p26 : vs_26[11]? = some (.ref P_26)) (n26 : K.lookup P_26 = none) (a27 : PySem.W.nsIn K mainGlobals "_law_subsets" = some (some (.ref f_27))) (l27 : K.lookup f_27 = some ⟨oc_27, od_27, .func (PySem.W.fnOf "_law_subsets" "_law_subsets" (defArgs (top 32)) (defBody (top 32)) (defScope (top 32)) .none kV_27 dc_27 pm_27 an_27 (.ref c_27) ct_27), sl_27⟩) (k27 : PySem.W.codeIn K (.ref c_27) "_law_subsets" = true) (g27 : PySem.W.keepIn K (.ref f_27) = true) (t27 : K.lookup c_27 = some ⟨e_27, dd_27, .fields vs_27, sm_27⟩) (p27 : vs_27[11]? = some (.ref P_27)) (n27 : K.lookup P_27 = none) (a28 : PySem.W.nsIn K mainGlobals "_law_closed_under" = some (some (.ref f_28))) (l28 : K.lookup f_28 = some ⟨oc_28, od_28, .func (PySem.W.fnOf "_law_closed_under" "_law_closed_under" (defArgs (top 33)) (defBody (top 33)) (defScope (top 33)) .none kV_28 dc_28 pm_28 an_28 (.ref c_28) ct_28), sl_28⟩) (k28 : PySem.W.codeIn K (.ref c_28) "_law_closed_under" = true) (g28 : PySem.W.keepIn K (.ref f_28) = true) (t28 : K.lookup c_28 = some ⟨e_28, dd_28, .fields vs_28, sm_28⟩) (p28 : vs_28[11]? = some (.ref P_28)) (n28 : K.lookup P_28 = none) (a29 : PySem.W.nsIn K mainGlobals "_law_asked" = some (some (.ref f_29))) (l29 : K.lookup f_29 = some ⟨oc_29, od_29, .func (PySem.W.fnOf "_law_asked" "_law_asked" (defArgs (top 34)) (defBody (top 34)) (defScope (top 34)) .none kV_29 dc_29 pm_29 an_29 (.ref c_29) ct_29), sl_29⟩) (k29 : PySem.W.codeIn K (.ref c_29) "_law_asked" = true) (g29 : PySem.W.keepIn K (.ref f_29) = true) (t29 : K.lookup c_29 = some ⟨e_29, dd_29, .fields vs_29, sm_29⟩) (p29 : vs_29[11]? = some (.ref P_29)) (n29 : K.lookup P_29 = none) (a30 : PySem.W.nsIn K mainGlobals "_law_refusal" = some (some (.ref f_30))) (l30 : K.lookup f_30 = some ⟨oc_30, od_30, .func (PySem.W.fnOf "_law_refusal" "_law_refusal" (defArgs (top 35)) (defBody (top 35)) (defScope (top 35)) .none kV_30 dc_30 pm_30 an_30 (.ref c_30) ct_30), sl_30⟩) (k30 : PySem.W.codeIn K (.ref c_30) "_law_refusal" = true) (g30 : PySem.W.keepIn K (.ref f_30) = true) (t30 : K.lookup c_30 = some ⟨e_30, dd_30, .fields vs_30, sm_30⟩) (p30 : vs_30[11]? = some (.ref P_30)) (n30 : K.lookup P_30 = none) (a31 : PySem.W.nsIn K mainGlobals "_law_answered" = some (some (.ref f_31))) (l31 : K.lookup f_31 = some ⟨oc_31, od_31, .func (PySem.W.fnOf "_law_answered" "_law_answered" (defArgs (top 36)) (defBody (top 36)) (defScope (top 36)) .none kV_31 dc_31 pm_31 an_31 (.ref c_31) ct_31), sl_31⟩) (k31 : PySem.W.codeIn K (.ref c_31) "_law_answered" = true) (g31 : PySem.W.keepIn K (.ref f_31) = true) (t31 : K.lookup c_31 = some ⟨e_31, dd_31, .fields vs_31, sm_31⟩) (p31 : vs_31[11]? = some (.ref P_31)) (n31 : K.lookup P_31 = none) (a32 : PySem.W.nsIn K mainGlobals "law" = some (some (.ref f_32))) (l32 : K.lookup f_32 = some ⟨oc_32, od_32, .func (PySem.W.fnOf "law" "law" (defArgs (top 37)) (defBody (top 37)) (defScope (top 37)) .none kV_32 dc_32 pm_32 an_32 (.ref c_32) ct_32), sl_32⟩) (k32 : PySem.W.codeIn K (.ref c_32) "law" = true) (g32 : PySem.W.keepIn K (.ref f_32) = true) (t32 : K.lookup c_32 = some ⟨e_32, dd_32, .fields vs_32, sm_32⟩) (p32 : vs_32[11]? = some (.ref P_32)) (n32 : K.lookup P_32 = none) (b_ValueError : PySem.W.nsIn K mainGlobals "ValueError" = some none) (b_all : PySem.W.nsIn K mainGlobals "all" = some none) (b_bool : PySem.W.nsIn K mainGlobals "bool" = some none) (b_enumerate : PySem.W.nsIn K mainGlobals "enumerate" = some none) (b_int : PySem.W.nsIn K mainGlobals "int" = some none) (b_isinstance : PySem.W.nsIn K mainGlobals "isinstance" = some none) (b_len : PySem.W.nsIn K mainGlobals "len" = some none) (b_list : PySem.W.nsIn K mainGlobals "list" = some none) (b_range : PySem.W.nsIn K mainGlobals "range" = some none) (b_set : PySem.W.nsIn K mainGlobals "set" = some none) (b_sorted : PySem.W.nsIn K mainGlobals "sorted" = some none) (b_str : PySem.W.nsIn K mainGlobals "str" = some none) (b_tuple : PySem.W.nsIn K mainGlobals "tuple" = some none) :
    LawG PySem.Challenge.rw_formalconcepts_k70_an_expert_is_asked w K 37 63 mg fa h := by
  have dC_Explorer := cls_at KX G ac_Explorer
  have cC_Explorer : Cls K C_Explorer := ⟨pg_Explorer, hd_Explorer, po_Explorer, sa_Explorer⟩
  have d0 := DK.of (x := "is_part") (st := top 4) KX G L (by decide +kernel) a0 l0 k0 g0 t0 p0 n0
  have d1 := DK.of (x := "together") (st := top 5) KX G L (by decide +kernel) a1 l1 k1 g1 t1 p1 n1
  have d2 := DK.of (x := "without") (st := top 6) KX G L (by decide +kernel) a2 l2 k2 g2 t2 p2 n2
  have d3 := DK.of (x := "common") (st := top 8) KX G L (by decide +kernel) a3 l3 k3 g3 t3 p3 n3
  have d4 := DK.of (x := "having") (st := top 9) KX G L (by decide +kernel) a4 l4 k4 g4 t4 p4 n4
  have d5 := DK.of (x := "closure") (st := top 10) KX G L (by decide +kernel) a5 l5 k5 g5 t5 p5 n5
  have d6 := DK.of (x := "keeps") (st := top 12) KX G L (by decide +kernel) a6 l6 k6 g6 t6 p6 n6
  have d7 := DK.of (x := "used_from") (st := top 13) KX G L (by decide +kernel) a7 l7 k7 g7 t7 p7 n7
  have d8 := DK.of (x := "closed_under") (st := top 14) KX G L (by decide +kernel) a8 l8 k8 g8 t8 p8 n8
  have d9 := DK.of (x := "next_set") (st := top 16) KX G L (by decide +kernel) a9 l9 k9 g9 t9 p9 n9
  have d10 := DK.of (x := "all_sets") (st := top 17) KX G L (by decide +kernel) a10 l10 k10 g10 t10 p10 n10
  have d12 := DKM.of2 (cn := "Explorer") (x := "question") (q := "Explorer.question") (st := (inClass (top 19) 1)) KX dC_Explorer.2 cC_Explorer a12 i12 g12 l12 k12 t12 p12 y12 q12 n12
  have d16 := DK.of (x := "_law_cell") (st := top 21) KX G L (by decide +kernel) a16 l16 k16 g16 t16 p16 n16
  have d17 := DK.of (x := "_law_digits") (st := top 22) KX G L (by decide +kernel) a17 l17 k17 g17 t17 p17 n17
  have d18 := DK.of (x := "_law_draw") (st := top 23) KX G L (by decide +kernel) a18 l18 k18 g18 t18 p18 n18
  have d19 := DK.of (x := "_law_same") (st := top 24) KX G L (by decide +kernel) a19 l19 k19 g19 t19 p19 n19
  have d20 := DK.of (x := "_law_box") (st := top 25) KX G L (by decide +kernel) a20 l20 k20 g20 t20 p20 n20
  have d21 := DK.of (x := "_law_some") (st := top 26) KX G L (by decide +kernel) a21 l21 k21 g21 t21 p21 n21
  have d22 := DK.of (x := "_law_inside") (st := top 27) KX G L (by decide +kernel) a22 l22 k22 g22 t22 p22 n22
  have d23 := DK.of (x := "_law_common") (st := top 28) KX G L (by decide +kernel) a23 l23 k23 g23 t23 p23 n23
  have d24 := DK.of (x := "_law_having") (st := top 29) KX G L (by decide +kernel) a24 l24 k24 g24 t24 p24 n24
  have d25 := DK.of (x := "_law_closure") (st := top 30) KX G L (by decide +kernel) a25 l25 k25 g25 t25 p25 n25
  have d26 := DK.of (x := "_law_lectic") (st := top 31) KX G L (by decide +kernel) a26 l26 k26 g26 t26 p26 n26
  have d27 := DK.of (x := "_law_subsets") (st := top 32) KX G L (by decide +kernel) a27 l27 k27 g27 t27 p27 n27
  have d28 := DK.of (x := "_law_closed_under") (st := top 33) KX G L (by decide +kernel) a28 l28 k28 g28 t28 p28 n28
  have d29 := DK.of (x := "_law_asked") (st := top 34) KX G L (by decide +kernel) a29 l29 k29 g29 t29 p29 n29
  have d30 := DK.of (x := "_law_refusal") (st := top 35) KX G L (by decide +kernel) a30 l30 k30 g30 t30 p30 n30
  have d31 := DK.of (x := "_law_answered") (st := top 36) KX G L (by decide +kernel) a31 l31 k31 g31 t31 p31 n31
  have d32 := DK.of (x := "law") (st := top 37) KX G L (by decide +kernel) a32 l32 k32 g32 t32 p32 n32
  refine law_of (nm := NM) (T := T_law) (cs := [(c_0, P_0), (c_1, P_1), (c_2, P_2), (c_3, P_3), (c_4, P_4), (c_5, P_5), (c_6, P_6), (c_7, P_7), (c_8, P_8), (c_9, P_9), (c_10, P_10), (c_12, P_12), (c_16, P_16), (c_17, P_17), (c_18, P_18), (c_19, P_19), (c_20, P_20), (c_21, P_21), (c_22, P_22), (c_23, P_23), (c_24, P_24), (c_25, P_25), (c_26, P_26), (c_27, P_27), (c_28, P_28), (c_29, P_29), (c_30, P_30), (c_31, P_31), (c_32, P_32)]) (List.forall_mem_cons.mpr ⟨d0.tab, List.forall_mem_cons.mpr ⟨d1.tab, List.forall_mem_cons.mpr ⟨d2.tab, List.forall_mem_cons.mpr ⟨d3.tab, List.forall_mem_cons.mpr ⟨d4.tab, List.forall_mem_cons.mpr ⟨d5.tab, List.forall_mem_cons.mpr ⟨d6.tab, List.forall_mem_cons.mpr ⟨d7.tab, List.forall_mem_cons.mpr ⟨d8.tab, List.forall_mem_cons.mpr ⟨d9.tab, List.forall_mem_cons.mpr ⟨d10.tab, List.forall_mem_cons.mpr ⟨d12.tab, List.forall_mem_cons.mpr ⟨d16.tab, List.forall_mem_cons.mpr ⟨d17.tab, List.forall_mem_cons.mpr ⟨d18.tab, List.forall_mem_cons.mpr ⟨d19.tab, List.forall_mem_cons.mpr ⟨d20.tab, List.forall_mem_cons.mpr ⟨d21.tab, List.forall_mem_cons.mpr ⟨d22.tab, List.forall_mem_cons.mpr ⟨d23.tab, List.forall_mem_cons.mpr ⟨d24.tab, List.forall_mem_cons.mpr ⟨d25.tab, List.forall_mem_cons.mpr ⟨d26.tab, List.forall_mem_cons.mpr ⟨d27.tab, List.forall_mem_cons.mpr ⟨d28.tab, List.forall_mem_cons.mpr ⟨d29.tab, List.forall_mem_cons.mpr ⟨d30.tab, List.forall_mem_cons.mpr ⟨d31.tab, List.forall_mem_cons.mpr ⟨d32.tab, fun _ z => nomatch z⟩⟩⟩⟩⟩⟩⟩⟩⟩⟩⟩⟩⟩⟩⟩⟩⟩⟩⟩⟩⟩⟩⟩⟩⟩⟩⟩⟩⟩) (List.forall_mem_cons.mpr ⟨d0.free, List.forall_mem_cons.mpr ⟨d1.free, List.forall_mem_cons.mpr ⟨d2.free, List.forall_mem_cons.mpr ⟨d3.free, List.forall_mem_cons.mpr ⟨d4.free, List.forall_mem_cons.mpr ⟨d5.free, List.forall_mem_cons.mpr ⟨d6.free, List.forall_mem_cons.mpr ⟨d7.free, List.forall_mem_cons.mpr ⟨d8.free, List.forall_mem_cons.mpr ⟨d9.free, List.forall_mem_cons.mpr ⟨d10.free, List.forall_mem_cons.mpr ⟨d12.free, List.forall_mem_cons.mpr ⟨d16.free, List.forall_mem_cons.mpr ⟨d17.free, List.forall_mem_cons.mpr ⟨d18.free, List.forall_mem_cons.mpr ⟨d19.free, List.forall_mem_cons.mpr ⟨d20.free, List.forall_mem_cons.mpr ⟨d21.free, List.forall_mem_cons.mpr ⟨d22.free, List.forall_mem_cons.mpr ⟨d23.free, List.forall_mem_cons.mpr ⟨d24.free, List.forall_mem_cons.mpr ⟨d25.free, List.forall_mem_cons.mpr ⟨d26.free, List.forall_mem_cons.mpr ⟨d27.free, List.forall_mem_cons.mpr ⟨d28.free, List.forall_mem_cons.mpr ⟨d29.free, List.forall_mem_cons.mpr ⟨d30.free, List.forall_mem_cons.mpr ⟨d31.free, List.forall_mem_cons.mpr ⟨d32.free, fun _ z => nomatch z⟩⟩⟩⟩⟩⟩⟩⟩⟩⟩⟩⟩⟩⟩⟩⟩⟩⟩⟩⟩⟩⟩⟩⟩⟩⟩⟩⟩⟩) (List.forall_mem_cons.mpr ⟨d0.code, List.forall_mem_cons.mpr ⟨d1.code, List.forall_mem_cons.mpr ⟨d2.code, List.forall_mem_cons.mpr ⟨d3.code, List.forall_mem_cons.mpr ⟨d4.code, List.forall_mem_cons.mpr ⟨d5.code, List.forall_mem_cons.mpr ⟨d6.code, List.forall_mem_cons.mpr ⟨d7.code, List.forall_mem_cons.mpr ⟨d8.code, List.forall_mem_cons.mpr ⟨d9.code, List.forall_mem_cons.mpr ⟨d10.code, List.forall_mem_cons.mpr ⟨d12.code, List.forall_mem_cons.mpr ⟨d16.code, List.forall_mem_cons.mpr ⟨d17.code, List.forall_mem_cons.mpr ⟨d18.code, List.forall_mem_cons.mpr ⟨d19.code, List.forall_mem_cons.mpr ⟨d20.code, List.forall_mem_cons.mpr ⟨d21.code, List.forall_mem_cons.mpr ⟨d22.code, List.forall_mem_cons.mpr ⟨d23.code, List.forall_mem_cons.mpr ⟨d24.code, List.forall_mem_cons.mpr ⟨d25.code, List.forall_mem_cons.mpr ⟨d26.code, List.forall_mem_cons.mpr ⟨d27.code, List.forall_mem_cons.mpr ⟨d28.code, List.forall_mem_cons.mpr ⟨d29.code, List.forall_mem_cons.mpr ⟨d30.code, List.forall_mem_cons.mpr ⟨d31.code, List.forall_mem_cons.mpr ⟨d32.code, fun _ z => nomatch z⟩⟩⟩⟩⟩⟩⟩⟩⟩⟩⟩⟩⟩⟩⟩⟩⟩⟩⟩⟩⟩⟩⟩⟩⟩⟩⟩⟩⟩) hfa (fun base hB hC => all_ok ⟨PySem.W.mg_none_of KX G b_ValueError, PySem.W.mg_none_of KX G b_all, PySem.W.mg_none_of KX G b_bool, PySem.W.mg_none_of KX G b_enumerate, PySem.W.mg_none_of KX G b_int, PySem.W.mg_none_of KX G b_isinstance, PySem.W.mg_none_of KX G b_len, PySem.W.mg_none_of KX G b_list, PySem.W.mg_none_of KX G b_range, PySem.W.mg_none_of KX G b_set, PySem.W.mg_none_of KX G b_sorted, PySem.W.mg_none_of KX G b_str, PySem.W.mg_none_of KX G b_tuple⟩ ⟨hB, fun _ _ => rfl⟩ (clsD_of dC_Explorer.2 cC_Explorer (List.forall_mem_cons.mpr ⟨nf_Explorer_accepted, List.forall_mem_cons.mpr ⟨nf_Explorer_table, fun _ z => nomatch z⟩⟩)) (clsM_of dC_Explorer.1 dC_Explorer.2 ⟨mk_Explorer, a11, i11, kc_Explorer⟩) (fault_of KX G fac_AnswerFault fab_AnswerFault fl1_AnswerFault fc1_AnswerFault frd_AnswerFault fga_AnswerFault fat_AnswerFault foe_AnswerFault fsa_AnswerFault fsb_AnswerFault fty_AnswerFault fkc_AnswerFault fhg_AnswerFault fhk_AnswerFault fhd_AnswerFault fha_AnswerFault fhn_AnswerFault fht_AnswerFault fhm_AnswerFault fno_AnswerFault fkb_AnswerFault fkv_AnswerFault fiC_AnswerFault ftI_AnswerFault fex_AnswerFault) (d0.dc base _ _ (by simp) (hC (c_0, P_0) (by simp))) (d1.dc base _ _ (by simp) (hC (c_1, P_1) (by simp))) (d2.dc base _ _ (by simp) (hC (c_2, P_2) (by simp))) (d3.dc base _ _ (by simp) (hC (c_3, P_3) (by simp))) (d4.dc base _ _ (by simp) (hC (c_4, P_4) (by simp))) (d5.dc base _ _ (by simp) (hC (c_5, P_5) (by simp))) (d6.dc base _ _ (by simp) (hC (c_6, P_6) (by simp))) (d7.dc base _ _ (by simp) (hC (c_7, P_7) (by simp))) (d8.dc base _ _ (by simp) (hC (c_8, P_8) (by simp))) (d9.dc base _ _ (by simp) (hC (c_9, P_9) (by simp))) (d10.dc base _ _ (by simp) (hC (c_10, P_10) (by simp))) (defM_of dC_Explorer.2 cC_Explorer a11 i11 g11 l11 k11) (d12.dc base _ _ (by simp) (hC (c_12, P_12) (by simp))) (defM_of dC_Explorer.2 cC_Explorer a13 i13 g13 l13 k13) (defM_of dC_Explorer.2 cC_Explorer a14 i14 g14 l14 k14) (defM_of dC_Explorer.2 cC_Explorer a15 i15 g15 l15 k15) (d16.dc base _ _ (by simp) (hC (c_16, P_16) (by simp))) (d17.dc base _ _ (by simp) (hC (c_17, P_17) (by simp))) (d18.dc base _ _ (by simp) (hC (c_18, P_18) (by simp))) (d19.dc base _ _ (by simp) (hC (c_19, P_19) (by simp))) (d20.dc base _ _ (by simp) (hC (c_20, P_20) (by simp))) (d21.dc base _ _ (by simp) (hC (c_21, P_21) (by simp))) (d22.dc base _ _ (by simp) (hC (c_22, P_22) (by simp))) (d23.dc base _ _ (by simp) (hC (c_23, P_23) (by simp))) (d24.dc base _ _ (by simp) (hC (c_24, P_24) (by simp))) (d25.dc base _ _ (by simp) (hC (c_25, P_25) (by simp))) (d26.dc base _ _ (by simp) (hC (c_26, P_26) (by simp))) (d27.dc base _ _ (by simp) (hC (c_27, P_27) (by simp))) (d28.dc base _ _ (by simp) (hC (c_28, P_28) (by simp))) (d29.dc base _ _ (by simp) (hC (c_29, P_29) (by simp))) (d30.dc base _ _ (by simp) (hC (c_30, P_30) (by simp))) (d31.dc base _ _ (by simp) (hC (c_31, P_31) (by simp))) (d32.dc base _ _ (by simp) (hC (c_32, P_32) (by simp)))) law_true
end Lk70

open PySem PySem.W PyProof.Rows in
set_option maxRecDepth 100000 in
set_option maxHeartbeats 0 in
theorem PySem.Challenge.cw_formalconcepts_k70_an_expert_is_asked_holds : PySem.Challenge.rw_formalconcepts_k70_an_expert_is_asked.Holds := by
  w_on; o_law; k_head; (case hw => w_witness2)
  k_fill
  refine GD.walkG (l := PySem.Challenge.rw_formalconcepts_k70_an_expert_is_asked) (n := 63) (k := 37) rfl (by decide) rfl ⟨rfl, by decide, by decide⟩ (fun w h Y => PySem.W.km_in_of Y) ?F
  case F =>
    intro w mg fa h Y KX G hmg L
    refine' Lk70.mk KX G L hmg ?zzcac_Explorer ?zzcpg_Explorer ?zzchd_Explorer ?zzcpo_Explorer ?zzcsa_Explorer ?zzcmk_Explorer ?zzckc_Explorer ?zzcnf_Explorer_accepted ?zzcnf_Explorer_table ?zzcfac_AnswerFault ?zzcfab_AnswerFault ?zzcfl1_AnswerFault ?zzcfc1_AnswerFault ?zzcfrd_AnswerFault ?zzcfga_AnswerFault ?zzcfat_AnswerFault ?zzcfoe_AnswerFault ?zzcfsa_AnswerFault ?zzcfsb_AnswerFault ?zzcfty_AnswerFault ?zzcfkc_AnswerFault ?zzcfhg_AnswerFault ?zzcfhk_AnswerFault ?zzcfhd_AnswerFault ?zzcfha_AnswerFault ?zzcfhn_AnswerFault ?zzcfht_AnswerFault ?zzcfhm_AnswerFault ?zzcfno_AnswerFault ?zzcfkb_AnswerFault ?zzcfkv_AnswerFault ?zzcfiC_AnswerFault ?zzcftI_AnswerFault ?zzcfex_AnswerFault ?zza0 ?zzl0 ?zzk0 ?zzg0 ?zzt0 ?zzp0 ?zzn0 ?zza1 ?zzl1 ?zzk1 ?zzg1 ?zzt1 ?zzp1 ?zzn1 ?zza2 ?zzl2 ?zzk2 ?zzg2 ?zzt2 ?zzp2 ?zzn2 ?zza3 ?zzl3 ?zzk3 ?zzg3 ?zzt3 ?zzp3 ?zzn3 ?zza4 ?zzl4 ?zzk4 ?zzg4 ?zzt4 ?zzp4 ?zzn4 ?zza5 ?zzl5 ?zzk5 ?zzg5 ?zzt5 ?zzp5 ?zzn5 ?zza6 ?zzl6 ?zzk6 ?zzg6 ?zzt6 ?zzp6 ?zzn6 ?zza7 ?zzl7 ?zzk7 ?zzg7 ?zzt7 ?zzp7 ?zzn7 ?zza8 ?zzl8 ?zzk8 ?zzg8 ?zzt8 ?zzp8 ?zzn8 ?zza9 ?zzl9 ?zzk9 ?zzg9 ?zzt9 ?zzp9 ?zzn9 ?zza10 ?zzl10 ?zzk10 ?zzg10 ?zzt10 ?zzp10 ?zzn10 ?zza11 ?zzi11 ?zzl11 ?zzk11 ?zzg11 ?zza12 ?zzi12 ?zzl12 ?zzk12 ?zzg12 ?zzt12 ?zzp12 ?zzy12 ?zzq12 ?zzn12 ?zza13 ?zzi13 ?zzl13 ?zzk13 ?zzg13 ?zza14 ?zzi14 ?zzl14 ?zzk14 ?zzg14 ?zza15 ?zzi15 ?zzl15 ?zzk15 ?zzg15 ?zza16 ?zzl16 ?zzk16 ?zzg16 ?zzt16 ?zzp16 ?zzn16 ?zza17 ?zzl17 ?zzk17 ?zzg17 ?zzt17 ?zzp17 ?zzn17 ?zza18 ?zzl18 ?zzk18 ?zzg18 ?zzt18 ?zzp18 ?zzn18 ?zza19 ?zzl19 ?zzk19 ?zzg19 ?zzt19 ?zzp19 ?zzn19 ?zza20 ?zzl20 ?zzk20 ?zzg20 ?zzt20 ?zzp20 ?zzn20 ?zza21 ?zzl21 ?zzk21 ?zzg21 ?zzt21 ?zzp21 ?zzn21 ?zza22 ?zzl22 ?zzk22 ?zzg22 ?zzt22 ?zzp22 ?zzn22 ?zza23 ?zzl23 ?zzk23 ?zzg23 ?zzt23 ?zzp23 ?zzn23 ?zza24 ?zzl24 ?zzk24 ?zzg24 ?zzt24 ?zzp24 ?zzn24 ?zza25 ?zzl25 ?zzk25 ?zzg25 ?zzt25 ?zzp25 ?zzn25 ?zza26 ?zzl26 ?zzk26 ?zzg26 ?zzt26 ?zzp26 ?zzn26 ?zza27 ?zzl27 ?zzk27 ?zzg27 ?zzt27 ?zzp27 ?zzn27 ?zza28 ?zzl28 ?zzk28 ?zzg28 ?zzt28 ?zzp28 ?zzn28 ?zza29 ?zzl29 ?zzk29 ?zzg29 ?zzt29 ?zzp29 ?zzn29 ?zza30 ?zzl30 ?zzk30 ?zzg30 ?zzt30 ?zzp30 ?zzn30 ?zza31 ?zzl31 ?zzk31 ?zzg31 ?zzt31 ?zzp31 ?zzn31 ?zza32 ?zzl32 ?zzk32 ?zzg32 ?zzt32 ?zzp32 ?zzn32 ?zzb_ValueError ?zzb_all ?zzb_bool ?zzb_enumerate ?zzb_int ?zzb_isinstance ?zzb_len ?zzb_list ?zzb_range ?zzb_set ?zzb_sorted ?zzb_str ?zzb_tuple
    (case zzcac_Explorer => k_is)
    (case zzcpg_Explorer => k_is)
    (case zzchd_Explorer => k_is)
    (case zzcpo_Explorer => k_is)
    (case zzcsa_Explorer => k_is)
    (case zzcmk_Explorer => k_is)
    (case zzckc_Explorer => k_is)
    (case zzcnf_Explorer_accepted => k_is)
    (case zzcnf_Explorer_table => k_is)
    (case zzcfac_AnswerFault => k_is)
    (case zzcfab_AnswerFault => k_is)
    (case zzcfiC_AnswerFault => k_is)
    (case zzcfl1_AnswerFault => k_is)
    (case zzcfc1_AnswerFault => k_is)
    (case zzcfrd_AnswerFault => k_is)
    (case zzcfga_AnswerFault => k_is)
    (case zzcfat_AnswerFault => k_is)
    (case zzcfoe_AnswerFault => exact GD.fo_of (by kernel_rfl))
    (case zzcfsa_AnswerFault => k_is)
    (case zzcfsb_AnswerFault => k_is)
    (case zzcfty_AnswerFault => k_is)
    (case zzcfkc_AnswerFault => k_is)
    (case zzcfhg_AnswerFault => k_is)
    (case zzcfhk_AnswerFault => k_is)
    (case zzcfhd_AnswerFault => k_is)
    (case zzcfha_AnswerFault => k_is)
    (case zzcfhn_AnswerFault => k_is)
    (case zzcfht_AnswerFault => k_is)
    (case zzcfhm_AnswerFault => k_is)
    (case zzcfno_AnswerFault => k_is)
    (case zzcfkb_AnswerFault => kit_is)
    (case zzcfkv_AnswerFault => kit_is)
    (case zzcftI_AnswerFault => k_is)
    (case zzcfex_AnswerFault => kts_exm)
    (case zza0 => k_is)
    (case zzl0 => k_is)
    (case zzk0 => k_is)
    (case zzg0 => k_is)
    (case zzt0 => k_is)
    (case zzp0 => rfl)
    (case zzn0 => rfl)
    (case zza1 => k_is)
    (case zzl1 => k_is)
    (case zzk1 => k_is)
    (case zzg1 => k_is)
    (case zzt1 => k_is)
    (case zzp1 => rfl)
    (case zzn1 => rfl)
    (case zza2 => k_is)
    (case zzl2 => k_is)
    (case zzk2 => k_is)
    (case zzg2 => k_is)
    (case zzt2 => k_is)
    (case zzp2 => rfl)
    (case zzn2 => rfl)
    (case zza3 => k_is)
    (case zzl3 => k_is)
    (case zzk3 => k_is)
    (case zzg3 => k_is)
    (case zzt3 => k_is)
    (case zzp3 => rfl)
    (case zzn3 => rfl)
    (case zza4 => k_is)
    (case zzl4 => k_is)
    (case zzk4 => k_is)
    (case zzg4 => k_is)
    (case zzt4 => k_is)
    (case zzp4 => rfl)
    (case zzn4 => rfl)
    (case zza5 => k_is)
    (case zzl5 => k_is)
    (case zzk5 => k_is)
    (case zzg5 => k_is)
    (case zzt5 => k_is)
    (case zzp5 => rfl)
    (case zzn5 => rfl)
    (case zza6 => k_is)
    (case zzl6 => k_is)
    (case zzk6 => k_is)
    (case zzg6 => k_is)
    (case zzt6 => k_is)
    (case zzp6 => rfl)
    (case zzn6 => rfl)
    (case zza7 => k_is)
    (case zzl7 => k_is)
    (case zzk7 => k_is)
    (case zzg7 => k_is)
    (case zzt7 => k_is)
    (case zzp7 => rfl)
    (case zzn7 => rfl)
    (case zza8 => k_is)
    (case zzl8 => k_is)
    (case zzk8 => k_is)
    (case zzg8 => k_is)
    (case zzt8 => k_is)
    (case zzp8 => rfl)
    (case zzn8 => rfl)
    (case zza9 => k_is)
    (case zzl9 => k_is)
    (case zzk9 => k_is)
    (case zzg9 => k_is)
    (case zzt9 => k_is)
    (case zzp9 => rfl)
    (case zzn9 => rfl)
    (case zza10 => k_is)
    (case zzl10 => k_is)
    (case zzk10 => k_is)
    (case zzg10 => k_is)
    (case zzt10 => k_is)
    (case zzp10 => rfl)
    (case zzn10 => rfl)
    (case zza11 => k_is)
    (case zzi11 => k_is)
    (case zzl11 => k_is)
    (case zzk11 => k_is)
    (case zzg11 => k_is)
    (case zza12 => k_is)
    (case zzi12 => k_is)
    (case zzl12 => k_is)
    (case zzk12 => k_is)
    (case zzg12 => k_is)
    (case zzt12 => k_is)
    (case zzp12 => rfl)
    (case zzy12 => first | rfl | decide +kernel)
    (case zzq12 => exact PySem.W.km_tabs_of Y _ (by decide +kernel))
    (case zzn12 => rfl)
    (case zza13 => k_is)
    (case zzi13 => k_is)
    (case zzl13 => k_is)
    (case zzk13 => k_is)
    (case zzg13 => k_is)
    (case zza14 => k_is)
    (case zzi14 => k_is)
    (case zzl14 => k_is)
    (case zzk14 => k_is)
    (case zzg14 => k_is)
    (case zza15 => k_is)
    (case zzi15 => k_is)
    (case zzl15 => k_is)
    (case zzk15 => k_is)
    (case zzg15 => k_is)
    (case zza16 => k_is)
    (case zzl16 => k_is)
    (case zzk16 => k_is)
    (case zzg16 => k_is)
    (case zzt16 => k_is)
    (case zzp16 => rfl)
    (case zzn16 => rfl)
    (case zza17 => k_is)
    (case zzl17 => k_is)
    (case zzk17 => k_is)
    (case zzg17 => k_is)
    (case zzt17 => k_is)
    (case zzp17 => rfl)
    (case zzn17 => rfl)
    (case zza18 => k_is)
    (case zzl18 => k_is)
    (case zzk18 => k_is)
    (case zzg18 => k_is)
    (case zzt18 => k_is)
    (case zzp18 => rfl)
    (case zzn18 => rfl)
    (case zza19 => k_is)
    (case zzl19 => k_is)
    (case zzk19 => k_is)
    (case zzg19 => k_is)
    (case zzt19 => k_is)
    (case zzp19 => rfl)
    (case zzn19 => rfl)
    (case zza20 => k_is)
    (case zzl20 => k_is)
    (case zzk20 => k_is)
    (case zzg20 => k_is)
    (case zzt20 => k_is)
    (case zzp20 => rfl)
    (case zzn20 => rfl)
    (case zza21 => k_is)
    (case zzl21 => k_is)
    (case zzk21 => k_is)
    (case zzg21 => k_is)
    (case zzt21 => k_is)
    (case zzp21 => rfl)
    (case zzn21 => rfl)
    (case zza22 => k_is)
    (case zzl22 => k_is)
    (case zzk22 => k_is)
    (case zzg22 => k_is)
    (case zzt22 => k_is)
    (case zzp22 => rfl)
    (case zzn22 => rfl)
    (case zza23 => k_is)
    (case zzl23 => k_is)
    (case zzk23 => k_is)
    (case zzg23 => k_is)
    (case zzt23 => k_is)
    (case zzp23 => rfl)
    (case zzn23 => rfl)
    (case zza24 => k_is)
    (case zzl24 => k_is)
    (case zzk24 => k_is)
    (case zzg24 => k_is)
    (case zzt24 => k_is)
    (case zzp24 => rfl)
    (case zzn24 => rfl)
    (case zza25 => k_is)
    (case zzl25 => k_is)
    (case zzk25 => k_is)
    (case zzg25 => k_is)
    (case zzt25 => k_is)
    (case zzp25 => rfl)
    (case zzn25 => rfl)
    (case zza26 => k_is)
    (case zzl26 => k_is)
    (case zzk26 => k_is)
    (case zzg26 => k_is)
    (case zzt26 => k_is)
    (case zzp26 => rfl)
    (case zzn26 => rfl)
    (case zza27 => k_is)
    (case zzl27 => k_is)
    (case zzk27 => k_is)
    (case zzg27 => k_is)
    (case zzt27 => k_is)
    (case zzp27 => rfl)
    (case zzn27 => rfl)
    (case zza28 => k_is)
    (case zzl28 => k_is)
    (case zzk28 => k_is)
    (case zzg28 => k_is)
    (case zzt28 => k_is)
    (case zzp28 => rfl)
    (case zzn28 => rfl)
    (case zza29 => k_is)
    (case zzl29 => k_is)
    (case zzk29 => k_is)
    (case zzg29 => k_is)
    (case zzt29 => k_is)
    (case zzp29 => rfl)
    (case zzn29 => rfl)
    (case zza30 => k_is)
    (case zzl30 => k_is)
    (case zzk30 => k_is)
    (case zzg30 => k_is)
    (case zzt30 => k_is)
    (case zzp30 => rfl)
    (case zzn30 => rfl)
    (case zza31 => k_is)
    (case zzl31 => k_is)
    (case zzk31 => k_is)
    (case zzg31 => k_is)
    (case zzt31 => k_is)
    (case zzp31 => rfl)
    (case zzn31 => rfl)
    (case zza32 => k_is)
    (case zzl32 => k_is)
    (case zzk32 => k_is)
    (case zzg32 => k_is)
    (case zzt32 => k_is)
    (case zzp32 => rfl)
    (case zzn32 => rfl)
    (case zzb_ValueError => k_is)
    (case zzb_all => k_is)
    (case zzb_bool => k_is)
    (case zzb_enumerate => k_is)
    (case zzb_int => k_is)
    (case zzb_isinstance => k_is)
    (case zzb_len => k_is)
    (case zzb_list => k_is)
    (case zzb_range => k_is)
    (case zzb_set => k_is)
    (case zzb_sorted => k_is)
    (case zzb_str => k_is)
    (case zzb_tuple => k_is)
