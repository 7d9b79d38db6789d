import PyProof.Rows.All
import Wide.All
import OpenK.AllK
import Wide.FinOn
import HandS.ForMost
import HandS.GenList
import HandS.Lambda
import PyProof.ConsumeS
import PyProof.TupleOfGen
import KE.GoesEnum
import HandS.Zip
import HandS.DictComp
import KE.KeyNested
import HandS.SetBool
import HandS.SetFor
import PyProof.EqKinds
import KE.SortCalls
import HandS.Set
import HandS.IsInst
import HandS.TupAny
import HandS.Deep
import HandS.SortInts
import HandS.Strs
import HandS.Words
import HandS.EndOwn
import PyProof.JoinWalk
import KE.KSetDisp
import HandS.ClsMeth
import HandS.Steps
import HandS.Conv
import HandS.SortRule
import HandS.Small
import KE.DatumOrd
import KE.KRevSl
import HandS.Style
import KE.SortData
import HandS.Dict
import HandS.SortKw
import KE.DataMinMax
import KE.SortKeyHeap
import PyProof.ReprRoads
import PyProof.Rows.RegFStrParts
import PyProof.Rows.ReprOcc
import HandS.FStr
import HandS.TupSets
import HandS.TryOnly
import KE.DataEq
import PySem.Challenge.RW_formalconcepts_k30_orders_and_lattices
set_option Elab.async false
set_option linter.all false
set_option maxRecDepth 100000
set_option maxHeartbeats 2000000
namespace GX
open PySem PySem.Spec PyProof.Rows L2 GenW

/-! ## 1. code objects and their tables -/
/-- the object at c is a code object whose table stands at P -/
def CodeG (c P : Addr) : HO := .ext fun h => PySem.W.CodeHd h c P
/-- a table's entry at a place: a generator expression's code object with its own table, or a lambda's -/
def EntryOk (nm : Nat → Nat → Option Str) (H : Hp) (pos : Pos) (c : Addr) : Prop :=
  match nm pos.line pos.col with
  | none => ∃ P', H c = some (CodeG c P') ∧ ∃ ps', H P' = some (.tbl ps')
  | some q => H c = some (LamX.CodeO c q)
def AllTabs (nm : Nat → Nat → Option Str) (H : Hp) : Prop := ∀ P ps, H P = some (.tbl ps) → TriplesOk ps.toList ∧ ∀ (pos : Pos) (cv : Value), codeAmong pos ps.toList = some cv → ∃ c, cv = .ref c ∧ EntryOk nm H pos c
/-- the code object that runs: written ahead of the law, or made on the way -/
def CodeAt (base : Heap) (H : Hp) (c P : Addr) : Prop := PySem.W.CodeHd base c P ∨ H c = some (CodeG c P)

section
variable {X : Cx} {pins : List (Addr × Obj)} {σ : L2.St} {H : Hp} {s : Shared}
theorem codeAt_hd {c P : Addr} (I : Inv X pins σ H s) (h : CodeAt X.base H c P) : PySem.W.CodeHd s.heap c P := by
  rcases h with h | h
  · exact h.keeps I.bk
  · have q := I.hok c _ h
    exact q.1
/-- behind the making of a new code object at c with its table at P', entered into the table at P -/
theorem inv_code {P c P' : Addr} {ps more : Array Value} {h' : Heap} {t' : Nat} (I : Inv X pins σ H s) (hP : H P = some (.tbl ps)) (k : ∀ b o, b ≠ P → s.heap.get? b = some o → h'.get? b = some o)
    (hm : h'.get? P = some { cls := .none, data := .fields (ps ++ more) }) (hc : s.heap.objs.size ≤ c) (hP' : s.heap.objs.size ≤ P') (hne : c ≠ P') (ho : PySem.W.CodeHd h' c P')
    (hp' : h'.get? P' = some { cls := .none, data := .fields #[] }) :
    Inv X pins σ (upd (upd (upd H P (.tbl (ps ++ more))) c (CodeG c P')) P' (.tbl #[])) { s with heap := h', toks := t' } := by
  have nC : H c = none := I.hok.fresh hc
  have nP' : H P' = none := I.hok.fresh hP'
  have nPc : P ≠ c := ne_of_none hP nC
  have nPP : P ≠ P' := ne_of_none hP nP'
  have at_ : ∀ b, b ≠ P → b ≠ c → b ≠ P' → upd (upd (upd H P (.tbl (ps ++ more))) c (CodeG c P')) P' (.tbl #[]) b = H b := fun b h1 h2 h3 => by rw [upd_ne h3, upd_ne h2, upd_ne h1]
  have atP : upd (upd (upd H P (.tbl (ps ++ more))) c (CodeG c P')) P' (.tbl #[]) P = some (.tbl (ps ++ more)) := by rw [upd_ne nPP, upd_ne nPc, upd_same]
  have nP : ∀ b u, H b = some u → (∀ q, u ≠ .tbl q) → b ≠ P := fun b u e q z => by
    rw [z, hP] at e
    exact q ps (Option.some.inj e).symm
  have nN : ∀ b, H b = none → b ≠ P := fun b e z => by
    rw [z, hP] at e
    cases e
  have lt' : ∀ b o, s.heap.get? b = some o → b ≠ c ∧ b ≠ P' := fun b o e => ⟨fun z => by
    rw [z] at e
    exact Nat.lt_irrefl _ (Nat.lt_of_lt_of_le (Heap.lt_size e) hc), fun z => by
    rw [z] at e
    exact Nat.lt_irrefl _ (Nat.lt_of_lt_of_le (Heap.lt_size e) hP')⟩
  have sm : ∀ b u, H b = some u → b ≠ c ∧ b ≠ P' := fun b u e => ⟨ne_of_none e nC, ne_of_none e nP'⟩
  refine I.step (g' := s.gens) (d' := s.drawn) (ch := []) (fun b hb => absurd hb (by simp)) (fun b o _ _ _ e n => k b o (nN b n) e) (fun b o _ _ _ e n => ⟨o.slots, k b o (nN b n) e⟩)
    (fun b o _ e n => by rw [at_ b (nN b n) (lt' b o e).1 (lt' b o e).2]; exact n) (fun b o _ e => ?_) (fun b xs e => by rw [at_ b (nP b _ e (fun q z => by cases z)) (sm b _ e).1 (sm b _ e).2]; exact e) (fun b o u e => by rw [at_ b (nP b _ e (fun q z => by cases z)) (sm b _ e).1 (sm b _ e).2]; exact e) (fun b qs e => ?_) (fun m hn => ?_) (fun b u e => ?_) I.bare
  · by_cases hb : b = P
    · rw [hb]
      exact ⟨_, hm⟩
    · exact ⟨o, k b o hb e⟩
  · by_cases hb : b = P
    · rw [hb, hP] at e
      cases e
      rw [hb, atP]
      exact ⟨more, rfl⟩
    · rw [at_ b hb (sm b _ e).1 (sm b _ e).2, e]
      exact ⟨#[], by simp⟩
  · obtain ⟨ob, es, ep, ho, r⟩ := hn
    exact ⟨ob, es, ep, k _ ob (nN _ I.free) ho, r⟩
  · by_cases hb3 : b = P'
    · rw [hb3, upd_same] at e
      cases e
      rw [hb3]
      exact hp'
    by_cases hb : b = c
    · rw [hb, upd_ne hne, upd_same] at e
      cases e
      rw [hb]
      obtain ⟨o, vs, file, tf, flags, tg, inF, text, tt, e1, r⟩ := id ho
      exact ⟨ho, ⟨o, e1⟩, fun h1 h2 ⟨o, vs, file, tf, flags, tg, inF, text, tt, e1, r⟩ st => ⟨o, vs, file, tf, flags, tg, inF, text, tt, st _ e1, r⟩⟩
    · by_cases hb2 : b = P
      · rw [hb2, atP] at e
        cases e
        rw [hb2]
        exact hm
      · rw [at_ b hb2 hb hb3] at e
        refine (I.hok b u e).stay (fun d v hd q => k d v ?_ q) (fun d q => by rw [at_ d (nP d _ q (fun q z => by cases z)) (sm d _ q).1 (sm d _ q).2]; exact q) fun d xs q => by rw [at_ d (nP d _ q (fun q z => by cases z)) (sm d _ q).1 (sm d _ q).2]; exact q
        rcases hd with z | z
        · rw [z]
          exact hb2
        · exact nP d _ z (fun q z => by cases z)
end

/-- all but the tables stay, and these grow -/
structure Grown (H H' : Hp) : Prop where
  keep : ∀ b o, H b = some o → (∀ ps, o ≠ .tbl ps) → H' b = some o
  tab : ∀ b ps, H b = some (.tbl ps) → ∃ ps', H' b = some (.tbl ps')
theorem Grown.refl (H : Hp) : Grown H H := ⟨fun _ _ e _ => e, fun _ ps e => ⟨ps, e⟩⟩
theorem Grown.trans {H H1 H2 : Hp} (a : Grown H H1) (b : Grown H1 H2) : Grown H H2 :=
  ⟨fun c o e n => b.keep c o (a.keep c o e n) n, fun c ps e => let ⟨ps1, e1⟩ := a.tab c ps e; b.tab c ps1 e1⟩
theorem codeG_ne {c P : Addr} (ps : Array Value) : CodeG c P ≠ .tbl ps := fun z => by
  unfold CodeG at z
  cases z
theorem Grown.entry {nm : Nat → Nat → Option Str} {H H' : Hp} (g : Grown H H') {pos : Pos} {c : Addr} (h : EntryOk nm H pos c) : EntryOk nm H' pos c := by
  unfold EntryOk at h ⊢
  split
  · rename_i e
    rw [e] at h
    obtain ⟨P', h1, ps', h2⟩ := h
    exact ⟨P', g.keep _ _ h1 codeG_ne, g.tab _ _ h2⟩
  · rename_i q e
    rw [e] at h
    exact g.keep _ _ h LamX.codeO_ne

theorem among_pos {pos p' : Pos} {c cv : Value} (l : List Value) (h : TriplesOk l) (hc : codeAmong p' (l ++ [rawInt pos.line, rawInt pos.col, c]) = some cv) : codeAmong p' l = some cv ∨ (cv = c ∧ p'.line = pos.line ∧ p'.col = pos.col) := by
  fun_induction TriplesOk l with
  | case1 =>
    simp only [List.nil_append, rawInt, codeAmong] at hc
    split at hc
    · rename_i q
      refine .inr ⟨(Option.some.inj hc).symm, ?_⟩
      simp at q
      omega
    · cases hc
  | case2 a t b u x rest ih =>
    simp only [List.cons_append, codeAmong] at hc ⊢
    split at hc
    · rename_i q
      rw [if_pos q]
      exact .inl hc
    · rename_i q
      rw [if_neg q]
      exact ih h hc
  | case3 l h1 h2 => exact h.elim

section
variable {X : Cx} {pins : List (Addr × Obj)} {σ : L2.St} {H : Hp} {s : Shared}
/-- the code object of a generator expression: made, or found -/
theorem gen_code {nm : Nat → Nat → Option Str} {c P : Addr} {pos : Pos} {q : Str} {scope : Scope} {E : Value → Shared → Prop} {Q : Value → Shared → Prop} (I : Inv X pins σ H s) (hcode : X.env.code = .ref c) (C : CodeAt X.base H c P)
    (hP : ∃ ps, H P = some (.tbl ps)) (T : AllTabs nm H) (hn : nm pos.line pos.col = none)
    (h : ∀ (c' P' : Addr) (H1 : Hp) (s' : Shared), Inv X pins σ H1 s' → Grown H H1 → AllTabs nm H1 → s'.gens = s.gens → (∀ b o, b ≠ P → s.heap.get? b = some o → s'.heap.get? b = some o) → (∃ o, s'.heap.get? P = some o ∧ ∀ v, o.data ≠ .cell v) → s.heap.objs.size ≤ s'.heap.objs.size → (∀ b o, s.heap.get? b = some o → H b = none → H1 b = none) → H1 c' = some (CodeG c' P') → (∃ ps', H1 P' = some (.tbl ps')) → Q (.ref c') s') :
    wpAny (model X.prog X.w) X.A (genexprCode X.env pos q scope) Q E s := by
  obtain ⟨ps, hP⟩ := hP
  obtain ⟨ht, ha⟩ := T P ps hP
  have hd := codeAt_hd I C
  have hPh : s.heap.get? P = some (PySem.W.tabObj ps) := I.hok P _ hP
  cases hf : codeAmong pos ps.toList with
  | none =>
    refine wpAny_genexprCodeX hcode (hd.code hPh ht) (hd.tab hPh) hf fun c' h' tk hx hge hlt hco hrec htab hnew => ?_
    obtain ⟨P', hP', hic, hit⟩ := hnew
    have hcd : PySem.W.CodeHd h' c' P' := PySem.W.CodeHd.of hic hit
    have hne : c' ≠ P' := by
      obtain ⟨_, _, _, _, _, _, _, _, _, _, _, _, _, _, _, _, _, _, hne⟩ := hcd
      exact hne
    have nC : H c' = none := I.hok.fresh hge
    have nP' : H P' = none := I.hok.fresh hP'
    have I1 := inv_code (t' := tk) I hP (fun b o hb e => hx b o hb e) htab.2 hge hP' hne hcd hit.2
    have nPc : P ≠ c' := ne_of_none hP nC
    have nPP : P ≠ P' := ne_of_none hP nP'
    have G : Grown H (upd (upd (upd H P (.tbl (ps ++ #[rawInt pos.line, rawInt pos.col, .ref c']))) c' (CodeG c' P')) P' (.tbl #[])) := by
      refine ⟨fun b o e n => ?_, fun b qs e => ?_⟩
      · rw [upd_ne (ne_of_none e nP'), upd_ne (ne_of_none e nC), upd_ne (fun z => n ps (Option.some.inj (e.symm.trans (by rw [z]; exact hP))))]
        exact e
      · by_cases hb : b = P
        · rw [hb, upd_ne nPP, upd_ne nPc, upd_same]
          exact ⟨_, rfl⟩
        · rw [upd_ne (ne_of_none e nP'), upd_ne (ne_of_none e nC), upd_ne hb]
          exact ⟨_, e⟩
    refine h c' P' _ _ I1 G (fun Q' qs e => ?_) rfl (fun b o hb e => hx b o hb e) ⟨_, htab.2, fun v z => by cases z⟩ (Nat.le_trans hge (Nat.le_of_lt hlt)) (fun b o e n => by
      have lb := Heap.lt_size e
      rw [upd_ne (Nat.ne_of_lt (Nat.lt_of_lt_of_le lb hP')), upd_ne (Nat.ne_of_lt (Nat.lt_of_lt_of_le lb hge)), upd_ne (fun z => by rw [z, hP] at n; cases n)]
      exact n) (by rw [upd_ne hne, upd_same]) ⟨#[], upd_same⟩
    by_cases hb3 : Q' = P'
    · rw [hb3, upd_same] at e
      cases e
      exact ⟨True.intro, fun pos cv hcv => by simp [codeAmong] at hcv⟩
    rw [upd_ne hb3] at e
    by_cases hb2 : Q' = c'
    · rw [hb2, upd_same] at e
      exact absurd (Option.some.inj e) (codeG_ne qs)
    rw [upd_ne hb2] at e
    by_cases hb1 : Q' = P
    · rw [hb1, upd_same] at e
      cases e
      have eL : (ps ++ #[rawInt pos.line, rawInt pos.col, .ref c']).toList = ps.toList ++ [rawInt pos.line, rawInt pos.col, .ref c'] := by simp
      refine ⟨by rw [eL]; exact PySem.TriplesOk_snoc _ _ _ _ ht, fun p2 cv hcv => ?_⟩
      rw [eL] at hcv
      rcases among_pos _ ht hcv with z | ⟨z, z1, z2⟩
      · obtain ⟨c0, e1, e2⟩ := ha p2 cv z
        exact ⟨c0, e1, G.entry e2⟩
      · refine ⟨c', z, ?_⟩
        unfold EntryOk
        rw [z1, z2, hn]
        exact ⟨P', by rw [upd_ne hne, upd_same], #[], upd_same⟩
    · rw [upd_ne hb1] at e
      obtain ⟨t1, t2⟩ := T Q' qs e
      refine ⟨t1, fun p2 cv hcv => ?_⟩
      obtain ⟨c0, e1, e2⟩ := t2 p2 cv hcv
      exact ⟨c0, e1, G.entry e2⟩
  | some cv =>
    obtain ⟨c', e, he⟩ := ha pos cv hf
    subst e
    unfold EntryOk at he
    rw [hn] at he
    obtain ⟨P', h1, h2⟩ := he
    exact wpAny_genexprCode_hit hcode (hd.code hPh ht) hf (h c' P' H s I (Grown.refl H) T rfl (fun b o _ e => e) ⟨_, hPh, fun v z => by cases z⟩ (Nat.le_refl _) (fun _ _ _ n => n) h1 h2)
end
end GX

set_option Elab.async false
set_option linter.all false
set_option maxRecDepth 100000
set_option maxHeartbeats 2000000
namespace GX
open PySem PySem.Spec PyProof.Rows L2 GenW

/-! ## 2. the frame of a generator expression -/
structure GenOk (N : List Str) (sc scope : Scope) (own : List (Str × Nat)) : Prop extends BlkOk N sc scope own where
  co : scope.isCoroutine = false
  dot : scope.names.lookup (".0" : Str) = some NameKind.local
def genC (N : List Str) (sc scope : Scope) (own : List (Str × Nat)) : Bool := blkC N sc scope own && !scope.isCoroutine && decide (scope.names.lookup (".0" : Str) = some NameKind.local)
theorem genOk_by {N : List Str} {sc scope : Scope} {own : List (Str × Nat)} (h : genC N sc scope own = true) : GenOk N sc scope own := by
  unfold genC at h
  simp only [Bool.and_eq_true, Bool.not_eq_true', decide_eq_true_eq] at h
  exact { blkOk_by h.1.1 with co := h.1.2, dot := h.2 }

theorem newEnv_gen {M : Model} {A : Around} {E : Value → Shared → Prop} {s : Shared} {scope : Scope} {globals : Addr} {closure : List (Str × Addr)} {qual : Str} {code it : Value} {bi : Addr} {Q : Env → Shared → Prop}
    (hk : scope.kind = .function) (h0 : scope.names.lookup (".0" : Str) = some NameKind.local)
    (h : ∀ h5 tk, h5.Ns s.heap.objs.size (fun y => if y = ".0" then some it else none) → Heap.SameBut s.heap.objs.size (pushCells (s.heap.push { cls := .type "frame", data := .dict #[] }) scope.names) h5 →
      Q (newEnv scope s.heap.objs.size globals (cellsFrom (s.heap.objs.size + 1) scope.names closure) qual none code none bi) { s with heap := h5, toks := tk }) :
    wpAny M A (newFunctionEnv scope globals closure [(".0", it)] qual none code none bi) Q E s := by
  simp only [newFunctionEnv, Option.isSome_none, Bool.false_eq_true, if_false]
  refine wpAny_bind (wpAny_alloc ?_)
  refine wpAny_bind (wpAny_layCells _ (fun n k c => rfl) scope.names closure _ _ ?_)
  rw [show ({ s with heap := s.heap.push { cls := .type "frame", data := .dict #[] } } : Shared).heap.objs.size = s.heap.objs.size + 1 from Heap.size_push ..]
  rw [List.forIn_cons]
  refine wpAny_bind (wpAny_bind (wpAny_bind (wpAny_storeName_local (m := fun _ => none) (by exact h0) ?_ (fun h5 hn5 hs5 => ?_) (by show (scope.kind == ScopeKind.class || _) = false; rw [hk]; rfl))))
  · exact (Heap.Ns.new s.heap (.type "frame")).keeps fun b o e => pushCells_keeps _ _ _ _ e
  · refine wpAny_pure ?_
    dsimp only
    rw [List.forIn_nil]
    exact wpAny_pure (wpAny_pure (h h5 _ hn5 hs5))

abbrev genv (X : Cx) (scope : Scope) (cells : List (Str × Addr)) (L : Addr) (code : Value) : Env := newEnv scope L X.env.globals cells (X.env.qual ++ "<genexpr>.") none code none builtinsNs
abbrev gcx (X : Cx) (s : Shared) (H : Hp) (ge : Env) (fp : List Addr) (A : Around) (pn : List (Addr × Obj)) : Cx :=
  { X with s_0 := s, H_0 := H, env := ge, outer := X.stack, stack := ge :: X.stack, A := A.deeper ge, ex := fp, fn := fun x => ge.scope.names.lookup x == some .cell, calm := true, pn := pn, xe := fun _ _ => False }

section
variable {X : Cx} {pins : List (Addr × Obj)} {σ : L2.St} {H : Hp} {s : Shared}
theorem gen_start {scope : Scope} {own : List (Str × Nat)} {fp : List Addr} {A : Around} {code : Value} {h5 : Heap} {tk : Nat} {m5 : Str → Option Value} (I : Inv X pins σ H s) (ok : GenOk X.N X.env.scope scope own) (hN : X.N.Nodup) (hfp : ∀ b ∈ fp, FpOk X pins H b ∧ b < s.heap.objs.size)
    (hh : A.handled = none) (hfr : A.frames = some X.stack) (hn5 : h5.Ns s.heap.objs.size m5) (hs5 : Heap.SameBut s.heap.objs.size (pushCells (s.heap.push { cls := .type "frame", data := .dict #[] }) scope.names) h5) :
    Inv (gcx X s H (genv X scope (cellsFrom (s.heap.objs.size + 1) scope.names (cloFrom X.env.cells scope.names [])) s.heap.objs.size code) fp A []) [] (wipe σ (own.map (·.2))) H { s with heap := h5, toks := tk } := by
  have hfree : ∀ y ∈ scope.names, y.2 = .free → ∃ c, X.env.cells.lookup y.1 = some c := fun y hy e => by
    rcases ok.free y hy e with k | k
    · exact I.ok.has _ (.inl k)
    · exact I.ok.has _ (.inr k)
  generalize hcenv : genv X scope (cellsFrom (s.heap.objs.size + 1) scope.names (cloFrom X.env.cells scope.names [])) s.heap.objs.size code = cenv
  have kp : ∀ b o, s.heap.get? b = some o → h5.get? b = some o := fun b o e => hs5.extBut b o (Nat.ne_of_lt (Heap.lt_size e)) (pushCells_keeps _ _ _ _ (Heap.get?_push_of_some _ e))
  have hL : cenv.locals = s.heap.objs.size := by rw [← hcenv]; rfl
  have hcl : cenv.cells = cellsFrom (s.heap.objs.size + 1) scope.names (cloFrom X.env.cells scope.names []) := by rw [← hcenv]; rfl
  have hsc : cenv.scope = scope := by rw [← hcenv]; rfl
  rw [← Heap.size_push s.heap { cls := .type "frame", data := .dict #[] }] at hcl
  have cm : ∀ {y c}, (y, c) ∈ cloFrom X.env.cells scope.names [] → X.env.cells.lookup y = some c ∧ c < s.heap.objs.size := fun {y c} hm => by
    rcases cloFrom_mem hm with hm | ⟨h1, rfl⟩
    · cases hm
    · obtain ⟨c, hc⟩ := hfree _ h1 rfl
      rw [hc]
      obtain ⟨w, z⟩ := I.cell _ _ hc
      exact ⟨rfl, z.lt⟩
  have mem : ∀ {y c}, cenv.cells.lookup y = some c → (X.env.cells.lookup y = some c ∧ c < s.heap.objs.size) ∨ (s.heap.objs.size + 1 ≤ c ∧ CellAt h5 c none) := fun {y c} e => by
    rw [hcl] at e
    rcases cells_mem (PySem.mem_of_lookup e) with hm | ⟨_, h2, h3⟩
    · exact .inl (cm hm)
    · rw [Heap.size_push] at h2
      exact .inr ⟨h2, h3.sameBut hs5 (Nat.ne_of_gt h2)⟩
  have look : ∀ {y}, scope.names.lookup y = some .free → ∃ c, cenv.cells.lookup y = some c ∧ X.env.cells.lookup y = some c := fun {y} hl => by
    have hy : (y, NameKind.free) ∈ scope.names := PySem.mem_of_lookup hl
    obtain ⟨c', e'⟩ := mem_lookup (cells_acc (names := scope.names) (n := (s.heap.push { cls := .type "frame", data := .dict #[] }).objs.size) (cloFrom_has (cells := X.env.cells) (acc := []) hy))
    rw [← hcl] at e'
    refine ⟨c', e', ?_⟩
    rw [hcl] at e'
    rcases cells_mem (PySem.mem_of_lookup e') with hm | ⟨h1, _, _⟩
    · exact (cm hm).1
    · have := ok.uniq _ h1
      rw [hl] at this; cases this
  have okB : (gcx X s H cenv fp A []).Ok := by
    refine ⟨I.ok.mod, by show cenv.scope.kind = _; rw [hsc]; exact ok.kind, by show cenv.globals = _; rw [← hcenv]; exact I.ok.glob, by show cenv.builtins = _; rw [← hcenv]; rfl, by show s.heap.objs.size ≤ cenv.locals; rw [hL]; exact Nat.le_refl _,
      fun y z c e1 e2 => ?_, fun y hy => ?_, fun y c z e => ?_, fun _ => hh, Around.frames_deeper hfr, .inr ⟨rfl, by show cenv.frame = some cenv.locals; rw [← hcenv]; rfl⟩, fun b hb => ⟨?_, fun y c e z => ?_⟩, I.bs, Nat.le_trans I.ok.bsz I.sz, fun b o e hb => ?_, fun b hb z => ?_, I.stack, I.stkFree⟩
    · have e1 : cenv.cells.lookup y = some c := e1
      have e2 : cenv.cells.lookup z = some c := e2
      rw [hcl] at e1 e2
      refine cells_inj (fun p hp => ?_) (fun y z c a b => I.ok.inj y z c (cm a).1 (cm b).1) (PySem.mem_of_lookup e1) (PySem.mem_of_lookup e2)
      rw [Heap.size_push]
      exact Nat.lt_succ_of_lt (cm (y := p.1) (c := p.2) hp).2
    · show ∃ c, cenv.cells.lookup y = some c
      have hy : cenv.scope.names.lookup y = some .cell ∨ cenv.scope.names.lookup y = some .free := hy
      rw [hsc] at hy
      rcases hy with e | e
      · obtain ⟨c, hm⟩ := cells_has (n := (s.heap.push { cls := .type "frame", data := .dict #[] }).objs.size) (acc := cloFrom X.env.cells scope.names []) (PySem.mem_of_lookup e)
        obtain ⟨c', e'⟩ := mem_lookup hm
        exact ⟨c', by rw [hcl]; exact e'⟩
      · obtain ⟨c, h1, _⟩ := look e
        exact ⟨c, h1⟩
    · have z : (cenv.scope.names.lookup y == some NameKind.cell) = true := z
      rw [hsc] at z
      have z : scope.names.lookup y = some .cell := by simpa using z
      have e : cenv.cells.lookup y = some c := e
      rw [hcl] at e
      rcases cells_mem (PySem.mem_of_lookup e) with hm | ⟨_, h2, _⟩
      · rcases cloFrom_mem hm with hm | ⟨h1, _⟩
        · cases hm
        · have q := ok.uniq _ h1
          rw [z] at q; cases q
      · rw [Heap.size_push] at h2
        exact Nat.le_of_succ_le h2
    · show b ≠ cenv.locals
      rw [hL]; exact Nat.ne_of_lt (hfp b hb).2
    · have e : cenv.cells.lookup y = some c := e
      rcases mem e with ⟨h1, _⟩ | ⟨h1, _⟩
      · exact (hfp b hb).1.2.2.2.2.1 y c h1 z
      · have h2 : s.heap.objs.size + 1 ≤ b := by rw [← z]; exact h1
        exact absurd (Nat.lt_of_lt_of_le (hfp b hb).2 (Nat.le_of_succ_le h2)) (Nat.lt_irrefl _)
    · rcases (hfp b hb).1.2.2.2.1 with z | z
      · exact I.ok.noex b o e z
      · exact absurd (Nat.lt_of_lt_of_le (Heap.lt_size e) (Nat.le_trans I.ok.bsz z)) (Nat.lt_irrefl _)
    · rcases List.mem_cons.mp (I.stkSub b z) with z | z
      · exact (hfp b hb).1.2.1 z
      · exact (hfp b hb).1.2.2.1 z
  refine ⟨okB, rfl, I.bare, Un.kept kp, ⟨m5, ?_, fun i y av e1 e2 e3 => ?_⟩, fun y c e => ?_, ?_, fun y c e => ?_, fun p hp => ?_, I.hok.kept kp, by rw [wipe_length]; exact I.len⟩
  · show Heap.Ns _ cenv.locals _
    rw [hL]
    exact hn5
  · obtain ⟨e2, hne⟩ := wipe_some e2
    have e3 : Vis cenv.scope y := e3
    rw [hsc] at e3
    have no : ∀ k', scope.names.lookup y = some k' → ¬ (k' = .local ∨ k' = .cell) := fun k' e hh => by
      rcases ok.own _ (PySem.mem_of_lookup e) hh with e' | e'
      · obtain ⟨p, hp, hpy⟩ := List.mem_map.mp e'
        have e3 := ok.ix p hp
        have : p.1 = y := hpy
        rw [this] at e3
        exact hne (List.mem_map.mpr ⟨p, hp, nodup_ix hN e3 e1⟩)
      · exact e' (List.mem_of_getElem? e1)
    have hfr' : scope.names.lookup y = some .free := by
      rcases e3 with e3 | e3 | e3
      · exact absurd (.inl rfl) (no _ e3)
      · exact absurd (.inr rfl) (no _ e3)
      · exact e3
    obtain ⟨m, hn, hl⟩ := I.loc
    have hvis : Vis X.env.scope y := (ok.free _ (PySem.mem_of_lookup hfr') rfl).elim (fun k => .inr (.inl k)) (fun k => .inr (.inr k))
    obtain ⟨w, r, q⟩ := hl i y av e1 e2 hvis
    refine ⟨w, r, .inr ⟨.inr (by show cenv.scope.names.lookup y = _; rw [hsc]; exact hfr'), ?_⟩⟩
    obtain ⟨c, h1, h2⟩ := look hfr'
    rcases q with ⟨k, _⟩ | ⟨_, c', e', z⟩
    · have k : X.env.scope.names.lookup y = some .local := k
      rcases ok.free _ (PySem.mem_of_lookup hfr') rfl with k' | k' <;> rw [show X.env.scope.names.lookup y = _ from k'] at k <;> cases k
    · rw [h2] at e'; cases e'
      exact ⟨c, h1, z.keeps kp⟩
  · have e : cenv.cells.lookup y = some c := e
    rcases mem e with ⟨h1, _⟩ | ⟨_, z⟩
    · obtain ⟨w, z⟩ := I.cell y c h1
      exact ⟨w, z.keeps kp⟩
    · exact ⟨_, z⟩
  · show H cenv.locals = none
    rw [hL]; exact I.hok.fresh (Nat.le_refl _)
  · have e : cenv.cells.lookup y = some c := e
    rcases mem e with ⟨h1, _⟩ | ⟨h1, _⟩
    · exact I.freeC y c h1
    · exact I.hok.fresh (Nat.le_of_succ_le h1)
  · exact absurd (show p ∈ ([] : List (Addr × Obj)) ++ [] from hp) (by simp)

/-- pins more in the context, if they hold -/
theorem Inv.pinX {X : Cx} {s0 : Shared} {H0 H' : Hp} {ge : Env} {fp : List Addr} {A : Around} {pn pins : List (Addr × Obj)} {σ : L2.St} {s1 : Shared}
    (I : Inv (gcx X s0 H0 ge fp A []) [] σ H' s1)
    (h : ∀ p ∈ pn ++ pins, s1.heap.get? p.1 = some p.2 ∧ H' p.1 = none ∧ p.1 ≠ ge.locals ∧ p.1 ∉ frs X.stack ∧ ∀ v, p.2.data ≠ .cell v) :
    Inv (gcx X s0 H0 ge fp A pn) pins σ H' s1 :=
  ⟨⟨I.ok.mod, I.ok.kind, I.ok.glob, I.ok.blt, I.ok.above, I.ok.inj, I.ok.has, I.ok.cab, I.ok.hd, I.ok.frames, I.ok.stk, I.ok.exf, I.ok.bs, I.ok.bsz, I.ok.noex, I.ok.exfs, I.ok.funs, I.ok.frf⟩, I.os, I.bare, I.base, I.loc, I.cell, I.free, I.freeC, h, I.hok, I.len⟩
end
end GX

set_option Elab.async false
set_option linter.all false
set_option maxRecDepth 100000
set_option maxHeartbeats 2000000
namespace GX
open PySem PySem.Spec PyProof.Rows L2 GenW

/-! ## 3. the generator's run -/
/-- what is known of a generator expression's run: W ys i m H ahead of turn i, ys handed out so far, m a measure; alive: it is asked on behind ys; fin: its end -/
structure GWs where
  W : List V → Nat → Nat → Hp → Prop
  alive : List V → Prop
  fin : List V → Hp → Prop
def GTurn (J : It) (g : TG) (tt : TT) (te : TE) (vs : List Nat) (σ : L2.St) (G : GWs) : Prop := ∀ ys i m H, G.alive ys → G.W ys i m H →
  (J.stop i H ∧ G.fin ys H) ∨ (J.go i H ∧ ∃ (NF : Hp → Prop) (NY : V → Hp → Prop), (∀ H', NF H' → ∃ m', m' < m ∧ G.W ys (i + 1) m' H') ∧ (∀ y H', NY y H' → ∃ m', m' < m ∧ G.W (ys ++ [y]) (i + 1) m' H') ∧
    ∀ x H', J.yld i H x H' → g x (wipe σ vs) H' fun σ2 H2 => wipe σ2 vs = wipe σ vs ∧ tt σ2 H2 fun b H3 => if b = true then te σ2 H3 fun y H4 => ys.length < sizeLine ∧ NY y H4 else NF H3)
/-- the consumer's own objects stand -/
def OwnC (cs : List Addr) (h : Heap) : Prop := ∀ b ∈ cs, ∃ o, h.get? b = some o ∧ ∀ v, o.data ≠ .cell v
/-- the consumer's objects tell ys, by themselves -/
def ConC (cs : List Addr) (C : List V → Heap → Prop) : Prop := ∀ ys h h', C ys h → (∀ b ∈ cs, ∀ o, h.get? b = some o → h'.get? b = some o) → C ys h'
/-- while the generator sleeps -/
structure Woke (cs : List Addr) (C : List V → Heap → Prop) (ys : List V) (s s' : Shared) : Prop where
  os : s'.os = s.os
  bare : AllBare s'.gens
  keep : ∀ b o, b ∉ cs → s.heap.get? b = some o → s'.heap.get? b = some o
  own : OwnC cs s'.heap
  con : C ys s'.heap
/-- the end of a run -/
def RX (P : Program) (w : World) (outer : List Env) (H : Hp) (s : Shared) (ex cs : List Addr) (C : List V → Heap → Prop) (G : GWs) (n : Nat) (s1 : Shared) : Prop :=
  ∃ H' ys, (n + ys.length = sizeLine + 1 ∧ 1 ≤ n) ∧ s1.os = s.os ∧ AllBare s1.gens ∧ Un (frs outer) ex H H' s.heap s1.heap ∧ HOk P w H' s1.heap ∧ (∀ b ∈ cs, H' b = none) ∧ C ys s1.heap ∧ OwnC cs s1.heap ∧ G.alive ys ∧ G.fin ys H'
/-- an item is handed out -/
def YX (P : Program) (w : World) (outer : List Env) (H : Hp) (s : Shared) (ex cs : List Addr) (C : List V → Heap → Prop) (a : Addr) (g : Nat) (G : GWs) : Protocol := fun n s₀ v s1 kap =>
  ∃ H' ys y, (n + ys.length = sizeLine ∧ ys.length < sizeLine) ∧ s1.os = s.os ∧ AllBare s1.gens ∧ s1.heap.NoLimit ∧ s1.heap.IsGen a g ∧ Un (frs outer) ex H H' s.heap s1.heap ∧ HOk P w H' s1.heap ∧ (∀ b ∈ cs, H' b = none) ∧ C ys s1.heap ∧ OwnC cs s1.heap ∧ G.alive ys ∧ RelV y v ∧
    (∃ i m, G.W (ys ++ [y]) i m H') ∧ ∀ s', Woke cs C (ys ++ [y]) s1 s' → G.alive (ys ++ [y]) → kap (.send .none) s'
abbrev RX' (P : Program) (w : World) (outer : List Env) (H : Hp) (s : Shared) (ex cs : List Addr) (C : List V → Heap → Prop) (G : GWs) : GenEnd := fun n s₀ r s1 => ((r = .ok (.ret .none) ∨ r = .ok .next) ∧ RX P w outer H s ex cs C G n s1) ∨ ∃ e, r = .error e ∧ False

theorem over_gen {A : Around} {elt : Expr} {gens : List Comprehension} {scope : Scope} {pos : Pos} {it acc : Value} {env : Env} : A.over (.compLoop (.GeneratorExp elt gens scope pos) 0 it acc env) [] = A.deeper env := by
  first
    | rfl
    | (obtain ⟨hd, d, fr, gs, u⟩ := A; simp [Around.over, Around.deeper, marksOver, frameCount, unitsOf, envsOf, guardsOf, pushEnvs, pushGuards, Code.envs, Code.env?, Code.isFrame, Code.guards, Code.isGuard, Code.weight, Code.frames, Code.isCreation, Code.isCaller, Code.cUnits])
section
variable {X : Cx} {s0 : Shared} {H0 : Hp} {ge : Env} {fp cs : List Addr} {A : Around} {a : Addr} {go : Obj} {gn : Nat}
/-- woken again: the consumer's objects may have changed -/
theorem inv_woken {cob : List (Addr × Obj)} {C : List V → Heap → Prop} {σ : L2.St} {H : Hp} {s s' : Shared} {ys : List V} (I : Inv (gcx X s0 H0 ge fp A [(a, go)]) cob σ H s) (hcob : ∀ b ∈ cs, ∃ p ∈ cob, p.1 = b) (hac : a ∉ cs) (hfc : ∀ b ∈ fp, b ∉ cs)
    (hlo : ∀ b ∈ cs, s0.heap.objs.size ≤ b) (z : Woke cs C ys s s') :
    ∃ cob', (∀ b ∈ cs, ∃ p ∈ cob', p.1 = b) ∧ (∀ p ∈ cob', p.1 ∈ cs) ∧ Inv (gcx X s0 H0 ge fp A [(a, go)]) cob' σ H s' := by
  have at_ : ∀ b ∈ cs, ∃ o, s.heap.get? b = some o ∧ H b = none ∧ b ≠ ge.locals ∧ b ∉ frs X.stack ∧ ∀ v, o.data ≠ .cell v := fun b hb => by
    obtain ⟨p, hp, e⟩ := hcob b hb
    obtain ⟨h1, h2, h3, h4, h5⟩ := I.pin p (List.mem_append_right _ hp)
    rw [e] at h1 h2 h3 h4
    exact ⟨p.2, h1, h2, h3, h4, h5⟩
  have nt : ∀ b u, H b = some u → b ∉ cs := fun b u q hb => by
    obtain ⟨_, _, n, _⟩ := at_ b hb
    rw [n] at q
    cases q
  have I0 : Inv (gcx X s0 H0 ge fp A [(a, go)]) [] σ H s := I.pins_of fun p hp => I.pin p (List.mem_append_left _ (by simpa using hp))
  obtain ⟨z1, z2, z3, z4, z5⟩ := z
  obtain ⟨hh, g, d, t, o⟩ := s'
  have ho : o = s.os := z1
  subst ho
  have J : Inv (gcx X s0 H0 ge fp A [(a, go)]) [] σ H { s with heap := hh, gens := g, drawn := d, toks := t } := by
    refine I0.step (g' := g) (t' := t) (d' := d) (ch := cs) (fun b hb => ?_)
      (fun b ob _ _ hc q _ => z3 b ob hc q) (fun b ob _ _ hc q _ => ⟨ob.slots, z3 b ob hc q⟩) (fun _ _ _ _ n => n) (fun b ob hc q => ⟨ob, z3 b ob hc q⟩)
      (fun _ _ q => q) (fun _ _ _ q => q) (fun b ps q => ⟨#[], by rw [q]; simp⟩) (fun m hm => ?_) (fun b u q => ?_) z2
    · obtain ⟨ob, e1, e2, e3, e4, e5⟩ := at_ b hb
      refine ⟨.inr (hlo b hb), e3, fun x c e q => ?_, fun p hp q => ?_⟩
      · obtain ⟨v, o', ho', hd'⟩ := I0.cell x c e
        rw [q, e1] at ho'
        cases ho'
        exact e5 v hd'
      · have hp : p ∈ [(a, go)] ++ ([] : List (Addr × Obj)) := hp
        have e : p = (a, go) := by simpa using hp
        rw [e] at q
        exact hac (by rw [show a = b from q]; exact hb)
    · obtain ⟨ob, es, ep, ho, r⟩ := hm
      refine ⟨ob, es, ep, z3 _ ob (fun hb => ?_) ho, r⟩
      obtain ⟨_, _, _, e3, _⟩ := at_ _ hb
      exact e3 rfl
    · refine (I0.hok b u q).stay (fun c v hc y => z3 c v ?_ y) (fun _ y => y) fun _ _ y => y
      rcases hc with y | y
      · rw [y]; exact nt b u q
      · exact nt c _ y
  refine ⟨pinsAt cs hh, fun b hb => ?_, fun p hp => (of_pinsAt hp).1, J.pins_of fun p hp => ?_⟩
  · obtain ⟨ob, e, _⟩ := z4 b hb
    exact ⟨(b, ob), mem_pinsAt hb e, rfl⟩
  · obtain ⟨hb, e⟩ := of_pinsAt hp
    obtain ⟨ob, _, e2, e3, e4, _⟩ := at_ p.1 hb
    obtain ⟨ob', e', d'⟩ := z4 p.1 hb
    have e' : hh.get? p.1 = some ob' := e'
    rw [e] at e'
    cases e'
    exact ⟨e, e2, e3, e4, d'⟩

theorem seg_gloop {elt tg iter : Expr} {ifs : List Expr} {scope : Scope} {pos : Pos} {it : Addr} {J : It} {tn : Nat → Heap → Prop} {g : TG} {tt : TT} {te : TE} {vs : List Nat} {σ : L2.St} {G : GWs} {C : List V → Heap → Prop}
    (T : Turn X.prog X.w X.K tg J fp it tn) (hco : ge.scope.isCoroutine = false) (hg0 : go.cls = .type "generator" ∧ (∃ nm qn, go.data = .fields #[.int gn 0, nm, qn]) ∧ go.slots = #[])
    (hg : PG (gcx X s0 H0 ge fp A [(a, go)]) tg g) (ht : PTs (gcx X s0 H0 ge fp A [(a, go)]) ifs tt) (he : PE (gcx X s0 H0 ge fp A [(a, go)]) elt te)
    (turn : GTurn J g tt te vs σ G) (hfa : ∀ b ∈ fp, b ≠ a) (hac : a ∉ cs) (hfc : ∀ b ∈ fp, b ∉ cs) (hlo : ∀ b ∈ cs, s0.heap.objs.size ≤ b) (hC : ConC cs C) :
    ∀ (m n i : Nat) (ys : List V) (H : Hp) (cob : List (Addr × Obj)) (s₀ s : Shared), (n + ys.length = sizeLine + 1 ∧ 1 ≤ n) → G.alive ys → G.W ys i m H → (∀ b ∈ cs, ∃ p ∈ cob, p.1 = b) → (∀ p ∈ cob, p.1 ∈ cs) → Inv (gcx X s0 H0 ge fp A [(a, go)]) cob (wipe σ vs) H s → tn i s.heap → (∀ b ∈ fp, H b = none) → C ys s.heap →
      Seg (model X.prog X.w) A (RX' X.prog X.w X.stack H0 s0 fp cs C G) (YX X.prog X.w X.stack H0 s0 fp cs C a gn G) n s₀
        (.compLoop (.GeneratorExp elt [⟨tg, iter, ifs, 0⟩] scope pos) 0 (.ref it) .none ge) ((model X.prog X.w).den (.compLoop (.GeneratorExp elt [⟨tg, iter, ifs, 0⟩] scope pos) 0 (.ref it) .none ge)) [] s := by
  have ov : A.over (.compLoop (.GeneratorExp elt [⟨tg, iter, ifs, 0⟩] scope pos) 0 (.ref it) .none ge) [] = A.deeper ge := over_gen
  have stat : ∀ {cob : List (Addr × Obj)} {σ' : L2.St} {H' : Hp} {s' : Shared}, Inv (gcx X s0 H0 ge fp A [(a, go)]) cob σ' H' s' → (∀ p ∈ cob, p.1 ∈ cs) → (∀ b ∈ fp, H' b = none) → (∀ b ∈ fp, b ≠ a) → ∀ b ∈ fp, FpOk (gcx X s0 H0 ge fp A [(a, go)]) cob H' b := fun {cob σ' H' s'} I' hcc hn hfa b hb =>
    ⟨hn b hb, (I'.ok.exf b hb).1, I'.ok.exfs b hb, .inl hb, fun x c e => (I'.ok.exf b hb).2 x c e, fun p hp z => by
      rcases List.mem_append.mp hp with hp | hp
      · have hp : p ∈ [(a, go)] := hp
        have e : p = (a, go) := by simpa using hp
        rw [e] at z
        exact hfa b hb z.symm
      · exact hfc b hb (by rw [← z]; exact hcc p hp)⟩
  intro m
  induction m using Nat.strongRecOn with
  | ind m ih =>
  intro n i ys H cob s₀ s hn hal hW hcb hcc I st nf hCs
  show Seg _ A _ _ _ s₀ _ ((compTurn (.GeneratorExp elt [⟨tg, iter, ifs, 0⟩] scope pos) 0 (.ref it) .none ge).onRaise (leaving ge)) [] s
  rw [compTurn_gen, Sem.onRaise_eq_wrap]
  refine seg_bind_wrap (wpAny_standAt ?_)
  have done_of : ∀ {ys : List V} {n : Nat} {H1 : Hp} {s1 : Shared} {cob : List (Addr × Obj)} {σ1 : L2.St}, (∀ b ∈ cs, ∃ p ∈ cob, p.1 = b) → Inv (gcx X s0 H0 ge fp A [(a, go)]) cob σ1 H1 s1 → (∀ b ∈ cs, H1 b = none) ∧ OwnC cs s1.heap := fun {ys n H1 s1 cob σ1} hcb I1 => by
    refine ⟨fun b hb => ?_, fun b hb => ?_⟩
    · obtain ⟨p, hp, e⟩ := hcb b hb
      have q := (I1.pin p (List.mem_append_right _ hp)).2.1
      rw [e] at q
      exact q
    · obtain ⟨p, hp, e⟩ := hcb b hb
      obtain ⟨q, _, _, _, d⟩ := I1.pin p (List.mem_append_right _ hp)
      rw [e] at q
      exact ⟨p.2, q, d⟩
  have conK : ∀ {ys : List V} {H1 : Hp} {s s1 : Shared} {cob pl : List (Addr × Obj)} {σ σ1 : L2.St} {H : Hp}, (∀ b ∈ cs, ∃ p ∈ cob, p.1 = b) → Inv (gcx X s0 H0 ge fp A [(a, go)]) cob σ H s → C ys s.heap → Inv (gcx X s0 H0 ge fp A [(a, go)]) (cob ++ pl) σ1 H1 s1 → C ys s1.heap := fun {ys H1 s s1 cob pl σ σ1 H} hcb I hCs I1 => by
    refine hC ys _ _ hCs fun b hb o e => ?_
    obtain ⟨p, hp, e'⟩ := hcb b hb
    have q0 := (I.pin p (List.mem_append_right _ hp)).1
    have q := (I1.pin p (List.mem_append_right _ (List.mem_append_left _ hp))).1
    rw [e', e] at q0
    cases q0
    rw [e'] at q
    exact q
  rcases turn ys i m H hal hW with ⟨stop, hfin⟩ | ⟨go', NF, NY, hNF, hNY, step⟩
  · have td := T.done (gcx X s0 H0 ge fp A [(a, go)]) rfl rfl rfl rfl i cob s _ H (fun _ _ => False) I (stat I hcc nf hfa) st stop
    refine seg_bind_wrap ?_
    rw [ov]
    refine wpAny_mono td (fun r s6 ⟨hr, I6⟩ => ?_) fun _ _ q => q.elim
    subst hr
    obtain ⟨d1, d2⟩ := done_of (ys := ys) (n := n) hcb I6
    exact seg_end (.ok .next) (.inl ⟨.inr rfl, H, ys, hn, I6.os, I6.bare, I6.base, I6.hok, d1, conK (pl := []) hcb I hCs (by rw [List.append_nil]; exact I6), d2, hal, hfin⟩)
  · have ti := T.item (gcx X s0 H0 ge fp A [(a, go)]) rfl rfl rfl rfl i cob s _ H (fun _ _ => False) I (stat I hcc nf hfa) st go'
    refine seg_bind_wrap ?_
    rw [ov]
    refine wpAny_mono ti (fun r s6 ⟨u, hr, h6⟩ => ?_) fun _ _ q => q.elim
    subst hr
    refine seg_bind_wrap ?_
    rw [ov]
    refine wpAny_mono h6 (fun _ s7 ⟨x, H7, I7, r7, y7, st7, n7⟩ => ?_) fun _ _ q => q.elim
    have I7' := I7.pinned (stat I7 hcc n7 hfa) (T.obj _ _ st7)
    refine seg_bind_wrap ?_
    rw [ov]
    refine wpAny_mono (hg.run _ s7 _ H7 x u _ I7' r7 (step x H7 y7)) (fun _ s8 ⟨σ8, H8, I8, hw8, q8⟩ => ?_) fun _ _ q => False.elim q
    refine seg_bind_wrap ?_
    rw [ov]
    refine wpAny_mono (ht.run _ s8 σ8 H8 _ I8 q8) (fun b s9 ⟨H9, I9, q9⟩ => ?_) fun _ _ q => False.elim q
    have hl : (wipe σ vs).length = σ8.length := by rw [← hw8, wipe_length]
    -- back at the loop's head
    have back : ∀ {H' : Hp} {s' : Shared} {cob' : List (Addr × Obj)}, Inv (gcx X s0 H0 ge fp A [(a, go)]) (cob' ++ pinsAt fp s7.heap) σ8 H' s' → Inv (gcx X s0 H0 ge fp A [(a, go)]) cob' (wipe σ vs) H' s' ∧ tn (i + 1) s'.heap ∧ (∀ b ∈ fp, H' b = none) := fun {H' s' cob'} I' => by
      have pin' : ∀ b ∈ fp, ∀ o, s7.heap.get? b = some o → s'.heap.get? b = some o ∧ H' b = none := fun b hb o e =>
        let z := I'.pin (b, o) (List.mem_append_right _ (List.mem_append_right _ (mem_pinsAt hb e)))
        ⟨z.1, z.2.1⟩
      refine ⟨(I'.unpinned).weak hl (fun j v e => ?_), T.keep _ _ _ st7 fun b hb o e => (pin' b hb o e).1, fun b hb => ?_⟩
      · rw [← hw8] at e
        exact (wipe_some e).1
      · obtain ⟨o, e, _⟩ := T.obj _ _ st7 b hb
        exact (pin' b hb o e).2
    cases b with
    | false =>
      simp only [Bool.false_eq_true, if_false] at q9 ⊢
      obtain ⟨m', hm, w'⟩ := hNF _ q9
      obtain ⟨b1, b2, b3⟩ := back I9
      exact seg_again rfl (ih m' hm n (i + 1) ys H9 cob s₀ s9 hn hal w' hcb hcc b1 b2 b3 (conK hcb I hCs I9))
    | true =>
      simp only [if_true] at q9 ⊢
      have hy : ∀ v, yieldOut ge v = yieldValue v := fun v => by simp only [yieldOut, hco, Bool.false_eq_true, if_false]
      simp only [hy]
      rw [Sem.bind_eq_wrap', Sem.bind_eq_wrap', Sem.wrap_wrap, Sem.wrap_wrap]
      refine seg_wrap ?_
      rw [ov]
      refine wpAny_mono (he.run _ s9 σ8 H9 _ I9 q9) (fun z s10 ⟨yv, H10, I10, r10, hlt, ny⟩ => ?_) fun _ _ q => False.elim q
      obtain ⟨m', hm, w'⟩ := hNY _ _ ny
      obtain ⟨n', rfl⟩ : ∃ k, n = k + 1 := ⟨n - 1, by omega⟩
      obtain ⟨b1, b2, b3⟩ := back I10
      obtain ⟨d1, d2⟩ := done_of (ys := ys) (n := n') hcb I10.unpinned
      have hC10 : C ys s10.heap := conK hcb I hCs I10
      have hgen : s10.heap.IsGen a gn := by
        obtain ⟨c1, ⟨nm, qn, c2⟩, c3⟩ := hg0
        exact ⟨go, nm, qn, (I10.pin (a, go) (List.mem_append_left _ (List.mem_singleton.mpr rfl))).1, c1, c2, c3⟩
      refine seg_at (seg_yield rfl rfl rfl ⟨H10, ys, yv, ⟨by omega, hlt⟩, I10.os, I10.bare, I10.nolimit, hgen, I10.base, I10.hok, d1, hC10, d2, hal, r10, ⟨_, _, w'⟩, fun s' wk hal' => ?_⟩)
      obtain ⟨cob', e1, e2, I11⟩ := inv_woken b1 hcb hac hfc hlo wk
      refine seg_again rfl (ih m' hm n' (i + 1) (ys ++ [yv]) H10 cob' s' s' (by rw [List.length_append, List.length_singleton]; exact ⟨by omega, by omega⟩) hal' w' e1 e2 I11 (T.keep _ _ _ b2 fun b hb o e => wk.keep b o (hfc b hb) e) b3 wk.con)
end
end GX

set_option Elab.async false
set_option linter.all false
set_option maxRecDepth 100000
set_option maxHeartbeats 2000000
namespace GX
open PySem PySem.Spec PyProof.Rows L2 GenW

/-! ## 4. a generator expression's value -/
def GMadeX (P : Program) (w : World) (k : Nat) (outer : List Env) (H : Hp) (s : Shared) (ex : List Addr) (G : GWs) (u : Value) (s' : Shared) : Prop :=
  ∃ (a : Addr) (g : Nat) (c : Code), u = .ref a ∧ s.heap.objs.size ≤ a ∧ a < s'.heap.objs.size ∧ s'.heap.IsGen a g ∧ s'.gens[g]? = some (.fresh c) ∧ s'.os = s.os ∧ AllBare s'.gens ∧ s'.heap.NoLimit ∧ (∀ b o, s.heap.get? b = some o → s'.heap.get? b = some o) ∧
    G.alive [] ∧ ∀ (A : Around) (cs : List Addr) (C : List V → Heap → Prop) (s2 : Shared), Room (k + 1) A → A.frames = some outer → (∀ b ∈ cs, s'.heap.objs.size ≤ b) → ConC cs C → (∀ b o, s'.heap.get? b = some o → s2.heap.get? b = some o) → OwnC cs s2.heap → C [] s2.heap → s2.os = s.os → AllBare s2.gens →
      Seg (model P w) A (RX' P w outer H s ex cs C G) (YX P w outer H s ex cs C a g G) (sizeLine + 1) s2 c ((model P w).den c) [] s2
abbrev TGx := L2.St → Hp → (GWs → Hp → Prop) → Prop
structure PGx (X : Cx) (k : Nat) (e : Expr) (tg : TGx) : Prop where
  run : ∀ (pins : List (Addr × Obj)) (s : Shared) (σ : L2.St) (H : Hp) (R : GWs → Hp → Prop), Inv X pins σ H s → tg σ H R → wpAny (model X.prog X.w) X.A (eval e X.env)
    (fun u s' => ∃ H1 sc ex G, Inv X pins σ H1 sc ∧ ExOk X pins ex ∧ GMadeX X.prog X.w k X.stack H1 sc ex G u s' ∧ R G H1) X.xe s
def tGen (B : Heap) (nm : Nat → Nat → Option Str) (c : Addr) (wi : TI) (g : TG) (tt : Addr → TT) (te : Addr → TE) (vs : List Nat) : TGx := fun σ H R => wi σ H fun J H1 =>
  (∃ P, CodeAt B H1 c P ∧ ∃ ps, H1 P = some (.tbl ps)) ∧ AllTabs nm H1 ∧ ∀ (H2 : Hp) (c' P' : Addr), Grown H1 H2 → AllTabs nm H2 → H2 c' = some (CodeG c' P') → (∃ ps', H2 P' = some (.tbl ps')) →
    ∃ G : GWs, G.alive [] ∧ (∃ m, G.W [] 0 m H2) ∧ GTurn J g (tt c') (te c') vs σ G ∧ R G H2
/-- the main module's builtins -/
def Bm (base : Heap) (mg : Str → Option Value) : Prop := ∃ (bm : Addr) (ob : Obj), mg "__builtins__" = some (.ref bm) ∧ bm ≠ builtinsNs ∧ base.get? bm = some ob ∧ ob.cls = .type "module" ∧ ob.dict = some builtinsNs ∧ ob.data = .plain

section
variable {X : Cx}
theorem pgx_gen {elt tg iter : Expr} {ifs : List Expr} {scope : Scope} {own : List (Str × Nat)} {pos : Pos} {wi : TI} {g : TG} {tt : Addr → TT} {te : Addr → TE} {c : Addr} {nm : Nat → Nat → Option Str} {k : Nat}
    (hc : X.calm = true) (hN : X.N.Nodup) (hr : Room 0 X.A) (hcode : X.env.code = .ref c) (hb : Bm X.base X.mg) (hn : nm pos.line pos.col = none) (hi : PI X tg iter wi) (ok : GenOk X.N X.env.scope scope own)
    (hg : ∀ (s : Shared) (H : Hp) (cells : List (Str × Addr)) (L c' : Addr) (fp : List Addr) (A : Around) (pn : List (Addr × Obj)), PG (gcx X s H (genv X scope cells L (.ref c')) fp A pn) tg g)
    (ht : ∀ (s : Shared) (H : Hp) (cells : List (Str × Addr)) (L c' : Addr) (fp : List Addr) (A : Around) (pn : List (Addr × Obj)), Room k (A.deeper (genv X scope cells L (.ref c'))) → PTs (gcx X s H (genv X scope cells L (.ref c')) fp A pn) ifs (tt c'))
    (he : ∀ (s : Shared) (H : Hp) (cells : List (Str × Addr)) (L c' : Addr) (fp : List Addr) (A : Around) (pn : List (Addr × Obj)), Room k (A.deeper (genv X scope cells L (.ref c'))) → PE (gcx X s H (genv X scope cells L (.ref c')) fp A pn) elt (te c'))
    (hs : ∀ x, genFold iter X.env x = pure x := by intro _; rfl) :
    PGx X k (.GeneratorExp elt [⟨tg, iter, ifs, 0⟩] scope pos) (tGen X.base nm c wi g tt te (own.map (·.2))) := by
  refine ⟨fun pins s σ H R I h => ?_⟩
  have hfree : ∀ y ∈ scope.names, y.2 = .free → ∃ c, X.env.cells.lookup y.1 = some c := fun y hy e => by
    rcases ok.free y hy e with k | k
    · exact I.ok.has _ (.inl k)
    · exact I.ok.has _ (.inr k)
  rw [eval_GeneratorExp1 _ _ _ _ _ _ _ ok.co]
  refine wpAny_bind (thn (hi.run pins s σ H _ I h) fun xv s1 hx => ?_)
  refine wpAny_bind (wpAny_standAt ?_)
  refine wpAny_bind (wpAny_of_eq (hs xv) ?_)
  refine wpAny_bind (wpAny_holding (thn hx fun itv s2 h2 => ?_))
  obtain ⟨it, fp, tn, J, H2, e, I2, T, st2, f2, hCode, hTabs, hG⟩ := h2
  subst e
  obtain ⟨P, hCA, hPt⟩ := hCode
  refine wpAny_bind (wpAny_enterFrame I2.nolimit hr.depth ?_)
  rw [closure_ok hfree]
  refine wpAny_bind (wpAny_pure ?_)
  refine wpAny_bind (gen_code I2 hcode hCA hPt hTabs hn fun c' P' H3 s3 I3 G3 T3 eg3 k3 hP3 sz3 nn3 hc3 hp3 => ?_)
  obtain ⟨bm, ob, b1, b2, b3, b4, b5, b6⟩ := hb
  refine wpAny_bind (wpAny_builtinsFor (m := X.mg) (by rw [I3.ok.glob]; exact I3.mod.glob.keeps I3.bk) b1 b2 (I3.bk _ _ b3) b4 b5 b6 ?_)
  refine wpAny_bind (newEnv_gen ok.kind ok.dot fun h5 tk5 hn5 hs5 => ?_)
  obtain ⟨G, hal, ⟨m0, w0⟩, turn, hR⟩ := hG H3 c' P' G3 T3 hc3 hp3
  simp only [newGenerator, newFields]
  refine wpAny_bind (wpAny_newGen (wpAny_bind (wpAny_mkText (wpAny_bind (wpAny_mkText (wpAny_newObj_type ?_ (by size_fits)))))))
  -- the iterator's objects
  have fex : ∀ b ∈ fp, ∃ o, s2.heap.get? b = some o := fun b hb => by
    obtain ⟨o, e, _⟩ := T.obj _ _ st2 b hb
    exact ⟨o, e⟩
  have sz2 : ∀ b ∈ fp, b < s2.heap.objs.size := fun b hb => let ⟨o, e⟩ := fex b hb; Heap.lt_size e
  have fnP : ∀ b ∈ fp, b ≠ P := fun b hb z => by
    obtain ⟨ps, hps⟩ := hPt
    have q := (f2 b hb).1
    rw [z, hps] at q
    cases q
  have f3 : ∀ b ∈ fp, FpOk X pins H3 b ∧ b < s3.heap.objs.size := fun b hb => by
    obtain ⟨o, e⟩ := fex b hb
    exact ⟨⟨nn3 b o e (f2 b hb).1, (f2 b hb).2⟩, Nat.lt_of_lt_of_le (sz2 b hb) sz3⟩
  have st3 : tn 0 s3.heap := T.keep _ _ _ st2 fun b hb o e => k3 b o (fnP b hb) e
  have ex3 : ExOk X pins fp := fun b hb => ⟨(f3 b hb).1.2.2.2.1, (f3 b hb).1.2.1, (f3 b hb).1.2.2.2.2.1, (f3 b hb).1.2.2.2.2.2⟩
  have kp5 : ∀ b o, s3.heap.get? b = some o → h5.get? b = some o := fun b o e => hs5.extBut b o (Nat.ne_of_lt (Heap.lt_size e)) (pushCells_keeps _ _ _ _ (Heap.get?_push_of_some _ e))
  have lt5 : s3.heap.objs.size < h5.objs.size := hn5.lt
  have key : ∀ (gob : Obj) (tk2 : Nat), gob.cls = .type "generator" → (∃ nm qn, gob.data = .fields #[.int s3.gens.size 0, nm, qn]) → gob.slots = #[] → (∀ h : Heap, (h.push gob).get? h.objs.size = some gob) →
      GMadeX X.prog X.w k X.stack H3 s3 fp G (.ref h5.objs.size) { s3 with gens := s3.gens.push (.fresh (.compStart (.GeneratorExp elt [⟨tg, iter, ifs, 0⟩] scope pos) 0 (.ref it) .none (genv X scope (cellsFrom (s3.heap.objs.size + 1) scope.names (cloFrom X.env.cells scope.names [])) s3.heap.objs.size (.ref c')))), toks := tk2, heap := h5.push gob } := by
    intro gob tk2 gc gd gs gp
    obtain ⟨gnm, gqn, gd'⟩ := id gd
    have hpushed : (h5.push gob).get? h5.objs.size = some gob := gp _
    have kp6 : ∀ b o, s3.heap.get? b = some o → (h5.push gob).get? b = some o := fun b o e => Heap.get?_push_of_some _ (kp5 b o e)
    refine ⟨h5.objs.size, s3.gens.size, _, rfl, Nat.le_of_lt lt5, ?_, ⟨gob, gnm, gqn, hpushed, gc, gd', gs⟩, Array.getElem?_push_size .., rfl, AllBare.push I3.bare rfl, I3.nolimit.keeps kp6, kp6, hal, ?_⟩
    · show _ < (h5.push gob).objs.size
      rw [Heap.size_push]; exact Nat.lt_succ_self _
    intro Aw cs C s7 hrw hfr hcs hC hk7 hown hC0 hos hba
    have I5 := gen_start (code := .ref c') (tk := tk5) I3 { ok with } hN f3 hrw.hd hfr hn5 hs5
    generalize hge : genv X scope (cellsFrom (s3.heap.objs.size + 1) scope.names (cloFrom X.env.cells scope.names [])) s3.heap.objs.size (.ref c') = ge at I5 ⊢
    have kp7 : ∀ b o, h5.get? b = some o → s7.heap.get? b = some o := fun b o e => hk7 b o (Heap.get?_push_of_some _ e)
    have I7 : Inv (gcx X s3 H3 ge fp Aw []) [] (wipe σ (own.map (·.2))) H3 s7 := I5.call' (ch := []) hos (Un.kept kp7) (I5.hok.kept kp7) hba fun b z => by simp at z
    have young : ∀ b, h5.objs.size ≤ b → H3 b = none ∧ b ≠ ge.locals ∧ b ∉ frs X.stack ∧ s3.heap.objs.size ≤ b := fun b hb =>
      ⟨I5.hok.fresh hb, by rw [← hge]; exact Nat.ne_of_gt (Nat.lt_of_lt_of_le lt5 hb), I5.nofs hb, Nat.le_trans (Nat.le_of_lt lt5) hb⟩
    have hcs5 : ∀ b ∈ cs, h5.objs.size < b := fun b hb => by
      have q : (h5.push gob).objs.size ≤ b := hcs b hb
      rw [Heap.size_push] at q
      exact q
    have hgnc : ∀ v, gob.data ≠ .cell v := fun v z => by rw [gd'] at z; cases z
    have pinned : Inv (gcx X s3 H3 ge fp Aw [(h5.objs.size, gob)]) (pinsAt cs s7.heap) (wipe σ (own.map (·.2))) H3 s7 := Inv.pinX I7 fun p hp => by
      rcases List.mem_append.mp hp with z | z
      · rw [List.mem_singleton.mp z]
        obtain ⟨y1, y2, y3, _⟩ := young h5.objs.size (Nat.le_refl _)
        exact ⟨hk7 _ _ hpushed, y1, y2, y3, hgnc⟩
      · obtain ⟨hb, e⟩ := of_pinsAt z
        obtain ⟨y1, y2, y3, _⟩ := young p.1 (Nat.le_of_lt (hcs5 p.1 hb))
        obtain ⟨o, e', d⟩ := hown p.1 hb
        rw [e] at e'
        cases e'
        exact ⟨e, y1, y2, y3, d⟩
    have st7 : tn 0 s7.heap := T.keep _ _ _ st3 fun b _ o e => kp7 b o (kp5 b o e)
    have roomB : Room k (Aw.deeper ge) := hrw.deeper _
    have loop := seg_gloop (X := X) (s0 := s3) (H0 := H3) (ge := ge) (fp := fp) (cs := cs) (A := Aw) (a := h5.objs.size) (go := gob) (gn := s3.gens.size) (elt := elt) (tg := tg) (iter := iter) (ifs := ifs) (scope := scope) (pos := pos) (it := it) (C := C) (G := G)
      T (by rw [← hge]; exact ok.co) ⟨gc, gd, gs⟩ (by rw [← hge]; exact hg _ _ _ _ _ _ _ _) (by rw [← hge] at roomB ⊢; exact ht _ _ _ _ _ _ _ _ roomB) (by rw [← hge] at roomB ⊢; exact he _ _ _ _ _ _ _ _ roomB) turn
      (fun b hb => Nat.ne_of_lt (Nat.lt_trans (f3 b hb).2 lt5)) (fun z => Nat.lt_irrefl _ (hcs5 _ z)) (fun b hb z => Nat.lt_irrefl _ (Nat.lt_trans (Nat.lt_trans (f3 b hb).2 lt5) (hcs5 b z))) (fun b hb => Nat.le_trans (Nat.le_of_lt lt5) (Nat.le_of_lt (hcs5 b hb))) hC
      m0 (sizeLine + 1) 0 [] H3 (pinsAt cs s7.heap) s7 s7 ⟨Nat.add_zero _, Nat.le_add_left _ _⟩ hal w0 (fun b hb => by obtain ⟨o, e, _⟩ := hown b hb; exact ⟨(b, o), mem_pinsAt hb e, rfl⟩) (fun p hp => (of_pinsAt hp).1) pinned st7 (fun b hb => (f3 b hb).1.1) hC0
    show Seg _ Aw _ _ _ s7 _ ((compStart (.GeneratorExp elt [⟨tg, iter, ifs, 0⟩] scope pos) 0 (.ref it) .none ge).onRaise (leaving ge)) [] s7
    unfold compStart
    rw [Sem.onRaise_eq_wrap]
    show Seg _ Aw _ _ _ s7 _ ((ask >>= _).wrap _ _ _ _) [] s7
    refine seg_bind_wrap (wpAny_askSetting ?_)
    split
    · exact seg_again rfl loop
    · first
        | exact seg_bind_wrap (wpAny_rule (seg_bind_wrap (wpAny_standAt (seg_bind_wrap (T.self _ 0 s7 _ _ st7 (seg_again rfl loop))))))
        | (refine seg_bind_wrap (wpAny_rule ?_); show Seg _ Aw _ _ _ s7 _ ((standAt iter.pos >>= _).wrap _ _ _ _) [] s7; exact seg_bind_wrap (wpAny_standAt (seg_bind_wrap (T.self _ 0 s7 _ _ st7 (seg_again rfl loop)))))
  refine ⟨H3, s3, fp, G, I3, ex3, ?_, hR⟩
  have e5 : genv X scope (cellsFrom (s3.heap.objs.size + 1) scope.names (cloFrom X.env.cells scope.names [])) s3.heap.objs.size (.ref c') = newEnv scope s3.heap.objs.size X.env.globals (cellsFrom (s3.heap.objs.size + 1) scope.names (cloFrom X.env.cells scope.names [])) (X.env.qual ++ "<genexpr>.") none (.ref c') none builtinsNs := rfl
  exact key _ _ rfl ⟨_, _, rfl⟩ rfl fun h => Heap.get?_push_size _ rfl
end
end GX

set_option Elab.async false
set_option linter.all false
set_option maxRecDepth 100000
set_option maxHeartbeats 2000000
namespace GX
open PySem PySem.Spec PyProof.Rows L2 GenW

/-! ## 5. who asks the generator -/
section
variable {P : Program} {w : World} {outer : List Env} {H : Hp} {sc : Shared} {ex cs : List Addr} {C : List V → Heap → Prop} {G : GWs} {a : Addr} {g : Nat}
/-- the generator waits to be asked: n items at most are left -/
def Waits (P : Program) (w : World) (outer : List Env) (H : Hp) (sc : Shared) (ex cs : List Addr) (C : List V → Heap → Prop) (G : GWs) (a : Addr) (g : Nat) (A : Around) (n : Nat) (s : Shared) : Prop :=
  s.heap.IsGen a g ∧ s.heap.NoLimit ∧ ∃ gs, s.gens[g]? = some gs ∧ gs.Goes (model P w) A.in1 (RX' P w outer H sc ex cs C G) (YX P w outer H sc ex cs C a g G) n (.send .none) (s.setGen g .running)
/-- it is asked once -/
theorem next_X {A : Around} {E : Value → Shared → Prop} {n : Nat} {s : Shared} {Q : Option Value → Shared → Prop} (hh : A.handled = none) (hd : A.depth < recursionLimit) (hw : Waits P w outer H sc ex cs C G a g A n s) (hcs : cStatics ∉ cs) (hac : a ∉ cs)
    (hY : ∀ (v : Value) (s1 : Shared) (y : V) (ys : List V) (H' : Hp) (m : Nat), n = m + 1 → m + ys.length = sizeLine → ys.length < sizeLine → s1.os = sc.os → AllBare s1.gens → Un (frs outer) ex H H' sc.heap s1.heap → HOk P w H' s1.heap → (∀ b ∈ cs, H' b = none) → C ys s1.heap → OwnC cs s1.heap → G.alive ys → RelV y v → (∃ i k, G.W (ys ++ [y]) i k H') →
      (∀ s2 : Shared, s2.gens = s1.gens → Woke cs C (ys ++ [y]) s1 s2 → G.alive (ys ++ [y]) → Waits P w outer H sc ex cs C G a g A m s2) → Q (some v) s1)
    (hF : ∀ (s1 : Shared) (ys : List V) (H' : Hp), (n + ys.length = sizeLine + 1 ∧ 1 ≤ n) → s1.os = sc.os → AllBare s1.gens → Un (frs outer) ex H H' sc.heap s1.heap → HOk P w H' s1.heap → (∀ b ∈ cs, H' b = none) → C ys s1.heap → OwnC cs s1.heap → G.alive ys → G.fin ys H' → Q none s1) (hC : ConC cs C) :
    wpAny (model P w) A (pyNext (.ref a)) Q E s := by
  obtain ⟨hg, hl, gs, hgs, hgo⟩ := hw
  have hgl : g < s.gens.size := (Array.getElem?_eq_some_iff.mp hgs).1
  refine wpAny_gsz (n := g + 1) hgl (next_genG (F := fun n _ s1 => RX P w outer H sc ex cs C G n s1) (Er := fun _ _ => False) hh hl hd hg hgs hgo (fun v s₁ gs' hbare hv => ?_) (fun s₁ hp h' hk => ?_) fun e s₁ he => he.elim)
  · intro hsz
    obtain ⟨H', ys, y, ⟨hn, hlt⟩, os1, hb1, hl1, hg1, un, hok, hcn, hCy, hown, hal, rv, hW, hkap⟩ := hv
    cases n with
    | zero =>
      exfalso
      have hn' : 0 - 1 + ys.length = sizeLine := hn
      omega
    | succ m =>
      have hsz1 : g < s₁.gens.size := by
        have q : (s₁.setGen g gs').gens.size = s₁.gens.size := setGen_size _ _ _
        have hsz' : g + 1 ≤ (s₁.setGen g gs').gens.size := hsz
        omega
      refine hY v (s₁.setGen g gs') y ys H' m rfl hn hlt os1 (allBare_setGen hb1 hbare) un hok hcn hCy hown hal rv hW fun s2 eg wk hal2 => ⟨?_, ?_, gs', ?_, ?_⟩
      · obtain ⟨o, nm, qn, ho, r⟩ := hg1
        exact ⟨o, nm, qn, wk.keep a o hac ho, r⟩
      · obtain ⟨mc, hns, hnn⟩ := hl1
        exact ⟨mc, hns.at' fun o e => wk.keep _ o hcs e, hnn⟩
      · rw [eg]
        exact setGen_at hsz1
      · refine hkap (s2.setGen g .running) ⟨wk.os, allBare_setGen wk.bare rfl, wk.keep, wk.own, wk.con⟩ hal2
  · intro _
    obtain ⟨H', ys, hn, os1, hb1, un, hok, hcn, hCy, hown, hal, hfin⟩ := hp
    refine hF _ ys H' hn os1 (allBare_setGen (s := s₁) hb1 rfl) (un.trans (Un.kept hk)) (hok.kept hk) hcn (hC _ _ _ hCy fun b _ o e => hk b o e) (fun b hb => ?_) hal hfin
    obtain ⟨o, e, d⟩ := hown b hb
    exact ⟨o, hk b o e, d⟩

/-- all(g): the turns -/
theorem all_X {A : Around} {R : Result → Shared → Prop} {Qt Qf : Hp → Prop} (hh : A.handled = none) (hd : A.depth < recursionLimit)
    (hyes : ∀ ys y i k H', G.alive ys → G.W (ys ++ [y]) i k H' → ∃ c : Bool, y = .bl c ∧ (c = true → G.alive (ys ++ [y])) ∧ (c = false → Qf H')) (hfin : ∀ ys H', G.alive ys → G.fin ys H' → Qt H')
    (hend : ∀ (b : Bool) (s' : Shared) (H' : Hp), s'.os = sc.os → AllBare s'.gens → Un (frs outer) ex H H' sc.heap s'.heap → HOk P w H' s'.heap → (if b = true then Qt H' else Qf H') → R (.ok (.ret (.bool b))) s') :
    ∀ (n : Nat) (s : Shared), Waits P w outer H sc ex [] (fun _ _ => True) G a g A.in1 n s → codeAny (model P w) A (.builtin "all.loop" ⟨[.ref a], []⟩) R s := by
  intro n
  induction n with
  | zero =>
    intro s hw
    refine codeAny_builtin F.entry_all_loop ?_
    rw [Around.under_plainId F.plain_all_loop _]
    show wpAny _ A.in1 (pyNext (.ref a) >>= _) _ _ s
    refine wpAny_bind (next_X (A := A.in1) hh hd hw (by simp) (by simp) (fun v s1 y ys H' m e => by omega) (fun s1 ys H' _ os1 hb1 un hok _ _ _ hal hf => ?_) fun _ _ _ _ _ => trivial)
    exact wpAny_bind (wpAny_rule (wpAny_pure (hend true s1 H' os1 hb1 un hok (by rw [if_pos rfl]; exact hfin ys H' hal hf))))
  | succ n ih =>
    intro s hw
    refine codeAny_builtin F.entry_all_loop ?_
    rw [Around.under_plainId F.plain_all_loop _]
    show wpAny _ A.in1 (pyNext (.ref a) >>= _) _ _ s
    refine wpAny_bind (next_X (A := A.in1) hh hd hw (by simp) (by simp) (fun v s1 y ys H' m e _ _ os1 hb1 un hok _ _ _ hal rv hW hk => ?_) (fun s1 ys H' _ os1 hb1 un hok _ _ _ hal hf => ?_) fun _ _ _ _ _ => trivial)
    · obtain ⟨i, k, hW⟩ := hW
      obtain ⟨c, rfl, h1, h2⟩ := hyes ys y i k H' hal hW
      obtain rfl : v = Value.bool c := rv
      obtain rfl : n = m := by omega
      refine wpAny_bind (wpAny_holding (wpAny_truthy_bool ?_))
      refine wpAny_bind (wpAny_letGo ?_)
      cases c with
      | true =>
        simp only [if_true]
        refine wpAny_pure ⟨plainId_quiet F.plain_all_loop _, ih s1 (hk s1 rfl ⟨rfl, hb1, fun _ _ _ e => e, fun b hb => by simp at hb, trivial⟩ (h1 rfl))⟩
      | false =>
        simp only [Bool.false_eq_true, if_false]
        exact wpAny_bind (wpAny_rule (wpAny_pure (hend false s1 H' os1 hb1 un hok (by rw [if_neg Bool.false_ne_true]; exact h2 rfl))))
    · exact wpAny_bind (wpAny_rule (wpAny_pure (hend true s1 H' os1 hb1 un hok (by rw [if_pos rfl]; exact hfin ys H' hal hf))))
/-- any(g): the turns -/
theorem any_X {A : Around} {R : Result → Shared → Prop} {Qt Qf : Hp → Prop} (hh : A.handled = none) (hd : A.depth < recursionLimit)
    (hyes : ∀ ys y i k H', G.alive ys → G.W (ys ++ [y]) i k H' → ∃ c : Bool, y = .bl c ∧ (c = false → G.alive (ys ++ [y])) ∧ (c = true → Qt H')) (hfin : ∀ ys H', G.alive ys → G.fin ys H' → Qf H')
    (hend : ∀ (b : Bool) (s' : Shared) (H' : Hp), s'.os = sc.os → AllBare s'.gens → Un (frs outer) ex H H' sc.heap s'.heap → HOk P w H' s'.heap → (if b = true then Qt H' else Qf H') → R (.ok (.ret (.bool b))) s') :
    ∀ (n : Nat) (s : Shared), Waits P w outer H sc ex [] (fun _ _ => True) G a g A.in1 n s → codeAny (model P w) A (.builtin "any.loop" ⟨[.ref a], []⟩) R s := by
  intro n
  induction n with
  | zero =>
    intro s hw
    refine codeAny_builtin F.entry_any_loop ?_
    rw [Around.under_plainId F.plain_any_loop _]
    show wpAny _ A.in1 (pyNext (.ref a) >>= _) _ _ s
    refine wpAny_bind (next_X (A := A.in1) hh hd hw (by simp) (by simp) (fun v s1 y ys H' m e => by omega) (fun s1 ys H' _ os1 hb1 un hok _ _ _ hal hf => ?_) fun _ _ _ _ _ => trivial)
    exact wpAny_bind (wpAny_rule (wpAny_pure (hend false s1 H' os1 hb1 un hok (by rw [if_neg Bool.false_ne_true]; exact hfin ys H' hal hf))))
  | succ n ih =>
    intro s hw
    refine codeAny_builtin F.entry_any_loop ?_
    rw [Around.under_plainId F.plain_any_loop _]
    show wpAny _ A.in1 (pyNext (.ref a) >>= _) _ _ s
    refine wpAny_bind (next_X (A := A.in1) hh hd hw (by simp) (by simp) (fun v s1 y ys H' m e _ _ os1 hb1 un hok _ _ _ hal rv hW hk => ?_) (fun s1 ys H' _ os1 hb1 un hok _ _ _ hal hf => ?_) fun _ _ _ _ _ => trivial)
    · obtain ⟨i, k, hW⟩ := hW
      obtain ⟨c, rfl, h1, h2⟩ := hyes ys y i k H' hal hW
      obtain rfl : v = Value.bool c := rv
      obtain rfl : n = m := by omega
      refine wpAny_bind (wpAny_holding (wpAny_truthy_bool ?_))
      refine wpAny_bind (wpAny_letGo ?_)
      cases c with
      | false =>
        simp only [Bool.false_eq_true, if_false]
        refine wpAny_pure ⟨plainId_quiet F.plain_any_loop _, ih s1 (hk s1 rfl ⟨rfl, hb1, fun _ _ _ e => e, fun b hb => by simp at hb, trivial⟩ (h1 rfl))⟩
      | true =>
        simp only [if_true]
        exact wpAny_bind (wpAny_rule (wpAny_pure (hend true s1 H' os1 hb1 un hok (by rw [if_pos rfl]; exact h2 rfl))))
    · exact wpAny_bind (wpAny_rule (wpAny_pure (hend false s1 H' os1 hb1 un hok (by rw [if_neg Bool.false_ne_true]; exact hfin ys H' hal hf))))

/-- a list that is filled from g tells what came -/
def ConL (S : Addr) (ys : List V) (h : Heap) : Prop := ∃ acc c, h.get? S = some (lstObj acc c) ∧ Vals ys acc.toList
theorem conL_ok {S : Addr} : ConC [S] (ConL S) := fun ys h h' ⟨acc, c, e, r⟩ k => ⟨acc, c, k S (List.mem_singleton.mpr rfl) _ e, r⟩
/-- list.extend(g): the turns -/
theorem ext_X {A : Around} {R : Result → Shared → Prop} {S : Addr} {res : Value} (hh : A.handled = none) (hd : A.depth < recursionLimit) (hSa : S ≠ a) (hSc : S ≠ cStatics) (hal1 : ∀ ys, G.alive ys)
    (hend : ∀ s' acc c H' ys, s'.heap.get? S = some (lstObj acc c) → Vals ys acc.toList → ys.length ≤ sizeLine → s'.os = sc.os → AllBare s'.gens → Un (frs outer) ex H H' sc.heap s'.heap → HOk P w H' s'.heap → H' S = none → G.fin ys H' → R (.ok (.ret res)) s') :
    ∀ (n : Nat) (s : Shared), Waits P w outer H sc ex [S] (ConL S) G a g A.in1 n s → codeAny (model P w) A (.builtin "list.extend.loop" ⟨[.ref S, .ref a, res], []⟩) R s := by
  have fin : ∀ {n : Nat} (s1 : Shared) (ys : List V) (H' : Hp), (n + ys.length = sizeLine + 1 ∧ 1 ≤ n) → s1.os = sc.os → AllBare s1.gens → Un (frs outer) ex H H' sc.heap s1.heap → HOk P w H' s1.heap → (∀ b ∈ [S], H' b = none) → ConL S ys s1.heap → ys.length ≤ sizeLine → G.fin ys H' → R (.ok (.ret res)) s1 := fun s1 ys H' _ os1 hb1 un hok hcn hC hl hf => by
    obtain ⟨acc, c, e, r⟩ := hC
    exact hend s1 acc c H' ys e r hl os1 hb1 un hok (hcn S (List.mem_singleton.mpr rfl)) hf
  have hcs : cStatics ∉ [S] := fun z => hSc (List.mem_singleton.mp z).symm
  have hac : a ∉ [S] := fun z => hSa (List.mem_singleton.mp z).symm
  intro n
  induction n with
  | zero =>
    intro s hw
    refine codeAny_builtin F.entry_extend_loop ?_
    rw [Around.under_plainId F.plain_extend_loop _]
    show wpAny _ A.in1 (pyNext (.ref a) >>= _) _ _ s
    refine wpAny_bind (next_X (A := A.in1) hh hd hw hcs hac (fun v s1 y ys H' m e => by omega) (fun s1 ys H' hn os1 hb1 un hok hcn hC hown hal hf => ?_) conL_ok)
    exact absurd hn.2 (by decide)
  | succ n ih =>
    intro s hw
    refine codeAny_builtin F.entry_extend_loop ?_
    rw [Around.under_plainId F.plain_extend_loop _]
    show wpAny _ A.in1 (pyNext (.ref a) >>= _) _ _ s
    refine wpAny_bind (next_X (A := A.in1) hh hd hw hcs hac (fun v s1 y ys H' m e hn hlt os1 hb1 un hok hcn hC hown hal rv hW hk => ?_) (fun s1 ys H' hn os1 hb1 un hok hcn hC hown hal hf => ?_) conL_ok)
    · obtain ⟨acc, c, hS1, r⟩ := hC
      have hasz : acc.size = ys.length := by
        have e1 := r.length
        have e2 : acc.toList.length = acc.size := by simp
        omega
      obtain rfl : n = m := by omega
      show wpAny _ A.in1 (updateSeq S (·.push v) >>= _) _ _ _
      refine wpAny_bind ?_
      refine wpAny_updateSeq hS1 rfl (wpAny_pure ⟨plainId_quiet F.plain_extend_loop _, ?_⟩) (by omega) (by show (acc.push v).size ≤ sizeLine + 1; rw [Array.size_push]; omega)
      have hS2 := Heap.get?_update_self (Obj.mapSeq (·.push v)) hS1 rfl
      refine ih _ (hk _ rfl ⟨rfl, hb1, fun b o hb e => (Heap.get?_update_other _ _ (fun z => hb (List.mem_singleton.mpr z.symm))).trans e, fun b hb => ?_, ?_⟩ (hal1 _))
      · rw [List.mem_singleton.mp hb]
        exact ⟨_, hS2, fun v z => by cases z⟩
      · refine ⟨acc.push v, _, hS2, ?_⟩
        rw [Array.toList_push]
        exact r.append (.cons rv .nil)
    · exact wpAny_pure (fin (n := n + 1) s1 ys H' hn os1 hb1 un hok hcn hC (by omega) hf)
end
end GX

set_option Elab.async false
set_option linter.all false
set_option maxRecDepth 100000
set_option maxHeartbeats 2000000
namespace GX
open PySem PySem.Spec PyProof.Rows L2 GenW

/-! ## 6. all(g), any(g), tuple(g) -/
section
variable {P : Program} {w : World} {outer : List Env} {H : Hp} {sc s : Shared} {ex : List Addr} {G : GWs} {k : Nat} {u : Value}
/-- the first waking -/
theorem waits0 {A : Around} {cs : List Addr} {C : List V → Heap → Prop} {s2 : Shared} {a : Addr} {g : Nat} {c : Code} (hr : Room (k + 2) A) (hfr : A.frames = some outer) (hg : s.heap.IsGen a g) (hgs : s.gens[g]? = some (.fresh c)) (hos : s.os = sc.os) (hb : AllBare s.gens) (hl : s.heap.NoLimit)
    (wake : ∀ (A : Around) (cs : List Addr) (C : List V → Heap → Prop) (s2 : Shared), Room (k + 1) A → A.frames = some outer → (∀ b ∈ cs, s.heap.objs.size ≤ b) → ConC cs C → (∀ b o, s.heap.get? b = some o → s2.heap.get? b = some o) → OwnC cs s2.heap → C [] s2.heap → s2.os = sc.os → AllBare s2.gens →
      Seg (model P w) A (RX' P w outer H sc ex cs C G) (YX P w outer H sc ex cs C a g G) (sizeLine + 1) s2 c ((model P w).den c) [] s2)
    (hcs : ∀ b ∈ cs, s.heap.objs.size ≤ b) (hC : ConC cs C) (k2 : ∀ b o, s.heap.get? b = some o → s2.heap.get? b = some o) (hown : OwnC cs s2.heap) (hC0 : C [] s2.heap) (eos : s2.os = s.os) (egs : s2.gens = s.gens) :
    Waits P w outer H sc ex cs C G a g A (sizeLine + 1) s2 := by
  refine ⟨hg.keeps k2, hl.keeps k2, .fresh c, by rw [egs]; exact hgs, rfl, ?_⟩
  exact wake A.in1 cs C (s2.setGen g .running) hr.in1 hfr hcs hC k2 hown hC0 (eos.trans hos) (allBare_setGen (by rw [egs]; exact hb) rfl)

theorem call_allX {A : Around} {E : Value → Shared → Prop} {Q : Value → Shared → Prop} {Qt Qf : Hp → Prop} (hr : Room (k + 3) A) (hfr : A.frames = some outer) (h : GMadeX P w k outer H sc ex G u s)
    (hyes : ∀ ys y i k H', G.alive ys → G.W (ys ++ [y]) i k H' → ∃ c : Bool, y = .bl c ∧ (c = true → G.alive (ys ++ [y])) ∧ (c = false → Qf H')) (hfin : ∀ ys H', G.alive ys → G.fin ys H' → Qt H')
    (hend : ∀ (b : Bool) (s' : Shared) (H' : Hp), s'.os = sc.os → AllBare s'.gens → Un (frs outer) ex H H' sc.heap s'.heap → HOk P w H' s'.heap → (if b = true then Qt H' else Qf H') → Q (.bool b) s') :
    wpAny (model P w) A (call (.builtin "all") [u]) Q E s := by
  obtain ⟨a, g, c, rfl, ha1, ha2, hg, hgs, hos, hb, hl, hkp, hal, wake⟩ := h
  refine call_function_tree F.kind_all F.plain_all F.entry_all (F.args_all1 _) ?_
  unfold Builtin.«all»
  refine wpAny_bind (m := oneArg "all" _) (wpAny_pure ?_)
  refine wpAny_bind (wpAny_pyIter_gen hg ?_)
  refine wpAny_pure ⟨plainId_quiet F.plain_all_loop _, all_X (P := P) (w := w) (outer := outer) (H := H) (sc := sc) (ex := ex) (G := G) (a := a) (g := g) (A := A) (Qt := Qt) (Qf := Qf) hr.hd (by have := hr.dp; show A.depth < _; omega) hyes hfin (fun b s' H' q1 q2 q3 q4 q5 => hend b s' H' q1 q2 q3 q4 q5) (sizeLine + 1) s ?_⟩
  exact waits0 (A := A.in1) hr.in1 hfr hg hgs hos hb hl wake (fun b hb => by simp at hb) (fun _ _ _ _ _ => trivial) (fun _ _ e => e) (fun b hb => by simp at hb) trivial rfl rfl
theorem call_anyX {A : Around} {E : Value → Shared → Prop} {Q : Value → Shared → Prop} {Qt Qf : Hp → Prop} (hr : Room (k + 3) A) (hfr : A.frames = some outer) (h : GMadeX P w k outer H sc ex G u s)
    (hyes : ∀ ys y i k H', G.alive ys → G.W (ys ++ [y]) i k H' → ∃ c : Bool, y = .bl c ∧ (c = false → G.alive (ys ++ [y])) ∧ (c = true → Qt H')) (hfin : ∀ ys H', G.alive ys → G.fin ys H' → Qf H')
    (hend : ∀ (b : Bool) (s' : Shared) (H' : Hp), s'.os = sc.os → AllBare s'.gens → Un (frs outer) ex H H' sc.heap s'.heap → HOk P w H' s'.heap → (if b = true then Qt H' else Qf H') → Q (.bool b) s') :
    wpAny (model P w) A (call (.builtin "any") [u]) Q E s := by
  obtain ⟨a, g, c, rfl, ha1, ha2, hg, hgs, hos, hb, hl, hkp, hal, wake⟩ := h
  refine call_function_tree F.kind_any F.plain_any F.entry_any (F.args_any1 _) ?_
  unfold Builtin.«any»
  refine wpAny_bind (m := oneArg "any" _) (wpAny_pure ?_)
  refine wpAny_bind (wpAny_pyIter_gen hg ?_)
  refine wpAny_pure ⟨plainId_quiet F.plain_any_loop _, any_X (P := P) (w := w) (outer := outer) (H := H) (sc := sc) (ex := ex) (G := G) (a := a) (g := g) (A := A) (Qt := Qt) (Qf := Qf) hr.hd (by have := hr.dp; show A.depth < _; omega) hyes hfin (fun b s' H' q1 q2 q3 q4 q5 => hend b s' H' q1 q2 q3 q4 q5) (sizeLine + 1) s ?_⟩
  exact waits0 (A := A.in1) hr.in1 hfr hg hgs hos hb hl wake (fun b hb => by simp at hb) (fun _ _ _ _ _ => trivial) (fun _ _ e => e) (fun b hb => by simp at hb) trivial rfl rfl

/-- all items of g in a new list of the machine's own -/
theorem collect_X {A : Around} {E : Value → Shared → Prop} {Q : List Value → Shared → Prop} (hr : Room (k + 3) A) (hfr : A.frames = some outer) (h : GMadeX P w k outer H sc ex G u s) (hal1 : ∀ ys, G.alive ys)
    (hQ : ∀ (s' : Shared) (vs : List Value) (H' : Hp) (ys : List V), Vals ys vs → ys.length ≤ sizeLine → s'.os = sc.os → AllBare s'.gens → Un (frs outer) ex H H' sc.heap s'.heap → HOk P w H' s'.heap → G.fin ys H' → Q vs s') :
    wpAny (model P w) A (collect u) Q E s := by
  obtain ⟨a, g, c, rfl, ha1, ha2, hg, hgs, hos, hb, hl, hkp, hal, wake⟩ := h
  have hSa : s.heap.objs.size ≠ a := Nat.ne_of_gt ha2
  have hcl : cStatics < s.heap.objs.size := let ⟨_, hn, _⟩ := hl; hn.lt
  have hSc : s.heap.objs.size ≠ cStatics := Nat.ne_of_gt hcl
  unfold collect
  refine wpAny_bind (wpAny_runValue (codeAny_builtin F.entry_proto_collect ?_))
  rw [Around.under_plainId F.plain_proto_collect _]
  show wpAny _ A.in1 (newList [] >>= fun l => again (.builtin "list.__iadd__" ⟨[l, .ref a], []⟩)) _ _ s
  refine wpAny_bind (wpAny_newObj_type ?_)
  refine wpAny_pure ⟨plainId_quiet F.plain_list_iadd _, codeAny_builtin F.entry_list_iadd ?_⟩
  rw [Around.under_plainId F.plain_list_iadd _]
  show wpAny _ A.in1 (Builtin.List.listExtendWith (.ref s.heap.objs.size) (.ref a) (.ref s.heap.objs.size)) _ _ _
  unfold Builtin.List.listExtendWith
  have up : ∀ (h : Heap) (f : Obj → Obj), (∀ b o, s.heap.get? b = some o → h.get? b = some o) → ∀ b o, s.heap.get? b = some o → (h.update s.heap.objs.size f).get? b = some o := fun h f q b o e =>
    (Heap.get?_update_other _ _ (Ne.symm (Nat.ne_of_lt (Heap.lt_size e)))).trans (q b o e)
  have k1 : ∀ b o, s.heap.get? b = some o → (s.heap.push { cls := .type "list", data := .seq ([] : List Value).toArray }).get? b = some o := fun b o e => Heap.get?_push_of_some _ e
  have gty : ∀ {h : Heap}, (∀ b o, s.heap.get? b = some o → h.get? b = some o) → h.IsGen a g := fun {h} q => hg.keeps q
  refine wpAny_bind (wpAny_typeOf (Heap.IsGen.typeIs (s := { s with heap := _ }) (gty k1)) ?_)
  have h1 : Builtin.List.listSameRef (.ref s.heap.objs.size) (.ref a) = false := by simp [Builtin.List.listSameRef, hSa]
  have h2 : (Value.type "generator" == Value.type "list") = false := by decide
  have h3 : (Value.type "generator" == Value.type "tuple") = false := by decide
  simp only [h1, h2, h3, Bool.or_false, Bool.false_eq_true, if_false]
  refine wpAny_bind (wpAny_pyIter_gen (s := { s with heap := _ }) (gty k1) ?_)
  refine wpAny_bind (wpAny_holding ?_)
  unfold Builtin.List.listLengthHint
  refine wpAny_bind (wpAny_specialOf (Heap.IsGen.typeIs (s := { s with heap := _ }) (gty k1)) F.gen_no_len ?_)
  show wpAny _ A.in1 (specialOf (Value.ref a) (Str.ofString "__length_hint__") >>= _) _ _ _
  refine wpAny_bind (wpAny_specialOf (Heap.IsGen.typeIs (s := { s with heap := _ }) (gty k1)) F.gen_no_hint ?_)
  refine wpAny_pure ?_
  show wpAny _ A.in1 (rule "list.extend.makes-room" >>= fun _ => Builtin.List.listTouch (.ref s.heap.objs.size) >>= fun _ =>
    again (.builtin "list.extend.loop" ⟨[.ref s.heap.objs.size, .ref a, .ref s.heap.objs.size], []⟩)) _ _ _
  refine wpAny_bind (wpAny_rule ?_)
  have hS₁ : (s.heap.push { cls := .type "list", data := .seq ([] : List Value).toArray }).get? s.heap.objs.size = some { cls := .type "list", data := .seq ([] : List Value).toArray } := Heap.get?_push_size _ rfl
  refine wpAny_bind ?_
  show wpAny _ A.in1 (updateSeq s.heap.objs.size (·.push .none) >>= fun _ => updateSeq s.heap.objs.size (·.pop)) _ _ _
  refine wpAny_bind (wpAny_updateSeq hS₁ rfl ?_)
  have hS₂ := Heap.get?_update_self (Obj.mapSeq (·.push Value.none)) hS₁ rfl
  refine wpAny_updateSeq (hz := by seq_fits) hS₂ rfl ?_
  have hS₃ := Heap.get?_update_self (Obj.mapSeq (·.pop)) hS₂ rfl
  have k4 := up _ (Obj.mapSeq (·.pop)) (up _ (Obj.mapSeq (·.push Value.none)) k1)
  refine wpAny_pure ⟨plainId_quiet F.plain_extend_loop _, ?_⟩
  refine ext_X (A := A) (G := G) (res := .ref s.heap.objs.size) hr.hd (by have := hr.dp; show A.depth < _; omega) hSa hSc hal1 (fun s' acc c' H' ys e r hl2 q3 q4 q5 q6 q7 q8 => ?_) (sizeLine + 1) _ (waits0 (A := A.in1) hr.in1 hfr hg hgs hos hb hl wake (fun b hb => by rw [List.mem_singleton.mp hb]; exact Nat.le_refl _) conL_ok k4 (fun b hb => ?_) ?_ rfl rfl)
  · show wpAny _ A (load s.heap.objs.size >>= _) _ _ s'
    refine wpAny_bind (wpAny_load e ?_)
    exact wpAny_pure (hQ s' acc.toList H' ys r hl2 q3 q4 q5 q6 q8)
  · rw [List.mem_singleton.mp hb]
    exact ⟨_, hS₃, fun v z => by cases z⟩
  · exact ⟨_, _, hS₃, .nil⟩

theorem code_tuple_newX {A : Around} {E : Value → Shared → Prop} {Q₁ : Value → Shared → Prop} (hr : Room (k + 4) A) (hfr : A.frames = some outer) (h : GMadeX P w k outer H sc ex G u s) (hal1 : ∀ ys, G.alive ys)
    (hQ : ∀ (s' : Shared) (vs : List Value) (H' : Hp) (ys : List V), Vals ys vs → ys.length ≤ sizeLine → s'.os = sc.os → AllBare s'.gens → Un (frs outer) ex H H' sc.heap s'.heap → HOk P w H' s'.heap → G.fin ys H' → Q₁ (.ref s'.heap.objs.size) { s' with heap := s'.heap.push { cls := .type "tuple", data := .seq vs.toArray } }) :
    codeAny (model P w) A (.call (.builtin "tuple.__new__") ⟨[.type "tuple", u], []⟩) (wants Q₁ E) s := by
  obtain ⟨a, g, c, rfl, _, _, hg, _⟩ := id h
  refine codeAny_of_tree ?_
  show wpAny _ A.in1 (do checkBuiltinCall "tuple.__new__" ⟨[.type "tuple", .ref a], []⟩; again (.builtin "tuple.__new__" ⟨[.type "tuple", .ref a], []⟩)) _ _ s
  refine wpAny_bind (wpAny_of_eq (F.newCall_tuple_1 _) (wpAny_pure ⟨plainId_quiet F.plain_tuple_new _, codeAny_builtin F.entry_tuple_new ?_⟩))
  rw [Around.under_plainId F.plain_tuple_new _]
  have hsub := sub_tuple_self
  have hinit := init_tuple_lookup
  have hmh := madeHere_tuple
  have hTI : s.TypeIs (.ref a) "generator" := hg.typeIs
  wp_walk using wpAny_typeOf hTI, collect_X (A := A.in1) hr.in1 hfr h hal1
  intro s' vs H' ys r hl q3 q4 q5 q6 q8
  show wpAny _ _ (Builtin.Tuple.tupleExact vs.toArray >>= fun v => ret v) _ _ _
  unfold Builtin.Tuple.tupleExact
  refine wpAny_bind (wpAny_newObj_type ?_ (by show vs.toArray.size ≤ sizeLine; rw [List.size_toArray, ← r.length]; exact hl))
  refine wpAny_pure ?_
  exact hQ s' vs H' ys r hl q3 q4 q5 q6 q8
theorem call_tupleX {A : Around} {E : Value → Shared → Prop} {Q : Value → Shared → Prop} (hr : Room (k + 5) A) (hfr : A.frames = some outer) (h : GMadeX P w k outer H sc ex G u s) (hal1 : ∀ ys, G.alive ys)
    (hQ : ∀ (s' : Shared) (vs : List Value) (H' : Hp) (ys : List V), Vals ys vs → ys.length ≤ sizeLine → s'.os = sc.os → AllBare s'.gens → Un (frs outer) ex H H' sc.heap s'.heap → HOk P w H' s'.heap → G.fin ys H' → Q (.ref s'.heap.objs.size) { s' with heap := s'.heap.push { cls := .type "tuple", data := .seq vs.toArray } }) :
    wpAny (model P w) A (call (.type "tuple") [u]) Q E s := by
  refine callType_codes (Q₁ := fun obj s₁ => s₁.TypeIs obj "tuple" ∧ Q obj s₁) F.called_tuple (F.typeCall_tuple_1 _) F.entry_object_init
    (code_tuple_newX hr.in1 hfr h hal1 fun s' vs H' ys r hl q3 q4 q5 q6 q8 => ⟨⟨_, Heap.get?_push_size _ rfl, rfl⟩, hQ s' vs H' ys r hl q3 q4 q5 q6 q8⟩) fun obj s₁ h₁ => ?_
  exact ⟨h₁.1, F.args_object_init_2 obj _, object_init_meets F.called_tuple.init.lookup F.called_tuple.made (by decide) P w A.in1 _ s₁ ⟨h₁.1, rfl, h₁.2⟩⟩
end

section
variable {X : Cx} {k : Nat} {e : Expr} {tg : TGx} {p pos : Pos}
/-- behind the asking: the def's own frame -/
theorem asked {pins : List (Addr × Obj)} {σ : L2.St} {H H' : Hp} {sc s' : Shared} {ex : List Addr} (I : Inv X pins σ H sc) (hex : ExOk X pins ex) (os : s'.os = sc.os) (hb : AllBare s'.gens) (un : Un (frs X.stack) ex H H' sc.heap s'.heap) (hok : HOk X.prog X.w H' s'.heap) : Inv X pins σ H' s' :=
  I.call' (ch := ex) os un hok hb hex
def tAllX (tg : TGx) : TE := fun σ H Q => tg σ H fun G _ =>
  (∀ ys y i k H', G.alive ys → G.W (ys ++ [y]) i k H' → ∃ c : Bool, y = .bl c ∧ (c = true → G.alive (ys ++ [y])) ∧ (c = false → Q (.bl false) H')) ∧ ∀ ys H', G.alive ys → G.fin ys H' → Q (.bl true) H'
def tAnyX (tg : TGx) : TE := fun σ H Q => tg σ H fun G _ =>
  (∀ ys y i k H', G.alive ys → G.W (ys ++ [y]) i k H' → ∃ c : Bool, y = .bl c ∧ (c = false → G.alive (ys ++ [y])) ∧ (c = true → Q (.bl true) H')) ∧ ∀ ys H', G.alive ys → G.fin ys H' → Q (.bl false) H'
def tTupX (tg : TGx) : TE := fun σ H Q => tg σ H fun G _ => (∀ ys, G.alive ys) ∧ ∀ ys H', G.fin ys H' → ys.length ≤ sizeLine → ∀ p, H' p = none → Q (.ref p) (upd H' p (.tup ys))
theorem pe_allX (h : PGx X k e tg) (hr : Room (k + 3) X.A) (hg : Gl X "all") (hm : X.mg "all" = none) (hb : bootBuiltins "all" = some (.builtin "all") := by decide +kernel)
    (he : starEach [e] X.env = (false, eval e X.env) :: starEach [] X.env := by rfl) : PE X (.Call (.Name "all" p) [e] [] pos) (tAllX tg) := by
  refine ⟨fun pins s σ H Q I hq => ?_⟩
  refine wpAny_Call_Name_kw (ld_blt I hg hm hb ?_)
  refine PyProof.Rows.callWith_builtin1 ?_ he (by rfl)
  rw [he]
  show wpAny _ _ (spliced ((false, eval e X.env) :: backTo pos (starEach [] X.env))) _ _ s
  refine Calls.spliced_cons (thn (h.run pins s σ H _ I hq) fun u s1 ⟨H1, sc, ex, G, I1, hex, hG, hy, hf⟩ => ?_)
  refine Calls.spliced_nil ?_
  refine call_allX hr I1.ok.frames hG hy hf fun b s' H' q1 q2 q3 q4 q5 => ?_
  refine ⟨.bl b, H', asked I1 hex q1 q2 q3 q4, rfl, ?_⟩
  cases b with
  | true => simpa using q5
  | false => simpa using q5
theorem pe_anyX (h : PGx X k e tg) (hr : Room (k + 3) X.A) (hg : Gl X "any") (hm : X.mg "any" = none) (hb : bootBuiltins "any" = some (.builtin "any") := by decide +kernel)
    (he : starEach [e] X.env = (false, eval e X.env) :: starEach [] X.env := by rfl) : PE X (.Call (.Name "any" p) [e] [] pos) (tAnyX tg) := by
  refine ⟨fun pins s σ H Q I hq => ?_⟩
  refine wpAny_Call_Name_kw (ld_blt I hg hm hb ?_)
  refine PyProof.Rows.callWith_builtin1 ?_ he (by rfl)
  rw [he]
  show wpAny _ _ (spliced ((false, eval e X.env) :: backTo pos (starEach [] X.env))) _ _ s
  refine Calls.spliced_cons (thn (h.run pins s σ H _ I hq) fun u s1 ⟨H1, sc, ex, G, I1, hex, hG, hy, hf⟩ => ?_)
  refine Calls.spliced_nil ?_
  refine call_anyX hr I1.ok.frames hG hy hf fun b s' H' q1 q2 q3 q4 q5 => ?_
  refine ⟨.bl b, H', asked I1 hex q1 q2 q3 q4, rfl, ?_⟩
  cases b with
  | true => simpa using q5
  | false => simpa using q5
theorem pe_tupX (h : PGx X k e tg) (hr : Room (k + 5) X.A) (hg : Gl X "tuple") (hm : X.mg "tuple" = none) (hb : bootBuiltins "tuple" = some (.type "tuple") := by decide +kernel)
    (he : starEach [e] X.env = (false, eval e X.env) :: starEach [] X.env := by rfl) : PE X (.Call (.Name "tuple" p) [e] [] pos) (tTupX tg) := by
  refine ⟨fun pins s σ H Q I hq => ?_⟩
  refine wpAny_Call_Name_kw (ld_blt I hg hm hb ?_)
  refine PyProof.Rows.callWith_type1 ?_ he rfl
  rw [he]
  show wpAny _ _ (spliced ((false, eval e X.env) :: backTo pos (starEach [] X.env))) _ _ s
  refine Calls.spliced_cons (thn (h.run pins s σ H _ I hq) fun u s1 ⟨H1, sc, ex, G, I1, hex, hG, hal, hf⟩ => ?_)
  refine Calls.spliced_nil ?_
  refine call_tupleX hr I1.ok.frames hG hal fun s' vs H' ys r hl q1 q2 q3 q4 q5 => ?_
  have I2 : Inv X pins σ H' s' := asked I1 hex q1 q2 q3 q4
  have hf2 : H' s'.heap.objs.size = none := I2.hok.fresh (Nat.le_refl _)
  refine ⟨.ref s'.heap.objs.size, upd H' s'.heap.objs.size (.tup ys), I2.laid (t' := s'.toks) (fun b u e => Heap.get?_push_of_some _ e) (Nat.le_refl _) ?_, rfl, hf ys H' q5 hl _ hf2⟩
  exact ⟨hl, vs, r, ⟨_, Heap.get?_push_size _ rfl, rfl, _, rfl⟩⟩
end
end GX

set_option Elab.async false
set_option linter.all false
set_option maxRecDepth 100000
set_option maxHeartbeats 2000000
namespace GX
open PySem PySem.Spec PyProof.Rows L2 GenW

/-! ## 7. enumerate(t), t a tuple -/
theorem meets_enumerate_newT (t : Addr) (items : Array Value) :
    Meets (Builtin.«enumerate.__new__» ⟨[.type "enumerate", .ref t], []⟩) (fun _ R s => s.heap.IsTuple t items ∧
      R (.ok (.ret (.ref (s.heap.push { cls := .type "tuple_iterator", data := .fields #[.ref t, .int 0 0] }).objs.size)))
        { s with heap := (s.heap.push { cls := .type "tuple_iterator", data := .fields #[.ref t, .int 0 0] }).push { cls := .type "enumerate", data := .fields #[.none, .bool false, .ref s.heap.objs.size, rawInt 0, .none, .none] } }) :=
  .of_wp fun prog w A R s h => by
    obtain ⟨hp, g, d, tk, os⟩ := s; obtain ⟨h1, h⟩ := h
    have hsub := sub_enumerate
    have q1 : ∀ {A' : Around} {E : Value → Shared → Prop} {Q : Value → Shared → Prop}, Q (.ref hp.objs.size) ⟨hp.push { cls := .type "tuple_iterator", data := .fields #[.ref t, .int 0 0] }, g, d, tk, os⟩ → wpAny (model prog w) A' (pyIter (.ref t)) Q E ⟨hp, g, d, tk, os⟩ :=
      fun q => (begins_tuple t items).iter prog w _ _ ⟨hp, g, d, tk, os⟩ _ h1 q
    wp_walk using q1
    refine wpAny_stack_any fun st => wpAny_pure ?_
    split
    · rename_i c _ _ _ _ _
      cases (c == Value.type "enumerate")
      · wp_walk using q1
        exact ⟨_, rfl, h⟩
      · wp_walk using q1
        exact ⟨_, rfl, h⟩
    · wp_walk using q1
      exact ⟨_, rfl, h⟩
section
variable {prog : Program} {w : World} {A : Around} {E : Value → Shared → Prop} {s : Shared}
theorem call_enumerate_tuple {t : Addr} {items : Array Value} {Q : Value → Shared → Prop} (hT : s.heap.IsTuple t items)
    (h : ∀ h', IsEnum h' (s.heap.objs.size + 1) s.heap.objs.size 0 .none → h'.IsTupleIter s.heap.objs.size t 0 → h'.objs.size = s.heap.objs.size + 2 →
      (∀ b o, s.heap.get? b = some o → h'.get? b = some o) → Q (.ref (s.heap.objs.size + 1)) { s with heap := h' }) :
    wpAny (model prog w) A (call (.type "enumerate") [.ref t]) Q E s := by
  refine callType_new F.called_enumerate (by decide) (F.typeCall_enumerate_1 _) (F.newCall_enumerate_1 _) (fun obj => F.args_object_init_2 obj _) F.entry_enumerate_new
    (meets_enumerate_newT t items) ⟨hT, ?_⟩
  have hz : (s.heap.push { cls := .type "tuple_iterator", data := .fields #[.ref t, .int 0 0] }).objs.size = s.heap.objs.size + 1 := Heap.size_push ..
  show _ ∧ _
  rw [hz]
  have he : IsEnum ((s.heap.push { cls := .type "tuple_iterator", data := .fields #[.ref t, .int 0 0] }).push
      { cls := .type "enumerate", data := .fields #[.none, .bool false, .ref s.heap.objs.size, rawInt 0, .none, .none] }) (s.heap.objs.size + 1) s.heap.objs.size 0 .none := by
    have := Heap.get?_push_size (s.heap.push { cls := .type "tuple_iterator", data := .fields #[.ref t, .int 0 0] })
      (o := { cls := .type "enumerate", data := .fields #[.none, .bool false, .ref s.heap.objs.size, rawInt 0, .none, .none] }) rfl
    rw [hz] at this; exact this
  refine ⟨⟨_, he, rfl⟩, h _ he ⟨_, Heap.get?_push_of_some _ (Heap.get?_push_size _ rfl), rfl, rfl⟩ (by rw [Heap.size_push, hz]) fun b o x => Heap.get?_push_of_some _ (Heap.get?_push_of_some _ x)⟩
end
def IteT (K : PySem.W.Frag) (a : Addr) : It :=
  ⟨fun i H => ∃ (xs : List V) (x : V), SqT K H a xs ∧ xs[i]? = some x, fun i H v H' => ∃ T x, v = .ref T ∧ H T = none ∧ H' = upd H T (.tup [.int (i : Nat), x]) ∧ ∀ xs, SqT K H a xs → xs[i]? = some x, fun i H => ∃ xs : List V, SqT K H a xs ∧ xs.length ≤ i⟩
theorem turn_enumT {P : Program} {w : World} {K : PySem.W.Frag} {elts : List Expr} {kk : Nat} {tpos : Pos} (a e it : Addr) (hae : a ≠ e) (hai : a ≠ it) :
    Turn P w K (.Tuple elts kk tpos) (IteT K a) [e, it] e (fun i h => (∃ old, IsEnum h e it ((i : Nat) : Int) old) ∧ h.IsTupleIter it a i ∧ e ≠ it) where
  mem := by simp
  obj := fun i h st b hb => by
    obtain ⟨⟨old, he⟩, ⟨o, ho, hc, hd⟩, _⟩ := st
    have e' : b = e ∨ b = it := by simpa using hb
    rcases e' with z | z
    · rw [z]; exact ⟨_, he, fun v q => nomatch q⟩
    · rw [z]; exact ⟨o, ho, fun v q => by rw [hd] at q; cases q⟩
  keep := fun i h h' st k => let ⟨⟨old, he⟩, hi, hne⟩ := st; ⟨⟨old, k e (by simp) _ he⟩, hi.at fun o q => k it (by simp) o q, hne⟩
  item := by
    intro X hP hw hK hc i pins s σ H E I hf st hg
    subst hP hw hK
    obtain ⟨⟨old, he⟩, hit, hne⟩ := st
    obtain ⟨xs, x, hq, hx⟩ := hg
    obtain ⟨its, rv, p, hz⟩ := I.tuple hq
    obtain ⟨u, hu, ru⟩ := rv.get hx
    have hel : e < s.heap.objs.size := Heap.lt_size he
    have hil : it < s.heap.objs.size := by obtain ⟨_, q, _⟩ := hit; exact Heap.lt_size q
    have hlt : i < its.toArray.size := by
      have q := (List.getElem?_eq_some_iff.mp hu).1
      simpa using q
    have D := Draws.tuple (prog := X.prog) (w := X.w) (A := X.A.in1) (I.ok.hd hc) it a hai its.toArray
    refine wpAny_pyNext_enum_itemD D he ⟨hit, p⟩ hlt hne (by simp [Ne.symm hae, hne]) fun x' h' tk hP ho hst' hT hsz hk => ?_
    obtain rfl : x' = u := by
      have q : its.toArray[i]? = some u := by simpa using hu
      exact Option.some.inj (hP.symm.trans q)
    obtain ⟨hit', _⟩ := hst'
    refine ⟨_, rfl, wpAny_letOwnedTupleGo_enum (s := { s with heap := h', toks := tk + 1 }) ho fun h'' he' sb => ?_⟩
    have hT2 : h''.get? s.heap.objs.size = some { cls := .type "tuple", data := .seq #[.int i tk, x'] } := (sb.2 _ (Nat.ne_of_gt hel)).trans hT
    have new : ObjOk X.prog X.w (upd H s.heap.objs.size (.tup [.int (i : Nat), x])) h'' s.heap.objs.size (.tup [.int (i : Nat), x]) :=
      ⟨by show 2 ≤ sizeLine; decide, [.int i tk, x'], .cons ⟨_, rfl⟩ (.cons ru .nil), ⟨_, hT2, rfl, _, rfl⟩⟩
    have I1 : Inv X pins σ (upd H s.heap.objs.size (.tup [.int (i : Nat), x])) { s with heap := h'', toks := tk + 1 } :=
      I.turnedNew (ch := [e, it]) (fun b ob hb q => (sb.2 b (fun z => hb (by simp [z]))).trans (hk b ob (fun z => hb (by simp [z])) (fun z => hb (by simp [z])) q)) hf (Nat.le_refl _) new
    refine ⟨.ref s.heap.objs.size, _, I1, rfl, ⟨_, x, rfl, I.hok.fresh (Nat.le_refl _), rfl, fun ys hy => by rw [I.tuple_inj hy hq]; exact hx⟩, ⟨⟨x', ?_⟩, hit'.at fun o q => (sb.2 it (Ne.symm hne)).trans q, hne⟩, fun b hb => ?_⟩
    · have e1 : ((i + 1 : Nat) : Int) = (i : Int) + 1 := by omega
      rw [e1]; exact he'
    · have hb' : b < s.heap.objs.size := by
        have e' : b = e ∨ b = it := by simpa using hb
        rcases e' with z | z
        · rw [z]; exact hel
        · rw [z]; exact hil
      rw [upd_ne (Nat.ne_of_lt hb')]
      exact (hf b hb).1
  done := by
    intro X hP hw hK hc i pins s σ H E I hf st hg
    subst hP hw hK
    obtain ⟨⟨old, he⟩, hit, hne⟩ := st
    obtain ⟨xs, hq, hx⟩ := hg
    obtain ⟨its, rv, p, hz⟩ := I.tuple hq
    obtain ⟨f0, f1, f2, f3, f4, f5⟩ := hf it (by simp)
    have hl := rv.length
    have hh : X.A.in1.handled = none := I.ok.hd hc
    have hT : s.TypeIs (.ref e) "enumerate" := ⟨_, he, rfl⟩
    unfold pyNext
    refine wpAny_bind (wpAny_attempt (wpAny_callSpecial?_slot (name := Str.ofString "__next__") hT F.slot_enumerate_next
      (wpAny_call_entry F.slot_enumerate_next hT F.entry_enumerate_next ?_ (F.args_enumerate_next_1 _))))
    show wpAny _ _ (field (.ref e) 2 >>= _) _ _ _
    refine wpAny_bind (wpAny_field he rfl (x := .ref it) rfl ?_)
    refine wpAny_bind (wpAny_nextOf_tuple_end hh hit (show s.heap.IsTuple a its.toArray from p) (by simp; omega) fun h' x he' hx' => ?_)
    obtain ⟨o, ho, hcc⟩ := hx'
    refine wpAny_bind (wpAny_isInstance (T := "StopIteration") (b := true) ⟨o, ho, hcc⟩ isSubtype_stop ?_)
    exact wpAny_pure ⟨rfl, I.turned (t' := s.toks) (fun b o hb q => he' b o hb q) f0 f1 f3 f4 f5⟩
  self := fun A i s Q E st h => let ⟨⟨_, he⟩, _⟩ := st; wpAny_pyIter_enum he h
/-- enumerate over a list or a tuple -/
def iEnumA (K : PySem.W.Frag) (ta : TA) : TI := fun σ H R => ta σ H fun vs H1 => ∃ a xs, vs = [.ref a] ∧ ((SqL K H1 a xs ∧ R (Ite K a) H1) ∨ (SqT K H1 a xs ∧ R (IteT K a) H1))
theorem pi_enumA {X : Cx} {e : Expr} {ta : TA} {p pos tpos : Pos} {elts : List Expr} {kk : Nat} (hg : Gl X "enumerate") (hm : X.mg "enumerate" = none) (ha : PA X [e] ta) (hs : starEach [e] X.env = [(false, eval e X.env)] := by rfl) :
    PI X (.Tuple elts kk tpos) (.Call (.Name "enumerate" p) [e] [] pos) (iEnumA X.K ta) := by
  refine ⟨fun pins s σ H R I h => ?_⟩
  refine Call_ (ld_blt I hg hm boot_enumerate (PyProof.Rows.callWith_type1 (thn (ha.run pos pins s σ H _ I h) fun us s1 ⟨vs, H1, I1, r1, q1⟩ => ?_) hs rfl))
  obtain ⟨a, xs, ex, q1⟩ := q1
  subst ex
  cases r1 with
  | cons r rr =>
    cases rr
    cases r
    have fr : ∀ b, b ∈ [s1.heap.objs.size + 1, s1.heap.objs.size] → FpOk X pins H1 b := fun b hb => by
      have e' : b = s1.heap.objs.size + 1 ∨ b = s1.heap.objs.size := by simpa using hb
      have hle : s1.heap.objs.size ≤ b := by
        rcases e' with z | z
        · rw [z]; exact Nat.le_add_right _ _
        · rw [z]; exact Nat.le_refl _
      exact I1.fpOk hle (I1.hok.fresh hle)
    rcases q1 with ⟨hq, q⟩ | ⟨hq, q⟩
    · obtain ⟨its, rv, p', hz⟩ := I1.list hq
      refine call_enumerate_list p'.isList fun h' he hit hsz hk => wpAny_pyIter_enum he ?_
      have I2 : Inv X pins σ H1 { s1 with heap := h' } := I1.kept (t' := s1.toks) hk
      exact ⟨s1.heap.objs.size + 1, [s1.heap.objs.size + 1, s1.heap.objs.size], _, _, H1, rfl, I2, turn_enum a (s1.heap.objs.size + 1) s1.heap.objs.size, ⟨⟨.none, he⟩, hit, Nat.succ_ne_self _⟩, fr, q⟩
    · obtain ⟨its, rv, p', hz⟩ := I1.tuple hq
      have hlt : a < s1.heap.objs.size := by obtain ⟨o, ho, _⟩ := id p'; exact Heap.lt_size ho
      refine call_enumerate_tuple (show s1.heap.IsTuple a its.toArray from p') fun h' he hit hsz hk => wpAny_pyIter_enum he ?_
      have I2 : Inv X pins σ H1 { s1 with heap := h' } := I1.kept (t' := s1.toks) hk
      exact ⟨s1.heap.objs.size + 1, [s1.heap.objs.size + 1, s1.heap.objs.size], _, _, H1, rfl, I2, turn_enumT a (s1.heap.objs.size + 1) s1.heap.objs.size (Nat.ne_of_lt (Nat.lt_succ_of_lt hlt)) (Nat.ne_of_lt hlt), ⟨⟨.none, he⟩, hit, Nat.succ_ne_self _⟩, fr, q⟩
end GX

set_option Elab.async false
set_option linter.all false
set_option maxRecDepth 100000
set_option maxHeartbeats 2000000
namespace GX
open PySem PySem.Spec PyProof.Rows L2 GenW
/-! ## 7. generator expressions of two clauses: their turns -/
def ge2 (elt tg0 iter0 : Expr) (ifs0 : List Expr) (tg1 iter1 : Expr) (ifs1 : List Expr) (scope : Scope) (pos : Pos) : Expr := .GeneratorExp elt [⟨tg0, iter0, ifs0, 0⟩, ⟨tg1, iter1, ifs1, 0⟩] scope pos
section
variable {elt tg0 iter0 tg1 iter1 : Expr} {ifs0 ifs1 : List Expr} {scope : Scope} {pos : Pos} {it acc : Value} {env : Env}
/-- the outer clause: the inner one is a run of its own -/
theorem turn2_outer : compTurn (ge2 elt tg0 iter0 ifs0 tg1 iter1 ifs1 scope pos) 0 it acc env = (do
      standAt iter0.pos
      match ← pyNext it with
      | none => pure (.done .next)
      | some v =>
        letOwnedTupleGo tg0 it v
        assign tg0 env v
        let mut ok := true
        for c in ifs0 do
          if ok then ok ← isTrue c env (eval c env)
        if ok then
          let x ← eval iter1 env
          standAt iter1.pos
          let x ← foldedSetIterable iter1 env x
          let _ ← runOwn (.compStart (ge2 elt tg0 iter0 ifs0 tg1 iter1 ifs1 scope pos) 1 (← holding [x] (pyIter x)) acc env) env
        again (.compLoop (ge2 elt tg0 iter0 ifs0 tg1 iter1 ifs1 scope pos) 0 it acc env)) := by rfl
/-- the inner clause hands out -/
theorem turn2_inner : compTurn (ge2 elt tg0 iter0 ifs0 tg1 iter1 ifs1 scope pos) 1 it acc env = (do
      standAt iter1.pos
      match ← pyNext it with
      | none => pure (.done .next)
      | some v =>
        letOwnedTupleGo tg1 it v
        assign tg1 env v
        let mut ok := true
        for c in ifs1 do
          if ok then ok ← isTrue c env (eval c env)
        if ok then
          (do let v ← eval elt env; standAt elt.pos; let _ ← yieldOut env v)
        again (.compLoop (ge2 elt tg0 iter0 ifs0 tg1 iter1 ifs1 scope pos) 1 it acc env)) := by rfl
end
end GX

set_option Elab.async false
set_option linter.all false
set_option maxRecDepth 100000
set_option maxHeartbeats 2000000
namespace GX
open PySem PySem.Spec PyProof.Rows L2 GenW
/-! ## 8. generator expressions of two clauses: the run -/
theorem over_gen1 {A : Around} {elt : Expr} {gens : List Comprehension} {scope : Scope} {pos p : Pos} {it it0 acc : Value} {env : Env} {k : Result → Sem PySem.Fin} {g : Bool} {l kp : List Value} :
  A.over (.compLoop (.GeneratorExp elt gens scope pos) 1 it acc env) [.ret k none g l (.compLoop (.GeneratorExp elt gens scope pos) 0 it0 acc env) p kp] = A.deeper env := by rfl
def GTurn2 (J : It) (g : TG) (tt : TT) (wi1 : TI) (g1 : TG) (tt1 : TT) (te : TE) (vs vs1 : List Nat) (σ : L2.St) (W0 : List V → Nat → Nat → Hp → Prop) (G : GWs) : Prop := ∀ ys i m H, G.alive ys → W0 ys i m H →
  (J.stop i H ∧ G.fin ys H) ∨ (J.go i H ∧ ∃ NX : List V → Hp → Prop, (∀ ys' H', NX ys' H' → ∃ m', m' < m ∧ W0 ys' (i + 1) m' H') ∧
    ∀ x H', J.yld i H x H' → g x (wipe σ vs) H' fun σ2 H2 => wipe σ2 vs = wipe σ vs ∧ tt σ2 H2 fun b H3 => if b = true then wi1 σ2 H3 fun J1 H4 => ∃ W1 : List V → Nat → Nat → Hp → Prop, (∃ k, W1 ys 0 k H4) ∧ ∀ ys1 j k H, G.alive ys1 → W1 ys1 j k H →
      (J1.stop j H ∧ NX ys1 H) ∨ (J1.go j H ∧ ∃ (NF : Hp → Prop) (NY : V → Hp → Prop), (∀ H', NF H' → ∃ k', k' < k ∧ W1 ys1 (j + 1) k' H') ∧ (∀ y H', NY y H' → (∃ i m, G.W (ys1 ++ [y]) i m H') ∧ ∃ k', k' < k ∧ W1 (ys1 ++ [y]) (j + 1) k' H') ∧
        ∀ x1 H', J1.yld j H x1 H' → g1 x1 (wipe σ2 vs1) H' fun σ3 H5 => wipe σ3 vs1 = wipe σ2 vs1 ∧ tt1 σ3 H5 fun b1 H6 => if b1 = true then te σ3 H6 fun y H7 => ys1.length < sizeLine ∧ NY y H7 else NF H6)
    else NX ys H3)
section
variable {X : Cx} {s0 : Shared} {H0 : Hp} {ge : Env} {fp cs : List Addr} {A : Around} {a : Addr} {go : Obj} {gn : Nat}
/-- woken again, with more pinned -/
theorem inv_wokenP {cob pl : List (Addr × Obj)} {C : List V → Heap → Prop} {σ : L2.St} {H : Hp} {s s' : Shared} {ys : List V} (I : Inv (gcx X s0 H0 ge fp A [(a, go)]) (cob ++ pl) σ H s) (hcob : ∀ b ∈ cs, ∃ p ∈ cob, p.1 = b) (hpl : ∀ p ∈ pl, p.1 ∉ cs) (hac : a ∉ cs)
    (hlo : ∀ b ∈ cs, s0.heap.objs.size ≤ b) (z : Woke cs C ys s s') :
    ∃ cob', (∀ b ∈ cs, ∃ p ∈ cob', p.1 = b) ∧ (∀ p ∈ cob', p.1 ∈ cs) ∧ Inv (gcx X s0 H0 ge fp A [(a, go)]) (cob' ++ pl) σ H s' := by
  have at_ : ∀ b ∈ cs, ∃ o, s.heap.get? b = some o ∧ H b = none ∧ b ≠ ge.locals ∧ b ∉ frs X.stack ∧ ∀ v, o.data ≠ .cell v := fun b hb => by
    obtain ⟨p, hp, e⟩ := hcob b hb
    obtain ⟨h1, h2, h3, h4, h5⟩ := I.pin p (List.mem_append_right _ (List.mem_append_left _ hp))
    rw [e] at h1 h2 h3 h4
    exact ⟨p.2, h1, h2, h3, h4, h5⟩
  have nt : ∀ b u, H b = some u → b ∉ cs := fun b u q hb => by
    obtain ⟨_, _, n, _⟩ := at_ b hb
    rw [n] at q
    cases q
  have I0 : Inv (gcx X s0 H0 ge fp A [(a, go)]) pl σ H s := I.pins_of fun p hp => I.pin p (List.mem_append_right _ (List.mem_append_right _ hp))
  obtain ⟨z1, z2, z3, z4, z5⟩ := z
  obtain ⟨hh, g, d, t, o⟩ := s'
  have ho : o = s.os := z1
  subst ho
  have J : Inv (gcx X s0 H0 ge fp A [(a, go)]) pl σ H { s with heap := hh, gens := g, drawn := d, toks := t } := by
    refine I0.step (g' := g) (t' := t) (d' := d) (ch := cs) (fun b hb => ?_)
      (fun b ob _ _ hc q _ => z3 b ob hc q) (fun b ob _ _ hc q _ => ⟨ob.slots, z3 b ob hc q⟩) (fun _ _ _ _ n => n) (fun b ob hc q => ⟨ob, z3 b ob hc q⟩)
      (fun _ _ q => q) (fun _ _ _ q => q) (fun b ps q => ⟨#[], by rw [q]; simp⟩) (fun m hm => ?_) (fun b u q => ?_) z2
    · obtain ⟨ob, e1, e2, e3, e4, e5⟩ := at_ b hb
      refine ⟨.inr (hlo b hb), e3, fun x c e q => ?_, fun p hp q => ?_⟩
      · obtain ⟨v, o', ho', hd'⟩ := I0.cell x c e
        rw [q, e1] at ho'
        cases ho'
        exact e5 v hd'
      · have hp : p ∈ [(a, go)] ++ pl := hp
        rcases List.mem_append.mp hp with hp | hp
        · have e : p = (a, go) := by simpa using hp
          rw [e] at q
          exact hac (by rw [show a = b from q]; exact hb)
        · exact hpl p hp (by rw [q]; exact hb)
    · obtain ⟨ob, es, ep, ho, r⟩ := hm
      refine ⟨ob, es, ep, z3 _ ob (fun hb => ?_) ho, r⟩
      obtain ⟨_, _, _, e3, _⟩ := at_ _ hb
      exact e3 rfl
    · refine (I0.hok b u q).stay (fun c v hc y => z3 c v ?_ y) (fun _ y => y) fun _ _ y => y
      rcases hc with y | y
      · rw [y]; exact nt b u q
      · exact nt c _ y
  refine ⟨pinsAt cs hh, fun b hb => ?_, fun p hp => (of_pinsAt hp).1, J.pins_of fun p hp => ?_⟩
  · obtain ⟨ob, e, _⟩ := z4 b hb
    exact ⟨(b, ob), mem_pinsAt hb e, rfl⟩
  · rcases List.mem_append.mp hp with hp' | hp'
    · obtain ⟨hb, e⟩ := of_pinsAt hp'
      obtain ⟨ob, _, e2, e3, e4, _⟩ := at_ p.1 hb
      obtain ⟨ob', e', d'⟩ := z4 p.1 hb
      have e' : hh.get? p.1 = some ob' := e'
      rw [e] at e'
      cases e'
      exact ⟨e, e2, e3, e4, d'⟩
    · exact J.pin p (List.mem_append_right _ hp')

/-- the inner loop -/
theorem seg_iloop {elt tg0 iter0 tg1 iter1 : Expr} {ifs0 ifs1 : List Expr} {scope : Scope} {pos p : Pos} {it0 : Value} {it : Addr} {J : It} {fp1 : List Addr} {tn : Nat → Heap → Prop} {g : TG} {tt : TT} {te : TE} {vs1 : List Nat} {σ2 : L2.St} {G : GWs} {C : List V → Heap → Prop} {W1 : List V → Nat → Nat → Hp → Prop} {NX : List V → Hp → Prop}
    {kk : Result → Sem PySem.Fin} {gd : Bool} {lv kp : List Value} {pl : List (Addr × Obj)} (hgd : gd = false)
    (T : Turn X.prog X.w X.K tg1 J fp1 it tn) (hco : ge.scope.isCoroutine = false) (hg0 : go.cls = .type "generator" ∧ (∃ nm qn, go.data = .fields #[.int gn 0, nm, qn]) ∧ go.slots = #[])
    (hg : PG (gcx X s0 H0 ge fp A [(a, go)]) tg1 g) (ht : PTs (gcx X s0 H0 ge fp A [(a, go)]) ifs1 tt) (he : PE (gcx X s0 H0 ge fp A [(a, go)]) elt te)
    (turn : ∀ ys1 j k H, G.alive ys1 → W1 ys1 j k H →
      (J.stop j H ∧ NX ys1 H) ∨ (J.go j H ∧ ∃ (NF : Hp → Prop) (NY : V → Hp → Prop), (∀ H', NF H' → ∃ k', k' < k ∧ W1 ys1 (j + 1) k' H') ∧ (∀ y H', NY y H' → (∃ i m, G.W (ys1 ++ [y]) i m H') ∧ ∃ k', k' < k ∧ W1 (ys1 ++ [y]) (j + 1) k' H') ∧
        ∀ x1 H', J.yld j H x1 H' → g x1 (wipe σ2 vs1) H' fun σ3 H5 => wipe σ3 vs1 = wipe σ2 vs1 ∧ tt σ3 H5 fun b1 H6 => if b1 = true then te σ3 H6 fun y H7 => ys1.length < sizeLine ∧ NY y H7 else NF H6))
    (hst : ∀ (cob : List (Addr × Obj)) (H' : Hp), (∀ p ∈ cob, p.1 ∈ cs) → (∀ b ∈ fp1, H' b = none) → ∀ b ∈ fp1, FpOk (gcx X s0 H0 ge fp A [(a, go)]) (cob ++ pl) H' b)
    (hpl : ∀ p ∈ pl, p.1 ∉ cs) (hac : a ∉ cs) (hfc : ∀ b ∈ fp1, b ∉ cs) (hlo : ∀ b ∈ cs, s0.heap.objs.size ≤ b) (hC : ConC cs C)
    (hend : ∀ (n : Nat) (ys : List V) (H : Hp) (cob : List (Addr × Obj)) (s₀ s : Shared), (n + ys.length = sizeLine + 1 ∧ 1 ≤ n) → G.alive ys → NX ys H → (∀ b ∈ cs, ∃ p ∈ cob, p.1 = b) → (∀ p ∈ cob, p.1 ∈ cs) → Inv (gcx X s0 H0 ge fp A [(a, go)]) (cob ++ pl) (wipe σ2 vs1) H s → C ys s.heap →
      Seg (model X.prog X.w) A (RX' X.prog X.w X.stack H0 s0 fp cs C G) (YX X.prog X.w X.stack H0 s0 fp cs C a gn G) n s₀ (.compLoop (ge2 elt tg0 iter0 ifs0 tg1 iter1 ifs1 scope pos) 0 it0 .none ge) (kk (.ok .next)) [] s) :
    ∀ (m n j : Nat) (ys : List V) (H : Hp) (cob : List (Addr × Obj)) (s₀ s : Shared), (n + ys.length = sizeLine + 1 ∧ 1 ≤ n) → G.alive ys → W1 ys j m H → (∀ b ∈ cs, ∃ p ∈ cob, p.1 = b) → (∀ p ∈ cob, p.1 ∈ cs) → Inv (gcx X s0 H0 ge fp A [(a, go)]) (cob ++ pl) (wipe σ2 vs1) H s → tn j s.heap → (∀ b ∈ fp1, H b = none) → C ys s.heap →
      Seg (model X.prog X.w) A (RX' X.prog X.w X.stack H0 s0 fp cs C G) (YX X.prog X.w X.stack H0 s0 fp cs C a gn G) n s₀
        (.compLoop (ge2 elt tg0 iter0 ifs0 tg1 iter1 ifs1 scope pos) 1 (.ref it) .none ge) ((model X.prog X.w).den (.compLoop (ge2 elt tg0 iter0 ifs0 tg1 iter1 ifs1 scope pos) 1 (.ref it) .none ge)) [.ret kk none gd lv (.compLoop (ge2 elt tg0 iter0 ifs0 tg1 iter1 ifs1 scope pos) 0 it0 .none ge) p kp] s := by
  subst hgd
  have ov : A.over (.compLoop (ge2 elt tg0 iter0 ifs0 tg1 iter1 ifs1 scope pos) 1 (.ref it) .none ge) [.ret kk none false lv (.compLoop (ge2 elt tg0 iter0 ifs0 tg1 iter1 ifs1 scope pos) 0 it0 .none ge) p kp] = A.deeper ge := over_gen1
  intro m
  induction m using Nat.strongRecOn with
  | ind m ih =>
  intro n i ys H cob s₀ s hn hal hW hcb hcc I st nf hCs
  show Seg _ A _ _ _ s₀ _ ((compTurn (ge2 elt tg0 iter0 ifs0 tg1 iter1 ifs1 scope pos) 1 (.ref it) .none ge).onRaise _) _ s
  rw [turn2_inner, Sem.onRaise_eq_wrap]
  refine seg_bind_wrap (wpAny_standAt ?_)
  have done_of : ∀ {ys : List V} {n : Nat} {H1 : Hp} {s1 : Shared} {cob : List (Addr × Obj)} {σ1 : L2.St}, (∀ b ∈ cs, ∃ p ∈ cob, p.1 = b) → Inv (gcx X s0 H0 ge fp A [(a, go)]) (cob ++ pl) σ1 H1 s1 → (∀ b ∈ cs, H1 b = none) ∧ OwnC cs s1.heap := fun {ys n H1 s1 cob σ1} hcb I1 => by
    refine ⟨fun b hb => ?_, fun b hb => ?_⟩
    · obtain ⟨p, hp, e⟩ := hcb b hb
      have q := (I1.pin p (List.mem_append_right _ (List.mem_append_left _ hp))).2.1
      rw [e] at q
      exact q
    · obtain ⟨p, hp, e⟩ := hcb b hb
      obtain ⟨q, _, _, _, d⟩ := I1.pin p (List.mem_append_right _ (List.mem_append_left _ hp))
      rw [e] at q
      exact ⟨p.2, q, d⟩
  have conK : ∀ {ys : List V} {H1 : Hp} {s s1 : Shared} {cob ql : List (Addr × Obj)} {σ σ1 : L2.St} {H : Hp}, (∀ b ∈ cs, ∃ p ∈ cob, p.1 = b) → Inv (gcx X s0 H0 ge fp A [(a, go)]) (cob ++ pl) σ H s → C ys s.heap → Inv (gcx X s0 H0 ge fp A [(a, go)]) ((cob ++ pl) ++ ql) σ1 H1 s1 → C ys s1.heap := fun {ys H1 s s1 cob ql σ σ1 H} hcb I hCs I1 => by
    refine hC ys _ _ hCs fun b hb o e => ?_
    obtain ⟨p, hp, e'⟩ := hcb b hb
    have q0 := (I.pin p (List.mem_append_right _ (List.mem_append_left _ hp))).1
    have q := (I1.pin p (List.mem_append_right _ (List.mem_append_left _ (List.mem_append_left _ hp)))).1
    rw [e', e] at q0
    cases q0
    rw [e'] at q
    exact q
  rcases turn ys i m H hal hW with ⟨stop, hfin⟩ | ⟨go', NF, NY, hNF, hNY, step⟩
  · have td := T.done (gcx X s0 H0 ge fp A [(a, go)]) rfl rfl rfl rfl i (cob ++ pl) s _ H (fun _ _ => False) I (hst cob H hcc nf) st stop
    refine seg_bind_wrap ?_
    rw [ov]
    refine wpAny_mono td (fun r s6 ⟨hr, I6⟩ => ?_) fun _ _ q => q.elim
    subst hr
    refine seg_leaf (.ok .next) (hend n ys H cob s₀ s6 hn hal hfin hcb hcc I6 (conK (ql := []) hcb I hCs (by rw [List.append_nil]; exact I6)))
  · have ti := T.item (gcx X s0 H0 ge fp A [(a, go)]) rfl rfl rfl rfl i (cob ++ pl) s _ H (fun _ _ => False) I (hst cob H hcc nf) st go'
    refine seg_bind_wrap ?_
    rw [ov]
    refine wpAny_mono ti (fun r s6 ⟨u, hr, h6⟩ => ?_) fun _ _ q => q.elim
    subst hr
    refine seg_bind_wrap ?_
    rw [ov]
    refine wpAny_mono h6 (fun _ s7 ⟨x, H7, I7, r7, y7, st7, n7⟩ => ?_) fun _ _ q => q.elim
    have I7' := I7.pinned (hst cob H7 hcc n7) (T.obj _ _ st7)
    refine seg_bind_wrap ?_
    rw [ov]
    refine wpAny_mono (hg.run _ s7 _ H7 x u _ I7' r7 (step x H7 y7)) (fun _ s8 ⟨σ8, H8, I8, hw8, q8⟩ => ?_) fun _ _ q => False.elim q
    refine seg_bind_wrap ?_
    rw [ov]
    refine wpAny_mono (ht.run _ s8 σ8 H8 _ I8 q8) (fun b s9 ⟨H9, I9, q9⟩ => ?_) fun _ _ q => False.elim q
    have hl : (wipe σ2 vs1).length = σ8.length := by rw [← hw8, wipe_length]
    -- back at the loop's head
    have back : ∀ {H' : Hp} {s' : Shared} {cob' : List (Addr × Obj)}, Inv (gcx X s0 H0 ge fp A [(a, go)]) ((cob' ++ pl) ++ pinsAt fp1 s7.heap) σ8 H' s' → Inv (gcx X s0 H0 ge fp A [(a, go)]) (cob' ++ pl) (wipe σ2 vs1) H' s' ∧ tn (i + 1) s'.heap ∧ (∀ b ∈ fp1, H' b = none) := fun {H' s' cob'} I' => by
      have pin' : ∀ b ∈ fp1, ∀ o, s7.heap.get? b = some o → s'.heap.get? b = some o ∧ H' b = none := fun b hb o e =>
        let z := I'.pin (b, o) (List.mem_append_right _ (List.mem_append_right _ (mem_pinsAt hb e)))
        ⟨z.1, z.2.1⟩
      refine ⟨(I'.unpinned).weak hl (fun j v e => ?_), T.keep _ _ _ st7 fun b hb o e => (pin' b hb o e).1, fun b hb => ?_⟩
      · rw [← hw8] at e
        exact (wipe_some e).1
      · obtain ⟨o, e, _⟩ := T.obj _ _ st7 b hb
        exact (pin' b hb o e).2
    cases b with
    | false =>
      simp only [Bool.false_eq_true, if_false] at q9 ⊢
      obtain ⟨m', hm, w'⟩ := hNF _ q9
      obtain ⟨b1, b2, b3⟩ := back I9
      exact seg_again rfl (ih m' hm n (i + 1) ys H9 cob s₀ s9 hn hal w' hcb hcc b1 b2 b3 (conK hcb I hCs I9))
    | true =>
      simp only [if_true] at q9 ⊢
      have hy : ∀ v, yieldOut ge v = yieldValue v := fun v => by simp only [yieldOut, hco, Bool.false_eq_true, if_false]
      simp only [hy]
      rw [Sem.bind_eq_wrap', Sem.bind_eq_wrap', Sem.wrap_wrap, Sem.wrap_wrap]
      refine seg_wrap ?_
      rw [ov]
      refine wpAny_mono (he.run _ s9 σ8 H9 _ I9 q9) (fun z s10 ⟨yv, H10, I10, r10, hlt, ny⟩ => ?_) fun _ _ q => False.elim q
      obtain ⟨hGW, m', hm, w'⟩ := hNY _ _ ny
      obtain ⟨n', rfl⟩ : ∃ k, n = k + 1 := ⟨n - 1, by omega⟩
      obtain ⟨b1, b2, b3⟩ := back I10
      obtain ⟨d1, d2⟩ := done_of (ys := ys) (n := n') hcb I10.unpinned
      have hC10 : C ys s10.heap := conK hcb I hCs I10
      have hgen : s10.heap.IsGen a gn := by
        obtain ⟨c1, ⟨nm, qn, c2⟩, c3⟩ := hg0
        exact ⟨go, nm, qn, (I10.pin (a, go) (List.mem_append_left _ (List.mem_singleton.mpr rfl))).1, c1, c2, c3⟩
      refine seg_at (seg_yield rfl rfl rfl ⟨H10, ys, yv, ⟨by omega, hlt⟩, I10.os, I10.bare, I10.nolimit, hgen, I10.base, I10.hok, d1, hC10, d2, hal, r10, hGW, fun s' wk hal' => ?_⟩)
      obtain ⟨cob', e1, e2, I11⟩ := inv_wokenP b1 hcb hpl hac hlo wk
      refine seg_again rfl (ih m' hm n' (i + 1) (ys ++ [yv]) H10 cob' s' s' (by rw [List.length_append, List.length_singleton]; exact ⟨by omega, by omega⟩) hal' w' e1 e2 I11 (T.keep _ _ _ b2 fun b hb o e => wk.keep b o (hfc b hb) e) b3 wk.con)
end
end GX

set_option Elab.async false
set_option linter.all false
set_option maxRecDepth 100000
set_option maxHeartbeats 2000000
namespace GX
open PySem PySem.Spec PyProof.Rows L2 GenW
/-! ## 9. generator expressions of two clauses: the outer run, the value -/
theorem start2 {P : Program} {w : World} {K : PySem.W.Frag} {A : Around} {R : GenEnd} {Y : Protocol} {n : Nat} {s₀ s : Shared} {fs : List PySem.Frame} {elt tg0 iter0 tg1 iter1 : Expr} {ifs0 ifs1 : List Expr} {scope : Scope} {pos : Pos} {it1 : Addr} {ge : Env} {J : It} {fp1 : List Addr} {tn : Nat → Heap → Prop}
    (T1 : Turn P w K tg1 J fp1 it1 tn) (st : tn 0 s.heap) (loop : Seg (model P w) A R Y n s₀ (.compLoop (ge2 elt tg0 iter0 ifs0 tg1 iter1 ifs1 scope pos) 1 (.ref it1) .none ge) ((model P w).den (.compLoop (ge2 elt tg0 iter0 ifs0 tg1 iter1 ifs1 scope pos) 1 (.ref it1) .none ge)) fs s) :
    Seg (model P w) A R Y n s₀ (.compStart (ge2 elt tg0 iter0 ifs0 tg1 iter1 ifs1 scope pos) 1 (.ref it1) .none ge) ((model P w).den (.compStart (ge2 elt tg0 iter0 ifs0 tg1 iter1 ifs1 scope pos) 1 (.ref it1) .none ge)) fs s := by
  show Seg _ A _ _ _ s₀ _ ((compStart (ge2 elt tg0 iter0 ifs0 tg1 iter1 ifs1 scope pos) 1 (.ref it1) .none ge).onRaise _) _ s
  unfold compStart
  rw [Sem.onRaise_eq_wrap]
  show Seg _ A _ _ _ s₀ _ ((ask >>= _).wrap _ _ _ _) _ s
  refine seg_bind_wrap (wpAny_askSetting ?_)
  split
  · exact seg_again rfl loop
  · first
      | exact seg_bind_wrap (wpAny_rule (seg_bind_wrap (wpAny_standAt (seg_bind_wrap (T1.self _ 0 s _ _ st (seg_again rfl loop))))))
      | (refine seg_bind_wrap (wpAny_rule ?_); show Seg _ A _ _ _ s₀ _ ((standAt iter1.pos >>= _).wrap _ _ _ _) _ s; exact seg_bind_wrap (wpAny_standAt (seg_bind_wrap (T1.self _ 0 s _ _ st (seg_again rfl loop)))))
theorem eval_gen2 {elt t0 i0 t1 i1 : Expr} {ifs0 ifs1 : List Expr} {scope : Scope} {pos : Pos} {env : Env} (hco : scope.isCoroutine = false) :
    eval (.GeneratorExp elt [⟨t0, i0, ifs0, 0⟩, ⟨t1, i1, ifs1, 0⟩] scope pos) env = (do { let x ← eval i0 env; standAt i0.pos; let x ← genFold i0 env x; let it ← holding [x] (pyIter x); enterFrame; let cl ← closureFor scope env; let cd ← genexprCode env pos (env.qual ++ "<genexpr>") scope; let bi ← builtinsFor env.globals env.builtins; let ce ← newFunctionEnv scope env.globals cl [(".0", it)] (env.qual ++ "<genexpr>.") none cd none bi; newGenerator (.compStart (.GeneratorExp elt [⟨t0, i0, ifs0, 0⟩, ⟨t1, i1, ifs1, 0⟩] scope pos) 0 it .none ce) "<genexpr>" (env.qual ++ "<genexpr>") }) := by
  rw [arm_eval_GeneratorExp]
  simp only [hco, Bool.false_eq_true, if_false]
  cases i0 <;> rfl
section
variable {X : Cx} {s0 : Shared} {H0 : Hp} {ge : Env} {fp cs : List Addr} {A : Around} {a : Addr} {go : Obj} {gn : Nat}
theorem seg_gloop2 {elt tg iter tg1 iter1 : Expr} {ifs ifs1 : List Expr} {scope : Scope} {pos : Pos} {it : Addr} {J : It} {tn : Nat → Heap → Prop} {wi1 : TI} {g g1 : TG} {tt tt1 : TT} {te : TE} {vs vs1 : List Nat} {σ : L2.St} {W0 : List V → Nat → Nat → Hp → Prop} {G : GWs} {C : List V → Heap → Prop}
    (T : Turn X.prog X.w X.K tg J fp it tn) (hco : ge.scope.isCoroutine = false) (hg0 : go.cls = .type "generator" ∧ (∃ nm qn, go.data = .fields #[.int gn 0, nm, qn]) ∧ go.slots = #[])
    (hg : PG (gcx X s0 H0 ge fp A [(a, go)]) tg g) (ht : PTs (gcx X s0 H0 ge fp A [(a, go)]) ifs tt) (hi1 : PI (gcx X s0 H0 ge fp A [(a, go)]) tg1 iter1 wi1) (hg1 : PG (gcx X s0 H0 ge fp A [(a, go)]) tg1 g1) (ht1 : PTs (gcx X s0 H0 ge fp A [(a, go)]) ifs1 tt1) (he : PE (gcx X s0 H0 ge fp A [(a, go)]) elt te) (hs1 : ∀ env x, foldedSetIterable iter1 env x = pure x) (hv : ∀ i ∈ vs1, i ∈ vs)
    (turn : GTurn2 J g tt wi1 g1 tt1 te vs vs1 σ W0 G) (hfa : ∀ b ∈ fp, b ≠ a) (hac : a ∉ cs) (hfc : ∀ b ∈ fp, b ∉ cs) (hlo : ∀ b ∈ cs, s0.heap.objs.size ≤ b) (hC : ConC cs C) :
    ∀ (m n i : Nat) (ys : List V) (H : Hp) (cob : List (Addr × Obj)) (s₀ s : Shared), (n + ys.length = sizeLine + 1 ∧ 1 ≤ n) → G.alive ys → W0 ys i m H → (∀ b ∈ cs, ∃ p ∈ cob, p.1 = b) → (∀ p ∈ cob, p.1 ∈ cs) → Inv (gcx X s0 H0 ge fp A [(a, go)]) cob (wipe σ vs) H s → tn i s.heap → (∀ b ∈ fp, H b = none) → C ys s.heap →
      Seg (model X.prog X.w) A (RX' X.prog X.w X.stack H0 s0 fp cs C G) (YX X.prog X.w X.stack H0 s0 fp cs C a gn G) n s₀
        (.compLoop (.GeneratorExp elt [⟨tg, iter, ifs, 0⟩, ⟨tg1, iter1, ifs1, 0⟩] scope pos) 0 (.ref it) .none ge) ((model X.prog X.w).den (.compLoop (.GeneratorExp elt [⟨tg, iter, ifs, 0⟩, ⟨tg1, iter1, ifs1, 0⟩] scope pos) 0 (.ref it) .none ge)) [] s := by
  have ov : A.over (.compLoop (.GeneratorExp elt [⟨tg, iter, ifs, 0⟩, ⟨tg1, iter1, ifs1, 0⟩] scope pos) 0 (.ref it) .none ge) [] = A.deeper ge := over_gen
  have stat : ∀ {cob : List (Addr × Obj)} {σ' : L2.St} {H' : Hp} {s' : Shared}, Inv (gcx X s0 H0 ge fp A [(a, go)]) cob σ' H' s' → (∀ p ∈ cob, p.1 ∈ cs) → (∀ b ∈ fp, H' b = none) → (∀ b ∈ fp, b ≠ a) → ∀ b ∈ fp, FpOk (gcx X s0 H0 ge fp A [(a, go)]) cob H' b := fun {cob σ' H' s'} I' hcc hn hfa b hb =>
    ⟨hn b hb, (I'.ok.exf b hb).1, I'.ok.exfs b hb, .inl hb, fun x c e => (I'.ok.exf b hb).2 x c e, fun p hp z => by
      rcases List.mem_append.mp hp with hp | hp
      · have hp : p ∈ [(a, go)] := hp
        have e : p = (a, go) := by simpa using hp
        rw [e] at z
        exact hfa b hb z.symm
      · exact hfc b hb (by rw [← z]; exact hcc p hp)⟩
  intro m
  induction m using Nat.strongRecOn with
  | ind m ih =>
  intro n i ys H cob s₀ s hn hal hW hcb hcc I st nf hCs
  show Seg _ A _ _ _ s₀ _ ((compTurn (ge2 elt tg iter ifs tg1 iter1 ifs1 scope pos) 0 (.ref it) .none ge).onRaise (leaving ge)) [] s
  rw [turn2_outer (elt := elt) (tg0 := tg) (iter0 := iter) (ifs0 := ifs) (tg1 := tg1) (iter1 := iter1) (ifs1 := ifs1) (scope := scope) (pos := pos), Sem.onRaise_eq_wrap]
  refine seg_bind_wrap (wpAny_standAt ?_)
  have done_of : ∀ {ys : List V} {n : Nat} {H1 : Hp} {s1 : Shared} {cob : List (Addr × Obj)} {σ1 : L2.St}, (∀ b ∈ cs, ∃ p ∈ cob, p.1 = b) → Inv (gcx X s0 H0 ge fp A [(a, go)]) cob σ1 H1 s1 → (∀ b ∈ cs, H1 b = none) ∧ OwnC cs s1.heap := fun {ys n H1 s1 cob σ1} hcb I1 => by
    refine ⟨fun b hb => ?_, fun b hb => ?_⟩
    · obtain ⟨p, hp, e⟩ := hcb b hb
      have q := (I1.pin p (List.mem_append_right _ hp)).2.1
      rw [e] at q
      exact q
    · obtain ⟨p, hp, e⟩ := hcb b hb
      obtain ⟨q, _, _, _, d⟩ := I1.pin p (List.mem_append_right _ hp)
      rw [e] at q
      exact ⟨p.2, q, d⟩
  have conK : ∀ {ys : List V} {H1 : Hp} {s s1 : Shared} {cob pl : List (Addr × Obj)} {σ σ1 : L2.St} {H : Hp}, (∀ b ∈ cs, ∃ p ∈ cob, p.1 = b) → Inv (gcx X s0 H0 ge fp A [(a, go)]) cob σ H s → C ys s.heap → Inv (gcx X s0 H0 ge fp A [(a, go)]) (cob ++ pl) σ1 H1 s1 → C ys s1.heap := fun {ys H1 s s1 cob pl σ σ1 H} hcb I hCs I1 => by
    refine hC ys _ _ hCs fun b hb o e => ?_
    obtain ⟨p, hp, e'⟩ := hcb b hb
    have q0 := (I.pin p (List.mem_append_right _ hp)).1
    have q := (I1.pin p (List.mem_append_right _ (List.mem_append_left _ hp))).1
    rw [e', e] at q0
    cases q0
    rw [e'] at q
    exact q
  rcases turn ys i m H hal hW with ⟨stop, hfin⟩ | ⟨go', NX, hNX, step⟩
  · have td := T.done (gcx X s0 H0 ge fp A [(a, go)]) rfl rfl rfl rfl i cob s _ H (fun _ _ => False) I (stat I hcc nf hfa) st stop
    refine seg_bind_wrap ?_
    rw [ov]
    refine wpAny_mono td (fun r s6 ⟨hr, I6⟩ => ?_) fun _ _ q => q.elim
    subst hr
    obtain ⟨d1, d2⟩ := done_of (ys := ys) (n := n) hcb I6
    exact seg_end (.ok .next) (.inl ⟨.inr rfl, H, ys, hn, I6.os, I6.bare, I6.base, I6.hok, d1, conK (pl := []) hcb I hCs (by rw [List.append_nil]; exact I6), d2, hal, hfin⟩)
  · have ti := T.item (gcx X s0 H0 ge fp A [(a, go)]) rfl rfl rfl rfl i cob s _ H (fun _ _ => False) I (stat I hcc nf hfa) st go'
    refine seg_bind_wrap ?_
    rw [ov]
    refine wpAny_mono ti (fun r s6 ⟨u, hr, h6⟩ => ?_) fun _ _ q => q.elim
    subst hr
    refine seg_bind_wrap ?_
    rw [ov]
    refine wpAny_mono h6 (fun _ s7 ⟨x, H7, I7, r7, y7, st7, n7⟩ => ?_) fun _ _ q => q.elim
    have I7' := I7.pinned (stat I7 hcc n7 hfa) (T.obj _ _ st7)
    refine seg_bind_wrap ?_
    rw [ov]
    refine wpAny_mono (hg.run _ s7 _ H7 x u _ I7' r7 (step x H7 y7)) (fun _ s8 ⟨σ8, H8, I8, hw8, q8⟩ => ?_) fun _ _ q => False.elim q
    refine seg_bind_wrap ?_
    rw [ov]
    refine wpAny_mono (ht.run _ s8 σ8 H8 _ I8 q8) (fun b s9 ⟨H9, I9, q9⟩ => ?_) fun _ _ q => False.elim q
    have hl : (wipe σ vs).length = σ8.length := by rw [← hw8, wipe_length]
    -- back at the loop's head
    have back : ∀ {H' : Hp} {s' : Shared} {cob' : List (Addr × Obj)}, Inv (gcx X s0 H0 ge fp A [(a, go)]) (cob' ++ pinsAt fp s7.heap) σ8 H' s' → Inv (gcx X s0 H0 ge fp A [(a, go)]) cob' (wipe σ vs) H' s' ∧ tn (i + 1) s'.heap ∧ (∀ b ∈ fp, H' b = none) := fun {H' s' cob'} I' => by
      have pin' : ∀ b ∈ fp, ∀ o, s7.heap.get? b = some o → s'.heap.get? b = some o ∧ H' b = none := fun b hb o e =>
        let z := I'.pin (b, o) (List.mem_append_right _ (List.mem_append_right _ (mem_pinsAt hb e)))
        ⟨z.1, z.2.1⟩
      refine ⟨(I'.unpinned).weak hl (fun j v e => ?_), T.keep _ _ _ st7 fun b hb o e => (pin' b hb o e).1, fun b hb => ?_⟩
      · rw [← hw8] at e
        exact (wipe_some e).1
      · obtain ⟨o, e, _⟩ := T.obj _ _ st7 b hb
        exact (pin' b hb o e).2
    cases b with
    | false =>
      simp only [Bool.false_eq_true, if_false] at q9 ⊢
      obtain ⟨m', hm, w'⟩ := hNX _ _ q9
      obtain ⟨b1, b2, b3⟩ := back I9
      exact seg_again rfl (ih m' hm n (i + 1) ys H9 cob s₀ s9 hn hal w' hcb hcc b1 b2 b3 (conK hcb I hCs I9))
    | true =>
      simp only [if_true] at q9 ⊢
      refine seg_bind_wrap ?_
      rw [ov]
      refine wpAny_mono (hi1.run _ s9 σ8 H9 _ I9 q9) (fun xv s10 hx => ?_) fun _ _ q => False.elim q
      refine seg_bind_wrap (wpAny_standAt ?_)
      refine seg_bind_wrap (wpAny_of_eq (hs1 ge xv) ?_)
      refine seg_bind_wrap (wpAny_holding ?_)
      rw [ov]
      refine wpAny_mono hx (fun itv s11 h11 => ?_) fun _ _ q => False.elim q
      obtain ⟨it1, fp1, tn1, J1, H11, e1, I11, T1, st11, f11, W1, ⟨m1, w1⟩, turn1⟩ := h11
      subst e1
      have hcs1 : ∀ b ∈ fp1, b ∉ cs := fun b hb hc => by
        obtain ⟨p, hp, e⟩ := hcb b hc
        exact (f11 b hb).2.2.2.2.2 p (List.mem_append_right _ (List.mem_append_left _ hp)) e
      have hC11 : C ys s11.heap := conK hcb I hCs I11
      have hst : ∀ (cob' : List (Addr × Obj)) (H' : Hp), (∀ p ∈ cob', p.1 ∈ cs) → (∀ b ∈ fp1, H' b = none) → ∀ b ∈ fp1, FpOk (gcx X s0 H0 ge fp A [(a, go)]) (cob' ++ pinsAt fp s7.heap) H' b := fun cob' H' hc' hn' b hb => by
        obtain ⟨z1, z2, z3, z4, z5, z6⟩ := f11 b hb
        refine ⟨hn' b hb, z2, z3, z4, z5, fun p hp e => ?_⟩
        rcases List.mem_append.mp hp with hp | hp
        · exact z6 p (List.mem_append_left _ hp) e
        · rcases List.mem_append.mp hp with hp | hp
          · exact hcs1 b hb (by rw [← e]; exact hc' p hp)
          · exact z6 p (List.mem_append_right _ (List.mem_append_right _ hp)) e
      have hpl : ∀ p ∈ pinsAt fp s7.heap, p.1 ∉ cs := fun p hp => hfc p.1 (of_pinsAt hp).1
      show Seg _ A _ _ _ s₀ _ (.call (.compStart (ge2 elt tg iter ifs tg1 iter1 ifs1 scope pos) 1 (.ref it1) .none ge) none _ _ _) [] s11
      refine seg_call fun p => ?_
      refine start2 T1 st11 ?_
      refine seg_iloop (X := X) (s0 := s0) (H0 := H0) (ge := ge) (fp := fp) (cs := cs) (A := A) (a := a) (go := go) (gn := gn) (C := C) (G := G) (W1 := W1) (NX := NX) (pl := pinsAt fp s7.heap) (σ2 := σ8) (vs1 := vs1) rfl T1 hco hg0 hg1 ht1 he turn1 hst hpl hac hcs1 hlo hC
        (fun n ys' H' cob' s₀' s' hn' hal' hNX' hcb' hcc' I' hC' => ?_) m1 n 0 ys H11 cob s₀ s11 hn hal w1 hcb hcc (I11.weak (wipe_length _ _) fun j v e => (wipe_some e).1) st11 (fun b hb => (f11 b hb).1) hC11
      obtain ⟨m', hm, w'⟩ := hNX _ _ hNX'
      have pin' : ∀ b ∈ fp, ∀ o, s7.heap.get? b = some o → s'.heap.get? b = some o ∧ H' b = none := fun b hb o e =>
        let z := I'.pin (b, o) (List.mem_append_right _ (List.mem_append_right _ (mem_pinsAt hb e)))
        ⟨z.1, z.2.1⟩
      have st' := T.keep _ _ _ st7 fun b hb o e => (pin' b hb o e).1
      have nf' : ∀ b ∈ fp, H' b = none := fun b hb => by
        obtain ⟨o, e, _⟩ := T.obj _ _ st7 b hb
        exact (pin' b hb o e).2
      have Iw : Inv (gcx X s0 H0 ge fp A [(a, go)]) cob' (wipe σ vs) H' s' := (I'.unpinned).weak (by rw [wipe_length, wipe_length]; rw [wipe_length] at hl; exact hl) fun j v e => by
        rw [← hw8] at e
        obtain ⟨e1, e2⟩ := wipe_some e
        rw [wipe_out fun z => e2 (hv j z)]
        exact e1
      exact seg_again rfl (ih m' hm n (i + 1) ys' H' cob' s₀' s' hn' hal' w' hcb' hcc' Iw st' nf' hC')
end
def tGen2 (B : Heap) (nm : Nat → Nat → Option Str) (c : Addr) (wi : TI) (g : TG) (tt : Addr → TT) (wi1 : Addr → TI) (g1 : TG) (tt1 : Addr → TT) (te : Addr → TE) (vs vs1 : List Nat) : TGx := fun σ H R => wi σ H fun J H1 =>
  (∃ P, CodeAt B H1 c P ∧ ∃ ps, H1 P = some (.tbl ps)) ∧ AllTabs nm H1 ∧ ∀ (H2 : Hp) (c' P' : Addr), Grown H1 H2 → AllTabs nm H2 → H2 c' = some (CodeG c' P') → (∃ ps', H2 P' = some (.tbl ps')) →
    ∃ (W0 : List V → Nat → Nat → Hp → Prop) (G : GWs), G.alive [] ∧ (∃ m, W0 [] 0 m H2) ∧ GTurn2 J g (tt c') (wi1 c') g1 (tt1 c') (te c') vs vs1 σ W0 G ∧ R G H2
section
variable {X : Cx}
theorem pgx_gen2 {elt tg iter tg1 iter1 : Expr} {ifs ifs1 : List Expr} {scope : Scope} {own : List (Str × Nat)} {pos : Pos} {vs1 : List Nat} {wi : TI} {g g1 : TG} {wi1 : Addr → TI} {tt tt1 : Addr → TT} {te : Addr → TE} {c : Addr} {nm : Nat → Nat → Option Str} {k : Nat}
    (hc : X.calm = true) (hN : X.N.Nodup) (hr : Room 0 X.A) (hcode : X.env.code = .ref c) (hb : Bm X.base X.mg) (hn : nm pos.line pos.col = none) (hi : PI X tg iter wi) (ok : GenOk X.N X.env.scope scope own)
    (hg : ∀ (s : Shared) (H : Hp) (cells : List (Str × Addr)) (L c' : Addr) (fp : List Addr) (A : Around) (pn : List (Addr × Obj)), PG (gcx X s H (genv X scope cells L (.ref c')) fp A pn) tg g)
    (ht : ∀ (s : Shared) (H : Hp) (cells : List (Str × Addr)) (L c' : Addr) (fp : List Addr) (A : Around) (pn : List (Addr × Obj)), Room k (A.deeper (genv X scope cells L (.ref c'))) → PTs (gcx X s H (genv X scope cells L (.ref c')) fp A pn) ifs (tt c'))
    (hi1 : ∀ (s : Shared) (H : Hp) (cells : List (Str × Addr)) (L c' : Addr) (fp : List Addr) (A : Around) (pn : List (Addr × Obj)), Room k (A.deeper (genv X scope cells L (.ref c'))) → PI (gcx X s H (genv X scope cells L (.ref c')) fp A pn) tg1 iter1 (wi1 c')) (hg1 : ∀ (s : Shared) (H : Hp) (cells : List (Str × Addr)) (L c' : Addr) (fp : List Addr) (A : Around) (pn : List (Addr × Obj)), PG (gcx X s H (genv X scope cells L (.ref c')) fp A pn) tg1 g1)
    (ht1 : ∀ (s : Shared) (H : Hp) (cells : List (Str × Addr)) (L c' : Addr) (fp : List Addr) (A : Around) (pn : List (Addr × Obj)), Room k (A.deeper (genv X scope cells L (.ref c'))) → PTs (gcx X s H (genv X scope cells L (.ref c')) fp A pn) ifs1 (tt1 c'))
    (he : ∀ (s : Shared) (H : Hp) (cells : List (Str × Addr)) (L c' : Addr) (fp : List Addr) (A : Around) (pn : List (Addr × Obj)), Room k (A.deeper (genv X scope cells L (.ref c'))) → PE (gcx X s H (genv X scope cells L (.ref c')) fp A pn) elt (te c'))
    (hv : ∀ i ∈ vs1, i ∈ own.map (·.2)) (hs : ∀ x, genFold iter X.env x = pure x := by intro _; rfl) (hs1 : ∀ env x, foldedSetIterable iter1 env x = pure x := by intro _ _; rfl) :
    PGx X k (.GeneratorExp elt [⟨tg, iter, ifs, 0⟩, ⟨tg1, iter1, ifs1, 0⟩] scope pos) (tGen2 X.base nm c wi g tt wi1 g1 tt1 te (own.map (·.2)) vs1) := by
  refine ⟨fun pins s σ H R I h => ?_⟩
  have hfree : ∀ y ∈ scope.names, y.2 = .free → ∃ c, X.env.cells.lookup y.1 = some c := fun y hy e => by
    rcases ok.free y hy e with k | k
    · exact I.ok.has _ (.inl k)
    · exact I.ok.has _ (.inr k)
  rw [eval_gen2 ok.co]
  refine wpAny_bind (thn (hi.run pins s σ H _ I h) fun xv s1 hx => ?_)
  refine wpAny_bind (wpAny_standAt ?_)
  refine wpAny_bind (wpAny_of_eq (hs xv) ?_)
  refine wpAny_bind (wpAny_holding (thn hx fun itv s2 h2 => ?_))
  obtain ⟨it, fp, tn, J, H2, e, I2, T, st2, f2, hCode, hTabs, hG⟩ := h2
  subst e
  obtain ⟨P, hCA, hPt⟩ := hCode
  refine wpAny_bind (wpAny_enterFrame I2.nolimit hr.depth ?_)
  rw [closure_ok hfree]
  refine wpAny_bind (wpAny_pure ?_)
  refine wpAny_bind (gen_code I2 hcode hCA hPt hTabs hn fun c' P' H3 s3 I3 G3 T3 eg3 k3 hP3 sz3 nn3 hc3 hp3 => ?_)
  obtain ⟨bm, ob, b1, b2, b3, b4, b5, b6⟩ := hb
  refine wpAny_bind (wpAny_builtinsFor (m := X.mg) (by rw [I3.ok.glob]; exact I3.mod.glob.keeps I3.bk) b1 b2 (I3.bk _ _ b3) b4 b5 b6 ?_)
  refine wpAny_bind (newEnv_gen ok.kind ok.dot fun h5 tk5 hn5 hs5 => ?_)
  obtain ⟨W0, G, hal, ⟨m0, w0⟩, turn, hR⟩ := hG H3 c' P' G3 T3 hc3 hp3
  simp only [newGenerator, newFields]
  refine wpAny_bind (wpAny_newGen (wpAny_bind (wpAny_mkText (wpAny_bind (wpAny_mkText (wpAny_newObj_type ?_ (by size_fits)))))))
  -- the iterator's objects
  have fex : ∀ b ∈ fp, ∃ o, s2.heap.get? b = some o := fun b hb => by
    obtain ⟨o, e, _⟩ := T.obj _ _ st2 b hb
    exact ⟨o, e⟩
  have sz2 : ∀ b ∈ fp, b < s2.heap.objs.size := fun b hb => let ⟨o, e⟩ := fex b hb; Heap.lt_size e
  have fnP : ∀ b ∈ fp, b ≠ P := fun b hb z => by
    obtain ⟨ps, hps⟩ := hPt
    have q := (f2 b hb).1
    rw [z, hps] at q
    cases q
  have f3 : ∀ b ∈ fp, FpOk X pins H3 b ∧ b < s3.heap.objs.size := fun b hb => by
    obtain ⟨o, e⟩ := fex b hb
    exact ⟨⟨nn3 b o e (f2 b hb).1, (f2 b hb).2⟩, Nat.lt_of_lt_of_le (sz2 b hb) sz3⟩
  have st3 : tn 0 s3.heap := T.keep _ _ _ st2 fun b hb o e => k3 b o (fnP b hb) e
  have ex3 : ExOk X pins fp := fun b hb => ⟨(f3 b hb).1.2.2.2.1, (f3 b hb).1.2.1, (f3 b hb).1.2.2.2.2.1, (f3 b hb).1.2.2.2.2.2⟩
  have kp5 : ∀ b o, s3.heap.get? b = some o → h5.get? b = some o := fun b o e => hs5.extBut b o (Nat.ne_of_lt (Heap.lt_size e)) (pushCells_keeps _ _ _ _ (Heap.get?_push_of_some _ e))
  have lt5 : s3.heap.objs.size < h5.objs.size := hn5.lt
  have key : ∀ (gob : Obj) (tk2 : Nat), gob.cls = .type "generator" → (∃ nm qn, gob.data = .fields #[.int s3.gens.size 0, nm, qn]) → gob.slots = #[] → (∀ h : Heap, (h.push gob).get? h.objs.size = some gob) →
      GMadeX X.prog X.w k X.stack H3 s3 fp G (.ref h5.objs.size) { s3 with gens := s3.gens.push (.fresh (.compStart (.GeneratorExp elt [⟨tg, iter, ifs, 0⟩, ⟨tg1, iter1, ifs1, 0⟩] scope pos) 0 (.ref it) .none (genv X scope (cellsFrom (s3.heap.objs.size + 1) scope.names (cloFrom X.env.cells scope.names [])) s3.heap.objs.size (.ref c')))), toks := tk2, heap := h5.push gob } := by
    intro gob tk2 gc gd gs gp
    obtain ⟨gnm, gqn, gd'⟩ := id gd
    have hpushed : (h5.push gob).get? h5.objs.size = some gob := gp _
    have kp6 : ∀ b o, s3.heap.get? b = some o → (h5.push gob).get? b = some o := fun b o e => Heap.get?_push_of_some _ (kp5 b o e)
    refine ⟨h5.objs.size, s3.gens.size, _, rfl, Nat.le_of_lt lt5, ?_, ⟨gob, gnm, gqn, hpushed, gc, gd', gs⟩, Array.getElem?_push_size .., rfl, AllBare.push I3.bare rfl, I3.nolimit.keeps kp6, kp6, hal, ?_⟩
    · show _ < (h5.push gob).objs.size
      rw [Heap.size_push]; exact Nat.lt_succ_self _
    intro Aw cs C s7 hrw hfr hcs hC hk7 hown hC0 hos hba
    have I5 := gen_start (code := .ref c') (tk := tk5) I3 { ok with } hN f3 hrw.hd hfr hn5 hs5
    generalize hge : genv X scope (cellsFrom (s3.heap.objs.size + 1) scope.names (cloFrom X.env.cells scope.names [])) s3.heap.objs.size (.ref c') = ge at I5 ⊢
    have kp7 : ∀ b o, h5.get? b = some o → s7.heap.get? b = some o := fun b o e => hk7 b o (Heap.get?_push_of_some _ e)
    have I7 : Inv (gcx X s3 H3 ge fp Aw []) [] (wipe σ (own.map (·.2))) H3 s7 := I5.call' (ch := []) hos (Un.kept kp7) (I5.hok.kept kp7) hba fun b z => by simp at z
    have young : ∀ b, h5.objs.size ≤ b → H3 b = none ∧ b ≠ ge.locals ∧ b ∉ frs X.stack ∧ s3.heap.objs.size ≤ b := fun b hb =>
      ⟨I5.hok.fresh hb, by rw [← hge]; exact Nat.ne_of_gt (Nat.lt_of_lt_of_le lt5 hb), I5.nofs hb, Nat.le_trans (Nat.le_of_lt lt5) hb⟩
    have hcs5 : ∀ b ∈ cs, h5.objs.size < b := fun b hb => by
      have q : (h5.push gob).objs.size ≤ b := hcs b hb
      rw [Heap.size_push] at q
      exact q
    have hgnc : ∀ v, gob.data ≠ .cell v := fun v z => by rw [gd'] at z; cases z
    have pinned : Inv (gcx X s3 H3 ge fp Aw [(h5.objs.size, gob)]) (pinsAt cs s7.heap) (wipe σ (own.map (·.2))) H3 s7 := Inv.pinX I7 fun p hp => by
      rcases List.mem_append.mp hp with z | z
      · rw [List.mem_singleton.mp z]
        obtain ⟨y1, y2, y3, _⟩ := young h5.objs.size (Nat.le_refl _)
        exact ⟨hk7 _ _ hpushed, y1, y2, y3, hgnc⟩
      · obtain ⟨hb, e⟩ := of_pinsAt z
        obtain ⟨y1, y2, y3, _⟩ := young p.1 (Nat.le_of_lt (hcs5 p.1 hb))
        obtain ⟨o, e', d⟩ := hown p.1 hb
        rw [e] at e'
        cases e'
        exact ⟨e, y1, y2, y3, d⟩
    have st7 : tn 0 s7.heap := T.keep _ _ _ st3 fun b _ o e => kp7 b o (kp5 b o e)
    have roomB : Room k (Aw.deeper ge) := hrw.deeper _
    have loop := seg_gloop2 (X := X) (s0 := s3) (H0 := H3) (ge := ge) (fp := fp) (cs := cs) (A := Aw) (a := h5.objs.size) (go := gob) (gn := s3.gens.size) (elt := elt) (tg := tg) (iter := iter) (ifs := ifs) (tg1 := tg1) (iter1 := iter1) (ifs1 := ifs1) (scope := scope) (pos := pos) (it := it) (C := C) (G := G)
      T (by rw [← hge]; exact ok.co) ⟨gc, gd, gs⟩ (by rw [← hge]; exact hg _ _ _ _ _ _ _ _) (by rw [← hge] at roomB ⊢; exact ht _ _ _ _ _ _ _ _ roomB) (by rw [← hge] at roomB ⊢; exact hi1 _ _ _ _ _ _ _ _ roomB) (by rw [← hge]; exact hg1 _ _ _ _ _ _ _ _) (by rw [← hge] at roomB ⊢; exact ht1 _ _ _ _ _ _ _ _ roomB) (by rw [← hge] at roomB ⊢; exact he _ _ _ _ _ _ _ _ roomB) hs1 hv turn
      (fun b hb => Nat.ne_of_lt (Nat.lt_trans (f3 b hb).2 lt5)) (fun z => Nat.lt_irrefl _ (hcs5 _ z)) (fun b hb z => Nat.lt_irrefl _ (Nat.lt_trans (Nat.lt_trans (f3 b hb).2 lt5) (hcs5 b z))) (fun b hb => Nat.le_trans (Nat.le_of_lt lt5) (Nat.le_of_lt (hcs5 b hb))) hC
      m0 (sizeLine + 1) 0 [] H3 (pinsAt cs s7.heap) s7 s7 ⟨Nat.add_zero _, Nat.le_add_left _ _⟩ hal w0 (fun b hb => by obtain ⟨o, e, _⟩ := hown b hb; exact ⟨(b, o), mem_pinsAt hb e, rfl⟩) (fun p hp => (of_pinsAt hp).1) pinned st7 (fun b hb => (f3 b hb).1.1) hC0
    show Seg _ Aw _ _ _ s7 _ ((compStart (.GeneratorExp elt [⟨tg, iter, ifs, 0⟩, ⟨tg1, iter1, ifs1, 0⟩] scope pos) 0 (.ref it) .none ge).onRaise (leaving ge)) [] s7
    unfold compStart
    rw [Sem.onRaise_eq_wrap]
    show Seg _ Aw _ _ _ s7 _ ((ask >>= _).wrap _ _ _ _) [] s7
    refine seg_bind_wrap (wpAny_askSetting ?_)
    split
    · exact seg_again rfl loop
    · first
        | exact seg_bind_wrap (wpAny_rule (seg_bind_wrap (wpAny_standAt (seg_bind_wrap (T.self _ 0 s7 _ _ st7 (seg_again rfl loop))))))
        | (refine seg_bind_wrap (wpAny_rule ?_); show Seg _ Aw _ _ _ s7 _ ((standAt iter.pos >>= _).wrap _ _ _ _) [] s7; exact seg_bind_wrap (wpAny_standAt (seg_bind_wrap (T.self _ 0 s7 _ _ st7 (seg_again rfl loop)))))
  refine ⟨H3, s3, fp, G, I3, ex3, ?_, hR⟩
  have e5 : genv X scope (cellsFrom (s3.heap.objs.size + 1) scope.names (cloFrom X.env.cells scope.names [])) s3.heap.objs.size (.ref c') = newEnv scope s3.heap.objs.size X.env.globals (cellsFrom (s3.heap.objs.size + 1) scope.names (cloFrom X.env.cells scope.names [])) (X.env.qual ++ "<genexpr>.") none (.ref c') none builtinsNs := rfl
  exact key _ _ rfl ⟨_, _, rfl⟩ rfl fun h => Heap.get?_push_size _ rfl
end
end GX

set_option Elab.async false
set_option linter.all false
set_option maxRecDepth 100000
set_option maxHeartbeats 2000000
namespace GX
open PySem PySem.Spec PyProof.Rows L2
/-! ## 9. comprehensions of any number of clauses: one clause's loop around what is done at its end -/
/-- what a clause's turn does, its end being t -/
def TurnIs (e : Expr) (k : Nat) (p : Pos) (tg : Expr) (ifs : List Expr) (t : Sem PySem.Fin) (it acc : Value) (env : Env) : Prop :=
  compTurn e k it acc env = (standAt p >>= fun _ => pyNext it >>= fun r => match r with | none => pure (.done .next) | some v => letOwnedTupleGo tg it v >>= fun _ => assign tg env v >>= fun _ => (forIn ifs true fun c r => if r = true then do let ok ← isTrue c env (eval c env); pure (ForInStep.yield ok) else pure (ForInStep.yield r)) >>= fun ok => if ok = true then t else again (.compLoop e k it acc env))
def CallTurn (Y : Cx) (e : Expr) (k : Nat) : Prop := ∀ it acc, Y.A.under (.compLoop e k it acc Y.env) = Y.A ∧ (Code.compLoop e k it acc Y.env).quiet = true ∧ (model Y.prog Y.w).den (.compLoop e k it acc Y.env) = (compTurn e k it acc Y.env).onRaise (fun x => do noteFrame x Y.env; theTreesLotGoes x)
section
variable {Y : Cx} {e tg : Expr} {ifs : List Expr} {k : Nat} {p : Pos} {it acc : Value}
/-- a clause's end, within a block -/
structure PBd (Y : Cx) (c : Code) (t : Sem PySem.Fin) (tb : L2.St → Hp → (Hp → Prop) → Prop) (vs : List Nat) : Prop where
  run : ∀ (pins : List (Addr × Obj)) (s : Shared) (σ : L2.St) (H : Hp) (N : Hp → Prop), Inv Y pins σ H s → tb σ H N → wpAny (model Y.prog Y.w) Y.A t (fun f s' => f = .again c ∧ ∃ H', Inv Y pins (wipe σ vs) H' s' ∧ N H') (fun _ _ => False) s
/-- how a clause within another one starts -/
def StartIs (e : Expr) (k : Nat) (it acc : Value) (Y : Cx) : Prop := ∀ (s : Shared) (R : Result → Shared → Prop), codeAny (model Y.prog Y.w) Y.A (.compLoop e k it acc Y.env) R s → wpAny (model Y.prog Y.w) Y.A (pyIter it) (fun it' s' => codeAny (model Y.prog Y.w) Y.A (.compLoop e k it' acc Y.env) R s') (notedBy (model Y.prog Y.w) Y.A Y.env fun x s' => R (.error x) s') s → codeAny (model Y.prog Y.w) Y.A (.compStart e k it acc Y.env) R s
end
/-! ### what stands at the innermost clause's end -/
section
variable {Y : Cx} {c : Code}
end
end GX

set_option Elab.async false
set_option linter.all false
set_option maxRecDepth 100000
set_option maxHeartbeats 2000000
namespace GX
open PySem PySem.Spec PyProof.Rows L2
/-! ## 10. comprehensions of any number of clauses: the whole -/
/-- what is known of a comprehension's first clause, whatever stands behind it -/
structure Comp1 (e : Expr) (mk : Sem Value) (o0 : HO) (ob : Obj) (iter : Expr) (tg : Expr) (ifs : List Expr) (tail : Value → Value → Env → Sem PySem.Fin) : Prop where
  cl : ∃ rest, clausesOf e = ⟨tg, iter, ifs, 0⟩ :: rest
  mkd : ∀ (P : Program) (w : World) (A : Around) (E : Value → Shared → Prop) (s : Shared) (Q : Value → Shared → Prop), Q (.ref s.heap.objs.size) { s with heap := s.heap.push ob } → wpAny (model P w) A mk Q E s
  new : ∀ (P : Program) (w : World) (H : Hp) (h : Heap), sysModules < h.objs.size → ObjOk P w H (h.push ob) h.objs.size o0
  call : ∀ Y, CallTurn Y e 0
  turn : ∀ it acc env, TurnIs e 0 iter.pos tg ifs (tail it acc env) it acc env
  start : ∀ Y it acc, StartIs e 0 it acc Y
section
variable {X : Cx}
end
end GX

set_option Elab.async false
set_option linter.all false
set_option maxRecDepth 100000
set_option maxHeartbeats 2000000
namespace GX
open PySem PySem.Spec PyProof.Rows L2
/-! ## 11. list comprehensions of three clauses, dict comprehensions of one and two -/
section
variable {elt kx vx t0 i0 t1 i1 t2 i2 : Expr} {f0 f1 f2 : List Expr} {scope : Scope} {pos : Pos}
abbrev TBd := Addr → L2.St → Hp → (Hp → Prop) → Prop
/-- what is done at the end of the first clause, in any block context -/
structure BdOk (e : Expr) (tail : Value → Value → Env → Sem PySem.Fin) (Y : Cx) (tb : TBd) (vs : List Nat) (k : Nat) : Prop where
  run : ∀ it D, PBd Y (.compLoop e k it (.ref D) Y.env) (tail it (.ref D) Y.env) (tb D) vs
end
end GX

set_option Elab.async false
set_option linter.all false
set_option maxRecDepth 100000
set_option maxHeartbeats 2000000
namespace GX
open PySem PySem.Spec PyProof.Rows L2
/-! ## 14. dicts whose keys are tuples of tuples of numbers -/
mutual
def KeyV (H : Hp) : NestedKey → V → Prop
  | .none, _ => False
  | .num i, v => v = .int i
  | .text _, _ => False
  | .tup ks, v => ∃ b xs, v = .ref b ∧ H b = some (.tup xs) ∧ KeyVs H ks xs
def KeyVs (H : Hp) : List NestedKey → List V → Prop
  | [], xs => xs = []
  | k :: ks, xs => ∃ y ys, xs = y :: ys ∧ KeyV H k y ∧ KeyVs H ks ys
end
section
variable {H H' : Hp} {P : Program} {w w' : World} {h : Heap}
mutual
theorem keyV_mono (ht : ∀ b ys, H b = some (.tup ys) → H' b = some (.tup ys)) : ∀ (k : NestedKey) (v : V), KeyV H k v → KeyV H' k v
  | .none, _, z => by unfold KeyV at z; exact z.elim
  | .num i, v, z => by unfold KeyV at z ⊢; exact z
  | .text _, _, z => by unfold KeyV at z; exact z.elim
  | .tup ks, v, z => by
    unfold KeyV at z ⊢
    obtain ⟨b, xs, e, hb, r⟩ := z
    exact ⟨b, xs, e, ht _ _ hb, keyVs_mono ht ks xs r⟩
theorem keyVs_mono (ht : ∀ b ys, H b = some (.tup ys) → H' b = some (.tup ys)) : ∀ (ks : List NestedKey) (xs : List V), KeyVs H ks xs → KeyVs H' ks xs
  | [], xs, z => by unfold KeyVs at z ⊢; exact z
  | k :: ks, xs, z => by
    unfold KeyVs at z ⊢
    obtain ⟨y, ys, e, h1, h2⟩ := z
    exact ⟨y, ys, e, keyV_mono ht k y h1, keyVs_mono ht ks ys h2⟩
end
mutual
theorem keyV_hash (w w' : World) : ∀ (k : NestedKey) (v : V), KeyV H k v → k.hash w = k.hash w'
  | .none, _, z => by unfold KeyV at z; exact z.elim
  | .num i, v, z => by rw [NestedKey.hash, NestedKey.hash]
  | .text _, _, z => by unfold KeyV at z; exact z.elim
  | .tup ks, v, z => by
    unfold KeyV at z
    obtain ⟨b, xs, e, hb, r⟩ := z
    rw [NestedKey.hash, NestedKey.hash, keyVs_hash w w' ks xs r]
theorem keyVs_hash (w w' : World) : ∀ (ks : List NestedKey) (xs : List V), KeyVs H ks xs → NestedKey.hashes w ks = NestedKey.hashes w' ks
  | [], xs, z => by rw [NestedKey.hashes, NestedKey.hashes]
  | k :: ks, xs, z => by
    unfold KeyVs at z
    obtain ⟨y, ys, e, h1, h2⟩ := z
    rw [NestedKey.hashes, NestedKey.hashes, keyV_hash w w' k y h1, keyVs_hash w w' ks ys h2]
end
mutual
theorem key_nested (ok : HOk P w H h) : ∀ (k : NestedKey) (v : V) (u : Value), KeyV H k v → RelV v u → NestedIs h k u
  | .none, _, _, z, _ => by unfold KeyV at z; exact z.elim
  | .num i, v, u, z, r => by
    unfold KeyV at z
    subst z
    obtain ⟨t, rfl⟩ := (show ∃ t, u = Value.int i t from r)
    exact .int i t
  | .text _, _, _, z, _ => by unfold KeyV at z; exact z.elim
  | .tup ks, v, u, z, r => by
    unfold KeyV at z
    obtain ⟨b, xs, e, hb, q⟩ := z
    subst e
    cases (show u = Value.ref b from r)
    obtain ⟨_, its, rs, o, h1, h2, n, h3⟩ := (show ObjOk P w H h b (.tup xs) from ok b _ hb)
    exact .tup h1 h2 h3 (keys_nested ok ks xs its q rs)
theorem keys_nested (ok : HOk P w H h) : ∀ (ks : List NestedKey) (xs : List V) (us : List Value), KeyVs H ks xs → Vals xs us → NestedAll h ks us
  | [], xs, us, z, r => by
    unfold KeyVs at z
    subst z
    cases r
    exact .nil
  | k :: ks, xs, us, z, r => by
    unfold KeyVs at z
    obtain ⟨y, ys, e, h1, h2⟩ := z
    subst e
    cases r with
    | cons r1 r2 => exact .cons (key_nested ok k y _ h1 r1) (keys_nested ok ks ys _ h2 r2)
end
end
abbrev NX := NestedKey × Addr × Value
def entN (w : World) (x : NX) : DictEntry := ⟨x.1.hash w, .ref x.2.1, x.2.2⟩
/-- the dict at a that holds xs -/
def NDf (a : Addr) (xs : List NX) : Heap → Prop := fun h => ∃ o es ep w, h.get? a = some o ∧ o.ExactDict ∧ o.data = .dict es ep ∧ es.toList = xs.map (entN w)
def NDO (a : Addr) (xs : List NX) : HO := .ext (NDf a xs)
/-- what is told of an object with fields -/
def FldX (φ : Heap → Prop) : Prop := ∀ h, φ h → ∃ (c : Addr) (oc : Obj) (vs : Array Value), h.get? c = some oc ∧ oc.data = .fields vs
abbrev KN (H : Hp) : List (NestedKey × V) → List NX → Prop := Paired fun p q => p.1 = q.1 ∧ (p.1.depth ≤ 8 ∧ KeyV H p.1 (.ref q.2.1)) ∧ RelV p.2 q.2.2
def DctN (H : Hp) (a : Addr) (kvs : List (NestedKey × V)) : Prop := (H a = some (.dT []) ∧ kvs = []) ∨ ∃ xs, H a = some (NDO a xs) ∧ ¬ FldX (NDf a xs) ∧ kvs.length ≤ sizeLine ∧ (a == sysModules) = false ∧ (xs.map (·.1)).Nodup ∧ KN H kvs xs
section
variable {H H' : Hp} {kvs : List (NestedKey × V)} {xs : List NX} {a b : Addr} {k : NestedKey}
theorem KN.val (r : KN H kvs xs) (k : NestedKey) : RelO (valV kvs k) ((atKey xs k).map (·.2)) := by
  induction r with
  | nil => exact True.intro
  | @cons p q ps qs h t ih =>
    obtain ⟨h1, _, h2⟩ := h
    by_cases e : p.1 = k
    · have e' : q.1 = k := h1.symm.trans e
      have b : atKey (q :: qs) k = some q.2 := by simp [atKey, List.find?_cons, e']
      rw [valV_pos e, b]; exact h2
    · have e' : ¬ q.1 = k := fun z => e (h1.trans z)
      have b : atKey (q :: qs) k = atKey qs k := by simp [atKey, List.find?_cons, e']
      rw [valV_neg e, b]; exact ih
theorem KN.repl (r : KN H kvs xs) (k : NestedKey) {y : V} {u : Value} (ry : RelV y u) :
    KN H (kvs.map fun kv => if kv.1 = k then (kv.1, y) else kv) (xs.map (putAt k u)) := by
  induction r with
  | nil => exact .nil
  | @cons p q ps qs h t ih =>
    rw [List.map_cons, List.map_cons]
    refine .cons ?_ ih
    obtain ⟨h1, h2, h3⟩ := h
    unfold putAt
    by_cases e : p.1 = k
    · rw [if_pos e, if_pos (h1.symm.trans e)]; exact ⟨h1, h2, ry⟩
    · rw [if_neg e, if_neg (fun z => e (h1.trans z))]; exact ⟨h1, h2, h3⟩
theorem KN.put (r : KN H kvs xs) (k : NestedKey) {b : Addr} {y : V} {u : Value} (hb : k.depth ≤ 8 ∧ KeyV H k (.ref b)) (ry : RelV y u) :
    KN H (putK kvs k y) (storedH xs k b u) := by
  have e : (kvs.any fun kv => decide (kv.1 = k)) = (atKey xs k).isSome := by
    rw [valV_any, (r.val k).isSome_eq, Option.isSome_map]
  unfold putK storedH
  rw [e]
  by_cases q : (atKey xs k).isSome = true
  · rw [if_pos q, if_pos q]; exact r.repl k ry
  · rw [if_neg q, if_neg q]; exact Paired.snoc r ⟨rfl, hb, ry⟩
theorem KN.keeps (r : KN H kvs xs) (ht : ∀ b ys, H b = some (.tup ys) → H' b = some (.tup ys)) : KN H' kvs xs :=
  Paired.mapP r fun _ _ z => ⟨z.1, ⟨z.2.1.1, keyV_mono ht _ _ z.2.1.2⟩, z.2.2⟩
theorem DctN.keeps (d : DctN H a kvs) (ht : ∀ b ys, H b = some (.tup ys) → H' b = some (.tup ys)) (e : H' a = H a) : DctN H' a kvs := by
  rcases d with ⟨h, z⟩ | ⟨xs, h, nf, z, hd, hn, r⟩
  · exact .inl ⟨e.trans h, z⟩
  · exact .inr ⟨xs, e.trans h, nf, z, hd, hn, r.keeps ht⟩
end
section
variable {Y : Cx} {c : Code}
end
end GX

set_option Elab.async false
set_option linter.all false
set_option maxRecDepth 100000
set_option maxHeartbeats 4000000
namespace GX
open PySem PySem.Spec PyProof.Rows L2
/-! ## 19. sets of any kind of scanned keys; truth values among numbers -/
def isM (k : Int) : Value → Bool
  | .int n _ => n == k
  | .bool b => PpSet.b2 b == k
  | _ => false
theorem isM_shape {k : Int} {v : Value} (h : isM k v = true) : (∃ t, v = .int k t) ∨ ∃ b, v = .bool b ∧ PpSet.b2 b = k := by
  cases v <;> first
    | exact .inl ⟨_, by rw [eq_of_beq (show (_ == k) = true from h)]⟩
    | exact .inr ⟨_, rfl, eq_of_beq h⟩
    | exact absurd h Bool.false_ne_true
theorem dec_beq (a b : Int) : (a == b) = decide (a = b) := by by_cases h : a = b <;> simp [h]
def mixK (prog : Program) (w : World) : PySem.KeyKind prog w Int where
  is := isM
  hash := hashInt
  inj := fun v a b ha hb => by
    rcases isM_shape ha with ⟨t, rfl⟩ | ⟨c, rfl, e⟩
    · rcases isM_shape hb with ⟨u, e2⟩ | ⟨c, e2, _⟩
      · cases e2; rfl
      · cases e2
    · rcases isM_shape hb with ⟨u, e2⟩ | ⟨c', e2, e3⟩
      · cases e2
      · cases e2; rw [← e, ← e3]
  byValue := fun k v h => by rcases isM_shape h with ⟨t, rfl⟩ | ⟨b, rfl, _⟩ <;> rfl
  pyHash := fun hv h => by
    rcases isM_shape hv with ⟨t, rfl⟩ | ⟨b, rfl, e⟩
    · exact wpAny_pyHash_int h
    · refine PpSet.pyHash_bool ?_
      rw [show PpSet.hB b = hashInt _ from congrArg hashInt e]
      exact h
  eqBool := fun {A E s a b u v Q} hu hv h => by
    rcases isM_shape hu with ⟨t, rfl⟩ | ⟨c, rfl, e⟩
    · rcases isM_shape hv with ⟨t2, rfl⟩ | ⟨d, rfl, e2⟩
      · exact wpAny_eqBool_int h
      · refine SeqAt.EqAt.int_bool a t d _ _ _ _ ?_
        rw [show (if d = true then (1 : Int) else 0) = b from e2, dec_beq]
        exact h
    · rcases isM_shape hv with ⟨t2, rfl⟩ | ⟨d, rfl, e2⟩
      · refine SeqAt.EqAt.bool_int c b t2 _ _ _ _ ?_
        rw [show (if c = true then (1 : Int) else 0) = a from e, dec_beq]
        exact h
      · refine SeqAt.EqAt.bool_bool c d _ _ _ _ ?_
        rw [show (c == d) = decide (a = b) by rw [← e, ← e2]; cases c <;> cases d <;> decide]
        exact h
  «strs» := fun k x t v h => absurd h Bool.false_ne_true
/-- a set at a whose members are values of L, n at most; it can be walked -/
def SetG {P : Program} {w : World} {κ : Type} [DecidableEq κ] (knd : PySem.KeyKind P w κ) (h : Heap) (a : Addr) (L : List Value) (n : Nat) : Prop :=
  ∃ o es ep t, h.get? a = some o ∧ o.ExactSet ∧ o.data = .set es ep t ∧ ElemsOf knd es.toList ∧ (∀ e ∈ es.toList, e.2 ∈ L) ∧ es.size ≤ n ∧ es.size < scanBound ∧ t.fits es.size = true ∧ Ris t.place.toList ∧ (w.params.followText "set-order" = true ∨ t.led = true)
section
variable {P : Program} {w : World} {A : Around} {E : Value → Shared → Prop} {s : Shared} {a : Addr} {κ : Type} [DecidableEq κ] {knd : PySem.KeyKind P w κ} {L : List Value} {n : Nat}
theorem SetG.at {h h' : Heap} (R : SetG knd h a L n) (k : ∀ o, h.get? a = some o → h'.get? a = some o) : SetG knd h' a L n := by
  obtain ⟨o, es, ep, t, ho, r⟩ := R
  exact ⟨o, es, ep, t, k o ho, r⟩
/-- what is put stands there; where the table is too full it is laid anew -/
theorem setG_put {g : Bool → Sem Unit} (hg : ∀ b s₁ (Q' : Unit → Shared → Prop), Q' () s₁ → wpAny (model P w) A (g b) Q' E s₁) {o : Obj} {es es1 : Array (Int × Value)} {ep : Nat} {t t2 : SetTable} (ho : s.heap.get? a = some o) (hex : o.ExactSet) (hd : o.data = .set es ep t)
    (e1 : ElemsOf knd es1.toList) (l1 : ∀ e ∈ es1.toList, e.2 ∈ L) (n1 : es1.size ≤ n) (b1 : es1.size < scanBound) (f2 : t2.fits es1.size = true) (r2 : Ris t2.place.toList) (d2 : w.params.followText "set-order" = true ∨ t2.led = true) {wd : Bool} {R : Option Bool → Shared → Prop}
    (hR : ∀ h', Heap.SameBut a s.heap h' → SetG knd h' a L n → R (some true) { s with heap := h' }) :
    wpAny (model P w) A (do storeSet a es1 t2; if (!wd && t2.tooFull) = true then do { g (relayAll t2 es1 (SetTable.grown es1.size)).2.2; storeSet a (relayAll t2 es1 (SetTable.grown es1.size)).1 (relayAll t2 es1 (SetTable.grown es1.size)).2.1; pure (some true) } else pure (some true)) R E s := by
  have at1 : (s.heap.update a (Obj.putSet es1 t2)).get? a = some { o with data := .set es1 (ep + 1) t2 } := store_at ho hd
  have same1 := Heap.SameBut.update s.heap a (Obj.putSet es1 t2)
  refine wpAny_bind (wpAny_storeSet_of ho hd ?_ (fits_of_scanBound b1))
  split
  · have pm := relayAll_perm t2 es1 (SetTable.grown es1.size); have f3 := relayAll_fits t2 es1 (SetTable.grown es1.size); have r3 := relayAll_ris t2 es1 (SetTable.grown es1.size); have d3 := relayAll_led t2 es1 (SetTable.grown es1.size)
    generalize relayAll t2 es1 (SetTable.grown es1.size) = Z at pm f3 r3 d3 ⊢
    obtain ⟨es2, t3, gv⟩ := Z
    dsimp only at pm f3 r3 d3 ⊢
    have sz : es2.size = es1.size := (Array.length_toList (xs := es2)).symm.trans (pm.length_eq.trans (Array.length_toList (xs := es1)))
    refine wpAny_bind (hg _ _ _ (wpAny_bind (wpAny_storeSet_of at1 rfl ?_ (fits_of_scanBound (by rw [sz]; exact b1)))))
    exact wpAny_pure (hR _ (same1.trans (Heap.SameBut.update _ a _)) ⟨_, es2, _, t3, store_at at1 rfl, hex, rfl, fun e he => e1 e (pm.mem_iff.mp he), fun e he => l1 e (pm.mem_iff.mp he), by rw [sz]; exact n1, by rw [sz]; exact b1, f3, r3, d2.imp id fun z => by rw [d3]; exact z⟩)
  · exact wpAny_pure (hR _ same1 ⟨_, es1, _, t2, at1, hex, rfl, e1, l1, n1, b1, f2, r2, d2⟩)
theorem setG_add {k : κ} {v : Value} {Q : Bool → Shared → Prop} (R : SetG knd s.heap a L n) (hk : knd.is k v = true) (hs : v.scannable = true) (hv : v ∈ L) (room : n + 1 < scanBound) (hQ : ∀ b h', Heap.SameBut a s.heap h' → SetG knd h' a L (n + 1) → Q b { s with heap := h' }) :
    wpAny (model P w) A (setAddHashed a v (knd.hash k)) Q E s := by
  obtain ⟨o, es, ep, t, ho, hex, hd, el, hL, hn, hb, hf, hr, hl⟩ := R
  have gave : ∀ (b : Bool) (s₁ : Shared) (Q' : Unit → Shared → Prop), Q' () s₁ → wpAny (model P w) A (match b with | true => rule "set.scan.the-table-gave-way" | false => pure ()) Q' E s₁ := fun b s₁ Q' q => by cases b <;> first | exact wpAny_pure q | exact wpAny_rule q
  unfold setAddHashed setAddHashedIn
  refine wpAny_holding (wpAny_bind (wpAny_setState_of ho hd hf ?_)); dsimp only; rw [byScan_of hs hb el]; simp only [↓reduceIte]; unfold setAddByScan
  refine wpAny_bind ?_; refine wpAny_bind (wpAny_rule (wpAny_bind (wpAny_setScan_of hk ho hd hf el ?_)))
  cases met : List.findIdx? (fun e => knd.is k e.2) es.toList with
  | some j => dsimp only; exact wpAny_pure (wpAny_pure (hQ _ s.heap (Heap.SameBut.refl a s.heap) ⟨o, es, ep, t, ho, hex, hd, el, hL, by omega, hb, hf, hr, hl⟩))
  | none =>
    dsimp only
    have pm := layNew_perm t es (knd.hash k) v; have f1 := layNew_fits t es (knd.hash k) v; have r1 := layNew_ris t es (knd.hash k) v hr; have d1 := layNew_led t es (knd.hash k) v
    generalize layNew t es (knd.hash k) v = Z at pm f1 r1 d1 ⊢
    obtain ⟨es1, t1, wd, gv⟩ := Z
    dsimp only at pm f1 r1 d1 ⊢
    rw [Array.toList_push] at pm
    have sz : es1.size = es.size + 1 := (Array.length_toList (xs := es1)).symm.trans (pm.length_eq.trans (by rw [List.length_append, Array.length_toList]; rfl))
    have inn : ∀ e ∈ es1.toList, e ∈ es.toList ∨ e = (knd.hash k, v) := fun e he => (List.mem_append.mp (pm.mem_iff.mp he)).imp id List.mem_singleton.mp
    have e1 : ElemsOf knd es1.toList := fun e he => (inn e he).elim (el e) fun z => by rw [z]; exact ⟨⟨k, hk, rfl⟩, hs⟩
    have l1 : ∀ e ∈ es1.toList, e.2 ∈ L := fun e he => (inn e he).elim (hL e) fun z => by rw [z]; exact hv
    have led1 : w.params.followText "set-order" = true ∨ t1.led = true := hl.imp id fun z => by rw [d1]; exact z
    refine wpAny_bind (gave _ _ _ ?_)
    split
    · refine wpAny_bind ?_; rw [hashByValue_scannable 8 hs]; refine wpAny_pure (setG_put (n := n + 1) gave ho hex hd e1 l1 (by omega) (by omega) ?_ ?_ ?_ fun h' sb r => ?_)
      · first | (split <;> first | exact f1 | exact SetTable.fits_plain_off f1) | exact f1
      · first | (split <;> exact r1) | exact r1
      · first | (split <;> exact led1) | exact led1
      · dsimp only; exact wpAny_pure (hQ _ h' sb r)
    · refine wpAny_bind (wpAny_pure ?_); simp only [↓reduceIte]; exact setG_put (n := n + 1) gave ho hex hd e1 l1 (by omega) (by omega) f1 r1 led1 fun h' sb r => by dsimp only; exact wpAny_pure (hQ _ h' sb r)
end
end GX

set_option Elab.async false
set_option linter.all false
set_option maxRecDepth 100000
set_option maxHeartbeats 4000000
namespace GX
open PySem PySem.Spec PyProof.Rows L2
/-! ## 20. set(t), t a tuple of scanned keys of one kind -/
abbrev newSetO (w : World) : Obj := { cls := .type "set", dict := none, data := .set #[] 0 (.fresh 0 0 (!w.params.followText "set-order")) }
section
variable {P : Program} {w : World} {A : Around} {E : Value → Shared → Prop} {s : Shared} {κ : Type} [DecidableEq κ] {knd : PySem.KeyKind P w κ} {L : List Value}
theorem setG_new {h : Heap} {a : Addr} (ho : h.get? a = some (newSetO w)) : SetG knd h a L 0 :=
  ⟨_, #[], 0, _, ho, ⟨rfl, rfl, rfl⟩, rfl, (fun e he => by simp at he), (fun e he => by simp at he), Nat.le_refl _, by decide, by rfl, List.Pairwise.nil, by
    show _ ∨ (!w.params.followText "set-order") = true
    cases w.params.followText "set-order" <;> first | exact .inl rfl | exact .inr rfl⟩
/-- the loop of set.update -/
theorem setG_loop {it : Addr} {fp wr : List Addr} {G : Array GenState → Array GenState → Prop} {n : Nat} {Pv : Nat → Value → Prop} {St : Nat → Shared → Prop} {R : Result → Shared → Prop} (W : WalksS P w A.in1 it fp wr G n Pv St) (S : Addr) (out : S ∉ fp) (hn : n + 1 < scanBound)
    (keys : ∀ i v, Pv i v → v ∈ L ∧ v.scannable = true ∧ ∃ k, knd.is k v = true) : ∀ (left i : Nat) (s : Shared), n - i = left → i ≤ n → St i s → SetG knd s.heap S L i → (∀ s', Moved (S :: wr) G s s' → SetG knd s'.heap S L n → R (.ok (.ret .none)) s') →
      codeAny (model P w) A (.builtin "set.update.loop" ⟨[.ref S, .ref it], []⟩) R s := by
  have outW : S ∉ wr := fun z => out (W.sub _ z)
  have sub : ∀ b ∈ wr, b ∈ S :: wr := fun b z => List.mem_cons_of_mem _ z
  intro left
  induction left with
  | zero =>
    intro i s hleft hi hst hS hR
    obtain rfl : i = n := by omega
    refine codeAny_builtin F.entry_set_update_loop ?_; rw [Around.under_plainId F.plain_set_update_loop _]
    show wpAny _ A.in1 (pyNext (.ref it) >>= _) _ _ s
    exact wpAny_bind (W.done s _ _ hst fun s' hm => wpAny_pure (hR s' (hm.mono sub) (hS.at fun o e => hm.heap S o outW e)))
  | succ left ih =>
    intro i s hleft hi hst hS hR
    have hlt : i < n := by omega
    refine codeAny_builtin F.entry_set_update_loop ?_; rw [Around.under_plainId F.plain_set_update_loop _]
    show wpAny _ A.in1 (pyNext (.ref it) >>= _) _ _ s
    refine wpAny_bind (W.item i s _ _ hlt hst fun v s' hP hst' hm => ?_)
    obtain ⟨hv, hsc, k, hk⟩ := keys i v hP
    show wpAny _ A.in1 (holding [v] (setAdd S v) >>= _) _ _ s'
    refine wpAny_bind (wpAny_holding ?_); unfold setAdd; refine wpAny_holding (wpAny_bind (knd.pyHash hk ?_))
    refine setG_add (s := { s' with toks := s'.toks + 1 }) (hS.at fun o e => hm.heap S o outW e) hk hsc hv (by omega) fun b h' sb S2 => ?_
    refine wpAny_pure ⟨plainId_quiet F.plain_set_update_loop _, ih (i + 1) _ (by omega) hlt (W.frame _ s' _ _ hst' (Nat.le_succ _) fun b hb o e => ?_) S2 fun s'' hm'' S3 => hR s'' (Moved.trans W.gtrans ((hm.mono sub).then_heap (Nat.le_succ _) fun b o hb e => ?_) hm'') S3⟩
    · rw [sb.2 b (fun z : b = S => out (by rw [← z]; exact hb))]; exact e
    · rw [sb.2 b (fun z : b = S => hb (by rw [z]; exact List.mem_cons_self))]; exact e
theorem call_set_tupG {l : Addr} {items : Array Value} {Q : Value → Shared → Prop} (calm : A.handled = none) (hl : s.heap.IsTuple l items) (few : items.size + 1 < scanBound) (keys : ∀ v ∈ items.toList, v.scannable = true ∧ ∃ k, knd.is k v = true)
    (h : ∀ (h' : Heap) (tk : Nat), SetG knd h' s.heap.objs.size items.toList items.size → (∀ b o, s.heap.get? b = some o → h'.get? b = some o) → Q (.ref s.heap.objs.size) { s with heap := h', toks := tk }) : wpAny (model P w) A (call (.type "set") [.ref l]) Q E s := by
  obtain ⟨c, tl, hmro⟩ := F.called_set.mro
  have made := F.called_set.made; have sub := F.called_set.sub; have notT := F.called_set.notType; have canC := F.called_set.canCreate; have ct := F.typeCall_set_1 (.ref l)
  refine wpAny_call (codeAny_of_tree ?_); show wpAny _ _ (callAny (.type "set") _) _ _ _
  refine wpAny_pure ⟨Code.quiet_builtin _ (by decide +kernel), codeAny_builtin F.entry_type_call ?_⟩; rw [Around.under_plain (weight_type_call_type "set" [.ref l] []) rfl]
  repeat (any_goals (first | assumption | wp_step))
  refine codeAny_mono (code_set_led1 (.ref l) (E := E) (Q₁ := fun obj s₁ => obj = .ref s.heap.objs.size ∧ s₁ = { s with heap := s.heap.push (newSetO w) }) ⟨rfl, rfl⟩) fun r s₁ hr => ?_
  cases r with
  | error e => exact hr
  | ok fl =>
    cases fl with
    | ret obj =>
      obtain ⟨rfl, rfl⟩ := hr
      have at0 : (s.heap.push (newSetO w)).get? s.heap.objs.size = some (newSetO w) := Heap.get?_push_size _ rfl
      have ty0 : Shared.TypeIs { s with heap := s.heap.push (newSetO w) } (.ref s.heap.objs.size) "set" := ⟨_, at0, rfl⟩
      have ini := F.called_set.init.lookup; have bnd := F.called_set.init.bind (.ref s.heap.objs.size)
      repeat (any_goals (first | assumption | wp_step))
      refine codeAny_mono (codeAny_call_builtin (R := wants (fun r s₂ => r = .none ∧ ∃ h' tk, s₂ = { s with heap := h', toks := tk } ∧ SetG knd h' s.heap.objs.size items.toList items.size ∧ (∀ b o, s.heap.get? b = some o → h'.get? b = some o)) E) F.called_set.init.plain F.entry_set_init (check_set_init_1 ty0 ?_)) fun r₂ s₂ hr₂ => ?_
      · obtain ⟨ol, hol, hcl, nl, hdl⟩ := hl
        obtain ⟨ocls, odict, odata, oslots⟩ := ol
        simp only at hcl hdl
        subst hcl; subst hdl
        have tup1 : (s.heap.push (newSetO w)).get? l = some { cls := .type "tuple", dict := odict, data := .seq items nl, slots := oslots } := Heap.get?_push_of_some _ hol
        have noS := F.sub_tuple_set; have noF := F.sub_tuple_frozenset; have noD : (Value.type "tuple" == Value.type "dict") = false := by decide
        have isT : (s.heap.push (newSetO w)).IsTuple l items := ⟨_, tup1, rfl, nl, rfl⟩
        unfold Builtin.«set.__init__» noKeywords Builtin.Frozenset.updateFrom
        generalize hPI : pyIter = PI
        wp_walk
        subst hPI
        refine wpAny_pyIter_tuple isT (wpAny_bind (wpAny_runValue ?_))
        have below : l < s.heap.objs.size := Heap.lt_size hol
        have calm3 : A.in1.in1.in1.handled = none := by simp [calm]
        have sz1 : (s.heap.push (newSetO w)).objs.size = s.heap.objs.size + 1 := Heap.size_push ..
        have notI : l ≠ (s.heap.push (newSetO w)).objs.size := by rw [sz1]; exact Nat.ne_of_lt (Nat.lt_succ_of_lt below)
        have outS : s.heap.objs.size ∉ [(s.heap.push (newSetO w)).objs.size, l] := by
          rw [sz1]
          intro z
          rcases List.mem_cons.mp z with z | z
          · exact absurd z (Nat.ne_of_lt (Nat.lt_succ_self _))
          · exact absurd (List.mem_singleton.mp z) (Nat.ne_of_gt below)
        refine setG_loop (L := items.toList) (knd := knd) ((Walks.tuple calm3 _ l notI items).toS) s.heap.objs.size outS few (fun i v hv => ?_) (items.size - 0) 0 _ (by omega) (Nat.zero_le _) ⟨⟨_, Heap.get?_push_size _ rfl, rfl, rfl⟩, (isT.push _)⟩ (setG_new (Heap.get?_push_of_some _ at0)) fun s' hm S' => ?_
        · have hm : v ∈ items.toList := List.mem_of_getElem? (by rw [Array.getElem?_toList]; exact hv)
          exact ⟨hm, keys v hm⟩
        · obtain ⟨h', g2, d', tk', os'⟩ := s'
          have eg : g2 = s.gens := hm.gens; have ed : d' = s.drawn := hm.drawn; have eo : os' = s.os := hm.os
          subst eg; subst ed; subst eo
          show wpAny _ _ _ _ _ _
          refine wpAny_pure ?_
          show wpAny _ _ (ret Value.none) _ _ _
          refine wpAny_pure ⟨rfl, h', tk', rfl, S', fun b o e => ?_⟩
          have b0 : b < s.heap.objs.size := Heap.lt_size e
          refine hm.heap b o (fun z => ?_) (Heap.get?_push_of_some _ (Heap.get?_push_of_some _ e))
          rcases List.mem_cons.mp z with z | z
          · exact absurd z (Nat.ne_of_lt b0)
          · exact absurd ((List.mem_singleton.mp z).trans sz1) (Nat.ne_of_lt (Nat.lt_succ_of_lt b0))
      · cases r₂ with
        | error e => exact hr₂
        | ok fl₂ =>
          cases fl₂ with
          | ret r =>
            obtain ⟨rfl, h', tk, rfl, S', hk'⟩ := hr₂
            repeat (any_goals (first | assumption | wp_step))
            exact h _ _ S' hk'
          | _ => exact hr₂.elim
    | _ => exact hr.elim
end
end GX

set_option Elab.async false
set_option linter.all false
set_option maxRecDepth 100000
set_option maxHeartbeats 4000000
namespace GX
open PySem PySem.Spec PyProof.Rows L2 PySem.W PySem.Calls PySem.SeqAt
/-! ## 21. < of truth values and numbers; sorted(set) of both -/
abbrev tvI (b : Bool) : Int := if b = true then (1 : Int) else 0
theorem lt_bi_gives (a : Bool) (b : Int) (u : Tok) : Gives (Builtin.«int.__lt__» ⟨[.bool a, .int b u], []⟩) (.val (Value.bool ((fun x1 x2 => decide (x1 < x2)) (if a = true then (1 : Int) else 0) b))) :=
  .of_wp fun M A E s Q h => by obtain ⟨hp, g, d, tk, os⟩ := s; wp_walk; exact ⟨_, rfl, h⟩
theorem gt_bi_gives (a : Bool) (b : Int) (u : Tok) : Gives (Builtin.«int.__gt__» ⟨[.bool a, .int b u], []⟩) (.val (Value.bool ((fun x1 x2 => decide (x1 > x2)) (if a = true then (1 : Int) else 0) b))) :=
  .of_wp fun M A E s Q h => by obtain ⟨hp, g, d, tk, os⟩ := s; wp_walk; exact ⟨_, rfl, h⟩
section
variable {P : Program} {w : World} {A : Around} {E : Value → Shared → Prop} {s : Shared}
theorem rclt_bi (a : Bool) (b : Int) (u : Tok) : RcLt A s (.bool a) (.int b u) (decide (tvI a < b)) := fun P w E Q h =>
  SeqAt.rc_left_or rfl (typeIs_int s b u) (by decide) F.sub_int_bool F.slot_bool_lt (call_gives F.slot_bool_lt rfl F.entry_int_lt (F.args_int_lt_2 _ _) (lt_bi_gives a b u) ⟨nofun, h⟩) (.inl rfl)
theorem rclt_ib (a : Int) (t : Tok) (b : Bool) : RcLt A s (.int a t) (.bool b) (decide (a < tvI b)) := fun P w E Q h =>
  SeqAt.rc_sub_first_or (typeIs_int s a t) rfl (by decide) F.sub_bool_int F.slot_bool_gt_refl (call_gives F.slot_bool_gt_refl rfl F.entry_int_gt (F.args_int_gt_2 _ _) (gt_bi_gives b a t) ⟨nofun, h⟩) (.inl rfl)
theorem rclt_bb (a b : Bool) : RcLt A s (.bool a) (.bool b) (decide (tvI a < tvI b)) := fun P w E Q h => PyProof.Rows.lt_bool (by cases a <;> cases b <;> exact h)
theorem rclt_ii (a : Int) (t : Tok) (b : Int) (u : Tok) : RcLt A s (.int a t) (.int b u) (decide (a < b)) := fun P w E Q h => PySem.P.lt_int h
end
def keyM : Value → Int
  | .int n _ => n
  | .bool b => tvI b
  | _ => 0
def scM : Value → Bool
  | .int _ _ => true
  | .bool _ => true
  | _ => false
def tyM : Value → Value
  | .bool _ => .type "bool"
  | _ => .type "int"
theorem scM_shape {v : Value} (h : scM v = true) : (∃ n t, v = .int n t) ∨ ∃ b, v = .bool b := by
  cases v <;> first | exact .inl ⟨_, _, rfl⟩ | exact .inr ⟨_, rfl⟩ | exact absurd h Bool.false_ne_true
def kkM (p : Value → Bool) : PyProof.Rows.KeyKind where
  α := Int
  blt a b := decide (a < b)
  irrefl a := by simp
  trans a b c h1 h2 := by simp only [decide_eq_true_eq] at *; omega
  negTrans a b c h := by simp only [decide_eq_true_eq] at *; omega
  total a b h1 h2 := by simp only [decide_eq_false_iff_not] at *; omega
  keyOf v := if p v = true then some (keyM v) else none
  dflt := (0 : Int)
theorem kkM_of {p : Value → Bool} {v : Value} {k : Int} (h : (kkM p).keyOf v = some k) : p v = true ∧ keyM v = k := by
  have h' : (if p v = true then some (keyM v) else none) = some k := h
  by_cases q : p v = true
  · rw [if_pos q] at h'; exact ⟨q, Option.some.inj h'⟩
  · rw [if_neg q] at h'; cases h'
section
variable {P : Program} {w : World} {A : Around} {E : Value → Shared → Prop} {s : Shared}
theorem firsts_mix : ∀ {vs : List Value}, (∀ v ∈ vs, scM v = true) → vs.mapM firstOfTuple' = pure (vs.map fun _ => none)
  | [], _ => by simp
  | v :: vs, h => by
    have e : firstOfTuple' v = pure none := by rcases scM_shape (h v List.mem_cons_self) with ⟨n, t, rfl⟩ | ⟨b, rfl⟩ <;> rfl
    rw [List.mapM_cons, e, firsts_mix fun u hu => h u (List.mem_cons_of_mem _ hu)]; simp
theorem types_mix : ∀ {vs : List Value}, (∀ v ∈ vs, scM v = true) → vs.mapM typeOf = pure (vs.map tyM)
  | [], _ => by simp
  | v :: vs, h => by
    have e : typeOf v = pure (tyM v) := by rcases scM_shape (h v List.mem_cons_self) with ⟨n, t, rfl⟩ | ⟨b, rfl⟩ <;> rfl
    rw [List.mapM_cons, e, types_mix fun u hu => h u (List.mem_cons_of_mem _ hu)]; simp
theorem kind_mix {v1 v2 : Value} {vs : List Value} (h : ∀ v ∈ v1 :: v2 :: vs, scM v = true) : keyKind' (v1 :: v2 :: vs).toArray = pure (if ((v1 :: v2 :: vs).all fun v => tyM v == tyM v1) = true then oneType' else general') := by
  rw [keyKind'_eq, List.mapM_toArray, firsts_mix h]; simp only [map_pure, pure_bind]; rw [if_neg (by simp), if_neg (by simp)]
  rw [oneTypeOnly'_eq, List.mapM_toArray, types_mix h]; simp only [map_pure, pure_bind]
  have h0 : (List.map tyM (v1 :: v2 :: vs)).toArray[0]? = some (tyM v1) := by simp
  rw [h0]
  have ha : ((List.map tyM (v1 :: v2 :: vs)).toArray.all fun x => x == tyM v1) = (v1 :: v2 :: vs).all fun v => tyM v == tyM v1 := by rw [List.all_toArray, List.all_map]; rfl
  dsimp only
  rw [ha]
  cases (v1 :: v2 :: vs).all fun v => tyM v == tyM v1 <;> simp
theorem ltm_gen {x y : Value} {a b : Int} {Q : Bool → Shared → Prop} (hx : scM x = true) (hy : scM y = true) (ea : keyM x = a) (eb : keyM y = b) (h : Q (decide (a < b)) s) : wpAny (model P w) A (oneLt' false x y) Q E s := by
  subst ea; subst eb
  rw [oneLt'_eq]; simp only [Bool.false_eq_true, if_false]
  refine wpAny_bind (m := richCompare .Lt x y) ?_
  rcases scM_shape hx with ⟨n, t, rfl⟩ | ⟨c, rfl⟩ <;> rcases scM_shape hy with ⟨m, u, rfl⟩ | ⟨d, rfl⟩
  · exact rclt_ii n t m u P w E _ (wpAny_truthy_bool h)
  · exact rclt_ib n t d P w E _ (wpAny_truthy_bool h)
  · exact rclt_bi c m u P w E _ (wpAny_truthy_bool h)
  · exact rclt_bb c d P w E _ (wpAny_truthy_bool h)
theorem ltm_one {x y : Value} {a b : Int} {Q : Bool → Shared → Prop} (hx : scM x = true) (hy : scM y = true) (he : tyM x = tyM y) (ea : keyM x = a) (eb : keyM y = b) (h : Q (decide (a < b)) s) : wpAny (model P w) A (oneLt' true x y) Q E s := by
  subst ea; subst eb
  rcases scM_shape hx with ⟨n, t, rfl⟩ | ⟨c, rfl⟩ <;> rcases scM_shape hy with ⟨m, u, rfl⟩ | ⟨d, rfl⟩
  · exact oneLt_int h
  · exact absurd (Value.type.inj he) (by decide)
  · exact absurd (Value.type.inj he) (by decide)
  · exact oneLt_bool (by cases c <;> cases d <;> exact h)
theorem sorts_mix {vs : List Value} (h : ∀ v ∈ vs, scM v = true) : ∃ κ, SortsAt P w A s κ vs := by
  have gen : H.LtAt P w A s (kkM scM) general' := fun E x y a b Q ha hb hq => by
    obtain ⟨hx, ea⟩ := kkM_of ha; obtain ⟨hy, eb⟩ := kkM_of hb
    exact ltm_gen hx hy ea eb hq
  have keys : ∀ v, v ∈ vs → ∃ a, (kkM scM).keyOf v = some a := fun v hv => ⟨keyM v, if_pos (h v hv)⟩
  match vs, h, keys with
  | [], _, keys => exact ⟨_, keys, general', gen, fun z => absurd z (by decide)⟩
  | [v], _, keys => exact ⟨_, keys, general', gen, fun z => absurd z (by simp)⟩
  | v1 :: v2 :: vs, h, keys =>
    have K := kind_mix h
    by_cases al : ((v1 :: v2 :: vs).all fun v => tyM v == tyM v1) = true
    · rw [if_pos al] at K
      refine ⟨kkM fun v => scM v && tyM v == tyM v1, fun v hv => ⟨keyM v, if_pos ?_⟩, oneType', fun E x y a b Q ha hb hq => ?_, fun _ E Q hq => ?_⟩
      · exact Bool.and_eq_true_iff.mpr ⟨h v hv, List.all_eq_true.mp al v hv⟩
      · obtain ⟨hx, ea⟩ := kkM_of ha; obtain ⟨hy, eb⟩ := kkM_of hb
        obtain ⟨x1, x2⟩ := Bool.and_eq_true_iff.mp hx; obtain ⟨y1, y2⟩ := Bool.and_eq_true_iff.mp hy
        rw [keyLt'_oneType]
        exact ltm_one x1 y1 ((eq_of_beq x2).trans (eq_of_beq y2).symm) ea eb hq
      · rw [K]; exact wpAny_pure hq
    · rw [if_neg al] at K
      exact ⟨_, keys, general', gen, fun _ E Q hq => by rw [K]; exact wpAny_pure hq⟩
/-- sorted(a), a a set of scanned keys of one kind, the members numbers or truth values -/
theorem sorted_setG {κ : Type} [DecidableEq κ] {knd : PySem.KeyKind P w κ} {L : List Value} {n : Nat} {a : Addr} {Q : Value → Shared → Prop} (R : SetG knd s.heap a L n) (hL : ∀ v ∈ L, scM v = true) (calm : A.handled = none)
    (hQ : ∀ s' p (out : List Value) (c : Nat), (∀ b o, s.heap.get? b = some o → s'.heap.get? b = some o) → s'.gens = s.gens → s'.os = s.os → s.heap.objs.size ≤ p → s'.heap.get? p = some (seqObj "list" out.toArray c) → out.length ≤ n → (∀ v ∈ out, v ∈ L) → Q (.ref p) s') :
    wpAny (model P w) A (call (.builtin "sorted") [.ref a]) Q E s := by
  obtain ⟨o, es, ep, t, ho, hex, hd, el, hl, hn, hb, hf, hr, hd2⟩ := R
  refine call_function_entry kind_sorted plain_sorted entry_sorted (args_sorted1 _) ?_
  unfold Builtin.«sorted»; refine wpAny_bind (m := checkCount "sorted" 1 1 _) (wpAny_pure ?_)
  refine wpAny_bind (collect_set (A := A.in1) calm ⟨o, ho, hex.1, hd⟩ hf hb hr hd2 fun s1 vs k1 hz g1 o1 pm => ?_)
  have len : vs.length = es.size := by rw [pm.length_eq, List.length_map, Array.length_toList]
  have inL : ∀ v ∈ vs, v ∈ L := fun v hv => by obtain ⟨e, he, q⟩ := List.mem_map.mp (pm.mem_iff.mp hv); rw [← q]; exact hl e he
  have line : vs.length ≤ sizeLine := by rw [len]; exact fits_of_scanBound hb
  refine wpAny_bind (wpAny_newList ?_ line)
  have at1 : (s1.heap.push (seqObj "list" vs.toArray 0)).get? s1.heap.objs.size = some (seqObj "list" vs.toArray 0) := Heap.get?_push_size _ rfl
  obtain ⟨κ', S⟩ := sorts_mix (P := P) (w := w) (A := A.in1.in1) (s := { s1 with heap := sortingHeap (s1.heap.push (seqObj "list" vs.toArray 0)) s1.heap.objs.size vs }) (vs := vs) fun v hv => hL v (inL v hv)
  refine wpAny_bind (wpAny_holding (wpAny_call_entry slot_list_sort ⟨_, at1, rfl⟩ entry_list_sort (list_sort_vals at1 S line ⟨_, rfl, ?_⟩) (args_list_sort _)))
  refine wpAny_pure ⟨_, rfl, ?_⟩
  obtain ⟨c, hc⟩ := sortedHeap_at (vs := vs) (out := (sortVals κ' false vs vs).toArray) at1
  refine hQ _ s1.heap.objs.size (sortVals κ' false vs vs) c (fun b u e => ?_) g1 o1 hz hc (by rw [sortVals_length false rfl, len]; exact hn) fun v hv => inL v (sortVals_mem false hv)
  have q := k1 b u e
  have lt1 := Heap.lt_size q
  show (PyProof.Rows.sortedHeap (s1.heap.push (seqObj "list" vs.toArray 0)) s1.heap.objs.size vs _).get? b = some u
  rw [sortedHeap_old (Nat.ne_of_lt lt1) (by rw [size_push']; exact Nat.lt_succ_of_lt lt1)]
  exact Heap.get?_push_of_some _ q
end
end GX

set_option Elab.async false
set_option linter.all false
set_option maxRecDepth 100000
set_option maxHeartbeats 2000000
namespace GD
open PySem PySem.Spec PyProof.Rows L2 GX

/-! ## 1. data -/
/-- a value as data: a tuple by its items, a list (or another thing that may change) by its place in the store -/
inductive D where
  | non | bl (b : Bool) | int (i : Int) | str (x : Str) | tup (l : List D) | ref (n : Nat)
instance : Inhabited D := ⟨.non⟩
inductive Cell where
  | lst (l : List D)
  | frz (l : List D)
  | dic (l : List (List L2.Key × D))
  | obj (c : Str) (l : List (Str × D))
  | dicN (l : List (NestedKey × D))
abbrev EV := List (Option D)
abbrev SS := List Cell
mutual
inductive Rep (ι : List Addr) (H : Hp) : V → D → Prop
  | non : Rep ι H .non .non
  | bl (b : Bool) : Rep ι H (.bl b) (.bl b)
  | int (i : Int) : Rep ι H (.int i) (.int i)
  | str (x : Str) : Rep ι H (.str x) (.str x)
  | tup {a : Addr} {vs : List V} {ds : List D} : H a = some (.tup vs) → ds.length ≤ sizeLine → Reps ι H vs ds → Rep ι H (.ref a) (.tup ds)
  | ref {n : Nat} {a : Addr} : ι[n]? = some a → Rep ι H (.ref a) (.ref n)
inductive Reps (ι : List Addr) (H : Hp) : List V → List D → Prop
  | nil : Reps ι H [] []
  | cons {v : V} {vs : List V} {d : D} {ds : List D} : Rep ι H v d → Reps ι H vs ds → Reps ι H (v :: vs) (d :: ds)
end
/-- what never changes -/
def Fixed : HO → Prop
  | .lst _ => False
  | .dK _ => False
  | .dT _ => False
  | .set _ _ => False
  | .ins _ _ _ => False
  | .xd _ => False
  | .tbl _ => False
  | .ext φ => FldX φ
  | _ => True
/-- what stood stands, but for what the store holds (there what never changes stands) and code tables, which grow -/
structure Kp (ι : List Addr) (H H' : Hp) : Prop where
  keep : ∀ b o, H b = some o → (∀ ps, o ≠ .tbl ps) → (b ∈ ι → Fixed o) → H' b = some o
  tab : ∀ b ps, H b = some (.tbl ps) → ∃ ps', H' b = some (.tbl ps')
theorem fixed_tbl {o : HO} (h : Fixed o) : ∀ ps, o ≠ .tbl ps := fun ps z => by rw [z] at h; exact h
theorem Kp.fix {ι : List Addr} {H H' : Hp} (k : Kp ι H H') {b : Addr} {o : HO} (h : H b = some o) (f : Fixed o) : H' b = some o := k.keep b o h (fixed_tbl f) fun _ => f
theorem Kp.refl {ι : List Addr} (H : Hp) : Kp ι H H := ⟨fun _ _ e _ _ => e, fun _ ps e => ⟨ps, e⟩⟩
theorem Kp.trans {ι : List Addr} {H H1 H2 : Hp} (a : Kp ι H H1) (b : Kp ι H1 H2) : Kp ι H H2 :=
  ⟨fun c o e n f => b.keep c o (a.keep c o e n f) n f, fun c ps e => let ⟨ps1, e1⟩ := a.tab c ps e; b.tab c ps1 e1⟩
/-- the store has grown by what was new -/
theorem Kp.trans2 {ι ι1 : List Addr} {H H1 H2 : Hp} (a : Kp ι H H1) (b : Kp ι1 H1 H2) (n : ∀ c ∈ ι1, c ∈ ι ∨ H c = none) : Kp ι H H2 :=
  ⟨fun c o e m f => b.keep c o (a.keep c o e m f) m fun hc => f ((n c hc).elim id fun z => by rw [z] at e; cases e), fun c ps e => let ⟨ps1, e1⟩ := a.tab c ps e; b.tab c ps1 e1⟩
theorem Kp.fresh {ι : List Addr} {H H' : Hp} (a : Kp ι H H') {c : Addr} (hi : c ∉ ι) (h : H' c = none) : H c = none := by
  cases e : H c with
  | none => rfl
  | some o =>
    by_cases ht : ∃ ps, o = .tbl ps
    · obtain ⟨ps, rfl⟩ := ht
      obtain ⟨ps', e'⟩ := a.tab c ps e
      rw [h] at e'
      cases e'
    · rw [a.keep c o e (fun ps z => ht ⟨ps, z⟩) fun z => absurd z hi] at h
      cases h
theorem Kp.of {ι : List Addr} {H H' : Hp} (h : ∀ b o, H b = some o → H' b = some o) : Kp ι H H' := ⟨fun b o e _ _ => h b o e, fun b ps e => ⟨ps, h b _ e⟩⟩
theorem Kp.new {ι : List Addr} {H : Hp} {p : Addr} {o : HO} (h : H p = none) : Kp ι H (upd H p o) := .of fun b u e => by
  rw [upd_ne (ne_of_none e h)]
  exact e
theorem Kp.grown {ι : List Addr} {H H' : Hp} (g : Grown H H') : Kp ι H H' := ⟨fun b o e n _ => g.keep b o e n, g.tab⟩
theorem Kp.code {ι : List Addr} {H H' : Hp} (k : Kp ι H H') {c P : Addr} (h : H c = some (CodeG c P)) : H' c = some (CodeG c P) := k.fix h (by unfold CodeG; exact fun _ ⟨o, vs, _, _, _, _, _, _, _, e1, _, e2, _⟩ => ⟨_, o, vs, e1, e2⟩)
/-- a list of the store is written -/
theorem Kp.wr {ι : List Addr} {H : Hp} {p : Addr} {xs : List V} {o : HO} (h : H p = some (.lst xs)) (hp : p ∈ ι) : Kp ι H (upd H p o) := by
  refine ⟨fun b u e n f => ?_, fun b ps e => ⟨ps, ?_⟩⟩
  · rw [upd_ne]
    · exact e
    · intro z
      subst z
      rw [h] at e
      cases e
      exact f hp
  · rw [upd_ne]
    · exact e
    · intro z
      rw [z, h] at e
      cases e

section
variable {ι ι' ιk : List Addr} {H H' : Hp}
theorem pre_get (p : ι <+: ι') {n : Nat} {a : Addr} (h : ι[n]? = some a) : ι'[n]? = some a := by
  obtain ⟨t, rfl⟩ := p
  rw [List.getElem?_append_left (List.getElem?_eq_some_iff.mp h).1]
  exact h
mutual
theorem Rep.mono (k : Kp ιk H H') (p : ι <+: ι') : ∀ {v : V} {d : D}, Rep ι H v d → Rep ι' H' v d
  | _, _, .non => .non
  | _, _, .bl b => .bl b
  | _, _, .int i => .int i
  | _, _, .str x => .str x
  | _, _, .tup h l r =>   .tup (k.fix h trivial) l (Reps.mono k p r)
  | _, _, .ref h => .ref (pre_get p h)
theorem Reps.mono (k : Kp ιk H H') (p : ι <+: ι') : ∀ {vs : List V} {ds : List D}, Reps ι H vs ds → Reps ι' H' vs ds
  | _, _, .nil => .nil
  | _, _, .cons r t => .cons (Rep.mono k p r) (Reps.mono k p t)
end
theorem Rep.kp (k : Kp ι H H') {v : V} {d : D} (r : Rep ι H v d) : Rep ι H' v d := r.mono k (List.prefix_refl _)
theorem Reps.kp (k : Kp ι H H') {vs : List V} {ds : List D} (r : Reps ι H vs ds) : Reps ι H' vs ds := r.mono k (List.prefix_refl _)
theorem Reps.length : ∀ {vs : List V} {ds : List D}, Reps ι H vs ds → vs.length = ds.length
  | _, _, .nil => rfl
  | _, _, .cons _ t => by rw [List.length_cons, List.length_cons, Reps.length t]
theorem Reps.get : ∀ {vs : List V} {ds : List D} {i : Nat} {v : V}, Reps ι H vs ds → vs[i]? = some v → ∃ d, ds[i]? = some d ∧ Rep ι H v d
  | _, _, _, _, .nil, e => by simp at e
  | _, _, 0, _, .cons r _, e => by simp at e; subst e; exact ⟨_, rfl, r⟩
  | _, _, i + 1, v, .cons _ t, e => by
    obtain ⟨d, h1, h2⟩ := Reps.get (i := i) (v := v) t (by simpa using e)
    exact ⟨d, by simpa using h1, h2⟩
theorem Reps.get' : ∀ {vs : List V} {ds : List D} {i : Nat} {d : D}, Reps ι H vs ds → ds[i]? = some d → ∃ v, vs[i]? = some v ∧ Rep ι H v d
  | _, _, _, _, .nil, e => by simp at e
  | _, _, 0, _, .cons r _, e => by simp at e; subst e; exact ⟨_, rfl, r⟩
  | _, _, i + 1, d, .cons _ t, e => by
    obtain ⟨v, h1, h2⟩ := Reps.get' (i := i) (d := d) t (by simpa using e)
    exact ⟨v, by simpa using h1, h2⟩
theorem Reps.append : ∀ {vs ws : List V} {ds es : List D}, Reps ι H vs ds → Reps ι H ws es → Reps ι H (vs ++ ws) (ds ++ es)
  | _, _, _, _, .nil, s => s
  | _, _, _, _, .cons r t, s => .cons r (Reps.append t s)
theorem Reps.set {v : V} {d : D} (r : Rep ι H v d) : ∀ {vs : List V} {ds : List D} (i : Nat), Reps ι H vs ds → Reps ι H (vs.set i v) (ds.set i d)
  | _, _, _, .nil => .nil
  | _, _, 0, .cons _ t => .cons r t
  | _, _, i + 1, .cons q t => .cons q (Reps.set r i t)
theorem Reps.take : ∀ {vs : List V} {ds : List D} (n : Nat), Reps ι H vs ds → Reps ι H (vs.take n) (ds.take n)
  | _, _, 0, _ => .nil
  | _, _, _ + 1, .nil => .nil
  | _, _, n + 1, .cons r t => .cons r (Reps.take n t)
theorem Reps.drop : ∀ {vs : List V} {ds : List D} (n : Nat), Reps ι H vs ds → Reps ι H (vs.drop n) (ds.drop n)
  | _, _, 0, r => r
  | _, _, _ + 1, .nil => .nil
  | _, _, n + 1, .cons _ t => Reps.drop n t
theorem Reps.one {v : V} {d : D} (r : Rep ι H v d) : Reps ι H [v] [d] := .cons r .nil
theorem Reps.ints : ∀ {vs : List V} {ns : List Int}, Reps ι H vs (ns.map D.int) → vs = ns.map V.int
  | _, [], h => by cases h; rfl
  | _, n :: ns, h => by
    cases h with
    | cons r t =>
      cases r
      rw [Reps.ints t]
      rfl
theorem Reps.of_ints : ∀ {ns : List Int}, Reps ι H (ns.map V.int) (ns.map D.int)
  | [] => .nil
  | _ :: _ => .cons (.int _) Reps.of_ints
-- the places in a datum lie in the store
mutual
def D.lo (n : Nat) : D → Bool
  | .ref m => decide (m < n)
  | .tup l => D.loAll n l
  | _ => true
def D.loAll (n : Nat) : List D → Bool
  | [] => true
  | d :: ds => D.lo n d && D.loAll n ds
end
mutual
theorem Rep.low : ∀ {v : V} {d : D}, Rep ι H v d → D.lo ι.length d = true
  | _, _, .non => rfl
  | _, _, .bl b => rfl
  | _, _, .int i => rfl
  | _, _, .str x => rfl
  | _, _, .tup h l r => by unfold D.lo; exact Reps.low r
  | _, _, .ref h => by unfold D.lo; exact decide_eq_true (List.getElem?_eq_some_iff.mp h).1
theorem Reps.low : ∀ {vs : List V} {ds : List D}, Reps ι H vs ds → D.loAll ι.length ds = true
  | _, _, .nil => by unfold D.loAll; rfl
  | _, _, .cons r t => by unfold D.loAll; rw [Rep.low r, Reps.low t]; rfl
end
-- a datum that needs the older places alone
mutual
theorem Rep.cut (p : ι <+: ι') : ∀ {v : V} {d : D}, Rep ι' H v d → D.lo ι.length d = true → Rep ι H v d
  | _, _, .non, _ => .non
  | _, _, .bl b, _ => .bl b
  | _, _, .int i, _ => .int i
  | _, _, .str x, _ => .str x
  | _, _, .tup h l r, q => .tup h l (Reps.cut p r (by unfold D.lo at q; exact q))
  | _, _, .ref h, q => .ref (by
      unfold D.lo at q
      have q := of_decide_eq_true q
      obtain ⟨t, rfl⟩ := p
      rw [List.getElem?_append_left q] at h
      exact h)
theorem Reps.cut (p : ι <+: ι') : ∀ {vs : List V} {ds : List D}, Reps ι' H vs ds → D.loAll ι.length ds = true → Reps ι H vs ds
  | _, _, .nil, _ => .nil
  | _, _, .cons r t, q => by
    unfold D.loAll at q
    rw [Bool.and_eq_true] at q
    exact .cons (Rep.cut p r q.1) (Reps.cut p t q.2)
end
end

/-! ## 2. the store -/
/-- what is fixed through the law -/
structure Ws where
  K : PySem.W.Frag
  base : Heap
  nm : Nat → Nat → Option Str
  tabs : List (Addr × Addr)
  cls : Str → Option Addr := fun _ => none
/-- and the code object that runs -/
structure Wd where
  s : Ws
  c : Addr
  fx : List (Nat × V) := []
  sq : List (Addr × List Int) := []
  lm : List (Addr × Expr × List D) := []
  gn : Bool := true
/-- pairs: the same names or keys, values that stand for data -/
structure PairsR {κ : Type} (ι : List Addr) (H : Hp) (vs : List (κ × V)) (ds : List (κ × D)) : Prop where
  keys : vs.map (·.1) = ds.map (·.1)
  vals : Reps ι H (vs.map (·.2)) (ds.map (·.2))
theorem PairsR.mono {κ : Type} {ι ι' ιk : List Addr} {H H' : Hp} {vs : List (κ × V)} {ds : List (κ × D)} (h : PairsR ι H vs ds) (k : Kp ιk H H') (p : ι <+: ι') : PairsR ι' H' vs ds := ⟨h.keys, h.vals.mono k p⟩
def CellR (w : Ws) (ι : List Addr) (H : Hp) (a : Addr) : Cell → Prop
  | .lst ds => ∃ vs, H a = some (.lst vs) ∧ ds.length ≤ sizeLine ∧ Reps ι H vs ds
  | .frz ds => ∃ o vs, H a = some (.frz o (.lst vs)) ∧ ds.length ≤ sizeLine ∧ Reps ι H vs ds
  | .dic ds => ∃ vs, H a = some (.dT vs) ∧ ds.length ≤ sizeLine ∧ PairsR ι H vs ds
  | .obj x ds => ∃ C dx vs, H a = some (.ins C dx vs) ∧ w.cls x = some C ∧ PairsR ι H vs ds
  | .dicN ds => ∃ vs, DctN H a vs ∧ ds.length ≤ sizeLine ∧ PairsR ι H vs ds
structure SR (w : Ws) (ι : List Addr) (st : SS) (H : Hp) : Prop where
  len : ι.length = st.length
  nd : ι.Nodup
  cell : ∀ (n : Nat) (a : Addr) (c : Cell), ι[n]? = some a → st[n]? = some c → CellR w ι H a c
  tabs : AllTabs w.nm H
  tab : ∀ p ∈ w.tabs, ∃ ps, H p.2 = some (.tbl ps)
section
variable {w : Ws} {ι ι' ιk : List Addr} {st : SS} {H H' : Hp} {a : Addr}
theorem CellR.ext {c : Cell} (h : CellR w ι H a c) (k : Kp ιk H H') (p : ι <+: ι') (e : H' a = H a) : CellR w ι' H' a c := by
  cases c with
  | lst ds =>
    obtain ⟨vs, h1, l, h2⟩ := h
    exact ⟨vs, e.trans h1, l, h2.mono k p⟩
  | frz ds =>
    obtain ⟨o, vs, h1, l, h2⟩ := h
    exact ⟨o, vs, e.trans h1, l, h2.mono k p⟩
  | dic ds =>
    obtain ⟨vs, h1, l, h2⟩ := h
    exact ⟨vs, e.trans h1, l, h2.mono k p⟩
  | obj x ds =>
    obtain ⟨C, dx, vs, h1, l, h2⟩ := h
    exact ⟨C, dx, vs, e.trans h1, l, h2.mono k p⟩
  | dicN ds =>
    obtain ⟨vs, h1, l, h2⟩ := h
    exact ⟨vs, h1.keeps (fun b ys eb => k.fix eb True.intro) e, l, h2.mono k p⟩
/-- new things are tracked -/
theorem SR.ext (s : SR w ι st H) (k : ∀ b o, H b = some o → H' b = some o) (n : ∀ b, b ∈ ι → H' b = H b) (t : ∀ P ps, H' P = some (.tbl ps) → H P = some (.tbl ps)) : SR w ι st H' := by
  refine ⟨s.len, s.nd, fun n' a c h1 h2 => (s.cell n' a c h1 h2).ext (ιk := ι) (.of k) (List.prefix_refl _) (n a (List.mem_of_getElem? h1)), fun P ps e => ?_, fun P hP => ?_⟩
  · obtain ⟨q1, q2⟩ := s.tabs P ps (t P ps e)
    refine ⟨q1, fun pos cv hcv => ?_⟩
    obtain ⟨c, e1, e2⟩ := q2 pos cv hcv
    exact ⟨c, e1, (Grown.entry (H := H) (H' := H') ⟨fun b o e _ => k b o e, fun b ps e => ⟨ps, k b _ e⟩⟩ e2)⟩
  · obtain ⟨ps, e⟩ := s.tab P hP
    exact ⟨ps, k _ _ e⟩
theorem SR.new (s : SR w ι st H) {p : Addr} {o : HO} (hp : H p = none) (ho : ∀ ps, o ≠ .tbl ps) (hi : p ∉ ι) : SR w ι st (upd H p o) := by
  refine s.ext (fun b u e => by rw [upd_ne (ne_of_none e hp)]; exact e) (fun b hb => upd_ne fun z => hi (z ▸ hb)) fun P ps e => ?_
  by_cases hP : P = p
  · rw [hP, upd_same] at e
    exact absurd (Option.some.inj e) (ho ps)
  · rw [upd_ne hP] at e
    exact e
/-- where only code tables have grown -/
theorem SR.grown (s : SR w ι st H) (g : Grown H H') (T : AllTabs w.nm H') (n : ∀ b, b ∈ ι → H' b = H b) : SR w ι st H' :=
  ⟨s.len, s.nd, fun n' a c h1 h2 => (s.cell n' a c h1 h2).ext (ιk := ι) (.grown g) (List.prefix_refl _) (n a (List.mem_of_getElem? h1)), T, fun P hP => let ⟨ps, e⟩ := s.tab P hP; g.tab _ _ e⟩
end
theorem allTabs_kp {nm : Nat → Nat → Option Str} {ι : List Addr} {H H' : Hp} (T : AllTabs nm H) (k : Kp ι H H') (t : ∀ P ps, H' P = some (.tbl ps) → H P = some (.tbl ps)) : AllTabs nm H' := by
  intro P ps e
  obtain ⟨q1, q2⟩ := T P ps (t P ps e)
  refine ⟨q1, fun pos cv hcv => ?_⟩
  obtain ⟨c, e1, e2⟩ := q2 pos cv hcv
  refine ⟨c, e1, ?_⟩
  unfold EntryOk at e2 ⊢
  split
  · rename_i e
    rw [e] at e2
    obtain ⟨P', h1, ps', h2⟩ := e2
    exact ⟨P', k.code h1, k.tab _ _ h2⟩
  · rename_i q e
    rw [e] at e2
    exact k.fix e2 (by unfold LamX.CodeO; exact fun _ ⟨oc, vs, _, e1, e2, _⟩ => ⟨_, oc, vs, e1, e2⟩)
section
variable {w : Ws} {ι : List Addr} {st : SS} {H : Hp} {p : Addr}
/-- a list that the store does not hold is written -/
theorem SR.put (s : SR w ι st H) {xs ys : List V} (hp : H p = some (.lst xs)) (hi : p ∉ ι) : SR w ι st (upd H p (.lst ys)) := by
  have k : Kp [p] H (upd H p (.lst ys)) := Kp.wr hp (List.mem_singleton.mpr rfl)
  refine ⟨s.len, s.nd, fun n' a c h1 h2 => (s.cell n' a c h1 h2).ext k (List.prefix_refl _) (upd_ne fun z => hi (z ▸ List.mem_of_getElem? h1)), allTabs_kp s.tabs k fun P ps e => ?_, fun q hq => let ⟨ps, e⟩ := s.tab q hq; k.tab _ _ e⟩
  by_cases hP : P = p
  · rw [hP, upd_same] at e
    cases e
  · rw [upd_ne hP] at e
    exact e
theorem Reps.put {ds : List D} {vs xs ys : List V} (r : Reps ι H vs ds) (hp : H p = some (.lst xs)) : Reps ι (upd H p (.lst ys)) vs ds := r.mono (Kp.wr (ι := [p]) hp (List.mem_singleton.mpr rfl)) (List.prefix_refl _)
theorem Rep.put {d : D} {v : V} {xs ys : List V} (r : Rep ι H v d) (hp : H p = some (.lst xs)) : Rep ι (upd H p (.lst ys)) v d := r.mono (Kp.wr (ι := [p]) hp (List.mem_singleton.mpr rfl)) (List.prefix_refl _)
/-- what was new is written -/
theorem Kp.put {H1 : Hp} {o : HO} (k : Kp ι H H1) (hp : H p = none) : Kp ι H (upd H1 p o) := by
  refine ⟨fun b u e n f => ?_, fun b ps e => ?_⟩
  · rw [upd_ne (ne_of_none e hp)]
    exact k.keep b u e n f
  · obtain ⟨ps', e'⟩ := k.tab b ps e
    exact ⟨ps', by rw [upd_ne (ne_of_none e hp)]; exact e'⟩
theorem nodup_ix : ∀ {l : List Addr} {i j : Nat} {a : Addr}, l.Nodup → l[i]? = some a → l[j]? = some a → i = j
  | [], _, _, _, _, h, _ => by simp at h
  | x :: xs, 0, 0, _, _, _, _ => rfl
  | x :: xs, 0, j + 1, a, hn, h1, h2 => by
    simp at h1 h2 hn
    subst h1
    exact absurd (List.mem_of_getElem? h2) hn.1
  | x :: xs, i + 1, 0, a, hn, h1, h2 => by
    simp at h1 h2 hn
    subst h2
    exact absurd (List.mem_of_getElem? h1) hn.1
  | x :: xs, i + 1, j + 1, a, hn, h1, h2 => by
    simp at h1 h2 hn
    rw [nodup_ix hn.2 h1 h2]
/-- a list of the store is written -/
theorem SR.wr (s : SR w ι st H) {n : Nat} {ds : List D} {vs : List V} (hn : ι[n]? = some p) (hx : ∃ xs, H p = some (.lst xs)) (hl : ds.length ≤ sizeLine) (r : Reps ι H vs ds) : SR w ι (st.set n (.lst ds)) (upd H p (.lst vs)) := by
  obtain ⟨xs, hp⟩ := hx
  have k : Kp [p] H (upd H p (.lst vs)) := Kp.wr hp (List.mem_singleton.mpr rfl)
  refine ⟨by rw [List.length_set]; exact s.len, s.nd, fun m a c h1 h2 => ?_, allTabs_kp s.tabs k fun P ps e => ?_, fun q hq => let ⟨ps, e⟩ := s.tab q hq; k.tab _ _ e⟩
  · by_cases hm : n = m
    · subst hm
      rw [hn] at h1
      cases h1
      have hlt : n < st.length := by rw [← s.len]; exact (List.getElem?_eq_some_iff.mp hn).1
      rw [List.getElem?_set_self hlt] at h2
      cases h2
      exact ⟨vs, upd_same, hl, r.put hp⟩
    · rw [List.getElem?_set_ne hm] at h2
      refine (s.cell m a c h1 h2).ext k (List.prefix_refl _) (upd_ne fun z => hm ?_)
      subst z
      exact nodup_ix s.nd hn h1
  · by_cases hP : P = p
    · rw [hP, upd_same] at e
      cases e
    · rw [upd_ne hP] at e
      exact e
/-- a list goes into the store -/
theorem SR.add (s : SR w ι st H) {ds : List D} {vs : List V} (hp : H p = some (.lst vs)) (hi : p ∉ ι) (hl : ds.length ≤ sizeLine) (r : Reps ι H vs ds) : SR w (ι ++ [p]) (st ++ [.lst ds]) H := by
  refine ⟨by rw [List.length_append, List.length_append, s.len]; rfl, ?_, fun m a c h1 h2 => ?_, s.tabs, s.tab⟩
  · rw [List.nodup_append]
    exact ⟨s.nd, by simp, fun a ha b hb => by rw [List.mem_singleton.mp hb]; exact fun z => hi (z ▸ ha)⟩
  · have k : Kp ι H H := Kp.refl H
    have hpre : ι <+: ι ++ [p] := List.prefix_append _ _
    by_cases hm : m < ι.length
    · rw [List.getElem?_append_left hm] at h1
      rw [List.getElem?_append_left (by rw [← s.len]; exact hm)] at h2
      exact (s.cell m a c h1 h2).ext k hpre rfl
    · have hlt := (List.getElem?_eq_some_iff.mp h1).1
      rw [List.length_append, List.length_singleton] at hlt
      have e : m = ι.length := by omega
      subst e
      rw [List.getElem?_append_right (Nat.le_refl _), Nat.sub_self] at h1
      rw [s.len, List.getElem?_append_right (Nat.le_refl _), Nat.sub_self] at h2
      cases h1; cases h2
      exact ⟨vs, hp, hl, r.mono k hpre⟩
end
/-- the code object that runs has its table -/
def Cod (w : Wd) (H : Hp) : Prop := w.gn = true → ∃ P, CodeAt w.s.base H w.c P ∧ ∃ ps, H P = some (.tbl ps)
theorem Cod.kp {w : Wd} {ι : List Addr} {H H' : Hp} (h : Cod w H) (k : Kp ι H H') : Cod w H' := by
  intro hg
  obtain ⟨P, h1, ps, h2⟩ := h hg
  refine ⟨P, ?_, k.tab _ _ h2⟩
  rcases h1 with h1 | h1
  · exact .inl h1
  · exact .inr (k.code h1)
/-! ## 3. lambdas that are at hand -/
/-- the object at a is just o -/
def PinO (a : Addr) (o : Obj) : HO := .frz o (.own a)
/-- the captured names of a lambda, in its scope's order -/
def freeN (scope : Scope) : List Str := (scope.names.filter fun y => decide (y.2 = .free)).map (·.1)
inductive CapsAt (H : Hp) (cl : List (Str × Addr)) : List Str → List V → Prop
  | nil : CapsAt H cl [] []
  | cons {y : Str} {ys : List Str} {c : Addr} {o : Obj} {u : Value} {v : V} {vs : List V} : cl.lookup y = some c → H c = some (PinO c o) → o.data = .cell (some u) → RelV v u → CapsAt H cl ys vs → CapsAt H cl (y :: ys) (v :: vs)
/-- the function object at f is that of the lambda l, with what it captured -/
structure LamAt (H : Hp) (f : Addr) (l : Expr) (vs : List V) : Prop where
  ex : ∃ (params : Arguments) (body : Expr) (scope : Scope) (pos : Pos) (qual : Str) (cl : List (Str × Addr)) (pm ctv : Value) (c' : Addr), l = .Lambda params body scope pos ∧ H f = some (PinO f (PySem.W.kla_obj "<lambda>" qual params body scope cl pm c' ctv)) ∧ H c' = some (LamX.CodeO c' qual) ∧
    CapsAt H cl (freeN scope) vs ∧ (∀ x c, cl.lookup x = some c → x ∈ freeN scope) ∧ ∀ x y c, cl.lookup x = some c → cl.lookup y = some c → x = y
theorem Kp.pin {ι : List Addr} {H H' : Hp} (k : Kp ι H H') {a b : Addr} {o : Obj} (h : H a = some (PinO b o)) : H' a = some (PinO b o) := k.fix h trivial
theorem CapsAt.kp {ι : List Addr} {H H' : Hp} {cl : List (Str × Addr)} (k : Kp ι H H') : ∀ {ys : List Str} {vs : List V}, CapsAt H cl ys vs → CapsAt H' cl ys vs
  | _, _, .nil => .nil
  | _, _, .cons h1 h2 h3 h4 t => .cons h1 (k.pin h2) h3 h4 (CapsAt.kp k t)
theorem LamAt.kp {ι : List Addr} {H H' : Hp} {f : Addr} {l : Expr} {vs : List V} (h : LamAt H f l vs) (k : Kp ι H H') : LamAt H' f l vs := by
  obtain ⟨params, body, scope, pos, qual, cl, pm, ctv, c', h1, h2, h3, h4, h5⟩ := h.ex
  exact ⟨params, body, scope, pos, qual, cl, pm, ctv, c', h1, k.pin h2, k.fix h3 (by unfold LamX.CodeO; exact fun _ ⟨oc, vs, _, e1, e2, _⟩ => ⟨_, oc, vs, e1, e2⟩), h4.kp k, h5⟩
structure LamR (ι : List Addr) (H : Hp) (f : Addr) (l : Expr) (caps : List D) : Prop where
  ex : ∃ vs, LamAt H f l vs ∧ Reps ι H vs caps
theorem LamR.mono {ι ι' ιk : List Addr} {H H' : Hp} {f : Addr} {l : Expr} {caps : List D} (h : LamR ι H f l caps) (k : Kp ιk H H') (p : ι <+: ι') : LamR ι' H' f l caps := let ⟨vs, h1, h2⟩ := h.ex; ⟨vs, h1.kp k, h2.mono k p⟩
end GD

set_option Elab.async false
set_option linter.all false
set_option maxRecDepth 100000
set_option maxHeartbeats 2000000
namespace GD
open PySem PySem.Spec PyProof.Rows L2 GX

/-! ## 3. readings over data -/
structure Fit (X : Cx) (w : Wd) : Prop where
  k : X.K = w.s.K
  b : X.base = w.s.base
  c : X.env.code = .ref w.c
/-- a list of ints that nobody writes -/
def Scr (K : PySem.W.Frag) (H : Hp) (a : Addr) (ns : List Int) : Prop := (∃ o, H a = some (.frz o (.lst (ns.map V.int)))) ∨ ∀ H', SqL K H' a (ns.map V.int)
theorem Scr.sql {K : PySem.W.Frag} {H : Hp} {a : Addr} {ns : List Int} (h : Scr K H a ns) : SqL K H a (ns.map V.int) := h.elim (fun ⟨o, e⟩ => .inl (.inr ⟨o, e⟩)) fun h => h H
theorem Scr.kp {K : PySem.W.Frag} {ι : List Addr} {H H' : Hp} {a : Addr} {ns : List Int} (k : Kp ι H H') (h : Scr K H a ns) : Scr K H' a ns := h.elim (fun ⟨o, e⟩ => .inl ⟨o, k.fix e trivial⟩) .inr
structure EnvR (w : Wd) (ι : List Addr) (env : EV) (σ : L2.St) (H : Hp) : Prop where
  len : env.length = σ.length
  at_ : ∀ (i : Nat) (d : D), env[i]? = some (some d) → ∃ v, σ[i]? = some (some v) ∧ Rep ι H v d
  cod : Cod w H
  fx : ∀ p ∈ w.fx, σ[p.1]? = some (some p.2)
  sq : ∀ p ∈ w.sq, Scr w.s.K H p.1 p.2
  lm : ∀ p ∈ w.lm, LamR ι H p.1 p.2.1 p.2.2
theorem EnvR.mono {w : Wd} {ι ι' ιk : List Addr} {env : EV} {σ : L2.St} {H H' : Hp} (e : EnvR w ι env σ H) (k : Kp ιk H H') (p : ι <+: ι') : EnvR w ι' env σ H' :=
  ⟨e.len, fun i d h => let ⟨v, h1, h2⟩ := e.at_ i d h; ⟨v, h1, h2.mono k p⟩, e.cod.kp k, e.fx, fun p h => (e.sq p h).kp k, fun q h => (e.lm q h).mono k p⟩
theorem EnvR.kp {w : Wd} {ι : List Addr} {env : EV} {σ : L2.St} {H H' : Hp} (e : EnvR w ι env σ H) (k : Kp ι H H') : EnvR w ι env σ H' := e.mono k (List.prefix_refl _)
theorem EnvR.set {w : Wd} {ι : List Addr} {env : EV} {σ : L2.St} {H : Hp} {v : V} {d : D} (e : EnvR w ι env σ H) (i : Nat) (r : Rep ι H v d) (hfx : ∀ p ∈ w.fx, p.1 ≠ i) : EnvR w ι (env.set i (some d)) (σ.set i (some v)) H := by
  refine ⟨by rw [List.length_set, List.length_set]; exact e.len, fun j x h => ?_, e.cod, fun p hp => by rw [List.getElem?_set_ne (Ne.symm (hfx p hp))]; exact e.fx p hp, e.sq, e.lm⟩
  by_cases hj : i = j
  · subst hj
    by_cases hl : i < env.length
    · rw [List.getElem?_set_self hl] at h
      cases h
      exact ⟨v, List.getElem?_set_self (by rw [← e.len]; exact hl), r⟩
    · rw [List.getElem?_eq_none (by rw [List.length_set]; omega)] at h
      cases h
  · rw [List.getElem?_set_ne hj] at h ⊢
    exact e.at_ j x h

abbrev MP := EV → SS → Option D
abbrev MB := EV → SS → Option Bool
abbrev ML := EV → SS → Option (List D)
def tP (w : Wd) (m : MP) : TE := fun σ H Q => ∃ ι env st d, EnvR w ι env σ H ∧ SR w.s ι st H ∧ m env st = some d ∧ ∀ v H', Kp ι H H' → Rep ι H' v d → SR w.s ι st H' → Q v H'
def tBo (w : Wd) (m : MB) : TT := fun σ H Q => ∃ ι env st b, EnvR w ι env σ H ∧ SR w.s ι st H ∧ m env st = some b ∧ ∀ H', Kp ι H H' → SR w.s ι st H' → Q b H'
def tAs (w : Wd) (m : ML) : TA := fun σ H Q => ∃ ι env st ds, EnvR w ι env σ H ∧ SR w.s ι st H ∧ m env st = some ds ∧ ∀ vs H', Kp ι H H' → Reps ι H' vs ds → SR w.s ι st H' → Q vs H'
/-- a new list that nobody holds -/
def tLs (w : Wd) (m : ML) : TE := fun σ H Q => ∃ ι env st ds, EnvR w ι env σ H ∧ SR w.s ι st H ∧ m env st = some ds ∧
  ∀ p vs H', Kp ι H H' → H' p = some (.lst vs) → H p = none → ds.length ≤ sizeLine → Reps ι H' vs ds → SR w.s ι st H' → Q (.ref p) H'
theorem PE.mo {X : Cx} {e : Expr} {t t' : TE} (h : PE X e t) (q : ∀ σ H Q, t' σ H Q → t σ H Q) : PE X e t' := ⟨fun pins s σ H Q I h' => h.run pins s σ H Q I (q σ H Q h')⟩
theorem PT.mo {X : Cx} {e : Expr} {t t' : TT} (h : PT X e t) (q : ∀ σ H Q, t' σ H Q → t σ H Q) : PT X e t' := ⟨fun pins s σ H Q I h' => h.run pins s σ H Q I (q σ H Q h')⟩
theorem PW.mo {X : Cx} {e : Expr} {t t' : TT} (h : PW X e t) (q : ∀ σ H Q, t' σ H Q → t σ H Q) : PW X e t' := ⟨fun whole pins s σ H Q I h' => h.run whole pins s σ H Q I (q σ H Q h')⟩
theorem PA.mo {X : Cx} {es : List Expr} {t t' : TA} (h : PA X es t) (q : ∀ σ H Q, t' σ H Q → t σ H Q) : PA X es t' := ⟨fun pos pins s σ H Q I h' => h.run pos pins s σ H Q I (q σ H Q h')⟩
theorem nin_of {w : Ws} {ι : List Addr} {st : SS} {H : Hp} (s : SR w ι st H) {p : Addr} (h : H p = none) : p ∉ ι := fun hm => by
  obtain ⟨n, hn, e⟩ := List.getElem_of_mem hm
  have e1 : ι[n]? = some p := by rw [List.getElem?_eq_getElem hn, e]
  have hl : n < st.length := by rw [← s.len]; exact hn
  have q := s.cell n p st[n] e1 (List.getElem?_eq_getElem hl)
  cases hc : st[n] with
  | lst ds =>
    rw [hc] at q
    obtain ⟨vs, h1, _⟩ := q
    rw [h] at h1
    cases h1
  | frz ds =>
    rw [hc] at q
    obtain ⟨o, vs, h1, _⟩ := q
    rw [h] at h1
    cases h1
  | dic ds =>
    rw [hc] at q
    obtain ⟨vs, h1, _⟩ := q
    rw [h] at h1
    cases h1
  | obj x ds =>
    rw [hc] at q
    obtain ⟨C, dx, vs, h1, _⟩ := q
    rw [h] at h1
    cases h1
  | dicN ds =>
    rw [hc] at q
    obtain ⟨vs, h1, _⟩ := q
    rcases h1 with ⟨h1, _⟩ | ⟨xs, h1, _⟩ <;> rw [h] at h1 <;> cases h1

section
variable {X : Cx} {w : Wd} {pos : Pos}
/-! ### names, constants, displays -/
def mVar (i : Nat) : MP := fun env _ => match env[i]? with | some (some d) => some d | _ => none
theorem dp_var (i : Nat) {x : Str} (hN : X.N[i]? = some x := by rfl) (hv : Vis X.env.scope x := by first | exact Or.inl rfl | exact Or.inr (Or.inl rfl) | exact Or.inr (Or.inr rfl)) (hd : (x == ("__debug__" : Str)) = false := by decide)
    (hcd : (x == ("__classdict__" : Str)) = false := by decide) : PE X (.Name x pos) (tP w (mVar i)) := by
  refine PE.mo (pe_var hN hv hd hcd) fun σ H Q ⟨ι, env, st, d, he, hs, hm, q⟩ => ?_
  unfold mVar at hm
  split at hm
  · rename_i d' e
    cases hm
    obtain ⟨v, e1, r⟩ := he.at_ i _ e
    exact ⟨v, e1, q v H (Kp.refl H) r hs⟩
  · cases hm
def mC (d : D) : MP := fun _ _ => some d
theorem dp_int {i : Int} {j : Nat} : PE X (.Constant (.int i) j pos) (tP w (mC (.int i))) :=
  PE.mo pe_int fun σ H Q ⟨ι, env, st, d, he, hs, hm, q⟩ => by cases hm; exact q _ H (Kp.refl H) (.int i) hs
theorem dp_bl {i : Bool} {j : Nat} : PE X (.Constant (.bool i) j pos) (tP w (mC (.bl i))) :=
  PE.mo pe_bl fun σ H Q ⟨ι, env, st, d, he, hs, hm, q⟩ => by cases hm; exact q _ H (Kp.refl H) (.bl i) hs
theorem dp_str {x : Str} {j : Nat} : PE X (.Constant (.str x) j pos) (tP w (mC (.str x))) :=
  PE.mo pe_str fun σ H Q ⟨ι, env, st, d, he, hs, hm, q⟩ => by cases hm; exact q _ H (Kp.refl H) (.str x) hs
theorem dp_non {j : Nat} : PE X (.Constant .none j pos) (tP w (mC .non)) :=
  PE.mo pe_non fun σ H Q ⟨ι, env, st, d, he, hs, hm, q⟩ => by cases hm; exact q _ H (Kp.refl H) .non hs
def mNil : ML := fun _ _ => some []
def mCons (m : MP) (r : ML) : ML := fun env st => match m env st, r env st with | some d, some ds => some (d :: ds) | _, _ => none
theorem da_nil : PA X [] (tAs w mNil) := PA.mo pa_nil fun σ H Q ⟨ι, env, st, d, he, hs, hm, q⟩ => by cases hm; exact q _ H (Kp.refl H) .nil hs
theorem da_cons {e : Expr} {es : List Expr} {m : MP} {r : ML} (ha : PE X e (tP w m)) (hr : PA X es (tAs w r)) (hs : starEach (e :: es) X.env = (false, eval e X.env) :: starEach es X.env := by rfl) : PA X (e :: es) (tAs w (mCons m r)) := by
  refine PA.mo (pa_cons ha hr hs) fun σ H Q ⟨ι, env, st, ds, he, hst, hm, q⟩ => ?_
  unfold mCons at hm
  split at hm
  · rename_i d ds' e1 e2
    cases hm
    exact ⟨ι, env, st, d, he, hst, e1, fun x H1 k1 r1 s1 => ⟨ι, env, st, ds', he.kp k1, s1, e2, fun xs H2 k2 r2 s2 => q _ _ (k1.trans k2) (.cons (r1.kp k2) r2) s2⟩⟩
  · cases hm
def mTup (r : ML) : MP := fun env st => match r env st with | some ds => if ds.length ≤ 1000 then some (.tup ds) else none | none => none
theorem small_size {n : Nat} (h : n ≤ 1000) : n ≤ sizeLine := Nat.le_trans h (by decide)
theorem dp_tup {es : List Expr} {r : ML} {x1 : Nat} (h : PA X es (tAs w r)) : PE X (.Tuple es x1 pos) (tP w (mTup r)) := by
  refine PE.mo (pe_tup h) fun σ H Q ⟨ι, env, st, d, he, hst, hm, q⟩ => ?_
  unfold mTup at hm
  split at hm
  · rename_i ds e1
    split at hm
    · rename_i hl
      cases hm
      refine ⟨ι, env, st, ds, he, hst, e1, fun xs H1 k1 r1 s1 => ⟨by rw [r1.length]; exact small_size hl, fun p hp => ?_⟩⟩
      exact q _ _ (k1.trans (Kp.new hp)) (.tup upd_same (small_size hl) (r1.kp (Kp.new hp))) (s1.new hp (fun _ z => by cases z) (nin_of s1 hp))
    · cases hm
  · cases hm
def mLst (r : ML) : ML := fun env st => match r env st with | some ds => if ds.length ≤ 1000 then some ds else none | none => none
theorem dl_lst {es : List Expr} {r : ML} (h : PA X es (tAs w r)) : PE X (.List es pos) (tLs w (mLst r)) := by
  refine PE.mo (pe_lst h) fun σ H Q ⟨ι, env, st, ds, he, hst, hm, q⟩ => ?_
  unfold mLst at hm
  split at hm
  · rename_i ds' e1
    split at hm
    · rename_i hl
      cases hm
      refine ⟨ι, env, st, _, he, hst, e1, fun xs H1 k1 r1 s1 => ⟨by rw [r1.length]; exact small_size hl, fun p hp => ?_⟩⟩
      exact q p xs _ (k1.trans (Kp.new hp)) upd_same (k1.fresh (nin_of s1 hp) hp) (small_size hl) (r1.kp (Kp.new hp)) (s1.new hp (fun _ z => by cases z) (nin_of s1 hp))
    · cases hm
  · cases hm

/-! ### operators -/
abbrev F2 := SS → D → D → Option D
def mOp (f : F2) (a b : MP) : MP := fun env st => match a env st, b env st with | some x, some y => f st x y | _, _ => none
/-- an operator's rule over data -/
def OpP (w : Wd) (f : F2) (r : R2) : Prop := ∀ (ι : List Addr) (st : SS) (H : Hp) (x y : V) (dx dy d : D) (Q : VK), SR w.s ι st H → Rep ι H x dx → Rep ι H y dy → f st dx dy = some d → (∀ v H', Kp ι H H' → Rep ι H' v d → SR w.s ι st H' → Q v H') → r x y H Q
theorem OpR.or2 {f : Value → Value → Sem Value} {r r' : R2} (h : OpR X f r) (h' : OpR X f r') : OpR X f (fun x y H Q => r x y H Q ∨ r' x y H Q) := by
  intro pins s σ H x y v u Q I rx ry hr
  rcases hr with hr | hr
  · exact h pins s σ H x y v u Q I rx ry hr
  · exact h' pins s σ H x y v u Q I rx ry hr
theorem op_read {f : F2} {r : R2} {ma mb : MP} (hr : OpP w f r) (σ : L2.St) (H : Hp) (Q : VK) : tP w (mOp f ma mb) σ H Q → tOp r (tP w ma) (tP w mb) σ H Q := by
  rintro ⟨ι, env, st, d, he, hst, hm, q⟩
  unfold mOp at hm
  split at hm
  · rename_i dx dy e1 e2
    exact ⟨ι, env, st, dx, he, hst, e1, fun x H1 k1 r1 s1 => ⟨ι, env, st, dy, he.kp k1, s1, e2, fun y H2 k2 r2 s2 => hr ι st H2 x y dx dy d Q s2 (r1.kp k2) r2 hm fun v H3 k3 r3 s3 => q v H3 ((k1.trans k2).trans k3) r3 s3⟩⟩
  · cases hm
theorem dp_bin {op : Operator} {f : F2} {r : R2} {a b : Expr} {ma mb : MP} (ho : OpR X (binaryOp op) r) (hr : OpP w f r) (ha : PE X a (tP w ma)) (hb : PE X b (tP w mb)) : PE X (.BinOp a op b pos) (tP w (mOp f ma mb)) :=
  PE.mo (pe_op ho ha hb) (op_read hr)
theorem dp_cmp {op : CmpOp} {f : F2} {r : R2} {a b : Expr} {ma mb : MP} (ho : OpR X (compareOp op) r) (hr : OpP w f r) (ha : PE X a (tP w ma)) (hb : PE X b (tP w mb)) (hm : behindInMarks op b = false := by rfl) : PE X (.Compare a [op] [b] pos) (tP w (mOp f ma mb)) :=
  PE.mo (pe_cmpR ho ha hb hm) (op_read hr)
theorem sqt_of {K : PySem.W.Frag} {H : Hp} {a : Addr} {vs : List V} (h : H a = some (.tup vs)) : SqT K H a vs := .inl (.inl h)
theorem sql_of {K : PySem.W.Frag} {H : Hp} {a : Addr} {vs : List V} (h : H a = some (.lst vs)) : SqL K H a vs := .inl (.inl h)
/-- + -/
def fAdd : F2 := fun _ x y => match x, y with
  | .int i, .int j => some (.int (i + j))
  | .tup a, .tup b => if a.length + b.length ≤ 1000000 then some (.tup (a ++ b)) else none
  | .str a, .str b => if a.length + b.length ≤ 1000000 then some (.str (a ++ b)) else none
  | _, _ => none
def rAddU (K : PySem.W.Frag) : R2 := fun x y H Q => (rI0 fun i j => .int (i + j)) x y H Q ∨ (rCatA K x y H Q ∨ ∃ i j, x = .str i ∧ y = .str j ∧ i.length + j.length ≤ sizeLine ∧ Q (.str (i ++ j)) H)
theorem big_size {n : Nat} (h : n ≤ 1000000) : n ≤ sizeLine := Nat.le_trans h (by decide)
theorem oAdd : OpR X (binaryOp .Add) (rAddU X.K) := OpR.or2 op_add (OpR.or2 op_catA op_add_str)
theorem qAdd {K : PySem.W.Frag} : OpP w fAdd (rAddU K) := by
  intro ι st H x y dx dy d Q s rx ry hf q
  unfold fAdd at hf
  split at hf
  · cases hf; cases rx; cases ry
    exact .inl ⟨_, _, rfl, rfl, q _ H (Kp.refl H) (.int _) s⟩
  · split at hf
    · rename_i a b hl
      cases hf
      cases rx with
      | tup h1 l1 r1 =>
        cases ry with
        | tup h2 l2 r2 =>
          have e1 := r1.length
          have e2 := r2.length
          refine .inr (.inl ⟨_, _, _, _, rfl, rfl, sqt_of h1, sqt_of h2, by rw [e1, e2]; exact big_size hl, fun z => ?_, fun z1 z2 => ?_, fun z1 z2 p hp => ?_⟩)
          · subst z
            cases r1
            exact q _ H (Kp.refl H) (.tup h2 l2 r2) s
          · subst z2
            cases r2
            rw [List.append_nil] at q
            exact q _ H (Kp.refl H) (.tup h1 l1 r1) s
          · exact q _ _ (Kp.new hp) (.tup upd_same (by rw [List.length_append]; exact big_size hl) ((r1.append r2).kp (Kp.new hp))) (s.new hp (fun _ z => by cases z) (nin_of s hp))
    · cases hf
  · split at hf
    · rename_i a b hl
      cases hf; cases rx; cases ry
      exact .inr (.inr ⟨_, _, rfl, rfl, big_size hl, q _ H (Kp.refl H) (.str _) s⟩)
    · cases hf
  · cases hf
def fI (g : Int → Int → Option D) : F2 := fun _ x y => match x, y with | .int i, .int j => g i j | _, _ => none
theorem qI {C : Int → Int → Prop} {g : Int → Int → V} {k : Int → Int → Option D} (hk : ∀ i j d, k i j = some d → C i j ∧ (∀ ι H, Rep ι H (g i j) d)) : OpP w (fI k) (rI C g) := by
  intro ι st H x y dx dy d Q s rx ry hf q
  unfold fI at hf
  split at hf
  · cases rx; cases ry
    obtain ⟨h1, h2⟩ := hk _ _ _ hf
    exact ⟨_, _, rfl, rfl, h1, q _ H (Kp.refl H) (h2 _ _) s⟩
  · cases hf
theorem qI0 {g : Int → Int → V} {k : Int → Int → Option D} (hk : ∀ i j d, k i j = some d → (∀ ι H, Rep ι H (g i j) d)) : OpP w (fI k) (rI0 g) := by
  intro ι st H x y dx dy d Q s rx ry hf q
  unfold fI at hf
  split at hf
  · cases rx; cases ry
    exact ⟨_, _, rfl, rfl, q _ H (Kp.refl H) (hk _ _ _ hf _ _) s⟩
  · cases hf
def fSub : F2 := fI fun i j => some (.int (i - j))
theorem qSub : OpP w fSub (rI0 fun i j => .int (i - j)) := qI0 fun i j d h ι H => by cases h; exact .int _
def fMul : F2 := fI fun i j => if i.natAbs < 2 ^ 60 ∨ j.natAbs < 2 ^ 60 then some (.int (i * j)) else none
theorem qMul : OpP w fMul (rI CMul fun i j => .int (i * j)) := qI fun i j d h => by
  split at h
  · rename_i hc
    cases h
    refine ⟨?_, fun ι H => .int _⟩
    rcases hc with hc | hc
    · exact .inl (by omega)
    · exact .inr (by omega)
  · cases h
def fMod : F2 := fI fun i j => if 0 < j then some (.int (i % j)) else none
theorem qMod : OpP w fMod (rI (fun _ j => 0 < j) fun i j => .int (i % j)) := qI fun i j d h => by
  split at h
  · rename_i hc
    cases h
    exact ⟨hc, fun ι H => .int _⟩
  · cases h
def fDiv : F2 := fI fun i j => if 0 < j ∧ j < 1073741824 then some (.int (i / j)) else none
theorem qDiv : OpP w fDiv (rI CDiv fun i j => .int (i / j)) := qI fun i j d h => by
  split at h
  · rename_i hc
    cases h
    exact ⟨hc, fun ι H => .int _⟩
  · cases h
def fLt : F2 := fI fun i j => some (.bl (decide (i < j)))
def fLe : F2 := fI fun i j => some (.bl (decide (i ≤ j)))
def fGt : F2 := fI fun i j => some (.bl (decide (i > j)))
def fGe : F2 := fI fun i j => some (.bl (decide (i ≥ j)))
end
end GD

set_option Elab.async false
set_option linter.all false
set_option maxRecDepth 100000
set_option maxHeartbeats 2000000
namespace GD
open PySem PySem.Spec PyProof.Rows L2 GX

/-! ### comparing -/
mutual
def D.py : D → PyData
  | .non => .none
  | .bl b => .bool b
  | .int i => .int i
  | .str x => .str x
  | .tup l => .tuple (D.pys l)
  | .ref _ => .none
def D.pys : List D → List PyData
  | [] => []
  | d :: ds => D.py d :: D.pys ds
end
mutual
def D.imm : D → Bool
  | .tup l => D.imms l
  | .ref _ => false
  | _ => true
def D.imms : List D → Bool
  | [] => true
  | d :: ds => D.imm d && D.imms ds
end
theorem D.pys_eq (l : List D) : D.pys l = l.map D.py := by
  induction l with
  | nil => rfl
  | cons d ds ih => rw [D.pys, ih]; rfl
mutual
theorem dp_py {K : PySem.W.Frag} {ι : List Addr} {H : Hp} : ∀ {v : V} {d : D}, Rep ι H v d → D.imm d = true → Dp K H v (D.py d)
  | _, _, .non, _ => .non
  | _, _, .bl b, _ => .bl b
  | _, _, .int i, _ => .int i
  | _, _, .str x, _ => .str x
  | _, _, .tup h l r, q => by
    unfold D.py
    exact .tup (sqt_of h) (dp_pys r (by unfold D.imm at q; exact q))
  | _, _, .ref h, q => by unfold D.imm at q; cases q
theorem dp_pys {K : PySem.W.Frag} {ι : List Addr} {H : Hp} : ∀ {vs : List V} {ds : List D}, Reps ι H vs ds → D.imms ds = true → DpAll K H vs (D.pys ds)
  | _, _, .nil, _ => by unfold D.pys; exact .nil
  | _, _, .cons r t, q => by
    unfold D.imms at q
    rw [Bool.and_eq_true] at q
    unfold D.pys
    exact .cons (dp_py r q.1) (dp_pys t q.2)
end
def D.good (d : D) : Bool := D.imm d && SeqAt.shaped (D.py d)
section
variable {X : Cx} {w : Wd} {pos : Pos}
def fEq : F2 := fun _ x y => if x.good = true ∧ y.good = true then some (.bl (PyData.eqv x.py y.py)) else none
def fNe : F2 := fun _ x y => if x.good = true ∧ y.good = true then some (.bl (!PyData.eqv x.py y.py)) else none
theorem good_and {d : D} (h : d.good = true) : D.imm d = true ∧ SeqAt.shaped (D.py d) = true := by
  unfold D.good at h
  rw [Bool.and_eq_true] at h
  exact h
theorem qEq {K : PySem.W.Frag} : OpP w fEq (rEqD K) := by
  intro ι st H x y dx dy d Q s rx ry hf q
  unfold fEq at hf
  split at hf
  · rename_i hg
    cases hf
    obtain ⟨a1, a2⟩ := good_and hg.1
    obtain ⟨b1, b2⟩ := good_and hg.2
    exact ⟨_, _, dp_py rx a1, dp_py ry b1, a2, b2, q _ H (Kp.refl H) (.bl _) s⟩
  · cases hf
theorem qNe {K : PySem.W.Frag} : OpP w fNe (rNeD K) := by
  intro ι st H x y dx dy d Q s rx ry hf q
  unfold fNe at hf
  split at hf
  · rename_i hg
    cases hf
    obtain ⟨a1, a2⟩ := good_and hg.1
    obtain ⟨b1, b2⟩ := good_and hg.2
    exact ⟨_, _, dp_py rx a1, dp_py ry b1, a2, b2, q _ H (Kp.refl H) (.bl _) s⟩
  · cases hf
/-- x in t, t a tuple of data of any depth -/
def rInT (K : PySem.W.Frag) : R2 := fun x y H Q => ∃ d ds, Dp K H x d ∧ Dp K H y (.tuple ds) ∧ SeqAt.shaped d = true ∧ SeqAt.shaped (.tuple ds) = true ∧ Q (.bl (ds.any fun z => PyData.eqv z d)) H
def rNotInT (K : PySem.W.Frag) : R2 := fun x y H Q => ∃ d ds, Dp K H x d ∧ Dp K H y (.tuple ds) ∧ SeqAt.shaped d = true ∧ SeqAt.shaped (.tuple ds) = true ∧ Q (.bl (!ds.any fun z => PyData.eqv z d)) H
theorem op_inT (hu : X.A.units + 65 < cLine) : OpR X (compareOp .In) (rInT X.K) := by
  intro pins s σ H x y v u Q I rx ry h
  obtain ⟨d, ds, hd, he, sd, se, q⟩ := h
  obtain ⟨as, r1⟩ := Dp.reads I d x v hd rx
  obtain ⟨bs, r2⟩ := Dp.reads I (.tuple ds) y u he ry
  exact SeqAt.in_tuple_reads r2 r1 (SeqAt.canLay_of_shaped se) (SeqAt.canLay_of_shaped sd) (room_in_shaped sd hu) ⟨.bl _, H, I, rfl, q⟩
theorem op_notInT (hu : X.A.units + 65 < cLine) : OpR X (compareOp .NotIn) (rNotInT X.K) := by
  intro pins s σ H x y v u Q I rx ry h
  obtain ⟨d, ds, hd, he, sd, se, q⟩ := h
  obtain ⟨as, r1⟩ := Dp.reads I d x v hd rx
  obtain ⟨bs, r2⟩ := Dp.reads I (.tuple ds) y u he ry
  exact SeqAt.notIn_tuple_reads r2 r1 (SeqAt.canLay_of_shaped se) (SeqAt.canLay_of_shaped sd) (room_in_shaped sd hu) ⟨.bl _, H, I, rfl, q⟩
def inD (x : D) (ds : List D) : Bool := (D.pys ds).any fun z => PyData.eqv z x.py
/-- the items of a tuple, or of a list in the store -/
def seqOf (st : SS) : D → Option (List D)
  | .tup ds => some ds
  | .ref n => match st[n]? with
    | some (.lst ds) => some ds
    | some (.frz ds) => some ds
    | _ => none
  | _ => none
def fIn : F2 := fun st x y => match seqOf st y with
  | some ds => if x.good = true ∧ (D.tup ds).good = true then some (.bl (inD x ds)) else none
  | none => none
def fNotIn : F2 := fun st x y => match seqOf st y with
  | some ds => if x.good = true ∧ (D.tup ds).good = true then some (.bl (!inD x ds)) else none
  | none => none
theorem shaped_list {ds : List PyData} (h : SeqAt.shaped (.tuple ds) = true) : SeqAt.shaped (.list ds) = true := by
  unfold SeqAt.shaped at h ⊢
  simpa [PyData.canLay0, PyData.depth] using h
theorem seq_cases {ι : List Addr} {st : SS} {H : Hp} {y : V} {dy : D} {ds : List D} {K : PySem.W.Frag} (s : SR w.s ι st H) (ry : Rep ι H y dy) (h : seqOf st dy = some ds) :
    ∃ a vs, y = .ref a ∧ Reps ι H vs ds ∧ ds.length ≤ sizeLine ∧ (SqL K H a vs ∨ (dy = .tup ds ∧ H a = some (.tup vs))) := by
  unfold seqOf at h
  split at h
  · cases h
    cases ry with
    | tup h1 l1 r1 => exact ⟨_, _, rfl, r1, l1, .inr ⟨rfl, h1⟩⟩
  · split at h
    · rename_i n _ _ e
      cases h
      cases ry with
      | ref hn =>
        obtain ⟨vs, h1, l, h2⟩ := s.cell n _ _ hn e
        exact ⟨_, vs, rfl, h2, l, .inl (.inl (.inl h1))⟩
    · rename_i n _ _ e
      cases h
      cases ry with
      | ref hn =>
        obtain ⟨o, vs, h1, l, h2⟩ := s.cell n _ _ hn e
        exact ⟨_, vs, rfl, h2, l, .inl (.inl (.inr ⟨o, h1⟩))⟩
    · cases h
  · cases h
theorem qIn {K : PySem.W.Frag} : OpP w fIn (fun x y H Q => rInD K x y H Q ∨ rInT K x y H Q) := by
  intro ι st H x y dx dy d Q s rx ry hf q
  unfold fIn at hf
  split at hf
  · rename_i ds e
    split at hf
    · rename_i hg
      cases hf
      obtain ⟨a1, a2⟩ := good_and hg.1
      obtain ⟨b1, b2⟩ := good_and hg.2
      unfold D.imm at b1
      unfold D.py at b2
      obtain ⟨a, vs, rfl, rs, _, hh⟩ := seq_cases (K := K) s ry e
      rcases hh with h1 | ⟨rfl, h1⟩
      · exact .inl ⟨_, _, dp_py rx a1, .lst h1 (dp_pys rs b1), a2, shaped_list b2, q _ H (Kp.refl H) (.bl _) s⟩
      · exact .inr ⟨_, _, dp_py rx a1, .tup (sqt_of h1) (dp_pys rs b1), a2, b2, q _ H (Kp.refl H) (.bl _) s⟩
    · cases hf
  · cases hf
theorem qNotIn {K : PySem.W.Frag} : OpP w fNotIn (fun x y H Q => rNotInD K x y H Q ∨ rNotInT K x y H Q) := by
  intro ι st H x y dx dy d Q s rx ry hf q
  unfold fNotIn at hf
  split at hf
  · rename_i ds e
    split at hf
    · rename_i hg
      cases hf
      obtain ⟨a1, a2⟩ := good_and hg.1
      obtain ⟨b1, b2⟩ := good_and hg.2
      unfold D.imm at b1
      unfold D.py at b2
      obtain ⟨a, vs, rfl, rs, _, hh⟩ := seq_cases (K := K) s ry e
      rcases hh with h1 | ⟨rfl, h1⟩
      · exact .inl ⟨_, _, dp_py rx a1, .lst h1 (dp_pys rs b1), a2, shaped_list b2, q _ H (Kp.refl H) (.bl _) s⟩
      · exact .inr ⟨_, _, dp_py rx a1, .tup (sqt_of h1) (dp_pys rs b1), a2, b2, q _ H (Kp.refl H) (.bl _) s⟩
    · cases hf
  · cases hf
def D.isN : D → Bool
  | .non => true
  | _ => false
def fIsN : F2 := fun _ x y => match y with | .non => some (.bl x.isN) | _ => none
def fNotN : F2 := fun _ x y => match y with | .non => some (.bl (!x.isN)) | _ => none
theorem isN_dec {ι : List Addr} {H : Hp} {x : V} {d : D} (r : Rep ι H x d) : decide (x = .non) = d.isN := by
  cases r <;> simp [D.isN]
theorem qIsN : OpP w fIsN (fun x y H Q => y = .non ∧ Q (.bl (decide (x = .non))) H) := by
  intro ι st H x y dx dy d Q s rx ry hf q
  unfold fIsN at hf
  split at hf
  · cases hf; cases ry
    rw [isN_dec rx]
    exact ⟨rfl, q _ H (Kp.refl H) (.bl _) s⟩
  · cases hf
theorem qNotN : OpP w fNotN (fun x y H Q => y = .non ∧ Q (.bl (!decide (x = .non))) H) := by
  intro ι st H x y dx dy d Q s rx ry hf q
  unfold fNotN at hf
  split at hf
  · cases hf; cases ry
    rw [isN_dec rx]
    exact ⟨rfl, q _ H (Kp.refl H) (.bl _) s⟩
  · cases hf
section
variable {a b : Expr} {ma mb : MP}
theorem dp_add (ha : PE X a (tP w ma)) (hb : PE X b (tP w mb)) : PE X (.BinOp a .Add b pos) (tP w (mOp fAdd ma mb)) := dp_bin oAdd qAdd ha hb
theorem dp_sub (ha : PE X a (tP w ma)) (hb : PE X b (tP w mb)) : PE X (.BinOp a .Sub b pos) (tP w (mOp fSub ma mb)) := dp_bin op_sub qSub ha hb
theorem dp_mul (ha : PE X a (tP w ma)) (hb : PE X b (tP w mb)) : PE X (.BinOp a .Mult b pos) (tP w (mOp fMul ma mb)) := dp_bin op_mul qMul ha hb
theorem dp_mod (ha : PE X a (tP w ma)) (hb : PE X b (tP w mb)) : PE X (.BinOp a .Mod b pos) (tP w (mOp fMod ma mb)) := dp_bin op_mod qMod ha hb
theorem dp_div (ha : PE X a (tP w ma)) (hb : PE X b (tP w mb)) : PE X (.BinOp a .FloorDiv b pos) (tP w (mOp fDiv ma mb)) := dp_bin op_fdiv qDiv ha hb
theorem dp_lt (ha : PE X a (tP w ma)) (hb : PE X b (tP w mb)) : PE X (.Compare a [.Lt] [b] pos) (tP w (mOp fLt ma mb)) := dp_cmp op_lt (qI0 fun i j d h ι H => by cases h; exact .bl _) ha hb (nomark _)
theorem dp_eq (hu : Room 0 X.A) (ha : PE X a (tP w ma)) (hb : PE X b (tP w mb)) : PE X (.Compare a [.Eq] [b] pos) (tP w (mOp fEq ma mb)) := dp_cmp (op_eqD hu.units) qEq ha hb (nomark _)
theorem dp_ne (hu : Room 0 X.A) (ha : PE X a (tP w ma)) (hb : PE X b (tP w mb)) : PE X (.Compare a [.NotEq] [b] pos) (tP w (mOp fNe ma mb)) := dp_cmp (op_neD hu.units) qNe ha hb (nomark _)
theorem units65 {A : Around} {k : Nat} (h : Room k A) : A.units + 65 < cLine := by have := h.un; omega
theorem dp_in (hu : Room 0 X.A) (ha : PE X a (tP w ma)) (hb : PE X b (tP w mb)) (hm : behindInMarks .In b = false := by rfl) : PE X (.Compare a [.In] [b] pos) (tP w (mOp fIn ma mb)) := dp_cmp (OpR.or2 (op_inD (units65 hu)) (op_inT (units65 hu))) qIn ha hb hm
theorem dp_isN (ha : PE X a (tP w ma)) (hb : PE X b (tP w mb)) : PE X (.Compare a [.Is] [b] pos) (tP w (mOp fIsN ma mb)) := dp_cmp op_isN qIsN ha hb (nomark _)
theorem dp_notN (ha : PE X a (tP w ma)) (hb : PE X b (tP w mb)) : PE X (.Compare a [.IsNot] [b] pos) (tP w (mOp fNotN ma mb)) := dp_cmp op_notN qNotN ha hb (nomark _)
end
/-! ### and, or, not, tests -/
section
variable {a b c : Expr} {rest : List Expr} {ma mb : MP} {ba bb : MB}
def mAnd (a b : MP) : MP := fun env st => match a env st with | some (.bl true) => b env st | some (.bl false) => some (.bl false) | _ => none
def mNot (a : MP) : MP := fun env st => match a env st with | some (.bl b) => some (.bl (!b)) | _ => none
theorem dp_and (ha : PE X a (tP w ma)) (hb : PE X (.BoolOp .And (b :: rest) pos) (tP w mb)) : PE X (.BoolOp .And (a :: b :: rest) pos) (tP w (mAnd ma mb)) := by
  refine PE.mo (pe_and ha hb) fun σ H Q ⟨ι, env, st, d, he, hs, hm, q⟩ => ?_
  unfold mAnd at hm
  split at hm
  · rename_i e
    refine ⟨ι, env, st, _, he, hs, e, fun x H1 k1 r1 s1 => ?_⟩
    cases r1
    exact ⟨true, rfl, iteT ⟨ι, env, st, d, he.kp k1, s1, hm, fun v H2 k2 r2 s2 => q v H2 (k1.trans k2) r2 s2⟩⟩
  · rename_i e
    cases hm
    refine ⟨ι, env, st, _, he, hs, e, fun x H1 k1 r1 s1 => ?_⟩
    cases r1
    exact ⟨false, rfl, iteF (q _ H1 k1 (.bl _) s1)⟩
  · cases hm
theorem dp_one {op : BoolOp} (h : PE X a (tP w ma)) : PE X (.BoolOp op [a] pos) (tP w ma) := pe_one h
theorem dp_not (ha : PE X a (tP w ma)) : PE X (.UnaryOp .Not a pos) (tP w (mNot ma)) := by
  refine PE.mo (pe_not ha) fun σ H Q ⟨ι, env, st, d, he, hs, hm, q⟩ => ?_
  unfold mNot at hm
  split at hm
  · rename_i b e
    cases hm
    refine ⟨ι, env, st, _, he, hs, e, fun x H1 k1 r1 s1 => ?_⟩
    cases r1
    exact ⟨b, rfl, q _ H1 k1 (.bl _) s1⟩
  · cases hm
def bV (m : MP) : MB := fun env st => match m env st with | some (.bl b) => some b | _ => none
def bAnd (a b : MB) : MB := fun env st => match a env st with | some true => b env st | some false => some false | none => none
def bOr (a b : MB) : MB := fun env st => match a env st with | some true => some true | some false => b env st | none => none
def bNot (a : MB) : MB := fun env st => match a env st with | some b => some (!b) | none => none
theorem db_val (h : PE X a (tP w ma)) (he : ∀ whole, isTrue a X.env whole = (do let v ← whole; standAt a.pos; holding [v] (truthy v)) := by intro _; rfl) : PT X a (tBo w (bV ma)) := by
  refine PT.mo (pt_val h he) fun σ H Q ⟨ι, env, st, b, hen, hs, hm, q⟩ => ?_
  unfold bV at hm
  split at hm
  · rename_i b' e
    cases hm
    refine ⟨ι, env, st, _, hen, hs, e, fun x H1 k1 r1 s1 => ?_⟩
    cases r1
    exact ⟨_, rfl, q H1 k1 s1⟩
  · cases hm
theorem db_and1 (ha : PT X a (tBo w ba)) : PW X (.BoolOp .And [a] pos) (tBo w ba) := pw_and1 ha
theorem db_or1 (ha : PT X a (tBo w ba)) : PW X (.BoolOp .Or [a] pos) (tBo w ba) := pw_or1 ha
theorem db_and (ha : PT X a (tBo w ba)) (hb : PW X (.BoolOp .And (b :: rest) pos) (tBo w bb)) : PW X (.BoolOp .And (a :: b :: rest) pos) (tBo w (bAnd ba bb)) := by
  refine PW.mo (pw_and ha hb) fun σ H Q ⟨ι, env, st, d, he, hs, hm, q⟩ => ?_
  unfold bAnd at hm
  split at hm
  · rename_i e
    exact ⟨ι, env, st, _, he, hs, e, fun H1 k1 s1 => iteT ⟨ι, env, st, d, he.kp k1, s1, hm, fun H2 k2 s2 => q H2 (k1.trans k2) s2⟩⟩
  · rename_i e
    cases hm
    exact ⟨ι, env, st, _, he, hs, e, fun H1 k1 s1 => iteF (q H1 k1 s1)⟩
  · cases hm
theorem db_or (ha : PT X a (tBo w ba)) (hb : PW X (.BoolOp .Or (b :: rest) pos) (tBo w bb)) : PW X (.BoolOp .Or (a :: b :: rest) pos) (tBo w (bOr ba bb)) := by
  refine PW.mo (pw_or ha hb) fun σ H Q ⟨ι, env, st, d, he, hs, hm, q⟩ => ?_
  unfold bOr at hm
  split at hm
  · rename_i e
    cases hm
    exact ⟨ι, env, st, _, he, hs, e, fun H1 k1 s1 => iteT (q H1 k1 s1)⟩
  · rename_i e
    exact ⟨ι, env, st, _, he, hs, e, fun H1 k1 s1 => iteF ⟨ι, env, st, d, he.kp k1, s1, hm, fun H2 k2 s2 => q H2 (k1.trans k2) s2⟩⟩
  · cases hm
theorem db_not (ha : PT X a (tBo w ba)) : PT X (.UnaryOp .Not a pos) (tBo w (bNot ba)) := by
  refine PT.mo (pt_not ha) fun σ H Q ⟨ι, env, st, d, he, hs, hm, q⟩ => ?_
  unfold bNot at hm
  split at hm
  · rename_i b e
    cases hm
    exact ⟨ι, env, st, _, he, hs, e, fun H1 k1 s1 => q H1 k1 s1⟩
  · cases hm
def mIf (c : MB) (a b : MP) : MP := fun env st => match c env st with | some true => a env st | some false => b env st | none => none
theorem dp_if {bc : MB} (hc : PT X c (tBo w bc)) (ha : PE X a (tP w ma)) (hb : PE X b (tP w mb)) : PE X (.IfExp c a b pos) (tP w (mIf bc ma mb)) := by
  refine PE.mo (pe_ifExp hc ha hb) fun σ H Q ⟨ι, env, st, d, he, hs, hm, q⟩ => ?_
  unfold mIf at hm
  split at hm
  · rename_i e
    exact ⟨ι, env, st, _, he, hs, e, fun H1 k1 s1 => iteT ⟨ι, env, st, d, he.kp k1, s1, hm, fun v H2 k2 r2 s2 => q v H2 (k1.trans k2) r2 s2⟩⟩
  · rename_i e
    exact ⟨ι, env, st, _, he, hs, e, fun H1 k1 s1 => iteF ⟨ι, env, st, d, he.kp k1, s1, hm, fun v H2 k2 r2 s2 => q v H2 (k1.trans k2) r2 s2⟩⟩
  · cases hm
end
/-! ### items, lengths, calls -/
section
variable {a b e : Expr} {es : List Expr} {ma mb : MP} {x : Str} {p : Pos}
def fIx : F2 := fun st x y => match seqOf st x, y with
  | some ds, .int i => atI ds i
  | _, _ => none
theorem atI_map {ι : List Addr} {H : Hp} {vs : List V} {ds : List D} {i : Int} {d : D} (r : Reps ι H vs ds) (h : atI ds i = some d) : ∃ v, atI vs i = some v ∧ Rep ι H v d := by
  unfold atI at h ⊢
  rw [r.length]
  cases hi : ixN ds.length i with
  | none => rw [hi] at h; cases h
  | some j =>
    rw [hi] at h
    exact r.get' h
theorem qIx {K : PySem.W.Frag} : OpP w fIx (rIx K) := by
  intro ι st H x y dx dy d Q s rx ry hf q
  unfold fIx at hf
  split at hf
  · rename_i ds i e
    cases ry
    obtain ⟨a, vs, rfl, rs, _, hh⟩ := seq_cases (K := K) s rx e
    obtain ⟨v, hv, rv⟩ := atI_map rs hf
    rcases hh with h1 | ⟨rfl, h1⟩
    · exact .inl ⟨_, _, _, _, rfl, rfl, h1, hv, q _ H (Kp.refl H) rv s⟩
    · exact .inr (.inl ⟨_, _, _, _, rfl, rfl, sqt_of h1, hv, q _ H (Kp.refl H) rv s⟩)
  · cases hf
theorem dp_ix (ha : PE X a (tP w ma)) (hb : PE X b (tP w mb)) (hs : PlainIx b := by intro _ _; rfl) : PE X (.Subscript a b pos) (tP w (mOp fIx ma mb)) := PE.mo (pe_ix ix_seq ha hb hs) (op_read qIx)
/-- a built-in of one argument, by values -/
abbrev F1 := SS → D → Option D
def mF1 (f : F1) (m : MP) : MP := fun env st => match m env st with | some d => f st d | none => none
def fLen : F1 := fun st d => match seqOf st d with
  | some ds => some (.int ds.length)
  | none => none
theorem dp_len (hg : Gl X "len") (hm : X.mg "len" = none) (ha : PE X a (tP w ma)) (hs : starEach [a] X.env = (false, eval a X.env) :: starEach [] X.env := by rfl) : PE X (.Call (.Name "len" p) [a] [] pos) (tP w (mF1 fLen ma)) := by
  refine PE.mo (pe_callB call_len_seq hg hm PySem.boot_len (pa_cons ha pa_nil hs) (he := hs)) fun σ H Q ⟨ι, env, st, d, he, hst, hmm, q⟩ => ?_
  unfold mF1 at hmm
  split at hmm
  · rename_i dx e
    unfold fLen at hmm
    split at hmm
    · rename_i ds e2
      cases hmm
      refine ⟨ι, env, st, dx, he, hst, e, fun v H1 k1 r1 s1 => ?_⟩
      obtain ⟨a, vs, rfl, rs, _, hh⟩ := seq_cases (K := X.K) s1 r1 e2
      have el := rs.length
      rcases hh with h1 | ⟨rfl, h1⟩
      · exact ⟨a, vs, rfl, .inl h1, by rw [el]; exact q _ H1 k1 (.int _) s1⟩
      · exact ⟨a, vs, rfl, .inr (sqt_of h1), by rw [el]; exact q _ H1 k1 (.int _) s1⟩
    · cases hmm
  · cases hmm
/-- what a def over data promises -/
def spP (w : Ws) (F : List D → SS → Option D) : Sp := fun vs H Q _ => ∃ ι st ds d, Reps ι H vs ds ∧ SR w ι st H ∧ F ds st = some d ∧ ∀ v H', Kp ι H H' → Rep ι H' v d → SR w ι st H' → Q v H'
structure DefP (P : Program) (wl : World) (w : Ws) (mg : Str → Option Value) (k : Nat) (x : Str) (F : List D → SS → Option D) : Prop where
  ex : ∃ (f : Addr) (fd : FuncData) (ps : List Str), FnOk P wl w.K mg w.base CX0 k f fd ps (spP w F) ∧ mg x = some (.ref f) ∧ PySem.W.keepIn w.K (.ref f) = true ∧ Binds w.K fd ps []
def mCall (F : List D → SS → Option D) (r : ML) : MP := fun env st => match r env st with | some ds => F ds st | none => none
theorem dp_call {k : Nat} {F : List D → SS → Option D} {r : ML} (hf : Fit X w) (c : DefP X.prog X.w w.s X.mg k x F) (hr : Room k X.A) (hg : Gl X x) (ha : PA X (e :: es) (tAs w r))
    (hdb : (x == ("__debug__" : Str)) = false := by decide) (he : starEach (e :: es) X.env = (false, eval e X.env) :: starEach es X.env := by rfl) (hpl : (backTo pos (starEach es X.env)).any (·.1) = false := by rfl) :
    PE X (.Call (.Name x p) (e :: es) [] pos) (tP w (mCall F r)) := by
  obtain ⟨f, fd, ps, hF, hm, hk, hb⟩ := c.ex
  rw [← hf.k, ← hf.b] at hF
  rw [← hf.k] at hk hb
  refine PE.mo (pe_call (E := E0) hF hr hg hm hk hb .nil pass0 ha hdb he hpl) fun σ H Q ⟨ι, env, st, d, hen, hst, hmm, q⟩ => ?_
  unfold mCall at hmm
  split at hmm
  · rename_i ds e
    refine ⟨ι, env, st, ds, hen, hst, e, fun vs H1 k1 r1 s1 => ?_⟩
    show spP w.s F (vs ++ []) H1 Q E0
    rw [List.append_nil]
    exact ⟨ι, st, ds, d, r1, s1, hmm, fun v H2 k2 r2 s2 => q v H2 (k1.trans k2) r2 s2⟩
  · cases hmm
end
end
end GD

set_option Elab.async false
set_option linter.all false
set_option maxRecDepth 100000
set_option maxHeartbeats 2000000
namespace GD
open PySem PySem.Spec PyProof.Rows L2 GX

/-! ## 4. what is walked, by its data -/
def Hold (st : SS) (ro : Option Nat) (st' : SS) : Prop := match ro with | none => True | some n => st'[n]? = st[n]?
theorem Hold.refl {st : SS} {ro : Option Nat} : Hold st ro st := by cases ro <;> simp [Hold]
/-- the iterator J hands out ds, while what it walks stands -/
structure ItD (w : Wd) (ι : List Addr) (st : SS) (J : It) (ds : List D) (ro : Option Nat) (H0 : Hp) : Prop where
  run : ∀ (ι' : List Addr) (st' : SS) (H : Hp), Kp ι H0 H → ι <+: ι' → Hold st ro st' → SR w.s ι' st' H →
    (∀ i, i < ds.length → J.go i H) ∧ (∀ i x H', i < ds.length → J.yld i H x H' → ∃ d, ds[i]? = some d ∧ Rep ι' H' x d ∧ (∀ b o, H b = some o → H' b = some o) ∧ SR w.s ι' st' H') ∧ (∀ i, ds.length ≤ i → J.stop i H)
  len : ds.length ≤ sizeLine
abbrev MI := EV → SS → Option (List D × Option Nat)
def tI (w : Wd) (m : MI) : TI := fun σ H R => ∃ ι env st ds ro, EnvR w ι env σ H ∧ SR w.s ι st H ∧ m env st = some (ds, ro) ∧ ∀ J H', Kp ι H H' → SR w.s ι st H' → ItD w ι st J ds ro H' → R J H'
theorem PI.mo {X : Cx} {tg iter : Expr} {t t' : TI} (h : PI X tg iter t) (q : ∀ σ H R, t' σ H R → t σ H R) : PI X tg iter t' := ⟨fun pins s σ H R I h' => h.run pins s σ H R I (q σ H R h')⟩
section
variable {X : Cx} {w : Wd} {tg : Expr} {ι : List Addr} {st : SS} {H0 : Hp} {a : Addr} {K : PySem.W.Frag}
theorem itd_tup {vs : List V} {ds : List D} (h : H0 a = some (.tup vs)) (r : Reps ι H0 vs ds) (hl : ds.length ≤ sizeLine) : ItD w ι st (Itt K a) ds none H0 := by
  refine ⟨fun ι' st' H k p _ s => ⟨fun i hi => ?_, fun i x H' hi hy => ?_, fun i hi => ?_⟩, hl⟩
  · have q : i < vs.length := by rw [r.length]; exact hi
    exact ⟨vs, vs[i], sqt_of (k.fix h trivial), List.getElem?_eq_getElem q⟩
  · obtain ⟨e, hx⟩ := hy
    subst e
    obtain ⟨d, h1, h2⟩ := (r.mono k p).get (hx vs (sqt_of (k.fix h trivial)))
    exact ⟨d, h1, h2, fun _ _ e => e, s⟩
  · exact ⟨vs, sqt_of (k.fix h trivial), by rw [r.length]; exact hi⟩
theorem hold_cell {n : Nat} {ds : List D} {ι' : List Addr} {st' : SS} {H : Hp} (hn : ι[n]? = some a) (hc : st[n]? = some (.lst ds)) (p : ι <+: ι') (ho : Hold st (some n) st') (s : SR w.s ι' st' H) : ∃ vs, H a = some (.lst vs) ∧ Reps ι' H vs ds := by
  have e : st'[n]? = some (.lst ds) := by
    have q : st'[n]? = st[n]? := ho
    rw [q, hc]
  obtain ⟨vs, h1, _, h2⟩ := s.cell n a _ (pre_get p hn) e
  exact ⟨vs, h1, h2⟩
theorem itd_lst {n : Nat} {ds : List D} (hn : ι[n]? = some a) (hc : st[n]? = some (.lst ds)) (hl : ds.length ≤ sizeLine) : ItD w ι st (Itl K a) ds (some n) H0 := by
  refine ⟨fun ι' st' H k p ho s => ⟨fun i hi => ?_, fun i x H' hi hy => ?_, fun i hi => ?_⟩, hl⟩
  all_goals obtain ⟨vs, h1, r⟩ := hold_cell hn hc p ho s
  · have q : i < vs.length := by rw [r.length]; exact hi
    exact ⟨vs, vs[i], sql_of h1, List.getElem?_eq_getElem q⟩
  · obtain ⟨e, hx⟩ := hy
    subst e
    obtain ⟨d, h2, h3⟩ := r.get (hx vs (sql_of h1))
    exact ⟨d, h2, h3, fun _ _ e => e, s⟩
  · exact ⟨vs, sql_of h1, by rw [r.length]; exact hi⟩
def intsD (lo : Int) (n : Nat) : List D := (List.range n).map fun (k : Nat) => .int (lo + (k : Int))
theorem intsD_len (lo : Int) (n : Nat) : (intsD lo n).length = n := by simp [intsD]
theorem itd_rng {lo : Int} {n : Nat} (hl : n ≤ sizeLine) : ItD w ι st (Itr lo n) (intsD lo n) none H0 := by
  refine ⟨fun ι' st' H k p _ s => ⟨fun i hi => by rw [intsD_len] at hi; exact hi, fun i x H' hi hy => ?_, fun i hi => by rw [intsD_len] at hi; exact hi⟩, by rw [intsD_len]; exact hl⟩
  obtain ⟨e, hx⟩ := hy
  subst e hx
  rw [intsD_len] at hi
  exact ⟨.int (lo + i), by simp [intsD, hi], .int _, fun _ _ e => e, s⟩
/-- i, item -/
def enumD (ds : List D) : List D := ds.zipIdx.map fun (p : D × Nat) => .tup [.int (p.2 : Int), p.1]
theorem enumD_len (ds : List D) : (enumD ds).length = ds.length := by simp [enumD]
theorem enumD_get {ds : List D} {i : Nat} {d : D} (h : ds[i]? = some d) : (enumD ds)[i]? = some (.tup [.int (i : Int), d]) := by
  simp [enumD, h]
theorem new_pair {ι' : List Addr} {st' : SS} {H : Hp} {T : Addr} {x y : V} {dx dy : D} (s : SR w.s ι' st' H) (hT : H T = none) (r1 : Rep ι' H x dx) (r2 : Rep ι' H y dy) :
    Rep ι' (upd H T (.tup [x, y])) (.ref T) (.tup [dx, dy]) ∧ (∀ b o, H b = some o → upd H T (.tup [x, y]) b = some o) ∧ SR w.s ι' st' (upd H T (.tup [x, y])) :=
  ⟨.tup upd_same (by show 2 ≤ sizeLine; decide) (.cons (r1.kp (Kp.new hT)) (.cons (r2.kp (Kp.new hT)) .nil)), fun b o e => by rw [upd_ne (ne_of_none e hT)]; exact e, s.new hT (fun _ z => by cases z) (nin_of s hT)⟩
theorem itd_enumT {vs : List V} {ds : List D} (h : H0 a = some (.tup vs)) (r : Reps ι H0 vs ds) (hl : ds.length ≤ sizeLine) : ItD w ι st (IteT K a) (enumD ds) none H0 := by
  refine ⟨fun ι' st' H k p _ s => ⟨fun i hi => ?_, fun i x H' hi hy => ?_, fun i hi => ?_⟩, by rw [enumD_len]; exact hl⟩
  · rw [enumD_len] at hi
    have q : i < vs.length := by rw [r.length]; exact hi
    exact ⟨vs, vs[i], sqt_of (k.fix h trivial), List.getElem?_eq_getElem q⟩
  · obtain ⟨T, y, rfl, hT, rfl, hx⟩ := hy
    obtain ⟨d, h1, h2⟩ := (r.mono k p).get (hx vs (sqt_of (k.fix h trivial)))
    obtain ⟨q1, q2, q3⟩ := new_pair s hT (.int (i : Int)) h2
    exact ⟨_, enumD_get h1, q1, q2, q3⟩
  · rw [enumD_len] at hi
    exact ⟨vs, sqt_of (k.fix h trivial), by rw [r.length]; exact hi⟩
theorem itd_enumL {n : Nat} {ds : List D} (hn : ι[n]? = some a) (hc : st[n]? = some (.lst ds)) (hl : ds.length ≤ sizeLine) : ItD w ι st (Ite K a) (enumD ds) (some n) H0 := by
  refine ⟨fun ι' st' H k p ho s => ⟨fun i hi => ?_, fun i x H' hi hy => ?_, fun i hi => ?_⟩, by rw [enumD_len]; exact hl⟩
  all_goals obtain ⟨vs, h1, r⟩ := hold_cell hn hc p ho s
  · rw [enumD_len] at hi
    have q : i < vs.length := by rw [r.length]; exact hi
    exact ⟨vs, vs[i], sql_of h1, List.getElem?_eq_getElem q⟩
  · obtain ⟨T, y, rfl, hT, rfl, hx⟩ := hy
    obtain ⟨d, h2, h3⟩ := r.get (hx vs (sql_of h1))
    obtain ⟨q1, q2, q3⟩ := new_pair s hT (.int (i : Int)) h3
    exact ⟨_, enumD_get h2, q1, q2, q3⟩
  · rw [enumD_len] at hi
    exact ⟨vs, sql_of h1, by rw [r.length]; exact hi⟩
/-- over a list or a tuple -/
def iSeqU (K : PySem.W.Frag) (tl : TE) : TI := fun σ H R => tl σ H fun x H1 => ∃ a, x = .ref a ∧ (((∃ xs, SqL K H1 a xs) ∧ R (Itl K a) H1) ∨ ((∃ xs, SqT K H1 a xs) ∧ R (Itt K a) H1))
theorem pi_seqU {l : Expr} {tl : TE} (hl : PE X l tl) : PI X tg l (iSeqU X.K tl) := by
  refine ⟨fun pins s σ H R I h => ?_⟩
  refine thn (hl.run pins s σ H _ I h) fun v s1 ⟨x, H1, I1, r1, q1⟩ => ?_
  obtain ⟨a, e, q1⟩ := q1
  subst e
  cases r1
  rcases q1 with ⟨⟨xs, hq⟩, q⟩ | ⟨⟨xs, hq⟩, q⟩
  · obtain ⟨its, rv, p, hz⟩ := I1.list hq
    refine wpAny_pyIter_list p.isList ?_
    refine ⟨s1.heap.objs.size, [s1.heap.objs.size], _, _, H1, rfl, I1.kept (t' := s1.toks) fun b o e => Heap.get?_push_of_some _ e, turn_list a _, ⟨_, Heap.get?_push_size _ rfl, rfl, rfl⟩, fun b hb => ?_, q⟩
    have e : b = s1.heap.objs.size := by simpa using hb
    subst e
    exact I1.fpOk (Nat.le_refl _) (I1.hok.fresh (Nat.le_refl _))
  · obtain ⟨its, rv, p, hz⟩ := I1.tuple hq
    refine wpAny_pyIter_tuple (show s1.heap.IsTuple a its.toArray from p) ?_
    refine ⟨s1.heap.objs.size, [s1.heap.objs.size], _, _, H1, rfl, I1.kept (t' := s1.toks) fun b o e => Heap.get?_push_of_some _ e, turn_tuple a _, ⟨_, Heap.get?_push_size _ rfl, rfl, rfl⟩, fun b hb => ?_, q⟩
    have e : b = s1.heap.objs.size := by simpa using hb
    subst e
    exact I1.fpOk (Nat.le_refl _) (I1.hok.fresh (Nat.le_refl _))
/-- the items of a tuple, or of a list and its place -/
def seqI (st : SS) : D → Option (List D × Option Nat)
  | .tup ds => some (ds, none)
  | .ref n => match st[n]? with
    | some (.lst ds) => some (ds, some n)
    | _ => none
  | _ => none
theorem seqI_cases {y : V} {dy : D} {ds : List D} {ro : Option Nat} {H : Hp} (s : SR w.s ι st H) (ry : Rep ι H y dy) (h : seqI st dy = some (ds, ro)) :
    ∃ a vs, y = .ref a ∧ Reps ι H vs ds ∧ ds.length ≤ sizeLine ∧ ((∃ n, ro = some n ∧ ι[n]? = some a ∧ st[n]? = some (.lst ds) ∧ H a = some (.lst vs)) ∨ (ro = none ∧ H a = some (.tup vs))) := by
  unfold seqI at h
  split at h
  · cases h
    cases ry with
    | tup h1 l1 r1 => exact ⟨_, _, rfl, r1, l1, .inr ⟨rfl, h1⟩⟩
  · split at h
    · rename_i n _ _ e
      cases h
      cases ry with
      | ref hn =>
        obtain ⟨vs, h1, l, h2⟩ := s.cell n _ _ hn e
        exact ⟨_, vs, rfl, h2, l, .inl ⟨n, rfl, hn, e, h1⟩⟩
    · cases h
  · cases h
def iSeq (m : MP) : MI := fun env st => match m env st with | some d => seqI st d | none => none
theorem di_seq {l : Expr} {m : MP} (hl : PE X l (tP w m)) : PI X tg l (tI w (iSeq m)) := by
  refine PI.mo (pi_seqU hl) fun σ H R ⟨ι, env, st, ds, ro, he, hs, hm, q⟩ => ?_
  unfold iSeq at hm
  split at hm
  · rename_i d e
    refine ⟨ι, env, st, d, he, hs, e, fun v H1 k1 r1 s1 => ?_⟩
    obtain ⟨a, vs, rfl, rs, hl, hh⟩ := seqI_cases s1 r1 hm
    refine ⟨a, rfl, ?_⟩
    rcases hh with ⟨n, rfl, hn, hc, h1⟩ | ⟨rfl, h1⟩
    · exact .inl ⟨⟨vs, sql_of h1⟩, q _ H1 k1 s1 (itd_lst hn hc hl)⟩
    · exact .inr ⟨⟨vs, sqt_of h1⟩, q _ H1 k1 s1 (itd_tup h1 rs hl)⟩
  · cases hm
def iRng (m : MP) : MI := fun env st => match m env st with | some (.int n) => if n ≤ 1000000 ∧ -1000000 ≤ n then some (intsD 0 n.toNat, none) else none | _ => none
theorem di_rng {e : Expr} {m : MP} {p pos : Pos} (hg : Gl X "range") (hm : X.mg "range" = none) (ha : PE X e (tP w m)) (hs : starEach [e] X.env = [(false, eval e X.env)] := by rfl) : PI X tg (.Call (.Name "range" p) [e] [] pos) (tI w (iRng m)) := by
  refine PI.mo (pi_range1 hg hm (pa_cons ha pa_nil (by rw [hs]; rfl)) hs) fun σ H R ⟨ι, env, st, ds, ro, he, hst, hmm, q⟩ => ?_
  unfold iRng at hmm
  split at hmm
  · rename_i n e1
    split at hmm
    · rename_i hn
      cases hmm
      refine ⟨ι, env, st, _, he, hst, e1, fun v H1 k1 r1 s1 => ?_⟩
      cases r1
      refine ⟨n, rfl, by omega, by omega, q _ H1 k1 s1 (itd_rng (big_size (by omega)))⟩
    · cases hmm
  · cases hmm
def iRng2 (a b : MP) : MI := fun env st => match a env st, b env st with | some (.int m), some (.int n) => if (n ≤ 1000000 ∧ -1000000 ≤ n) ∧ m ≤ 1000000 ∧ 0 ≤ m then some (intsD m (n - m).toNat, none) else none | _, _ => none
theorem di_rng2 {e e2 : Expr} {m m2 : MP} {p pos : Pos} (hg : Gl X "range") (hm : X.mg "range" = none) (ha : PE X e (tP w m)) (hb : PE X e2 (tP w m2)) (hs : starEach [e, e2] X.env = [(false, eval e X.env), (false, eval e2 X.env)] := by rfl) (hs2 : starEach [e2] X.env = [(false, eval e2 X.env)] := by rfl) :
    PI X tg (.Call (.Name "range" p) [e, e2] [] pos) (tI w (iRng2 m m2)) := by
  refine PI.mo (pi_range2 hg hm (pa_cons ha (pa_cons hb pa_nil (by rw [hs2]; rfl)) (by rw [hs, hs2])) hs hs2) fun σ H R ⟨ι, env, st, ds, ro, he, hst, hmm, q⟩ => ?_
  unfold iRng2 at hmm
  split at hmm
  · rename_i i j e1 e2
    split at hmm
    · rename_i hn
      cases hmm
      refine ⟨ι, env, st, _, he, hst, e1, fun v H1 k1 r1 s1 => ?_⟩
      refine ⟨ι, env, st, _, he.kp k1, s1, e2, fun v2 H2 k2 r2 s2 => ?_⟩
      cases r1
      cases r2
      exact ⟨i, j, rfl, ⟨by omega, by omega, by omega, by omega⟩, q _ H2 (k1.trans k2) s2 (itd_rng (big_size (by omega)))⟩
    · cases hmm
  · cases hmm
def iEnum (m : MP) : MI := fun env st => match m env st with | some d => (match seqI st d with | some (ds, ro) => some (enumD ds, ro) | none => none) | none => none
theorem di_enum {elts : List Expr} {kk : Nat} {tpos : Pos} {e : Expr} {m : MP} {p pos : Pos} (hg : Gl X "enumerate") (hm : X.mg "enumerate" = none) (ha : PE X e (tP w m)) (hs : starEach [e] X.env = [(false, eval e X.env)] := by rfl) : PI X (.Tuple elts kk tpos) (.Call (.Name "enumerate" p) [e] [] pos) (tI w (iEnum m)) := by
  refine PI.mo (pi_enumA hg hm (pa_cons ha pa_nil (by rw [hs]; rfl)) hs) fun σ H R ⟨ι, env, st, ds, ro, he, hst, hmm, q⟩ => ?_
  unfold iEnum at hmm
  split at hmm
  · rename_i d e1
    split at hmm
    · rename_i ds' ro' e2
      cases hmm
      refine ⟨ι, env, st, d, he, hst, e1, fun v H1 k1 r1 s1 => ?_⟩
      obtain ⟨a, vs, rfl, rs, hl, hh⟩ := seqI_cases s1 r1 e2
      refine ⟨a, vs, rfl, ?_⟩
      rcases hh with ⟨n, rfl, hn, hc, h1⟩ | ⟨rfl, h1⟩
      · exact .inl ⟨sql_of h1, q _ H1 k1 s1 (itd_enumL hn hc hl)⟩
      · exact .inr ⟨sqt_of h1, q _ H1 k1 s1 (itd_enumT h1 rs hl)⟩
    · cases hmm
  · cases hmm

/-! ### targets -/
abbrev MT := D → EV → Option EV
def GT (w : Wd) (own : List Nat) (g : TG) (t : MT) : Prop := ∀ (ι : List Addr) (st : SS) (H : Hp) (σ : L2.St) (env : EV) (x : V) (d : D) (env' : EV) (Q : L2.St → Hp → Prop), EnvR w ι env σ H → SR w.s ι st H → Rep ι H x d → t d env = some env' →
  (∀ σ', EnvR w ι env' σ' H → wipe σ' own = wipe σ own → Q σ' H) → g x σ H Q
def tgN (i : Nat) : MT := fun d env => some (env.set i (some d))
theorem wipe_set {σ : L2.St} {x : Option V} : ∀ {own : List Nat} {i : Nat}, i ∈ own → wipe (σ.set i x) own = wipe σ own
  | o :: os, i, h => by
    unfold wipe
    by_cases hi : i ∈ os
    · rw [wipe_set hi]
    · have e : i = o := by
        rcases List.mem_cons.mp h with h | h
        · exact h
        · exact absurd h hi
      subst e
      have key : ∀ (os : List Nat), i ∉ os → (wipe (σ.set i x) os).set i none = (wipe σ os).set i none := by
        intro os
        induction os with
        | nil => intro _; unfold wipe; rw [List.set_set]
        | cons p ps ih =>
          intro hp
          unfold wipe
          have h1 : i ≠ p := fun z => hp (by rw [z]; exact List.mem_cons_self)
          have h2 : i ∉ ps := fun z => hp (List.mem_cons_of_mem _ z)
          rw [List.set_comm _ _ (Ne.symm h1), ih h2, List.set_comm _ _ h1]
      exact key os hi
theorem wipe_idem {σ : L2.St} : ∀ {own : List Nat} {os : List Nat}, (∀ i ∈ os, i ∈ own) → wipe (wipe σ os) own = wipe σ own
  | own, [], _ => rfl
  | own, o :: os, h => by
    show wipe ((wipe σ os).set o none) own = wipe σ own
    rw [wipe_set (h o List.mem_cons_self), wipe_idem fun i hi => h i (List.mem_cons_of_mem _ hi)]
theorem gt_name {own : List Nat} {i : Nat} (h : i ∈ own) (hfx : ∀ p ∈ w.fx, p.1 ≠ i := by intro _ h; cases h) : GT w own (gName i) (tgN i) := by
  intro ι st H σ env x d env' Q he hs r ht q
  cases ht
  exact q _ (he.set i r hfx) (wipe_set h)
/-- several targets -/
abbrev MTs := List D → EV → Option EV
def GTs (w : Wd) (own : List Nat) (g : TGs) (t : MTs) : Prop := ∀ (ι : List Addr) (st : SS) (H : Hp) (σ : L2.St) (env : EV) (xs : List V) (ds : List D) (env' : EV) (Q : L2.St → Hp → Prop), EnvR w ι env σ H → SR w.s ι st H → Reps ι H xs ds → t ds env = some env' →
  (∀ σ', EnvR w ι env' σ' H → wipe σ' own = wipe σ own → Q σ' H) → g xs σ H Q
def tgNil : MTs := fun ds env => match ds with | [] => some env | _ => none
def tgCons (t : MT) (u : MTs) : MTs := fun ds env => match ds with | d :: ds => (match t d env with | some env1 => u ds env1 | none => none) | [] => none
theorem gts_nil {own : List Nat} : GTs w own gNil tgNil := by
  intro ι st H σ env xs ds env' Q he hs r ht q
  unfold tgNil at ht
  split at ht
  · cases ht; cases r
    exact ⟨rfl, q _ he rfl⟩
  · cases ht
theorem gts_cons {own : List Nat} {g : TG} {t : MT} {gs : TGs} {u : MTs} (h1 : GT w own g t) (h2 : GTs w own gs u) : GTs w own (gCons g gs) (tgCons t u) := by
  intro ι st H σ env xs ds env' Q he hs r ht q
  unfold tgCons at ht
  split at ht
  · rename_i d ds'
    split at ht
    · rename_i env1 e1
      cases r with
      | cons r rr =>
        refine ⟨_, _, rfl, h1 ι st H σ env _ d env1 _ he hs r e1 fun σ1 he1 hw1 => ?_⟩
        exact h2 ι st H σ1 env1 _ ds' env' Q he1 hs rr ht fun σ2 he2 hw2 => q σ2 he2 (hw2.trans hw1)
    · cases ht
  · cases ht
def tgTup (n : Nat) (u : MTs) : MT := fun d env => match d with | .tup ds => if ds.length = n then u ds env else none | _ => none
theorem gt_tup {own : List Nat} {n : Nat} {gs : TGs} {u : MTs} (h : GTs w own gs u) : GT w own (gTup K n gs) (tgTup n u) := by
  intro ι st H σ env x d env' Q he hs r ht q
  unfold tgTup at ht
  split at ht
  · split at ht
    · rename_i hn
      cases r with
      | tup h1 l1 r1 => exact ⟨_, _, rfl, sqt_of h1, by rw [r1.length]; exact hn, h ι st H σ env _ _ env' Q he hs r1 ht q⟩
    · cases ht
  · cases ht
end
end GD

set_option Elab.async false
set_option linter.all false
set_option maxRecDepth 100000
set_option maxHeartbeats 2000000
namespace GD
open PySem PySem.Spec PyProof.Rows L2 GX

/-! ## 5. comprehensions -/
def ewipe (env : EV) : List Nat → EV
  | [] => env
  | v :: vs => (ewipe env vs).set v none
theorem EnvR.unset {w : Wd} {ι : List Addr} {env : EV} {σ : L2.St} {H : Hp} (e : EnvR w ι env σ H) (i : Nat) (hfx : ∀ p ∈ w.fx, p.1 ≠ i) : EnvR w ι (env.set i none) (σ.set i none) H := by
  refine ⟨by rw [List.length_set, List.length_set]; exact e.len, fun j x h => ?_, e.cod, fun p hp => by rw [List.getElem?_set_ne (Ne.symm (hfx p hp))]; exact e.fx p hp, e.sq, e.lm⟩
  by_cases hj : i = j
  · subst hj
    by_cases hl : i < env.length
    · rw [List.getElem?_set_self hl] at h
      cases h
    · rw [List.getElem?_eq_none (by rw [List.length_set]; omega)] at h
      cases h
  · rw [List.getElem?_set_ne hj] at h ⊢
    exact e.at_ j x h
theorem EnvR.wipe {w : Wd} {ι : List Addr} {env : EV} {σ : L2.St} {H : Hp} (e : EnvR w ι env σ H) : ∀ own : List Nat, (∀ v ∈ own, ∀ p ∈ w.fx, p.1 ≠ v) → EnvR w ι (ewipe env own) (L2.wipe σ own) H
  | [], _ => e
  | v :: vs, h => (EnvR.wipe e vs fun v hv => h v (List.mem_cons_of_mem _ hv)).unset v (h v List.mem_cons_self)
abbrev Wd.at (w : Wd) (c : Addr) : Wd := ⟨w.s, c, w.fx, w.sq, w.lm, true⟩
theorem EnvR.code {w : Wd} {ι : List Addr} {env : EV} {σ : L2.St} {H : Hp} {c P : Addr} (e : EnvR w ι env σ H) (h : H c = some (CodeG c P)) (t : ∃ ps, H P = some (.tbl ps)) : EnvR (w.at c) ι env σ H :=
  ⟨e.len, e.at_, fun _ => ⟨P, .inr h, t⟩, e.fx, e.sq, e.lm⟩
theorem EnvR.back {w : Wd} {ι : List Addr} {env : EV} {σ : L2.St} {H H' : Hp} {c : Addr} (e : EnvR (w.at c) ι env σ H) (h : Cod w H) : EnvR w ι env σ H := ⟨e.len, e.at_, h, e.fx, e.sq, e.lm⟩
def fGo (t : MT) (b : MB) (m : MP) (env : EV) (st : SS) : List D → Option (List D)
  | [] => some []
  | d :: ds => match t d env with
    | some env1 => (match b env1 st with
      | some true => (match m env1 st with
        | some y => (match fGo t b m env st ds with | some ys => some (y :: ys) | none => none)
        | none => none)
      | some false => fGo t b m env st ds
      | none => none)
    | none => none
def mComp (mi : MI) (t : MT) (b : MB) (m : MP) (own : List Nat) : ML := fun env st => match mi env st with | some (ds, _) => fGo t b m (ewipe env own) st ds | none => none
def bYes : MB := fun _ _ => some true
section
variable {X : Cx} {w : Wd} {pos : Pos} {tg iter elt c : Expr} {ifs : List Expr}
theorem PTs.mo {t t' : TT} (h : PTs X ifs t) (q : ∀ σ H Q, t' σ H Q → t σ H Q) : PTs X ifs t' := ⟨fun pins s σ H Q I h' => h.run pins s σ H Q I (q σ H Q h')⟩
theorem dts_nil : PTs X [] (tBo w bYes) := PTs.mo pts_nil fun σ H Q ⟨ι, env, st, b, he, hs, hm, q⟩ => by cases hm; exact q H (Kp.refl H) hs
theorem dts_one {b : MB} (h : PT X c (tBo w b)) : PTs X [c] (tBo w b) := pts_one h
theorem go_cons {t : MT} {b : MB} {m : MP} {env : EV} {st : SS} {d : D} {ds r : List D} (h : fGo t b m env st (d :: ds) = some r) :
    ∃ env1, t d env = some env1 ∧ ((b env1 st = some false ∧ fGo t b m env st ds = some r) ∨ (b env1 st = some true ∧ ∃ y ys, m env1 st = some y ∧ fGo t b m env st ds = some ys ∧ r = y :: ys)) := by
  unfold fGo at h
  split at h
  · rename_i env1 e1
    refine ⟨env1, e1, ?_⟩
    split at h
    · rename_i e2
      split at h
      · rename_i y e3
        split at h
        · rename_i ys e4
          cases h
          exact .inr ⟨e2, y, ys, e3, e4, rfl⟩
        · cases h
      · cases h
    · rename_i e2
      exact .inl ⟨e2, h⟩
    · cases h
  · cases h
theorem drop_cons' {ds : List D} {i : Nat} (h : i < ds.length) : ∃ d, ds[i]? = some d ∧ ds.drop i = d :: ds.drop (i + 1) := ⟨ds[i], List.getElem?_eq_getElem h, List.drop_eq_getElem_cons h⟩
theorem lc_read {mi : MI} {t : MT} {b : MB} {m : MP} {own : List Nat} {g : TG} (hfx : ∀ v ∈ own, ∀ p ∈ w.fx, p.1 ≠ v) (hg : GT w own g t) (σ : L2.St) (H : Hp) (Q : VK) :
    tLs w (mComp mi t b m own) σ H Q → tLc (tI w mi) g (tBo w b) (tP w m) own σ H Q := by
  rintro ⟨ι, env, st, es, he, hs, hm, q⟩
  unfold mComp at hm
  split at hm
  · rename_i ds ro hmi
    refine ⟨ι, env, st, ds, ro, he, hs, hmi, fun J H1 k1 s1 hJ D hD => ?_⟩
    have hDi : D ∉ ι := nin_of s1 hD
    have he1 := he.kp k1
    refine ⟨fun i mm H' => mm = ds.length - i ∧ i ≤ ds.length ∧ Kp ι H1 H' ∧ SR w.s ι st H' ∧ ∃ acc es1 es2, H' D = some (.lst acc) ∧ acc.length ≤ i ∧ Reps ι H' acc es1 ∧ fGo t b m (ewipe env own) st (ds.drop i) = some es2 ∧ es1 ++ es2 = es,
      ⟨ds.length, rfl, Nat.zero_le _, Kp.new hD, s1.new hD (fun _ z => by cases z) hDi, [], [], es, upd_same, Nat.zero_le _, .nil, hm, rfl⟩, ?_⟩
    rintro i mm H' ⟨rfl, hi, k2, s2, acc, es1, es2, hacc, hal, hr, hgo, rfl⟩
    obtain ⟨j1, j2, j3⟩ := hJ.run ι st H' k2 (List.prefix_refl _) Hold.refl s2
    by_cases hlt : i < ds.length
    · refine .inr ⟨j1 i hlt, fun H'' => i + 1 ≤ ds.length ∧ Kp ι H1 H'' ∧ SR w.s ι st H'' ∧ ∃ acc es1' es2', H'' D = some (.lst acc) ∧ acc.length ≤ i + 1 ∧ Reps ι H'' acc es1' ∧ fGo t b m (ewipe env own) st (ds.drop (i + 1)) = some es2' ∧ es1' ++ es2' = es1 ++ es2, fun H'' hn => ⟨_, by omega, rfl, hn⟩, fun x H2 hy => ?_⟩
      obtain ⟨d, hd, rd, kk, s3⟩ := j2 i x H2 hlt hy
      obtain ⟨d', hd', hdr⟩ := drop_cons' hlt
      rw [hd] at hd'
      cases hd'
      rw [hdr] at hgo
      obtain ⟨env1, ht, hcase⟩ := go_cons hgo
      have k3 : Kp ι H' H2 := .of kk
      refine hg ι st H2 _ _ x d env1 _ ((he1.kp (k2.trans k3)).wipe own hfx) s3 rd ht fun σ2 he2 hw2 => ⟨hw2.trans (wipe_idem fun _ h => h), ?_⟩
      rcases hcase with ⟨hb, hrest⟩ | ⟨hb, y, ys, hy1, hrest, rfl⟩
      · refine ⟨ι, env1, st, false, he2, s3, hb, fun H3 k4 s4 => iteF ⟨hlt, (k2.trans k3).trans k4, s4, acc, es1, _, k4.keep _ _ (kk _ _ hacc) (fun _ z => by cases z) (fun z => absurd z hDi), Nat.le_succ_of_le hal, (hr.kp k3).kp k4, hrest, rfl⟩⟩
      · refine ⟨ι, env1, st, true, he2, s3, hb, fun H3 k4 s4 => iteT ⟨ι, env1, st, y, he2.kp k4, s4, hy1, fun v H4 k5 r5 s5 => ?_⟩⟩
        have hD4 : H4 D = some (.lst acc) := k5.keep _ _ (k4.keep _ _ (kk _ _ hacc) (fun _ z => by cases z) (fun z => absurd z hDi)) (fun _ z => by cases z) (fun z => absurd z hDi)
        refine ⟨acc, hD4, Nat.lt_of_le_of_lt hal (Nat.lt_of_lt_of_le hlt hJ.len), hlt, (((k2.trans k3).trans k4).trans k5).put hD, s5.put hD4 hDi, acc ++ [v], es1 ++ [y], ys, upd_same, by rw [List.length_append]; simpa using hal, ?_, hrest, by simp⟩
        exact ((((hr.kp k3).kp k4).kp k5).append (.one r5)).put hD4
    · have e : i = ds.length := by omega
      subst e
      rw [List.drop_length] at hgo
      cases hgo
      rw [List.append_nil] at q
      exact .inl ⟨j3 _ (Nat.le_refl _), q D acc H' (k1.trans k2) hacc (k1.fresh hDi hD) (by rw [← hr.length]; exact Nat.le_trans hal hJ.len) hr s2⟩
  · cases hm
theorem dl_lc {scope : Scope} {own : List (Str × Nat)} {mi : MI} {t : MT} {b : MB} {m : MP} {g : TG} (hc : X.calm = true) (hN : X.N.Nodup) (hi : PI X tg iter (tI w mi)) (ok : BlkOk X.N X.env.scope scope own) (ht : GT w (own.map (·.2)) g t)
    (hg : ∀ (s : Shared) (H : Hp) (C : Addr) (cl : List (Str × Addr)) (fp : List Addr), PG (X.blk s H scope (compEnvC scope cl C X.env) fp) tg g) (hb : ∀ (s : Shared) (H : Hp) (C : Addr) (cl : List (Str × Addr)) (fp : List Addr), PTs (X.blk s H scope (compEnvC scope cl C X.env) fp) ifs (tBo w b))
    (he : ∀ (s : Shared) (H : Hp) (C : Addr) (cl : List (Str × Addr)) (fp : List Addr), PE (X.blk s H scope (compEnvC scope cl C X.env) fp) elt (tP w m)) (hs : ∀ x, foldedSetIterable iter X.env x = pure x := by intro _; rfl) (hfx : ∀ v ∈ own.map (·.2), ∀ p ∈ w.fx, p.1 ≠ v := by intro _ _ _ h; cases h) :
    PE X (.ListComp elt [⟨tg, iter, ifs, 0⟩] scope pos) (tLs w (mComp mi t b m (own.map (·.2)))) :=
  PE.mo (pe_lc hc hN hi ok hg hb he hs) (lc_read hfx ht)
/-! ### generator expressions -/
/-- all items hold: short of the first that does not -/
def allGo (t : MT) (b : MB) (m : MP) (env : EV) (st : SS) (stopAt : Bool) : List D → Option Bool
  | [] => some (!stopAt)
  | d :: ds => match t d env with
    | some env1 => (match b env1 st with
      | some true => (match m env1 st with
        | some (.bl x) => if x = stopAt then some stopAt else allGo t b m env st stopAt ds
        | _ => none)
      | some false => allGo t b m env st stopAt ds
      | none => none)
    | none => none
def mAll (stopAt : Bool) (mi : MI) (t : MT) (b : MB) (m : MP) (own : List Nat) : MP := fun env st => match mi env st with | some (ds, _) => (match allGo t b m (ewipe env own) st stopAt ds with | some x => some (.bl x) | none => none) | none => none
theorem all_cons {t : MT} {b : MB} {m : MP} {env : EV} {st : SS} {d : D} {ds : List D} {sa r : Bool} (h : allGo t b m env st sa (d :: ds) = some r) :
    ∃ env1, t d env = some env1 ∧ ((b env1 st = some false ∧ allGo t b m env st sa ds = some r) ∨ (b env1 st = some true ∧ ((m env1 st = some (.bl sa) ∧ r = sa) ∨ (m env1 st = some (.bl (!sa)) ∧ allGo t b m env st sa ds = some r)))) := by
  unfold allGo at h
  split at h
  · rename_i env1 e1
    refine ⟨env1, e1, ?_⟩
    split at h
    · rename_i e2
      refine .inr ⟨e2, ?_⟩
      split at h
      · rename_i x e3
        split at h
        · rename_i hx
          cases h
          subst hx
          exact .inl ⟨e3, rfl⟩
        · rename_i hx
          refine .inr ⟨?_, h⟩
          rw [e3]
          cases x <;> cases sa <;> simp_all
      · cases h
    · rename_i e2
      exact .inl ⟨e2, h⟩
    · cases h
  · cases h
theorem SR.grown' {w : Ws} {ι : List Addr} {st : SS} {H H' : Hp} (s : SR w ι st H) (g : Grown H H') (T : AllTabs w.nm H') : SR w ι st H' := s.grown g T fun b hb => by
  obtain ⟨n, hn, e⟩ := List.getElem_of_mem hb
  have e1 : ι[n]? = some b := by rw [List.getElem?_eq_getElem hn, e]
  have hl : n < st.length := by rw [← s.len]; exact hn
  have q := s.cell n b st[n] e1 (List.getElem?_eq_getElem hl)
  cases hc : st[n] with
  | lst ds =>
    rw [hc] at q
    obtain ⟨vs, h1, _⟩ := q
    rw [h1]
    exact g.keep _ _ h1 fun _ z => by cases z
  | frz ds =>
    rw [hc] at q
    obtain ⟨o, vs, h1, _⟩ := q
    rw [h1]
    exact g.keep _ _ h1 fun _ z => by cases z
  | dic ds =>
    rw [hc] at q
    obtain ⟨vs, h1, _⟩ := q
    rw [h1]
    exact g.keep _ _ h1 fun _ z => by cases z
  | obj x ds =>
    rw [hc] at q
    obtain ⟨C, dx, vs, h1, _⟩ := q
    rw [h1]
    exact g.keep _ _ h1 fun _ z => by cases z
  | dicN ds =>
    rw [hc] at q
    obtain ⟨vs, h1, _⟩ := q
    rcases h1 with ⟨h1, _⟩ | ⟨xs, h1, _⟩ <;> rw [h1] <;> exact g.keep _ _ h1 fun _ z => by cases z
def mGenT (mi : MI) (t : MT) (b : MB) (m : MP) (own : List Nat) : MP := fun env st => match mComp mi t b m own env st with | some es => some (.tup es) | none => none
theorem tup_read {mi : MI} {t : MT} {b : MB} {m : MP} {own : List Nat} {g : TG} {B : Heap} {nm : Nat → Nat → Option Str} {c : Addr} (eB : B = w.s.base) (en : nm = w.s.nm) (ec : c = w.c) (hgn : w.gn = true) (hfx : ∀ v ∈ own, ∀ p ∈ w.fx, p.1 ≠ v) (hg : ∀ c', GT (w.at c') own g t) (σ : L2.St) (H : Hp) (Q : VK) :
    tP w (mGenT mi t b m own) σ H Q → tTupX (tGen B nm c (tI w mi) g (fun c' => tBo (w.at c') b) (fun c' => tP (w.at c') m) own) σ H Q := by
  subst eB en ec
  rintro ⟨ι, env, st, dres, he, hs, hm, q⟩
  unfold mGenT at hm
  split at hm
  · rename_i es hm'
    cases hm
    have hm := hm'
    unfold mComp at hm
    split at hm
    · rename_i ds ro hmi
      refine ⟨ι, env, st, ds, ro, he, hs, hmi, fun J H1 k1 s1 hJ => ⟨(he.kp k1).cod hgn, s1.tabs, fun H2 c' P' g2 T2 hc' hp' => ?_⟩⟩
      have kg : Kp ι H1 H2 := Kp.grown g2
      have s2 := s1.grown' g2 T2
      have he2 : EnvR (w.at c') ι env σ H2 := ((he.kp k1).kp kg).code hc' hp'
      refine ⟨⟨fun ys i mm H' => mm = ds.length - i ∧ i ≤ ds.length ∧ ys.length ≤ i ∧ Kp ι H2 H' ∧ SR w.s ι st H' ∧ ∃ es1 es2, Reps ι H' ys es1 ∧ fGo t b m (ewipe env own) st (ds.drop i) = some es2 ∧ es1 ++ es2 = es, fun _ => True, fun ys H' => Kp ι H2 H' ∧ SR w.s ι st H' ∧ Reps ι H' ys es ∧ ys.length ≤ ds.length⟩,
        trivial, ⟨ds.length, rfl, Nat.zero_le _, Nat.zero_le _, Kp.refl _, s2, [], es, .nil, hm, rfl⟩, ?_, fun _ => trivial, fun ys H' ⟨k3, s3, r3, l3⟩ hl p hp => ?_⟩
      · rintro ys i mm H' _ ⟨rfl, hi, hyl, k2, s2', es1, es2, hr, hgo, rfl⟩
        obtain ⟨j1, j2, j3⟩ := hJ.run ι st H' (kg.trans k2) (List.prefix_refl _) Hold.refl s2'
        by_cases hlt : i < ds.length
        · refine .inr ⟨j1 i hlt, fun H'' => i + 1 ≤ ds.length ∧ ys.length ≤ i + 1 ∧ Kp ι H2 H'' ∧ SR w.s ι st H'' ∧ ∃ es1' es2', Reps ι H'' ys es1' ∧ fGo t b m (ewipe env own) st (ds.drop (i + 1)) = some es2' ∧ es1' ++ es2' = es1 ++ es2,
            fun y H'' => i + 1 ≤ ds.length ∧ (ys ++ [y]).length ≤ i + 1 ∧ Kp ι H2 H'' ∧ SR w.s ι st H'' ∧ ∃ es1' es2', Reps ι H'' (ys ++ [y]) es1' ∧ fGo t b m (ewipe env own) st (ds.drop (i + 1)) = some es2' ∧ es1' ++ es2' = es1 ++ es2,
            fun H'' hn => ⟨_, by omega, rfl, hn⟩, fun y H'' hn => ⟨_, by omega, rfl, hn⟩, fun x H3 hy => ?_⟩
          obtain ⟨d, hd, rd, kk, s3⟩ := j2 i x H3 hlt hy
          obtain ⟨d', hd', hdr⟩ := drop_cons' hlt
          rw [hd] at hd'
          cases hd'
          rw [hdr] at hgo
          obtain ⟨env1, ht, hcase⟩ := go_cons hgo
          have k3 : Kp ι H' H3 := .of kk
          refine hg c' ι st H3 _ _ x d env1 _ ((he2.kp (k2.trans k3)).wipe own hfx) s3 rd ht fun σ2 he3 hw2 => ⟨hw2.trans (wipe_idem fun _ h => h), ?_⟩
          rcases hcase with ⟨hb, hrest⟩ | ⟨hb, y, yss, hy1, hrest, rfl⟩
          · refine ⟨ι, env1, st, false, he3, s3, hb, fun H4 k4 s4 => iteF ⟨hlt, Nat.le_succ_of_le hyl, (k2.trans k3).trans k4, s4, es1, _, (hr.kp k3).kp k4, hrest, rfl⟩⟩
          · refine ⟨ι, env1, st, true, he3, s3, hb, fun H4 k4 s4 => iteT ⟨ι, env1, st, y, he3.kp k4, s4, hy1, fun v H5 k5 r5 s5 => ?_⟩⟩
            exact ⟨Nat.lt_of_le_of_lt hyl (Nat.lt_of_lt_of_le hlt hJ.len), hlt, by rw [List.length_append]; simpa using hyl, ((k2.trans k3).trans k4).trans k5, s5, es1 ++ [y], yss, (((hr.kp k3).kp k4).kp k5).append (.one r5), hrest, by simp⟩
        · have e : i = ds.length := by omega
          subst e
          rw [List.drop_length] at hgo
          cases hgo
          rw [List.append_nil]
          exact .inl ⟨j3 _ (Nat.le_refl _), k2, s2', hr, hyl⟩
      · refine q _ _ (((k1.trans kg).trans k3).trans (Kp.new hp)) (.tup upd_same (by rw [← r3.length]; exact hl) (r3.kp (Kp.new hp))) (s3.new hp (fun _ z => by cases z) (nin_of s3 hp))
    · cases hm
  · cases hm
theorem all_read {sa : Bool} {mi : MI} {t : MT} {b : MB} {m : MP} {own : List Nat} {g : TG} {B : Heap} {nm : Nat → Nat → Option Str} {c : Addr} (eB : B = w.s.base) (en : nm = w.s.nm) (ec : c = w.c) (hgn : w.gn = true) (hfx : ∀ v ∈ own, ∀ p ∈ w.fx, p.1 ≠ v) (hg : ∀ c', GT (w.at c') own g t) (σ : L2.St) (H : Hp) (Q : VK) :
    tP w (mAll sa mi t b m own) σ H Q → tGen B nm c (tI w mi) g (fun c' => tBo (w.at c') b) (fun c' => tP (w.at c') m) own σ H fun G _ =>
      (∀ ys y i k H', G.alive ys → G.W (ys ++ [y]) i k H' → ∃ c : Bool, y = .bl c ∧ (c = (!sa) → G.alive (ys ++ [y])) ∧ (c = sa → Q (.bl sa) H')) ∧ ∀ ys H', G.alive ys → G.fin ys H' → Q (.bl (!sa)) H' := by
  subst eB en ec
  rintro ⟨ι, env, st, dres, he, hs, hm, q⟩
  unfold mAll at hm
  split at hm
  · rename_i ds ro hmi
    split at hm
    · rename_i r hm'
      cases hm
      have hm := hm'
      refine ⟨ι, env, st, ds, ro, he, hs, hmi, fun J H1 k1 s1 hJ => ⟨(he.kp k1).cod hgn, s1.tabs, fun H2 c' P' g2 T2 hc' hp' => ?_⟩⟩
      have kg : Kp ι H1 H2 := Kp.grown g2
      have s2 := s1.grown' g2 T2
      have he2 : EnvR (w.at c') ι env σ H2 := ((he.kp k1).kp kg).code hc' hp'
      refine ⟨⟨fun ys i mm H' => mm = ds.length - i ∧ i ≤ ds.length ∧ ys.length ≤ i ∧ Kp ι H2 H' ∧ SR w.s ι st H' ∧ (∀ y, ys.getLast? = some y → ∃ x, y = .bl x) ∧ ((ys.getLast? = some (.bl sa) ∧ r = sa) ∨ (ys.getLast? ≠ some (.bl sa) ∧ allGo t b m (ewipe env own) st sa (ds.drop i) = some r)),
          fun ys => ys.getLast? ≠ some (.bl sa), fun ys H' => Kp ι H2 H' ∧ SR w.s ι st H' ∧ r = (!sa)⟩,
        by simp, ⟨ds.length, rfl, Nat.zero_le _, Nat.zero_le _, Kp.refl _, s2, by simp, .inr ⟨by simp, hm⟩⟩, ?_, ?_, ?_⟩
      · rintro ys i mm H' hal ⟨rfl, hi, hyl, k2, s2', hbl, hcase⟩
        have hgo : allGo t b m (ewipe env own) st sa (ds.drop i) = some r := hcase.elim (fun z => absurd z.1 hal) (·.2)
        obtain ⟨j1, j2, j3⟩ := hJ.run ι st H' (kg.trans k2) (List.prefix_refl _) Hold.refl s2'
        by_cases hlt : i < ds.length
        · refine .inr ⟨j1 i hlt, fun H'' => i + 1 ≤ ds.length ∧ ys.length ≤ i + 1 ∧ Kp ι H2 H'' ∧ SR w.s ι st H'' ∧ allGo t b m (ewipe env own) st sa (ds.drop (i + 1)) = some r,
            fun y H'' => i + 1 ≤ ds.length ∧ (ys ++ [y]).length ≤ i + 1 ∧ Kp ι H2 H'' ∧ SR w.s ι st H'' ∧ ∃ x, y = .bl x ∧ ((x = sa ∧ r = sa) ∨ (x = (!sa) ∧ allGo t b m (ewipe env own) st sa (ds.drop (i + 1)) = some r)),
            fun H'' hn => ⟨_, by omega, rfl, hn.1, hn.2.1, hn.2.2.1, hn.2.2.2.1, hbl, .inr ⟨hal, hn.2.2.2.2⟩⟩, fun y H'' hn => ⟨_, by omega, rfl, hn.1, hn.2.1, hn.2.2.1, hn.2.2.2.1, ?_⟩, fun x H3 hy => ?_⟩
          · obtain ⟨_, _, _, _, x, rfl, hx⟩ := hn
            refine ⟨fun y hy => ⟨x, by simpa using hy.symm⟩, ?_⟩
            rcases hx with ⟨rfl, hr⟩ | ⟨rfl, hr⟩
            · exact .inl ⟨by simp, hr⟩
            · exact .inr ⟨by simp, hr⟩
          · obtain ⟨d, hd, rd, kk, s3⟩ := j2 i x H3 hlt hy
            obtain ⟨d', hd', hdr⟩ := drop_cons' hlt
            rw [hd] at hd'
            cases hd'
            rw [hdr] at hgo
            obtain ⟨env1, ht, hcase⟩ := all_cons hgo
            have k3 : Kp ι H' H3 := .of kk
            refine hg c' ι st H3 _ _ x d env1 _ ((he2.kp (k2.trans k3)).wipe own hfx) s3 rd ht fun σ2 he3 hw2 => ⟨hw2.trans (wipe_idem fun _ h => h), ?_⟩
            rcases hcase with ⟨hb, hrest⟩ | ⟨hb, hy2⟩
            · refine ⟨ι, env1, st, false, he3, s3, hb, fun H4 k4 s4 => iteF ⟨hlt, Nat.le_succ_of_le hyl, (k2.trans k3).trans k4, s4, hrest⟩⟩
            · have done : ∀ (y : Bool) (hy1 : m env1 st = some (.bl y)), ((y = sa ∧ r = sa) ∨ (y = (!sa) ∧ allGo t b m (ewipe env own) st sa (ds.drop (i + 1)) = some r)) → _ := fun y hy1 hy3 =>
                (⟨ι, env1, st, true, he3, s3, hb, fun H4 k4 s4 => iteT ⟨ι, env1, st, .bl y, he3.kp k4, s4, hy1, fun v H5 k5 r5 s5 => by
                  cases r5
                  exact ⟨Nat.lt_of_le_of_lt hyl (Nat.lt_of_lt_of_le hlt hJ.len), hlt, by rw [List.length_append]; simpa using hyl, ((k2.trans k3).trans k4).trans k5, s5, y, rfl, hy3⟩⟩⟩ : tBo (w.at c') b σ2 H3 fun b' H4 => if b' = true then tP (w.at c') m σ2 H4 fun y H5 => ys.length < sizeLine ∧ (i + 1 ≤ ds.length ∧ (ys ++ [y]).length ≤ i + 1 ∧ Kp ι H2 H5 ∧ SR w.s ι st H5 ∧ ∃ x, y = .bl x ∧ ((x = sa ∧ r = sa) ∨ (x = (!sa) ∧ allGo t b m (ewipe env own) st sa (ds.drop (i + 1)) = some r))) else (i + 1 ≤ ds.length ∧ ys.length ≤ i + 1 ∧ Kp ι H2 H4 ∧ SR w.s ι st H4 ∧ allGo t b m (ewipe env own) st sa (ds.drop (i + 1)) = some r))
              rcases hy2 with ⟨hy1, hr⟩ | ⟨hy1, hr⟩
              · exact done _ hy1 (.inl ⟨rfl, hr⟩)
              · exact done _ hy1 (.inr ⟨rfl, hr⟩)
        · have e : i = ds.length := by omega
          subst e
          rw [List.drop_length] at hgo
          cases hgo
          exact .inl ⟨j3 _ (Nat.le_refl _), k2, s2', rfl⟩
      · rintro ys y i k H' hal ⟨_, _, _, k2, s2', hbl, hcase⟩
        obtain ⟨x, rfl⟩ := hbl y (by simp)
        refine ⟨x, rfl, fun hx => by subst hx; simp, fun hx => ?_⟩
        subst hx
        rcases hcase with ⟨_, rfl⟩ | ⟨hn, _⟩
        · exact q _ H' ((k1.trans kg).trans k2) (.bl _) s2'
        · exact absurd (by simp) hn
      · rintro ys H' hal ⟨k2, s2', rfl⟩
        exact q _ H' ((k1.trans kg).trans k2) (.bl _) s2'
    · cases hm
  · cases hm
/-- what a generator expression asks for -/
structure GenA (X : Cx) (w : Wd) (mi : MI) (t : MT) (b : MB) (m : MP) (own : List Nat) (k : Nat) (e : Expr) : Prop where
  ex : ∃ (g : TG), PGx X k e (tGen X.base w.s.nm w.c (tI w mi) g (fun c' => tBo (w.at c') b) (fun c' => tP (w.at c') m) own) ∧ (∀ c', GT (w.at c') own g t) ∧ ∀ v ∈ own, ∀ p ∈ w.fx, p.1 ≠ v
  gn : w.gn = true
theorem dg_gen {scope : Scope} {own : List (Str × Nat)} {mi : MI} {t : MT} {b : MB} {m : MP} {g : TG} {k : Nat}
    (hc : X.calm = true) (hN : X.N.Nodup) (hr : Room 0 X.A) (hf : Fit X w) (hbm : Bm X.base X.mg) (hn : w.s.nm pos.line pos.col = none) (hi : PI X tg iter (tI w mi)) (ok : GenOk X.N X.env.scope scope own) (ht : ∀ c', GT (w.at c') (own.map (·.2)) g t)
    (hg : ∀ (s : Shared) (H : Hp) (cells : List (Str × Addr)) (L c' : Addr) (fp : List Addr) (A : Around) (pn : List (Addr × Obj)), PG (gcx X s H (genv X scope cells L (.ref c')) fp A pn) tg g)
    (hb : ∀ (s : Shared) (H : Hp) (cells : List (Str × Addr)) (L c' : Addr) (fp : List Addr) (A : Around) (pn : List (Addr × Obj)), Room k (A.deeper (genv X scope cells L (.ref c'))) → Fit (gcx X s H (genv X scope cells L (.ref c')) fp A pn) (w.at c') → PTs (gcx X s H (genv X scope cells L (.ref c')) fp A pn) ifs (tBo (w.at c') b))
    (he : ∀ (s : Shared) (H : Hp) (cells : List (Str × Addr)) (L c' : Addr) (fp : List Addr) (A : Around) (pn : List (Addr × Obj)), Room k (A.deeper (genv X scope cells L (.ref c'))) → Fit (gcx X s H (genv X scope cells L (.ref c')) fp A pn) (w.at c') → PE (gcx X s H (genv X scope cells L (.ref c')) fp A pn) elt (tP (w.at c') m))
    (hs : ∀ x, genFold iter X.env x = pure x := by intro _; rfl) (hfx : ∀ v ∈ own.map (·.2), ∀ p ∈ w.fx, p.1 ≠ v := by intro _ _ _ h; cases h) (hgn : w.gn = true := by rfl) : GenA X w mi t b m (own.map (·.2)) k (.GeneratorExp elt [⟨tg, iter, ifs, 0⟩] scope pos) :=
  ⟨⟨g, pgx_gen hc hN hr hf.c hbm hn hi ok hg (fun s H cells L c' fp A pn hr => hb s H cells L c' fp A pn hr ⟨hf.k, hf.b, rfl⟩) (fun s H cells L c' fp A pn hr => he s H cells L c' fp A pn hr ⟨hf.k, hf.b, rfl⟩) hs, ht, hfx⟩, hgn⟩
section
variable {mi : MI} {t : MT} {b : MB} {m : MP} {own : List Nat} {k : Nat} {e : Expr} {p : Pos}
theorem dp_allG (hf : Fit X w) (hG : GenA X w mi t b m own k e) (hr : Room (k + 3) X.A) (hg : Gl X "all") (hm : X.mg "all" = none) (he : starEach [e] X.env = (false, eval e X.env) :: starEach [] X.env := by rfl) : PE X (.Call (.Name "all" p) [e] [] pos) (tP w (mAll false mi t b m own)) := by
  obtain ⟨g, hp, ht, hfx⟩ := hG.ex
  exact PE.mo (pe_allX hp hr hg hm (he := he)) fun σ H Q h => all_read (sa := false) hf.b rfl rfl hG.gn hfx ht σ H Q h
theorem dp_anyG (hf : Fit X w) (hG : GenA X w mi t b m own k e) (hr : Room (k + 3) X.A) (hg : Gl X "any") (hm : X.mg "any" = none) (he : starEach [e] X.env = (false, eval e X.env) :: starEach [] X.env := by rfl) : PE X (.Call (.Name "any" p) [e] [] pos) (tP w (mAll true mi t b m own)) := by
  obtain ⟨g, hp, ht, hfx⟩ := hG.ex
  exact PE.mo (pe_anyX hp hr hg hm (he := he)) fun σ H Q h => all_read (sa := true) hf.b rfl rfl hG.gn hfx ht σ H Q h
theorem dp_tupG (hf : Fit X w) (hG : GenA X w mi t b m own k e) (hr : Room (k + 5) X.A) (hg : Gl X "tuple") (hm : X.mg "tuple" = none) (he : starEach [e] X.env = (false, eval e X.env) :: starEach [] X.env := by rfl) : PE X (.Call (.Name "tuple" p) [e] [] pos) (tP w (mGenT mi t b m own)) := by
  obtain ⟨g, hp, ht, hfx⟩ := hG.ex
  exact PE.mo (pe_tupX hp hr hg hm (he := he)) fun σ H Q h => tup_read hf.b rfl rfl hG.gn hfx ht σ H Q h
end
end
end GD

set_option Elab.async false
set_option linter.all false
set_option maxRecDepth 100000
set_option maxHeartbeats 2000000
namespace GD
open PySem PySem.Spec PyProof.Rows L2 GX

/-! ## 6. readings with effects: what holds behind, by the store -/
structure Gr (ι : List Addr) (H : Hp) (ι' : List Addr) (H' : Hp) : Prop where
  pre : ι <+: ι'
  kp : Kp ι H H'
  new : ∀ c ∈ ι', c ∈ ι ∨ H c = none
theorem Gr.of {ι : List Addr} {H H' : Hp} (k : Kp ι H H') : Gr ι H ι H' := ⟨List.prefix_refl _, k, fun _ h => .inl h⟩
theorem Gr.refl {ι : List Addr} (H : Hp) : Gr ι H ι H := .of (Kp.refl H)
theorem Gr.trans {ι ι1 ι2 : List Addr} {H H1 H2 : Hp} (a : Gr ι H ι1 H1) (b : Gr ι1 H1 ι2 H2) : Gr ι H ι2 H2 := by
  refine ⟨a.pre.trans b.pre, a.kp.trans2 b.kp a.new, fun c hc => ?_⟩
  rcases b.new c hc with h | h
  · exact a.new c h
  · by_cases hi : c ∈ ι
    · exact .inl hi
    · exact .inr (a.kp.fresh hi h)
section
variable {w : Wd} {ι ι' : List Addr} {H H' : Hp}
theorem Rep.gr (g : Gr ι H ι' H') {v : V} {d : D} (r : Rep ι H v d) : Rep ι' H' v d := r.mono g.kp g.pre
theorem Reps.gr (g : Gr ι H ι' H') {vs : List V} {ds : List D} (r : Reps ι H vs ds) : Reps ι' H' vs ds := r.mono g.kp g.pre
theorem EnvR.gr (g : Gr ι H ι' H') {env : EV} {σ : L2.St} (e : EnvR w ι env σ H) : EnvR w ι' env σ H' := e.mono g.kp g.pre
end
abbrev XP := EV → SS → (D → SS → Prop) → Prop
abbrev XB := EV → SS → (Bool → SS → Prop) → Prop
abbrev XA := EV → SS → (List D → SS → Prop) → Prop
abbrev XI := EV → SS → (List D → Option Nat → SS → Prop) → Prop
def tX (w : Wd) (t : XP) : TE := fun σ H Q => ∃ ι env st R, EnvR w ι env σ H ∧ SR w.s ι st H ∧ t env st R ∧ ∀ d st' ι' v H', R d st' → Gr ι H ι' H' → Rep ι' H' v d → SR w.s ι' st' H' → Q v H'
def tXB (w : Wd) (t : XB) : TT := fun σ H Q => ∃ ι env st R, EnvR w ι env σ H ∧ SR w.s ι st H ∧ t env st R ∧ ∀ b st' ι' H', R b st' → Gr ι H ι' H' → SR w.s ι' st' H' → Q b H'
def tXA (w : Wd) (t : XA) : TA := fun σ H Q => ∃ ι env st R, EnvR w ι env σ H ∧ SR w.s ι st H ∧ t env st R ∧ ∀ ds st' ι' vs H', R ds st' → Gr ι H ι' H' → Reps ι' H' vs ds → SR w.s ι' st' H' → Q vs H'
/-- a new list -/
def tXL (w : Wd) (t : XA) : TE := fun σ H Q => ∃ ι env st R, EnvR w ι env σ H ∧ SR w.s ι st H ∧ t env st R ∧ ∀ ds st' ι' p vs H', R ds st' → Gr ι H ι' H' → H' p = some (.lst vs) → H p = none → p ∉ ι' → ds.length ≤ sizeLine → Reps ι' H' vs ds → SR w.s ι' st' H' → Q (.ref p) H'
def tXI (w : Wd) (t : XI) : TI := fun σ H Q => ∃ ι env st R, EnvR w ι env σ H ∧ SR w.s ι st H ∧ t env st R ∧ ∀ ds ro st' ι' J H', R ds ro st' → Gr ι H ι' H' → SR w.s ι' st' H' → ItD w ι' st' J ds ro H' → Q J H'
def xOf (m : MP) : XP := fun env st R => ∃ d, m env st = some d ∧ R d st
def xbOf (m : MB) : XB := fun env st R => ∃ d, m env st = some d ∧ R d st
def xaOf (m : ML) : XA := fun env st R => ∃ d, m env st = some d ∧ R d st
def xiOf (m : MI) : XI := fun env st R => ∃ ds ro, m env st = some (ds, ro) ∧ R ds ro st
section
variable {X : Cx} {w : Wd} {pos p : Pos} {e a b c : Expr} {es : List Expr} {tg iter : Expr}
theorem dx_of {m : MP} (h : PE X e (tP w m)) : PE X e (tX w (xOf m)) := PE.mo h fun σ H Q ⟨ι, env, st, R, he, hs, ⟨d, hm, hR⟩, q⟩ => ⟨ι, env, st, d, he, hs, hm, fun v H' k r s => q d st ι v H' hR (.of k) r s⟩
theorem dxb_of {m : MB} (h : PT X e (tBo w m)) : PT X e (tXB w (xbOf m)) := PT.mo h fun σ H Q ⟨ι, env, st, R, he, hs, ⟨d, hm, hR⟩, q⟩ => ⟨ι, env, st, d, he, hs, hm, fun H' k s => q d st ι H' hR (.of k) s⟩
theorem dxl_of {m : ML} (h : PE X e (tLs w m)) : PE X e (tXL w (xaOf m)) := PE.mo h fun σ H Q ⟨ι, env, st, R, he, hs, ⟨d, hm, hR⟩, q⟩ => ⟨ι, env, st, d, he, hs, hm, fun p vs H' k h1 h2 l r s => q d st ι p vs H' hR (.of k) h1 h2 (nin_of hs h2) l r s⟩
theorem dxi_of {m : MI} (h : PI X tg iter (tI w m)) : PI X tg iter (tXI w (xiOf m)) := PI.mo h fun σ H Q ⟨ι, env, st, R, he, hs, ⟨ds, ro, hm, hR⟩, q⟩ => ⟨ι, env, st, ds, ro, he, hs, hm, fun J H' k s hJ => q ds ro st ι J H' hR (.of k) s hJ⟩
/-! ### operators -/
def xOp (f : F2) (a b : XP) : XP := fun env st R => a env st fun x st1 => b env st1 fun y st2 => ∃ d, f st2 x y = some d ∧ R d st2
theorem xop_read {f : F2} {r : R2} {ma mb : XP} (hr : OpP w f r) (σ : L2.St) (H : Hp) (Q : VK) : tX w (xOp f ma mb) σ H Q → tOp r (tX w ma) (tX w mb) σ H Q := by
  rintro ⟨ι, env, st, R, he, hs, hm, q⟩
  refine ⟨ι, env, st, _, he, hs, hm, fun x st1 ι1 vx H1 hb g1 r1 s1 => ⟨ι1, env, st1, _, he.gr g1, s1, hb, fun y st2 ι2 vy H2 hd g2 r2 s2 => ?_⟩⟩
  obtain ⟨d, hf, hR⟩ := hd
  exact hr ι2 st2 H2 vx vy x y d Q s2 (r1.gr g2) r2 hf fun v H3 k3 r3 s3 => q d st2 ι2 v H3 hR ((g1.trans g2).trans (.of k3)) r3 s3
theorem dx_bin {op : Operator} {f : F2} {r : R2} {ma mb : XP} (ho : OpR X (binaryOp op) r) (hr : OpP w f r) (ha : PE X a (tX w ma)) (hb : PE X b (tX w mb)) : PE X (.BinOp a op b pos) (tX w (xOp f ma mb)) := PE.mo (pe_op ho ha hb) (xop_read hr)
section
variable {ma mb : XP}
theorem dx_add (ha : PE X a (tX w ma)) (hb : PE X b (tX w mb)) : PE X (.BinOp a .Add b pos) (tX w (xOp fAdd ma mb)) := dx_bin oAdd qAdd ha hb
theorem dx_mod (ha : PE X a (tX w ma)) (hb : PE X b (tX w mb)) : PE X (.BinOp a .Mod b pos) (tX w (xOp fMod ma mb)) := dx_bin op_mod qMod ha hb
theorem dx_ix (ha : PE X a (tX w ma)) (hb : PE X b (tX w mb)) (hs : PlainIx b := by intro _ _; rfl) : PE X (.Subscript a b pos) (tX w (xOp fIx ma mb)) := PE.mo (pe_ix ix_seq ha hb hs) (xop_read qIx)
end
/-! ### arguments, displays -/
def xNil : XA := fun env st R => R [] st
def xCons (m : XP) (r : XA) : XA := fun env st R => m env st fun d st1 => r env st1 fun ds st2 => R (d :: ds) st2
theorem dxa_nil : PA X [] (tXA w xNil) := PA.mo pa_nil fun σ H Q ⟨ι, env, st, R, he, hs, hm, q⟩ => q [] st ι [] H hm (Gr.refl H) .nil hs
theorem dxa_cons {m : XP} {r : XA} (ha : PE X e (tX w m)) (hr : PA X es (tXA w r)) (hs : starEach (e :: es) X.env = (false, eval e X.env) :: starEach es X.env := by rfl) : PA X (e :: es) (tXA w (xCons m r)) :=
  PA.mo (pa_cons ha hr hs) fun σ H Q ⟨ι, env, st, R, he, hst, hm, q⟩ => ⟨ι, env, st, _, he, hst, hm, fun d st1 ι1 v H1 h1 g1 r1 s1 => ⟨ι1, env, st1, _, he.gr g1, s1, h1, fun ds st2 ι2 vs H2 h2 g2 r2 s2 => q (d :: ds) st2 ι2 (v :: vs) H2 h2 (g1.trans g2) (.cons (r1.gr g2) r2) s2⟩⟩
def xTup (r : XA) : XP := fun env st R => r env st fun ds st1 => ds.length ≤ 1000 ∧ R (.tup ds) st1
theorem dx_tup {r : XA} {x1 : Nat} (h : PA X es (tXA w r)) : PE X (.Tuple es x1 pos) (tX w (xTup r)) := by
  refine PE.mo (pe_tup h) fun σ H Q ⟨ι, env, st, R, he, hst, hm, q⟩ => ⟨ι, env, st, _, he, hst, hm, fun ds st1 ι1 vs H1 h1 g1 r1 s1 => ⟨by rw [r1.length]; exact small_size h1.1, fun p hp => ?_⟩⟩
  exact q _ st1 ι1 _ _ h1.2 (g1.trans (.of (Kp.new hp))) (.tup upd_same (small_size h1.1) (r1.kp (Kp.new hp))) (s1.new hp (fun _ z => by cases z) (nin_of s1 hp))
def xLst (r : XA) : XA := fun env st R => r env st fun ds st1 => ds.length ≤ 1000 ∧ R ds st1
theorem Gr.fresh {ι ι' : List Addr} {H H' : Hp} (g : Gr ι H ι' H') {st : SS} {w : Ws} (s : SR w ι' st H') {p : Addr} (h : H' p = none) : H p = none := g.kp.fresh (fun z => nin_of s h (g.pre.subset z)) h
theorem dxl_lst {r : XA} (h : PA X es (tXA w r)) : PE X (.List es pos) (tXL w (xLst r)) := by
  refine PE.mo (pe_lst h) fun σ H Q ⟨ι, env, st, R, he, hst, hm, q⟩ => ⟨ι, env, st, _, he, hst, hm, fun ds st1 ι1 vs H1 h1 g1 r1 s1 => ⟨by rw [r1.length]; exact small_size h1.1, fun p hp => ?_⟩⟩
  exact q _ st1 ι1 p vs _ h1.2 (g1.trans (.of (Kp.new hp))) upd_same (g1.fresh s1 hp) (nin_of s1 hp) (small_size h1.1) (r1.kp (Kp.new hp)) (s1.new hp (fun _ z => by cases z) (nin_of s1 hp))
/-! ### tests, choices -/
def xV (m : XP) : XB := fun env st R => m env st fun d st1 => ∃ b, d = .bl b ∧ R b st1
def xAnd (a b : XB) : XB := fun env st R => a env st fun x st1 => if x = true then b env st1 R else R false st1
def xOr (a b : XB) : XB := fun env st R => a env st fun x st1 => if x = true then R true st1 else b env st1 R
def xNot (a : XB) : XB := fun env st R => a env st fun x st1 => R (!x) st1
def xIf (c : XB) (a b : XP) : XP := fun env st R => c env st fun x st1 => if x = true then a env st1 R else b env st1 R
theorem dxb_val {m : XP} (h : PE X a (tX w m)) (he : ∀ whole, isTrue a X.env whole = (do let v ← whole; standAt a.pos; holding [v] (truthy v)) := by intro _; rfl) : PT X a (tXB w (xV m)) :=
  PT.mo (pt_val h he) fun σ H Q ⟨ι, env, st, R, hen, hs, hm, q⟩ => ⟨ι, env, st, _, hen, hs, hm, fun d st1 ι1 v H1 h1 g1 r1 s1 => by
    obtain ⟨b, rfl, hR⟩ := h1
    cases r1
    exact ⟨b, rfl, q b st1 ι1 H1 hR g1 s1⟩⟩
variable {ba bb : XB} {rest : List Expr}
theorem dxb_and1 (ha : PT X a (tXB w ba)) : PW X (.BoolOp .And [a] pos) (tXB w ba) := pw_and1 ha
theorem dxb_or1 (ha : PT X a (tXB w ba)) : PW X (.BoolOp .Or [a] pos) (tXB w ba) := pw_or1 ha
theorem dxb_and (ha : PT X a (tXB w ba)) (hb : PW X (.BoolOp .And (b :: rest) pos) (tXB w bb)) : PW X (.BoolOp .And (a :: b :: rest) pos) (tXB w (xAnd ba bb)) :=
  PW.mo (pw_and ha hb) fun σ H Q ⟨ι, env, st, R, he, hs, hm, q⟩ => ⟨ι, env, st, _, he, hs, hm, fun x st1 ι1 H1 h1 g1 s1 => by
    cases x with
    | true => exact iteT ⟨ι1, env, st1, R, he.gr g1, s1, by simpa using h1, fun b st2 ι2 H2 h2 g2 s2 => q b st2 ι2 H2 h2 (g1.trans g2) s2⟩
    | false => exact iteF (q false st1 ι1 H1 (by simpa using h1) g1 s1)⟩
theorem dxb_or (ha : PT X a (tXB w ba)) (hb : PW X (.BoolOp .Or (b :: rest) pos) (tXB w bb)) : PW X (.BoolOp .Or (a :: b :: rest) pos) (tXB w (xOr ba bb)) :=
  PW.mo (pw_or ha hb) fun σ H Q ⟨ι, env, st, R, he, hs, hm, q⟩ => ⟨ι, env, st, _, he, hs, hm, fun x st1 ι1 H1 h1 g1 s1 => by
    cases x with
    | true => exact iteT (q true st1 ι1 H1 (by simpa using h1) g1 s1)
    | false => exact iteF ⟨ι1, env, st1, R, he.gr g1, s1, by simpa using h1, fun b st2 ι2 H2 h2 g2 s2 => q b st2 ι2 H2 h2 (g1.trans g2) s2⟩⟩
theorem dxb_not (ha : PT X a (tXB w ba)) : PT X (.UnaryOp .Not a pos) (tXB w (xNot ba)) :=
  PT.mo (pt_not ha) fun σ H Q ⟨ι, env, st, R, he, hs, hm, q⟩ => ⟨ι, env, st, _, he, hs, hm, fun x st1 ι1 H1 h1 g1 s1 => q _ st1 ι1 H1 h1 g1 s1⟩
theorem dx_if {ma mb : XP} (hc : PT X c (tXB w ba)) (ha : PE X a (tX w ma)) (hb : PE X b (tX w mb)) : PE X (.IfExp c a b pos) (tX w (xIf ba ma mb)) :=
  PE.mo (pe_ifExp hc ha hb) fun σ H Q ⟨ι, env, st, R, he, hs, hm, q⟩ => ⟨ι, env, st, _, he, hs, hm, fun x st1 ι1 H1 h1 g1 s1 => by
    cases x with
    | true => exact iteT ⟨ι1, env, st1, R, he.gr g1, s1, by simpa using h1, fun d st2 ι2 v H2 h2 g2 r2 s2 => q d st2 ι2 v H2 h2 (g1.trans g2) r2 s2⟩
    | false => exact iteF ⟨ι1, env, st1, R, he.gr g1, s1, by simpa using h1, fun d st2 ι2 v H2 h2 g2 r2 s2 => q d st2 ι2 v H2 h2 (g1.trans g2) r2 s2⟩⟩
/-! ### calls -/
abbrev XT := List D → SS → (D → SS → Prop) → Prop
/-- what a def over data promises -/
def spX (w : Ws) (T : XT) : Sp := fun vs H Q _ => ∃ ι st ds R, Reps ι H vs ds ∧ SR w ι st H ∧ T ds st R ∧ ∀ d st' ι' v H', R d st' → Gr ι H ι' H' → Rep ι' H' v d → SR w ι' st' H' → Q v H'
structure DefX (P : Program) (wl : World) (w : Ws) (mg : Str → Option Value) (k : Nat) (x : Str) (T : XT) : Prop where
  ex : ∃ (f : Addr) (fd : FuncData) (ps : List Str), FnOk P wl w.K mg w.base CX0 k f fd ps (spX w T) ∧ mg x = some (.ref f) ∧ PySem.W.keepIn w.K (.ref f) = true ∧ Binds w.K fd ps []
def xCall (T : XT) (r : XA) : XP := fun env st R => r env st fun ds st1 => T ds st1 R
theorem dx_call {k : Nat} {T : XT} {r : XA} (hf : Fit X w) (c : DefX X.prog X.w w.s X.mg k x T) (hr : Room k X.A) (hg : Gl X x) (ha : PA X (e :: es) (tXA w r))
    (hdb : (x == ("__debug__" : Str)) = false := by decide) (he : starEach (e :: es) X.env = (false, eval e X.env) :: starEach es X.env := by rfl) (hpl : (backTo pos (starEach es X.env)).any (·.1) = false := by rfl) :
    PE X (.Call (.Name x p) (e :: es) [] pos) (tX w (xCall T r)) := by
  obtain ⟨f, fd, ps, hF, hm, hk, hb⟩ := c.ex
  rw [← hf.k, ← hf.b] at hF
  rw [← hf.k] at hk hb
  refine PE.mo (pe_call (E := E0) hF hr hg hm hk hb .nil pass0 ha hdb he hpl) fun σ H Q ⟨ι, env, st, R, hen, hst, hmm, q⟩ => ?_
  refine ⟨ι, env, st, _, hen, hst, hmm, fun ds st1 ι1 vs H1 h1 g1 r1 s1 => ?_⟩
  show spX w.s T (vs ++ []) H1 Q E0
  rw [List.append_nil]
  exact ⟨ι1, st1, ds, R, r1, s1, h1, fun d st' ι' v H' h2 g2 r2 s2 => q d st' ι' v H' h2 (g1.trans g2) r2 s2⟩
/-- a def without effects -/
def xF (F : List D → SS → Option D) : XT := fun ds st R => ∃ d, F ds st = some d ∧ R d st
theorem DefP.x {P : Program} {wl : World} {w : Ws} {mg : Str → Option Value} {k : Nat} {x : Str} {F : List D → SS → Option D} (c : DefP P wl w mg k x F) : DefX P wl w mg k x (xF F) := by
  obtain ⟨f, fd, ps, hF, hm, hk, hb⟩ := c.ex
  exact ⟨f, fd, ps, hF.imp fun vs H Q E ⟨ι, st, ds, R, r, s, ⟨d, hd, hR⟩, q⟩ => ⟨ι, st, ds, d, r, s, hd, fun v H' k r' s' => q d st ι v H' hR (.of k) r' s'⟩, hm, hk, hb⟩
/-- from the body's reading to the pure promise: nothing of the store is written, no new place is handed out -/
theorem DefX.toP {P : Program} {wl : World} {w : Ws} {mg : Str → Option Value} {k : Nat} {x : Str} {T : XT} {F : List D → SS → Option D} (c : DefX P wl w mg k x T)
    (h : ∀ ds st d, F ds st = some d → D.loAll st.length ds = true → D.lo st.length d = true ∧ T ds st fun d' st' => d' = d ∧ st'.take st.length = st) : DefP P wl w mg k x F := by
  obtain ⟨f, fd, ps, hF, hm, hk, hb⟩ := c.ex
  refine ⟨f, fd, ps, hF.imp fun vs H Q E ⟨ι, st, ds, d, r, s, hd, q⟩ => ?_, hm, hk, hb⟩
  obtain ⟨hlo, hT⟩ := h ds st d hd (s.len ▸ r.low)
  refine ⟨ι, st, ds, _, r, s, hT, fun d' st' ι' v H' ⟨e1, e2⟩ g r' s' => ?_⟩
  subst e1
  refine q v H' g.kp (r'.cut g.pre (by rw [s.len]; exact hlo)) ⟨s.len, s.nd, fun n a cl h1 h2 => ?_, s'.tabs, s'.tab⟩
  have hn : n < st.length := (List.getElem?_eq_some_iff.mp h2).1
  have h2' : st'[n]? = some cl := by
    rw [← e2, List.getElem?_take, if_pos hn] at h2
    exact h2
  have q1 := s'.cell n a cl (pre_get g.pre h1) h2'
  have q0 := s.cell n a cl h1 h2
  cases cl with
  | lst ds =>
    obtain ⟨vs0, _, _, r0⟩ := q0
    obtain ⟨vs1, e1, l1, r1⟩ := q1
    exact ⟨vs1, e1, l1, r1.cut g.pre r0.low⟩
  | frz ds =>
    obtain ⟨_, vs0, _, _, r0⟩ := q0
    obtain ⟨o1, vs1, e1, l1, r1⟩ := q1
    exact ⟨o1, vs1, e1, l1, r1.cut g.pre r0.low⟩
  | dic ds =>
    obtain ⟨vs0, _, _, r0⟩ := q0
    obtain ⟨vs1, e1, l1, r1⟩ := q1
    exact ⟨vs1, e1, l1, r1.keys, r1.vals.cut g.pre r0.vals.low⟩
  | obj x ds =>
    obtain ⟨_, _, vs0, _, _, r0⟩ := q0
    obtain ⟨C1, dx1, vs1, e1, l1, r1⟩ := q1
    exact ⟨C1, dx1, vs1, e1, l1, r1.keys, r1.vals.cut g.pre r0.vals.low⟩
  | dicN ds =>
    obtain ⟨vs0, _, _, r0⟩ := q0
    obtain ⟨vs1, e1, l1, r1⟩ := q1
    exact ⟨vs1, e1, l1, r1.keys, r1.vals.cut g.pre r0.vals.low⟩
end
end GD

set_option Elab.async false
set_option linter.all false
set_option maxRecDepth 100000
set_option maxHeartbeats 2000000
namespace GD
open PySem PySem.Spec PyProof.Rows L2 GX

/-! ## 7. new lists, their uses; built-ins -/
section
variable {X : Cx} {w : Wd} {pos p : Pos} {e a b c : Expr} {es : List Expr} {tg iter : Expr}
/-- a new list is kept: it goes into the store -/
def xNew (t : XA) : XP := fun env st R => t env st fun ds st1 => R (.ref st1.length) (st1 ++ [.lst ds])
theorem dx_new {t : XA} (h : PE X e (tXL w t)) : PE X e (tX w (xNew t)) :=
  PE.mo h fun σ H Q ⟨ι, env, st, R, he, hs, hm, q⟩ => ⟨ι, env, st, _, he, hs, hm, fun ds st1 ι1 p vs H1 h1 g1 hp hn hi hl r1 s1 =>
    q (.ref st1.length) (st1 ++ [.lst ds]) (ι1 ++ [p]) (.ref p) H1 h1 ⟨g1.pre.trans (List.prefix_append _ _), g1.kp, fun c hc => by
      rcases List.mem_append.mp hc with hc | hc
      · exact g1.new c hc
      · rw [List.mem_singleton.mp hc]; exact .inr hn⟩ (.ref (by rw [← s1.len, List.getElem?_append_right (Nat.le_refl _), Nat.sub_self]; rfl)) (s1.add hp hi hl r1)⟩
/-- tuple(new list) -/
def xTupL (t : XA) : XP := fun env st R => t env st fun ds st1 => R (.tup ds) st1
theorem dx_tupL {t : XA} (hg : Gl X "tuple") (hm : X.mg "tuple" = none) (h : PE X e (tXL w t)) (hs : starEach [e] X.env = (false, eval e X.env) :: starEach [] X.env := by rfl) : PE X (.Call (.Name "tuple" p) [e] [] pos) (tX w (xTupL t)) :=
  PE.mo (pe_callTy call_tuple_of hg hm (by decide +kernel) (pa_cons h pa_nil hs) (he := hs)) fun σ H Q ⟨ι, env, st, R, he, hst, hmm, q⟩ => ⟨ι, env, st, _, he, hst, hmm, fun ds st1 ι1 p vs H1 h1 g1 hp hn hi hl r1 s1 =>
    ⟨p, vs, rfl, .inl ⟨sql_of hp, fun l hl' => q _ st1 ι1 _ _ h1 (g1.trans (.of (Kp.new hl'))) (.tup upd_same hl (r1.kp (Kp.new hl'))) (s1.new hl' (fun _ z => by cases z) (nin_of s1 hl'))⟩⟩⟩
/-- .. without effects -/
def mTupL (r : ML) : MP := fun env st => match r env st with | some ds => some (.tup ds) | none => none
theorem dp_tupL {r : ML} (hg : Gl X "tuple") (hm : X.mg "tuple" = none) (h : PE X e (tLs w r)) (hs : starEach [e] X.env = (false, eval e X.env) :: starEach [] X.env := by rfl) : PE X (.Call (.Name "tuple" p) [e] [] pos) (tP w (mTupL r)) :=
  PE.mo (pe_callTy call_tuple_of hg hm (by decide +kernel) (pa_cons h pa_nil hs) (he := hs)) fun σ H Q ⟨ι, env, st, d, he, hst, hmm, q⟩ => by
    unfold mTupL at hmm
    split at hmm
    · rename_i ds e1
      cases hmm
      exact ⟨ι, env, st, ds, he, hst, e1, fun p vs H1 k1 hp hn hl r1 s1 =>
        ⟨p, vs, rfl, .inl ⟨sql_of hp, fun l hl' => q _ _ (k1.trans (Kp.new hl')) (.tup upd_same hl (r1.kp (Kp.new hl'))) (s1.new hl' (fun _ z => by cases z) (nin_of s1 hl'))⟩⟩⟩
    · cases hmm
/-- len(new list) -/
def mLenL (r : ML) : MP := fun env st => match r env st with | some ds => some (.int ds.length) | none => none
theorem dp_lenL {r : ML} (hg : Gl X "len") (hm : X.mg "len" = none) (h : PE X e (tLs w r)) (hs : starEach [e] X.env = (false, eval e X.env) :: starEach [] X.env := by rfl) : PE X (.Call (.Name "len" p) [e] [] pos) (tP w (mLenL r)) :=
  PE.mo (pe_callB call_len_seq hg hm PySem.boot_len (pa_cons h pa_nil hs) (he := hs)) fun σ H Q ⟨ι, env, st, d, he, hst, hmm, q⟩ => by
    unfold mLenL at hmm
    split at hmm
    · rename_i ds e1
      cases hmm
      exact ⟨ι, env, st, ds, he, hst, e1, fun p vs H1 k1 hp hn hl r1 s1 =>
        ⟨p, vs, rfl, .inl (sql_of hp), by rw [r1.length]; exact q _ H1 k1 (.int _) s1⟩⟩
    · cases hmm
/-! ### built-ins of one argument -/
abbrev RC := List V → Hp → VK → Prop
def Op1P (w : Wd) (f : F1) (r : RC) : Prop := ∀ (ι : List Addr) (st : SS) (H : Hp) (x : V) (dx d : D) (Q : VK), SR w.s ι st H → Rep ι H x dx → f st dx = some d → (∀ v H', Kp ι H H' → Rep ι H' v d → SR w.s ι st H' → Q v H') → r [x] H Q
def xF1 (f : F1) (m : XP) : XP := fun env st R => m env st fun x st1 => ∃ d, f st1 x = some d ∧ R d st1
theorem op1_x {f : F1} {r : RC} {m : XP} (hr : Op1P w f r) (σ : L2.St) (H : Hp) (Q : VK) : tX w (xF1 f m) σ H Q → tX w m σ H fun x H1 => r [x] H1 Q := by
  rintro ⟨ι, env, st, R, he, hs, hm, q⟩
  exact ⟨ι, env, st, _, he, hs, hm, fun x st1 ι1 v H1 ⟨d, h1, h2⟩ g1 r1 s1 => hr ι1 st1 H1 v x d Q s1 r1 h1 fun v2 H2 k2 r2 s2 => q d st1 ι1 v2 H2 h2 (g1.trans (.of k2)) r2 s2⟩
theorem op1_p {f : F1} {r : RC} {m : MP} (hr : Op1P w f r) (σ : L2.St) (H : Hp) (Q : VK) : tP w (mF1 f m) σ H Q → tP w m σ H fun x H1 => r [x] H1 Q := by
  rintro ⟨ι, env, st, d, he, hs, hm, q⟩
  unfold mF1 at hm
  split at hm
  · rename_i dx e1
    exact ⟨ι, env, st, dx, he, hs, e1, fun v H1 k1 r1 s1 => hr ι st H1 v dx d Q s1 r1 hm fun v2 H2 k2 r2 s2 => q v2 H2 (k1.trans k2) r2 s2⟩
  · cases hm
def fInt : F1 := fun _ d => match d with | .int i => some (.int i) | .bl b => some (.int (if b then 1 else 0)) | _ => none
theorem qInt : Op1P w fInt (fun xs H Q => (∃ i, xs = [.int i] ∧ Q (.int i) H) ∨ ∃ k, xs = [.bl k] ∧ Q (.int (if k then 1 else 0)) H) := by
  intro ι st H x dx d Q s rx hf q
  unfold fInt at hf
  split at hf
  · cases hf; cases rx
    exact .inl ⟨_, rfl, q _ H (Kp.refl H) (.int _) s⟩
  · cases hf; cases rx
    exact .inr ⟨_, rfl, q _ H (Kp.refl H) (.int _) s⟩
  · cases hf
theorem dx_int {m : XP} (hg : Gl X "int") (hm : X.mg "int" = none) (ha : PE X a (tX w m)) (hs : starEach [a] X.env = (false, eval a X.env) :: starEach [] X.env := by rfl) : PE X (.Call (.Name "int" p) [a] [] pos) (tX w (xF1 fInt m)) :=
  PE.mo (pe_callTy call_int1 hg hm (by decide +kernel) (pa_cons ha pa_nil hs) (he := hs)) fun σ H Q h => op1_x qInt σ H Q h
theorem dp_intc {m : MP} (hg : Gl X "int") (hm : X.mg "int" = none) (ha : PE X a (tP w m)) (hs : starEach [a] X.env = (false, eval a X.env) :: starEach [] X.env := by rfl) : PE X (.Call (.Name "int" p) [a] [] pos) (tP w (mF1 fInt m)) :=
  PE.mo (pe_callTy call_int1 hg hm (by decide +kernel) (pa_cons ha pa_nil hs) (he := hs)) fun σ H Q h => op1_p qInt σ H Q h
/-- isinstance(x, T), T a built-in type -/
def D.kind (st : SS) : D → Option String
  | .non => some "NoneType"
  | .bl _ => some "bool"
  | .int _ => some "int"
  | .str _ => some "str"
  | .tup _ => some "tuple"
  | .ref n => match st[n]? with
    | some (.lst _) => some "list"
    | some (.frz _) => some "list"
    | _ => none
def fIs (T : String) : F1 := fun st d => match d.kind st with
  | some s => (match kitB s T with | some b => some (.bl b) | none => none)
  | none => none
theorem qIs {K : PySem.W.Frag} {T : String} : ∀ (ι : List Addr) (st : SS) (H : Hp) (x : V) (dx d : D) (Q : VK), SR w.s ι st H → Rep ι H x dx → fIs T st dx = some d → (∀ v H', Kp ι H H' → Rep ι H' v d → SR w.s ι st H' → Q v H') → rIsi K [x, .ty T] H Q := by
  intro ι st H x dx d Q s rx hf q
  unfold fIs at hf
  split at hf
  · rename_i S e1
    split at hf
    · rename_i b e2
      cases hf
      have fin : TyX K H x (.type S) := by
        cases rx with
        | non => cases e1; exact .base .non
        | bl b => cases e1; exact .base (.bl b)
        | int b => cases e1; exact .base (.int b)
        | str b => cases e1; exact .base (.str b)
        | tup h l r => cases e1; exact .base (.tup h)
        | ref hn =>
          simp only [D.kind] at e1
          split at e1
          · rename_i hc
            cases e1
            obtain ⟨vs, h1, _⟩ := s.cell _ _ _ hn hc
            exact .base (.lst h1)
          · rename_i hc
            cases e1
            obtain ⟨o, vs, h1, _⟩ := s.cell _ _ _ hn hc
            exact .base (.frz h1)
          · cases e1
      exact ⟨x, .ty T, .type S, .type T, b, rfl, .ty T, fin, kit_ty e2, q _ H (Kp.refl H) (.bl b) s⟩
    · cases hf
  · cases hf
theorem pe_ty {T : String} {nm : Str} (hg : Gl X nm) (hm : X.mg nm = none) (hv : bootBuiltins nm = some (.type T)) (hn : nm ≠ "__name__" := by decide) (hdb : (nm == ("__debug__" : Str)) = false := by decide) : PE X (.Name nm p) (fun _ H Q => Q (.ty T) H) :=
  ⟨fun pins s σ H Q I h => ld_blt I hg hm hv ⟨.ty T, H, I, rfl, h⟩ hn hdb⟩
end
/-! ### list comprehensions with effects -/
def xGo (t : MT) (b : XB) (m : XP) (env : EV) (st0 : SS) (ro : Option Nat) : List D → SS → (List D → SS → Prop) → Prop
  | [], st, R => Hold st0 ro st ∧ R [] st
  | d :: ds, st, R => Hold st0 ro st ∧ ∃ env1, t d env = some env1 ∧ b env1 st fun x st1 => if x = true then m env1 st1 fun y st2 => xGo t b m env st0 ro ds st2 fun ys st3 => R (y :: ys) st3 else xGo t b m env st0 ro ds st1 R
def xComp (mi : XI) (t : MT) (b : XB) (m : XP) (own : List Nat) : XA := fun env st R => mi env st fun ds ro st1 => xGo t b m (ewipe env own) st1 ro ds st1 R
section
variable {X : Cx} {w : Wd} {pos p : Pos} {tg iter elt c : Expr} {ifs : List Expr}
theorem dxts_nil : PTs X [] (tXB w (xbOf bYes)) := PTs.mo pts_nil fun σ H Q ⟨ι, env, st, R, he, hs, ⟨d, hm, hR⟩, q⟩ => by cases hm; exact q true st ι H hR (.refl H) hs
theorem dxts_one {b : XB} (h : PT X c (tXB w b)) : PTs X [c] (tXB w b) := pts_one h
theorem lcx_read {mi : XI} {t : MT} {b : XB} {m : XP} {own : List Nat} {g : TG} (hfx : ∀ v ∈ own, ∀ p ∈ w.fx, p.1 ≠ v) (hg : GT w own g t) (σ : L2.St) (H : Hp) (Q : VK) :
    tXL w (xComp mi t b m own) σ H Q → tLc (tXI w mi) g (tXB w b) (tX w m) own σ H Q := by
  rintro ⟨ι, env, st, R, he, hs, hm, q⟩
  refine ⟨ι, env, st, _, he, hs, hm, fun ds ro st1 ι1 J H1 hgo1 g1 s1 hJ D hD => ?_⟩
  have hDi : D ∉ ι1 := nin_of s1 hD
  have he1 := he.gr g1
  refine ⟨fun i mm H' => mm = ds.length - i ∧ i ≤ ds.length ∧ ∃ ι2 st2, Gr ι1 H1 ι2 H' ∧ D ∉ ι2 ∧ SR w.s ι2 st2 H' ∧ ∃ acc es1, H' D = some (.lst acc) ∧ acc.length ≤ i ∧ Reps ι2 H' acc es1 ∧ xGo t b m (ewipe env own) st1 ro (ds.drop i) st2 (fun es2 st3 => R (es1 ++ es2) st3),
    ⟨ds.length, rfl, Nat.zero_le _, ι1, st1, .of (Kp.new hD), hDi, s1.new hD (fun _ z => by cases z) hDi, [], [], upd_same, Nat.zero_le _, .nil, hgo1⟩, ?_⟩
  rintro i mm H' ⟨rfl, hi, ι2, st2, g2, hD2, s2, acc, es1, hacc, hal, hr, hgo⟩
  have hH : Hold st1 ro st2 := by
    cases hh : ds.drop i with
    | nil => rw [hh] at hgo; exact hgo.1
    | cons d ds => rw [hh] at hgo; exact hgo.1
  obtain ⟨j1, j2, j3⟩ := hJ.run ι2 st2 H' g2.kp g2.pre hH s2
  have keepD : ∀ {ιa ιb : List Addr} {Ha Hb : Hp}, Gr ιa Ha ιb Hb → D ∉ ιa → (∃ u, Ha D = some (.lst u)) → D ∉ ιb ∧ Hb D = Ha D := fun {ιa ιb Ha Hb} ga hn ⟨u, hu⟩ => ⟨fun hb => (ga.new D hb).elim hn fun z => (by rw [hu] at z; cases z), by rw [hu]; exact ga.kp.keep _ _ hu (fun _ z => by cases z) fun z => absurd z hn⟩
  by_cases hlt : i < ds.length
  · refine .inr ⟨j1 i hlt, fun H'' => i + 1 ≤ ds.length ∧ ∃ ι2 st2, Gr ι1 H1 ι2 H'' ∧ D ∉ ι2 ∧ SR w.s ι2 st2 H'' ∧ ∃ acc es1, H'' D = some (.lst acc) ∧ acc.length ≤ i + 1 ∧ Reps ι2 H'' acc es1 ∧ xGo t b m (ewipe env own) st1 ro (ds.drop (i + 1)) st2 (fun es2 st3 => R (es1 ++ es2) st3), fun H'' hn => ⟨_, by omega, rfl, hn⟩, fun x H2 hy => ?_⟩
    obtain ⟨d, hd, rd, kk, s3⟩ := j2 i x H2 hlt hy
    obtain ⟨d', hd', hdr⟩ := drop_cons' hlt
    rw [hd] at hd'
    cases hd'
    rw [hdr] at hgo
    obtain ⟨_, env1, ht, hb⟩ := hgo
    have k3 : Kp ι2 H' H2 := .of kk
    have g3 : Gr ι2 H' ι2 H2 := .of k3
    refine hg ι2 st2 H2 _ _ x d env1 _ ((he1.gr (g2.trans g3)).wipe own hfx) s3 rd ht fun σ2 he2 hw2 => ⟨hw2.trans (wipe_idem fun _ h => h), ?_⟩
    have hD3 : H2 D = some (.lst acc) := kk _ _ hacc
    refine ⟨ι2, env1, st2, _, he2, s3, hb, fun bv st4 ι4 H4 h4 g4 s4 => ?_⟩
    obtain ⟨hD4, hD4'⟩ := keepD g4 hD2 ⟨_, hD3⟩
    rw [hD3] at hD4'
    cases bv with
    | false =>
      exact iteF ⟨hlt, ι4, st4, (g2.trans g3).trans g4, hD4, s4, acc, es1, hD4', Nat.le_succ_of_le hal, (hr.gr g3).gr g4, by simpa using h4⟩
    | true =>
      refine iteT ⟨ι4, env1, st4, _, he2.gr g4, s4, by simpa using h4, fun y st5 ι5 v H5 h5 g5 r5 s5 => ?_⟩
      obtain ⟨hD5, hD5'⟩ := keepD g5 hD4 ⟨_, hD4'⟩
      rw [hD4'] at hD5'
      have gg := ((g2.trans g3).trans g4).trans g5
      refine ⟨acc, hD5', Nat.lt_of_le_of_lt hal (Nat.lt_of_lt_of_le hlt hJ.len), hlt, ι5, st5, ⟨gg.pre, gg.kp.put hD, gg.new⟩, hD5, s5.put hD5' hD5, acc ++ [v], es1 ++ [y], upd_same, by rw [List.length_append]; simpa using hal, ?_, ?_⟩
      · exact ((((hr.gr g3).gr g4).gr g5).append (.one r5)).put hD5'
      · simpa using h5
  · have e : i = ds.length := by omega
    subst e
    rw [List.drop_length] at hgo
    obtain ⟨_, hR⟩ := hgo
    rw [List.append_nil] at hR
    refine .inl ⟨j3 _ (Nat.le_refl _), q es1 st2 ι2 D acc H' hR (g1.trans g2) hacc (g1.fresh s1 hD) hD2 (by rw [← hr.length]; exact Nat.le_trans hal hJ.len) hr s2⟩
theorem dxl_lc {scope : Scope} {own : List (Str × Nat)} {mi : XI} {t : MT} {b : XB} {m : XP} {g : TG} (hc : X.calm = true) (hN : X.N.Nodup) (hi : PI X tg iter (tXI w mi)) (ok : BlkOk X.N X.env.scope scope own) (ht : GT w (own.map (·.2)) g t)
    (hg : ∀ (s : Shared) (H : Hp) (C : Addr) (cl : List (Str × Addr)) (fp : List Addr), PG (X.blk s H scope (compEnvC scope cl C X.env) fp) tg g) (hb : ∀ (s : Shared) (H : Hp) (C : Addr) (cl : List (Str × Addr)) (fp : List Addr), PTs (X.blk s H scope (compEnvC scope cl C X.env) fp) ifs (tXB w b))
    (he : ∀ (s : Shared) (H : Hp) (C : Addr) (cl : List (Str × Addr)) (fp : List Addr), PE (X.blk s H scope (compEnvC scope cl C X.env) fp) elt (tX w m)) (hs : ∀ x, foldedSetIterable iter X.env x = pure x := by intro _; rfl) (hfx : ∀ v ∈ own.map (·.2), ∀ p ∈ w.fx, p.1 ≠ v := by intro _ _ _ h; cases h) :
    PE X (.ListComp elt [⟨tg, iter, ifs, 0⟩] scope pos) (tXL w (xComp mi t b m (own.map (·.2)))) :=
  PE.mo (pe_lc hc hN hi ok hg hb he hs) (lcx_read hfx ht)
/-! ### what is walked -/
def xRng (m : XP) : XI := fun env st R => m env st fun d st1 => ∃ n : Int, d = .int n ∧ n ≤ 1000000 ∧ -1000000 ≤ n ∧ R (intsD 0 n.toNat) none st1
theorem dxi_rng {e : Expr} {m : XP} (hg : Gl X "range") (hm : X.mg "range" = none) (ha : PE X e (tX w m)) (hs : starEach [e] X.env = [(false, eval e X.env)] := by rfl) : PI X tg (.Call (.Name "range" p) [e] [] pos) (tXI w (xRng m)) := by
  refine PI.mo (pi_range1 hg hm (pa_cons ha pa_nil (by rw [hs]; rfl)) hs) fun σ H R ⟨ι, env, st, R', he, hst, hmm, q⟩ => ⟨ι, env, st, _, he, hst, hmm, fun d st1 ι1 v H1 h1 g1 r1 s1 => ?_⟩
  obtain ⟨n, rfl, h2, h3, h4⟩ := h1
  cases r1
  exact ⟨n, rfl, by omega, by omega, q _ _ st1 ι1 _ H1 h4 g1 s1 (itd_rng (big_size (by omega)))⟩
/-! ### sorted(set(ints)) -/
theorem pairlt_len : ∀ {ms ns : List Int}, ms.Pairwise (· < ·) → (∀ k, k ∈ ms → k ∈ ns) → ms.length ≤ ns.length
  | [], _, _, _ => Nat.zero_le _
  | m :: ms, ns, h1, h2 => by
    have hm : m ∈ ns := h2 m List.mem_cons_self
    have h3 := List.pairwise_cons.mp h1
    have q := pairlt_len (ms := ms) (ns := ns.erase m) h3.2 fun k hk => (List.mem_erase_of_ne (Ne.symm (Int.ne_of_lt (h3.1 k hk)))).mpr (h2 k (List.mem_cons_of_mem _ hk))
    have e := List.length_erase_of_mem hm
    have p := List.length_pos_of_mem hm
    rw [List.length_cons]
    omega
end
end GD

set_option Elab.async false
set_option linter.all false
set_option maxRecDepth 100000
set_option maxHeartbeats 2000000
namespace GD
open PySem PySem.Spec PyProof.Rows L2 GX

/-! ## 8. statements over data -/
structure DE where
  nx : EV → SS → Prop
  rt : D → SS → Prop
  bk : EV → SS → Prop := fun _ _ => False
  ct : EV → SS → Prop := fun _ _ => False
abbrev XS := DE → EV → SS → Prop
structure EndOk (w : Wd) (ι : List Addr) (H : Hp) (D0 : DE) (E : Ends) : Prop where
  nx : ∀ env st ι' σ H', D0.nx env st → Gr ι H ι' H' → EnvR w ι' env σ H' → SR w.s ι' st H' → E.nx σ H'
  rt : ∀ d st ι' v H', D0.rt d st → Gr ι H ι' H' → Rep ι' H' v d → SR w.s ι' st H' → E.rt v H'
  bk : ∀ env st ι' σ H', D0.bk env st → Gr ι H ι' H' → EnvR w ι' env σ H' → SR w.s ι' st H' → E.bk σ H'
  ct : ∀ env st ι' σ H', D0.ct env st → Gr ι H ι' H' → EnvR w ι' env σ H' → SR w.s ι' st H' → E.ct σ H'
theorem EndOk.gr {w : Wd} {ι ι1 : List Addr} {H H1 : Hp} {D0 : DE} {E : Ends} (e : EndOk w ι H D0 E) (g : Gr ι H ι1 H1) : EndOk w ι1 H1 D0 E :=
  ⟨fun env st ι' σ H' h k r s => e.nx env st ι' σ H' h (g.trans k) r s, fun d st ι' v H' h k r s => e.rt d st ι' v H' h (g.trans k) r s, fun env st ι' σ H' h k r s => e.bk env st ι' σ H' h (g.trans k) r s, fun env st ι' σ H' h k r s => e.ct env st ι' σ H' h (g.trans k) r s⟩
def tS (w : Wd) (t : XS) : TS := fun E σ H => ∃ ι env st D0, EnvR w ι env σ H ∧ SR w.s ι st H ∧ t D0 env st ∧ EndOk w ι H D0 E
theorem PS.mo {X : Cx} {st : Stmt} {t t' : TS} (h : PS X st t) (q : ∀ E σ H, t' E σ H → t E σ H) : PS X st t' := ⟨fun pins s σ H E I h' => h.run pins s σ H E I (q E σ H h')⟩
theorem PSs.mo {X : Cx} {st : List Stmt} {t t' : TS} (h : PSs X st t) (q : ∀ E σ H, t' E σ H → t E σ H) : PSs X st t' := ⟨fun pins s σ H E I h' => h.run pins s σ H E I (q E σ H h')⟩
def sNext : XS := fun D0 env st => D0.nx env st
def sSeq (t u : XS) : XS := fun D0 env st => t { D0 with nx := fun env st => u D0 env st } env st
def sRet (m : XP) : XS := fun D0 env st => m env st D0.rt
def sIf (c : XB) (t u : XS) : XS := fun D0 env st => c env st fun b st1 => if b = true then t D0 env st1 else u D0 env st1
def sAsg (m : XP) (tg : MT) : XS := fun D0 env st => m env st fun d st1 => ∃ env1, tg d env = some env1 ∧ D0.nx env1 st1
section
variable {X : Cx} {w : Wd} {pos p : Pos} {e a b c o : Expr} {es : List Expr} {tg iter : Expr} {st : Stmt} {rest : List Stmt} {t u : XS}
theorem ds_nil : PSs X [] (tS w sNext) := PSs.mo pss_nil fun E σ H ⟨ι, env, st, D0, he, hs, ht, hE⟩ => hE.nx env st ι σ H ht (.refl H) he hs
theorem ds_cons (h1 : PS X st (tS w t)) (h2 : PSs X rest (tS w u)) : PSs X (st :: rest) (tS w (sSeq t u)) :=
  PSs.mo (pss_cons h1 h2) fun E σ H ⟨ι, env, st, D0, he, hs, ht, hE⟩ => ⟨ι, env, st, _, he, hs, ht, fun env1 st1 ι1 σ1 H1 h g r s => ⟨ι1, env1, st1, D0, r, s, h, hE.gr g⟩, hE.rt, hE.bk, hE.ct⟩
theorem ds_one (h1 : PS X st (tS w t)) : PSs X [st] (tS w t) := pss_one h1
theorem ds_ret {m : XP} (he : PE X e (tX w m)) : PS X (.Return (some e) pos) (tS w (sRet m)) := PS.mo (ps_ret he) fun E σ H ⟨ι, env, st, D0, he, hs, ht, hE⟩ => ⟨ι, env, st, D0.rt, he, hs, ht, hE.rt⟩
theorem ds_if {m : XB} {sa sb : List Stmt} (hc : PT X c (tXB w m)) (ha : PSs X sa (tS w t)) (hb : PSs X sb (tS w u)) : PS X (.If c sa sb pos) (tS w (sIf m t u)) :=
  PS.mo (ps_if hc ha hb) fun E σ H ⟨ι, env, st, D0, he, hs, ht, hE⟩ => ⟨ι, env, st, _, he, hs, ht, fun b st1 ι1 H1 h g s => by
    cases b with
    | true => exact iteT ⟨ι1, env, st1, D0, he.gr g, s, by simpa using h, hE.gr g⟩
    | false => exact iteF ⟨ι1, env, st1, D0, he.gr g, s, by simpa using h, hE.gr g⟩⟩
theorem ds_asg {m : XP} {tgt : MT} {g : TG} {own : List Nat} (ht : GT w own g tgt) (he : PE X e (tX w m)) (hg : PG X tg g) (hs : swapsWithSole [tg] e pos.line X.env = pure false := by rfl) (hw : swappedStores [tg] e X.env = pure none := by rfl)
    (h1 : (assignEach [tg] X.env).map (·.2) = [assign tg X.env] := by rfl) : PS X (.Assign [tg] e pos) (tS w (sAsg m tgt)) :=
  PS.mo (ps_asg he hg hs hw h1) fun E σ H ⟨ι, env, st, D0, he, hs, hm, hE⟩ => ⟨ι, env, st, _, he, hs, hm, fun d st1 ι1 v H1 ⟨env1, h1, h2⟩ g1 r1 s1 =>
    ht ι1 st1 H1 σ env v d env1 _ (he.gr g1) s1 r1 h1 fun σ' he' _ => hE.nx env1 st1 ι1 σ' H1 h2 g1 he' s1⟩
theorem ds_set {m : XP} {i : Nat} {x : Str} {pos' : Pos} (hN : X.N.Nodup) (hi : X.N[i]? = some x) (hx : Loc X.env.scope x) (he : PE X e (tX w m)) (hs : swapsWith e (some (.Name x pos')) pos.line X.env = pure false := by rfl) (hf : X.fn x = true ∨ X.env.scope.names.lookup x = some .local := by first | exact .inl rfl | exact .inr rfl | assumption) (hfx : ∀ p ∈ w.fx, p.1 ≠ i := by intro _ h; cases h) :
    PS X (.Assign [.Name x pos'] e pos) (tS w (sAsg m (tgN i))) :=
  PS.mo (ps_set hN hi hx he hs hf) fun E σ H ⟨ι, env, st, D0, he, hs, hm, hE⟩ => ⟨ι, env, st, _, he, hs, hm, fun d st1 ι1 v H1 ⟨env1, h1, h2⟩ g1 r1 s1 => by
    cases h1
    exact hE.nx _ st1 ι1 _ H1 h2 g1 ((he.gr g1).set i r1 hfx) s1⟩
/-- o[i] = e -/
def sSub (mv : XP) (mo mi : MP) : XS := fun D0 env st => mv env st fun d st1 => ∃ n i ds j, mo env st1 = some (.ref n) ∧ mi env st1 = some (.int i) ∧ st1[n]? = some (.lst ds) ∧ ixN ds.length i = some j ∧ D0.nx env (st1.set n (.lst (ds.set j d)))
theorem ds_sub {i : Expr} {mv : XP} {mo mi : MP} {tpos : Pos} (he : PE X e (tX w mv)) (ho : PE X o (tP w mo)) (hi : PE X i (tP w mi)) (hs : swapsWithSole [.Subscript o i tpos] e pos.line X.env = pure false := by rfl) (hw : swappedStores [.Subscript o i tpos] e X.env = pure none := by rfl)
    (h1 : (assignEach [.Subscript o i tpos] X.env).map (·.2) = [assign (.Subscript o i tpos) X.env] := by rfl)
    (ha : ∀ v, assign (.Subscript o i tpos) X.env v = (do
      let ov ← holding [v] (eval o X.env)
      let iv ← holding [v, ov] (eval i X.env)
      standAt tpos
      holding [v, ov, iv] (setItem ov iv v)
      release [v, ov, iv] []) := by intro _; rfl) : PS X (.Assign [.Subscript o i tpos] e pos) (tS w (sSub mv mo mi)) := by
  refine PS.mo (ps_asg he (pg_sub ho hi set_list ha) hs hw h1) fun E σ H ⟨ι, env, st, D0, he, hs, hm, hE⟩ => ⟨ι, env, st, _, he, hs, hm, fun d st1 ι1 v H1 h g1 r1 s1 => ?_⟩
  obtain ⟨n, i, ds, j, e1, e2, e3, e4, hn⟩ := h
  refine ⟨ι1, env, st1, _, he.gr g1, s1, e1, fun vo H2 k2 r2 s2 => ⟨ι1, env, st1, _, (he.gr g1).kp k2, s2, e2, fun vi H3 k3 r3 s3 => ?_⟩⟩
  cases r2 with
  | ref hn2 =>
    cases r3
    obtain ⟨vs, hv, hl, rs⟩ := s3.cell n _ _ hn2 e3
    have hmem := List.mem_of_getElem? hn2
    have kw := Kp.wr (o := .lst (vs.set j v)) hv hmem
    refine ⟨_, vs, i, j, rfl, rfl, hv, by rw [rs.length]; exact e4, ?_⟩
    have gg : Gr ι1 H1 ι1 (upd H3 _ (.lst (vs.set j v))) := .of ((k2.trans k3).trans kw)
    exact hE.nx env _ ι1 σ _ hn (g1.trans gg) ((he.gr g1).gr gg) (s3.wr hn2 ⟨vs, hv⟩ (by rw [List.length_set]; exact hl) (Reps.set (((r1.kp k2).kp k3)) j rs))
def sAppP (mo : MP) (mv : XP) : XS := fun D0 env st => ∃ n ds0, mo env st = some (.ref n) ∧ st[n]? = some (.lst ds0) ∧ mv env st fun d st1 => ∃ ds, st1[n]? = some (.lst ds) ∧ ds.length < 1000000 ∧ D0.nx env (st1.set n (.lst (ds ++ [d])))
theorem ds_app {mo : MP} {mv : XP} {apos cpos : Pos} (ho : PE X o (tP w mo)) (he : PE X e (tX w mv))
    (hbase : attributeBase o "append" X.env (eval o X.env) = eval o X.env := by rfl)
    (hfew : ((backTo cpos (starEach (e :: []) X.env)).all (fun x => !x.1) && (backToKw cpos (keywordEach [] X.env)).all (fun x => x.1.isSome)
      && decide ((e :: ([] : List Expr)).length + ([] : List Keyword).length + (if ([] : List Keyword).isEmpty then 0 else 1) < 30)) = true := by rfl)
    (hline : (apos.endLine == cpos.line) = true := by rfl) (hs : starEach (e :: []) X.env = (false, eval e X.env) :: starEach [] X.env := by rfl) (hplain : (backTo cpos (starEach [] X.env)).any (·.1) = false := by rfl)
    (hsw : swapsWith (.Call (.Attribute o "append" apos) [e] [] cpos) none pos.line X.env = pure false := by rfl) : PS X (.Expr (.Call (.Attribute o "append" apos) [e] [] cpos) pos) (tS w (sAppP mo mv)) := by
  refine PS.mo (ps_expr (pe_bm PySem.F.plainAttrs_list PySem.F.slot_list_append PySem.F.type_list_append mt_append ho (pa_cons he pa_nil hs) hbase hfew hline hs hplain) hsw) fun E σ H ⟨ι, env, st, D0, hen, hst, ⟨n, ds0, h1, h0, h2⟩, hE⟩ => ?_
  refine ⟨ι, env, st, _, hen, hst, h1, fun vo H1 k1 r1 s1 => ?_⟩
  cases r1 with
  | ref hn =>
    rename_i pa
    obtain ⟨vs0, hv0, _⟩ := s1.cell n pa _ hn h0
    refine ⟨.inl ⟨rfl, vs0, SqL.of hv0⟩, ?_⟩
    refine ⟨ι, env, st, _, hen.kp k1, s1, h2, fun d st1 ι1 v H2 ⟨ds, h3, h4, h5⟩ g2 r2 s2 => ?_⟩
    have hn2 := pre_get g2.pre hn
    obtain ⟨vs, hv, hl, rs⟩ := s2.cell n _ _ hn2 h3
    have kw := Kp.wr (o := .lst (vs ++ [v])) hv (List.mem_of_getElem? hn2)
    have hlen : ds.length < sizeLine := Nat.lt_of_lt_of_le h4 (by decide)
    refine ⟨_, vs, v, rfl, rfl, hv, by rw [rs.length]; exact hlen, ?_⟩
    have gg : Gr ι H ι1 (upd H2 _ (.lst (vs ++ [v]))) := ((Gr.of k1).trans g2).trans (.of kw)
    exact hE.nx env _ ι1 σ _ h5 gg (hen.gr gg) (s2.wr hn2 ⟨vs, hv⟩ (by rw [List.length_append]; exact hlen) (rs.append (.one r2)))
/-! ### loops -/
def sForGo (t : MT) (body : XS) (st0 : SS) (ro : Option Nat) (D0 : DE) : List D → EV → SS → Prop
  | [], env, st => Hold st0 ro st ∧ D0.nx env st
  | d :: ds, env, st => Hold st0 ro st ∧ ∃ env1, t d env = some env1 ∧ body { nx := fun env st => sForGo t body st0 ro D0 ds env st, ct := fun env st => sForGo t body st0 ro D0 ds env st, bk := D0.nx, rt := D0.rt } env1 st
def sFor (mi : XI) (t : MT) (body : XS) : XS := fun D0 env st => mi env st fun ds ro st1 => sForGo t body st1 ro D0 ds env st1
theorem ds_for {mi : XI} {tgt : MT} {g : TG} {own : List Nat} {body : List Stmt} (hp : PassesOwn (model X.prog X.w) X.A X.env X.xe) (hc : X.calm = true) (ht : GT w own g tgt) (hi : PI X tg iter (tXI w mi)) (hg : PG X tg g) (hb : PSs X body (tS w t))
    (hs : ∀ x, foldedSetIterable iter X.env x = pure x := by intro _; rfl) : PS X (.For tg iter body [] pos) (tS w (sFor mi tgt t)) := by
  refine PS.mo (ps_for hp hc hi hg hb hs) fun E σ H ⟨ι, env, st, D0, he, hs, hm, hE⟩ => ⟨ι, env, st, _, he, hs, hm, fun ds ro st1 ι1 J H1 hgo1 g1 s1 hJ => ?_⟩
  refine ⟨fun i m σ' H' => m = ds.length - i ∧ i ≤ ds.length ∧ ∃ ι2 env2 st2, Gr ι1 H1 ι2 H' ∧ EnvR w ι2 env2 σ' H' ∧ SR w.s ι2 st2 H' ∧ sForGo tgt t st1 ro D0 (ds.drop i) env2 st2, ⟨ds.length, rfl, Nat.zero_le _, ι1, env, st1, .refl _, he.gr g1, s1, hgo1⟩, ?_⟩
  rintro i m σ' H' ⟨rfl, hi, ι2, env2, st2, g2, he2, s2, hgo⟩
  have hH : Hold st1 ro st2 := by
    cases hh : ds.drop i with
    | nil => rw [hh] at hgo; exact hgo.1
    | cons d ds => rw [hh] at hgo; exact hgo.1
  obtain ⟨j1, j2, j3⟩ := hJ.run ι2 st2 H' g2.kp g2.pre hH s2
  by_cases hlt : i < ds.length
  · refine .inr ⟨j1 i hlt, fun σ'' H'' => i + 1 ≤ ds.length ∧ ∃ ι2 env2 st2, Gr ι1 H1 ι2 H'' ∧ EnvR w ι2 env2 σ'' H'' ∧ SR w.s ι2 st2 H'' ∧ sForGo tgt t st1 ro D0 (ds.drop (i + 1)) env2 st2, fun σ'' H'' hn => ⟨_, by omega, rfl, hn⟩, fun x H2 hy => ?_⟩
    obtain ⟨d, hd, rd, kk, s3⟩ := j2 i x H2 hlt hy
    obtain ⟨d', hd', hdr⟩ := drop_cons' hlt
    rw [hd] at hd'
    cases hd'
    rw [hdr] at hgo
    obtain ⟨_, env1, ht1, hb1⟩ := hgo
    have g3 : Gr ι2 H' ι2 H2 := .of (.of kk)
    refine ht ι2 st2 H2 σ' env2 x d env1 _ (he2.gr g3) s3 rd ht1 fun σ3 he3 _ => ⟨ι2, env1, st2, _, he3, s3, hb1, ?_⟩
    have g23 := g2.trans g3
    have hE3 := hE.gr (g1.trans g23)
    exact ⟨fun env4 st4 ι4 σ4 H4 h g r s => ⟨hlt, ι4, env4, st4, g23.trans g, r, s, h⟩, hE3.rt, hE3.nx, fun env4 st4 ι4 σ4 H4 h g r s => ⟨hlt, ι4, env4, st4, g23.trans g, r, s, h⟩⟩
  · have e : i = ds.length := by omega
    subst e
    rw [List.drop_length] at hgo
    exact .inl ⟨j3 _ (Nat.le_refl _), hE.nx env2 st2 ι2 σ' H' hgo.2 (g1.trans g2) he2 s2⟩
end
/-! ### defs -/
def startE (N : List Str) (ds : List D) : EV := ds.map some ++ List.replicate (N.length - ds.length) none
theorem start_env {w : Wd} {ι : List Addr} {H : Hp} {vs : List V} {ds : List D} (r : Reps ι H vs ds) (N : List Str) (c : Cod w H) (h1 : ∀ p ∈ w.fx, (L2.start N vs)[p.1]? = some (some p.2) := by intro _ h; cases h) (h2 : ∀ p ∈ w.sq, Scr w.s.K H p.1 p.2 := by intro _ h; cases h) (h3 : ∀ p ∈ w.lm, LamR ι H p.1 p.2.1 p.2.2 := by intro _ h; cases h) : EnvR w ι (startE N ds) (L2.start N vs) H := by
  have hl := r.length
  refine ⟨by unfold startE L2.start; simp [hl], fun i d h => ?_, c, h1, h2, h3⟩
  unfold startE at h
  unfold L2.start
  by_cases hi : i < ds.length
  · rw [List.getElem?_append_left (by simpa using hi)] at h
    rw [List.getElem?_append_left (by simpa [hl] using hi)]
    rw [List.getElem?_map] at h
    cases hd : ds[i]? with
    | none => rw [hd] at h; cases h
    | some d' =>
      rw [hd] at h
      simp at h
      subst h
      obtain ⟨v, h1, h2⟩ := r.get' hd
      exact ⟨v, by rw [List.getElem?_map, h1]; rfl, h2⟩
  · rw [List.getElem?_append_right (by simpa using Nat.le_of_not_lt hi)] at h
    rw [List.getElem?_replicate] at h
    split at h <;> cases h
/-- a def's own promise: its body, read over data -/
def fnT (N : List Str) (n : Nat) (t : XS) : XT := fun ds st R => ds.length = n ∧ t { nx := fun _ st' => R .non st', rt := R } (startE N ds) st
/-- a def of the text whose code object stands at c -/
structure FunC (K : PySem.W.Frag) (x : Str) (st : Stmt) (f c : Addr) (fd : FuncData) : Prop where
  ex : ∃ (oc : Value) (od : Option Addr) (kV doc pm : Value) (an : Option Addr) (ct : Value) (osl : Array (Option Value)),
    fd = PySem.W.fnOf x x (defArgs st) (defBody st) (defScope st) .none kV doc pm an (.ref c) ct ∧ K.lookup f = some ⟨oc, od, .func fd, osl⟩ ∧ PySem.W.codeIn K (.ref c) x = true
/-- .. that may be called by its name, and whose table is tracked -/
structure DefC (w : Ws) (mg : Str → Option Value) (x : Str) (st : Stmt) : Prop where
  ex : ∃ (f c P : Addr) (fd : FuncData), FunC w.K x st f c fd ∧ mg x = some (.ref f) ∧ PySem.W.keepIn w.K (.ref f) = true ∧ (c, P) ∈ w.tabs ∧ PySem.W.CodeHd w.base c P
theorem DefC.x {P : Program} {wl : World} {w : Ws} {mg : Str → Option Value} {x : Str} {st : Stmt} {N ps : List Str} {k : Nat} {t : XS} (F : DefC w mg x st) (S : FnScope N ps (defScope st))
    (hb : ∀ (kV doc pm : Value) (an : Option Addr) (cdv ct : Value) (us : List Value), us.length = ps.length → bindArgs (PySem.W.fnOf x x (defArgs st) (defBody st) (defScope st) .none kV doc pm an cdv ct) ⟨us, []⟩ = pure (ps.zip us))
    (hbody : ∀ (f c : Addr) (A : Around) (outer : List Env) (s : Shared) (H : Hp) (E : XK), Room k (A.deeper (envOfC x (defScope st) s.heap.objs.size f (.ref c))) → Fit (cxOf CX0 P wl w.K mg w.base N x (defScope st) f (.ref c) A outer s H E).nox ⟨w, c, [], [], [], true⟩ →
      PSs (cxOf CX0 P wl w.K mg w.base N x (defScope st) f (.ref c) A outer s H E).nox (defBody st) (tS ⟨w, c, [], [], [], true⟩ t)) : DefX P wl w mg (k + 1) x (fnT N ps.length t) := by
  obtain ⟨f, c, Pt, fd, ⟨oc, od, kV, doc, pm, an, ct, osl, rfl, lk, hcd⟩, hm, hk, ht, hh⟩ := F.ex
  refine ⟨f, _, ps, fn_of lk hcd S (fun vs H Q E ⟨ι, st, ds, R, r, s, h, q⟩ => by rw [r.length]; exact h.1) fun A outer s H vs Q E hr ⟨ι, st, ds, R, r, s', h, q⟩ => ⟨_, (hbody f c A outer s H E hr ⟨rfl, rfl, rfl⟩).nox, ?_⟩, hm, hk, .all (hb kV doc pm an (.ref c) ct)⟩
  refine ⟨ι, startE N ds, st, _, start_env r N (fun _ => ⟨Pt, .inl hh, s'.tab _ ht⟩), s', h.2, fun env st' ι' σ H' h g r s => q .non st' ι' .non H' h g .non s, fun d st' ι' v H' h g r s => q d st' ι' v H' h g r s, fun _ _ _ _ _ h _ _ _ => h.elim, fun _ _ _ _ _ h _ _ _ => h.elim⟩
end GD

set_option Elab.async false
set_option linter.all false
set_option maxRecDepth 100000
set_option maxHeartbeats 2000000
namespace GD
open PySem PySem.Spec PyProof.Rows L2 GX

/-! ## 9. defs that take the script; isinstance; the end -/
abbrev XTS := List Int → List D → SS → (D → SS → Prop) → Prop
def spS (w : Ws) (T : XTS) : Sp := fun vs H Q _ => ∃ ι st a ns us ds R, vs = .ref a :: us ∧ Scr w.K H a ns ∧ Reps ι H us ds ∧ SR w ι st H ∧ T ns ds st R ∧ ∀ d st' ι' v H', R d st' → Gr ι H ι' H' → Rep ι' H' v d → SR w ι' st' H' → Q v H'
structure DefS (P : Program) (wl : World) (w : Ws) (mg : Str → Option Value) (k : Nat) (x : Str) (T : XTS) : Prop where
  ex : ∃ (f : Addr) (fd : FuncData) (ps : List Str), FnOk P wl w.K mg w.base CX0 k f fd ps (spS w T) ∧ mg x = some (.ref f) ∧ PySem.W.keepIn w.K (.ref f) = true ∧ Binds w.K fd ps []
theorem DefS.imp {P : Program} {wl : World} {w : Ws} {mg : Str → Option Value} {k : Nat} {x : Str} {T T' : XTS} (c : DefS P wl w mg k x T) (h : ∀ ns ds st R, T' ns ds st R → T ns ds st R) : DefS P wl w mg k x T' := by
  obtain ⟨f, fd, ps, hF, r⟩ := c.ex
  exact ⟨f, fd, ps, hF.imp fun vs H Q E ⟨ι, st, a, ns, us, ds, R, e, hs, r, s, ht, q⟩ => ⟨ι, st, a, ns, us, ds, R, e, hs, r, s, h _ _ _ _ ht, q⟩, r⟩
theorem DefX.imp {P : Program} {wl : World} {w : Ws} {mg : Str → Option Value} {k : Nat} {x : Str} {T T' : XT} (c : DefX P wl w mg k x T) (h : ∀ ds st R, T' ds st R → T ds st R) : DefX P wl w mg k x T' := by
  obtain ⟨f, fd, ps, hF, r⟩ := c.ex
  exact ⟨f, fd, ps, hF.imp fun vs H Q E ⟨ι, st, ds, R, r, s, ht, q⟩ => ⟨ι, st, ds, R, r, s, h _ _ _ ht, q⟩, r⟩
theorem DefX.mono {P : Program} {wl : World} {w : Ws} {mg : Str → Option Value} {j k : Nat} {x : Str} {T : XT} (c : DefX P wl w mg j x T) (h : j ≤ k) : DefX P wl w mg k x T := by
  obtain ⟨f, fd, ps, hF, r⟩ := c.ex
  exact ⟨f, fd, ps, hF.mono h, r⟩
theorem DefP.mono {P : Program} {wl : World} {w : Ws} {mg : Str → Option Value} {j k : Nat} {x : Str} {F : List D → SS → Option D} (c : DefP P wl w mg j x F) (h : j ≤ k) : DefP P wl w mg k x F := by
  obtain ⟨f, fd, ps, hF, r⟩ := c.ex
  exact ⟨f, fd, ps, hF.mono h, r⟩
theorem DefS.mono {P : Program} {wl : World} {w : Ws} {mg : Str → Option Value} {j k : Nat} {x : Str} {T : XTS} (c : DefS P wl w mg j x T) (h : j ≤ k) : DefS P wl w mg k x T := by
  obtain ⟨f, fd, ps, hF, r⟩ := c.ex
  exact ⟨f, fd, ps, hF.mono h, r⟩
def startS (N : List Str) (ds : List D) : EV := none :: (ds.map some ++ List.replicate (N.length - (ds.length + 1)) none)
def fnS (N : List Str) (n : Nat) (t : List Int → XS) : XTS := fun ns ds st R => ds.length + 1 = n ∧ t ns { nx := fun _ st' => R .non st', rt := R } (startS N ds) st
abbrev WdS (w : Ws) (c a : Addr) (ns : List Int) : Wd := ⟨w, c, [(0, .ref a)], [(a, ns)], [], true⟩
theorem DefC.s {P : Program} {wl : World} {w : Ws} {mg : Str → Option Value} {x : Str} {st : Stmt} {N ps : List Str} {k : Nat} {t : List Int → XS} (F : DefC w mg x st) (S : FnScope N ps (defScope st))
    (hb : ∀ (kV doc pm : Value) (an : Option Addr) (cdv ct : Value) (us : List Value), us.length = ps.length → bindArgs (PySem.W.fnOf x x (defArgs st) (defBody st) (defScope st) .none kV doc pm an cdv ct) ⟨us, []⟩ = pure (ps.zip us))
    (hbody : ∀ (f c a : Addr) (ns : List Int) (A : Around) (outer : List Env) (s : Shared) (H : Hp) (E : XK), Room k (A.deeper (envOfC x (defScope st) s.heap.objs.size f (.ref c))) → Fit (cxOf CX0 P wl w.K mg w.base N x (defScope st) f (.ref c) A outer s H E).nox (WdS w c a ns) →
      PSs (cxOf CX0 P wl w.K mg w.base N x (defScope st) f (.ref c) A outer s H E).nox (defBody st) (tS (WdS w c a ns) (t ns))) : DefS P wl w mg (k + 1) x (fnS N ps.length t) := by
  obtain ⟨f, c, Pt, fd, ⟨oc, od, kV, doc, pm, an, ct, osl, rfl, lk, hcd⟩, hm, hk, ht, hh⟩ := F.ex
  refine ⟨f, _, ps, fn_of lk hcd S (fun vs H Q E ⟨ι, st, a, ns, us, ds, R, e, _, r, s, h, q⟩ => by subst e; rw [List.length_cons, r.length]; exact h.1) fun A outer s H vs Q E hr ⟨ι, st, a, ns, us, ds, R, e, hsc, r, s', h, q⟩ => ⟨_, (hbody f c a ns A outer s H E hr ⟨rfl, rfl, rfl⟩).nox, ?_⟩, hm, hk, .all (hb kV doc pm an (.ref c) ct)⟩
  subst e
  have hl := r.length
  refine ⟨ι, startS N ds, st, _, ⟨?_, ?_, fun _ => ⟨Pt, .inl hh, s'.tab _ ht⟩, ?_, ?_, fun _ z => by cases z⟩, s', h.2, fun env st' ι' σ H' h g r s => q .non st' ι' .non H' h g .non s, fun d st' ι' v H' h g r s => q d st' ι' v H' h g r s, fun _ _ _ _ _ h _ _ _ => h.elim, fun _ _ _ _ _ h _ _ _ => h.elim⟩
  · unfold startS L2.start
    simp [hl]
  · intro i d hd
    unfold startS at hd
    unfold L2.start
    cases i with
    | zero => simp at hd
    | succ i =>
      simp only [List.getElem?_cons_succ] at hd
      simp only [List.map_cons, List.cons_append, List.getElem?_cons_succ]
      by_cases hi : i < ds.length
      · rw [List.getElem?_append_left (by simpa using hi)] at hd
        rw [List.getElem?_append_left (by simpa [hl] using hi)]
        rw [List.getElem?_map] at hd
        cases hd' : ds[i]? with
        | none => rw [hd'] at hd; cases hd
        | some d' =>
          rw [hd'] at hd
          simp at hd
          subst hd
          obtain ⟨v, h1, h2⟩ := r.get' hd'
          exact ⟨v, by rw [List.getElem?_map, h1]; rfl, h2⟩
      · rw [List.getElem?_append_right (by simpa using Nat.le_of_not_lt hi)] at hd
        rw [List.getElem?_replicate] at hd
        split at hd <;> cases hd
  · intro p hp
    rw [List.mem_singleton.mp hp]
    rfl
  · intro p hp
    rw [List.mem_singleton.mp hp]
    exact hsc
section
variable {X : Cx} {w : Ws} {c a : Addr} {ns : List Int} {pos p p1 p2 : Pos} {e e1 : Expr} {es : List Expr} {x y : Str}
/-- the script itself -/
theorem pe_scr (hN : X.N[0]? = some y := by rfl) (hv : Vis X.env.scope y := by first | exact Or.inl rfl | exact Or.inr (Or.inl rfl) | exact Or.inr (Or.inr rfl)) (hd : (y == ("__debug__" : Str)) = false := by decide)
    (hcd : (y == ("__classdict__" : Str)) = false := by decide) : PE X (.Name y pos) (fun σ H Q => ∃ ι env, EnvR (WdS w c a ns) ι env σ H ∧ Q (.ref a) H) :=
  PE.mo (pe_var hN hv hd hcd) fun σ H Q ⟨ι, env, he, q⟩ => ⟨.ref a, he.fx (0, .ref a) (List.mem_singleton.mpr rfl), q⟩
theorem scr_at {ι : List Addr} {env : EV} {σ : L2.St} {H : Hp} (he : EnvR (WdS w c a ns) ι env σ H) : Scr w.K H a ns := he.sq (a, ns) (List.mem_singleton.mpr rfl)
def mLenS (ns : List Int) : MP := fun _ _ => some (.int ns.length)
theorem dp_lenS (hf : Fit X (WdS w c a ns)) (hg : Gl X "len") (hm : X.mg "len" = none) (hp : PE X (.Name y p1) (fun σ H Q => ∃ ι env, EnvR (WdS w c a ns) ι env σ H ∧ Q (.ref a) H)) (hs : starEach [.Name y p1] X.env = (false, eval (.Name y p1) X.env) :: starEach [] X.env := by rfl) :
    PE X (.Call (.Name "len" p) [.Name y p1] [] pos) (tP (WdS w c a ns) (mLenS ns)) :=
  PE.mo (pe_callB call_len_seq hg hm PySem.boot_len (pa_cons hp pa_nil hs) (he := hs)) fun σ H Q ⟨ι, env, st, d, he, hst, hmm, q⟩ => by
    cases hmm
    refine ⟨ι, env, he, a, ns.map V.int, rfl, .inl ?_, by rw [List.length_map]; exact q _ H (Kp.refl H) (.int _) hst⟩
    rw [hf.k]
    exact (scr_at he).sql
def mIxS (ns : List Int) (m : MP) : MP := fun env st => match m env st with | some (.int i) => (match atI ns i with | some k => some (.int k) | none => none) | _ => none
theorem atI_mapI {ns : List Int} {i k : Int} (h : atI ns i = some k) : atI (ns.map V.int) i = some (.int k) := by
  unfold atI at h ⊢
  rw [List.length_map]
  cases hi : ixN ns.length i with
  | none => rw [hi] at h; cases h
  | some j =>
    rw [hi] at h
    have h : ns[j]? = some k := h
    show (ns.map V.int)[j]? = _
    rw [List.getElem?_map, h]
    rfl
theorem dp_ixS {m : MP} (hf : Fit X (WdS w c a ns)) (hp : PE X (.Name y p1) (fun σ H Q => ∃ ι env, EnvR (WdS w c a ns) ι env σ H ∧ Q (.ref a) H)) (hb : PE X e (tP (WdS w c a ns) m)) (hs : PlainIx e := by intro _ _; rfl) :
    PE X (.Subscript (.Name y p1) e pos) (tP (WdS w c a ns) (mIxS ns m)) :=
  PE.mo (pe_ix ix_seq hp hb hs) fun σ H Q ⟨ι, env, st, d, he, hst, hm, q⟩ => by
    unfold mIxS at hm
    split at hm
    · rename_i i e1
      split at hm
      · rename_i k e2
        cases hm
        refine ⟨ι, env, he, ι, env, st, .int i, he, hst, e1, fun v H1 k1 r1 s1 => ?_⟩
        cases r1
        refine .inl ⟨a, _, i, .int k, rfl, rfl, ?_, atI_mapI e2, q _ H1 k1 (.int _) s1⟩
        rw [hf.k]
        exact ((scr_at he).kp k1).sql
      · cases hm
    · cases hm
def xCallS (T : XTS) (ns : List Int) (r : XA) : XP := fun env st R => r env st fun ds st1 => T ns ds st1 R
theorem dx_callS {k : Nat} {T : XTS} {r : XA} (hf : Fit X (WdS w c a ns)) (cc : DefS X.prog X.w w X.mg k x T) (hr : Room k X.A) (hg : Gl X x) (hp : PE X (.Name y p1) (fun σ H Q => ∃ ι env, EnvR (WdS w c a ns) ι env σ H ∧ Q (.ref a) H)) (ha : PA X es (tXA (WdS w c a ns) r))
    (hdb : (x == ("__debug__" : Str)) = false := by decide) (he : starEach (.Name y p1 :: es) X.env = (false, eval (.Name y p1) X.env) :: starEach es X.env := by rfl) (hpl : (backTo pos (starEach es X.env)).any (·.1) = false := by rfl) :
    PE X (.Call (.Name x p) (.Name y p1 :: es) [] pos) (tX (WdS w c a ns) (xCallS T ns r)) := by
  obtain ⟨f, fd, ps, hF, hm, hk, hb⟩ := cc.ex
  have hK : X.K = w.K := hf.k
  have hB : X.base = w.base := hf.b
  have hF' := hF
  rw [← hB] at hF'
  have hF2 : FnOk X.prog X.w X.K X.mg X.base CX0 k f fd ps (spS w T) := by rw [hK]; exact hF'
  rw [← hK] at hk hb
  refine PE.mo (pe_call (E := E0) hF2 hr hg hm hk hb .nil pass0 (pa_cons hp ha he) hdb he hpl) fun σ H Q ⟨ι, env, st, R, hen, hst, hmm, q⟩ => ?_
  refine ⟨ι, env, hen, ι, env, st, _, hen, hst, hmm, fun ds st1 ι1 vs H1 h1 g1 r1 s1 => ?_⟩
  show spS w T (.ref a :: vs ++ []) H1 Q E0
  rw [List.append_nil]
  exact ⟨ι1, st1, a, ns, vs, ds, R, rfl, (scr_at hen).kp g1.kp, r1, s1, h1, fun d st' ι' v H' h2 g2 r2 s2 => q d st' ι' v H' h2 (g1.trans g2) r2 s2⟩
end
/-! ### isinstance -/
section
variable {X : Cx} {w : Wd} {pos p p2 : Pos} {e : Expr} {m : MP} {nm : Str} {T : String}
theorem dp_isi (hg : Gl X "isinstance") (hm : X.mg "isinstance" = none) (hg2 : Gl X nm) (hm2 : X.mg nm = none) (hv : bootBuiltins nm = some (.type T)) (ha : PE X e (tP w m)) (hn : nm ≠ "__name__" := by decide) (hdb : (nm == ("__debug__" : Str)) = false := by decide)
    (hs : starEach [e, .Name nm p2] X.env = (false, eval e X.env) :: starEach [.Name nm p2] X.env := by rfl) (hs2 : starEach [.Name nm p2] X.env = (false, eval (.Name nm p2) X.env) :: starEach [] X.env := by rfl) (hpl : (backTo pos (starEach [.Name nm p2] X.env)).any (·.1) = false := by rfl) :
    PE X (.Call (.Name "isinstance" p) [e, .Name nm p2] [] pos) (tP w (mF1 (fIs T) m)) :=
  PE.mo (pe_callB call_isi hg hm (by decide +kernel) (pa_cons ha (pa_cons (pe_ty (p := p2) hg2 hm2 hv hn hdb) pa_nil hs2) hs) (he := hs) (hpl := hpl)) fun σ H Q ⟨ι, env, st, d, he, hst, hmm, q⟩ => by
    unfold mF1 at hmm
    split at hmm
    · rename_i dx e1
      exact ⟨ι, env, st, dx, he, hst, e1, fun v H1 k1 r1 s1 => qIs ι st H1 v dx d Q s1 r1 hmm fun v2 H2 k2 r2 s2 => q v2 H2 (k1.trans k2) r2 s2⟩
    · cases hmm
end
/-! ### the end of a law -/
/-- what the machine has laid of each def: its code object, and a table that is empty -/
def Laid (q : Program) (mg : Str → Option Value) (h : Heap) : Prop := ∀ d ∈ recsOf q, ∃ (a : Addr) (o : Obj) (fd : FuncData) (c P : Addr), mg d.name = some (.ref a) ∧ h.get? a = some o ∧ o.data = .func fd ∧ fd.code = .ref c ∧ PySem.W.CodeHd h c P ∧ h.get? P = some { cls := .none, data := .fields #[] }
/-- the object of a table -/
def tblO : Obj := { cls := .none, data := .fields #[] }
/-- a def's promise at one place of the calls -/
structure FnAt (A : Around) (P : Program) (w : World) (K : PySem.W.Frag) (mg : Str → Option Value) (base : Heap) (k : Nat) (f : Addr) (fd : FuncData) (ps : List Str) (sp : Sp) : Prop where
  len : ∀ vs H Q E, sp vs H Q E → vs.length = ps.length
  run : ∀ (outer : List Env) (s : Shared) (H : Hp) (args : Args) (us : List Value) (vs : List V) (Q : VK) (E : XK), Room k A → Env0 P w K mg base A outer s H → BindsTo s fd args (ps.zip us) → Vals vs us → sp vs H Q E →
    codeAny (model P w) A (.call (.ref f) args) (CR CX0 outer P w H s Q E) s
theorem fnAt_of {A : Around} {P : Program} {w : World} {K : PySem.W.Frag} {mg : Str → Option Value} {base : Heap} {k : Nat} {f : Addr} {fd : FuncData} {ps : List Str} {sp : Sp} (F : FnOk P w K mg base CX0 k f fd ps sp) : FnAt A P w K mg base k f fd ps sp := ⟨F.len, F.run A⟩
theorem law_callG {P : Program} {w : World} {K : PySem.W.Frag} {mg mb : Str → Option Value} {k : Nat} {fa a : Addr} {cs : List (Addr × Addr)} {sp : Sp} {s₁ : Shared} {vs : List Value} {ns : List Int}
    (KX : K.In s₁.heap) (hns : s₁.heap.Ns mainGlobals mg) (hb : s₁.heap.Ns builtinsNs mb) (hbb : ∀ x : Str, x ≠ "__name__" → mb x = bootBuiltins x) (hlim : s₁.heap.NoLimit) (hg : s₁.gens = #[])
    (hT : ∀ p ∈ cs, s₁.heap.get? p.2 = some tblO) (nT : ∀ p ∈ cs, K.lookup p.2 = none) (C : ∀ p ∈ cs, PySem.W.CodeHd s₁.heap p.1 p.2)
    (hbm : ∃ (bm : Addr) (ob : Obj), mg "__builtins__" = some (.ref bm) ∧ bm ≠ builtinsNs ∧ s₁.heap.get? bm = some ob ∧ ob.cls = .type "module" ∧ ob.dict = some builtinsNs ∧ ob.data = .plain)
    (ha : s₁.heap.get? a = some { cls := .type "list", data := .seq vs.toArray }) (hi : IntsAre vs ns) (hl : ns.length ≤ sizeLine) (hr : Room k callerA)
    (F : ∀ base : Heap, K.In base → base.Ns mainGlobals mg → Bm base mg → (∀ p ∈ cs, PySem.W.CodeHd base p.1 p.2) → ∃ (fd : FuncData) (ps : List Str), FnAt callerA P w K mg base k fa fd ps sp ∧ Binds K fd ps [])
    (hsp : ∀ H : Hp, (∀ p ∈ cs, H p.2 = some (.tbl #[])) → (∀ b ps, H b = some (.tbl ps) → ps = #[]) → Scr K H a ns → sp [.ref a] H (fun v _ => v = .bl true) fun _ _ _ => False) :
    codeAny (model P w) callerA (.call (.ref fa) ⟨[.ref a], []⟩) (fun r s' => r = .ok (.ret (.bool true)) ∧ OldK s₁.heap s'.heap ∧ s'.os = s₁.os ∧ AllBare s'.gens) s₁ := by
  have rv := vals_ints hi
  have T := fun b => b ∈ cs.map (·.2)
  have isT : ∀ b : Addr, b ∈ cs.map (·.2) → s₁.heap.get? b = some tblO := fun b hb => by
    obtain ⟨p, hp, rfl⟩ := List.mem_map.mp hb
    exact hT p hp
  have memT : ∀ p ∈ cs, p.2 ∈ cs.map (·.2) := fun p hp => List.mem_map.mpr ⟨p, hp, rfl⟩
  have aT : a ∉ cs.map (·.2) := fun z => by
    have q := isT a z
    rw [ha] at q
    cases congrArg Obj.data (Option.some.inj q)
  -- the script is tracked, unless the head has laid it
  let H : Hp := fun b => if b ∈ cs.map (·.2) then some (.tbl #[]) else if b = a ∧ K.lookup a = none then some (.frz { cls := .type "list", data := .seq vs.toArray } (.lst (ns.map V.int))) else none
  have HT : ∀ b, b ∈ cs.map (·.2) → H b = some (.tbl #[]) := fun b hb => if_pos hb
  have HN : ∀ b, b ∉ cs.map (·.2) → b ≠ a → H b = none := fun b hb hba => (if_neg hb).trans (if_neg fun z => hba z.1)
  have Hs : ∀ b u, H b = some u → (b ∈ cs.map (·.2) ∧ u = .tbl #[]) ∨ (b = a ∧ K.lookup a = none ∧ u = .frz { cls := .type "list", data := .seq vs.toArray } (.lst (ns.map V.int))) := fun b u e => by
    by_cases hb : b ∈ cs.map (·.2)
    · rw [HT b hb] at e
      exact .inl ⟨hb, (Option.some.inj e).symm⟩
    · by_cases hba : b = a ∧ K.lookup a = none
      · have e' := ((if_neg hb).trans (if_pos hba)).symm.trans e
        exact .inr ⟨hba.1, hba.2, (Option.some.inj e').symm⟩
      · have e' := ((if_neg hb).trans (if_neg hba)).symm.trans e
        cases e'
  have scr : Scr K H a ns := by
    cases hk : K.lookup a with
    | none => exact .inl ⟨_, (if_neg aT).trans (if_pos ⟨rfl, hk⟩)⟩
    | some o =>
      have e := KX a o hk
      rw [ha] at e
      cases e
      exact .inr fun H' => .inr ⟨_, vs.toArray, _, hk, rfl, rfl, rfl, by rw [List.size_toArray, hi.length]; exact hl, by simpa using rv⟩
  have hok : HOk P w H s₁.heap := fun b u e => by
    rcases Hs b u e with ⟨hb, rfl⟩ | ⟨rfl, _, rfl⟩
    · exact isT b hb
    · exact ⟨ha, by rw [List.length_map]; exact hl, vs, _, rv, ha⟩
  have free : ∀ {b : Addr} {o : Obj}, s₁.heap.get? b = some o → (∀ l n, o.data ≠ .seq l n) → o.data ≠ .fields #[] → H b = none := fun {b o} e h1 h2 => HN b (fun z => by
    rw [isT b z] at e
    cases e
    exact h2 rfl) fun z => by
    rw [z, ha] at e
    cases e
    exact h1 _ _ rfl
  have nsK : ∀ {b : Addr} {m : Str → Option Value}, s₁.heap.Ns b m → (hidT s₁.heap H).Ns b m := fun {b m} ⟨o, es, ep, e, d, r⟩ => ⟨o, es, ep, hidT_get e (free e (fun l n z => by rw [d] at z; cases z) fun z => by rw [d] at z; cases z), d, r⟩
  have hKb : K.In (hidT s₁.heap H) := fun b o e => hidT_get (KX b o e) (by
    cases q : H b with
    | none => rfl
    | some u =>
      rcases Hs b u q with ⟨hb, _⟩ | ⟨rfl, hk, _⟩
      · obtain ⟨p, hp, rfl⟩ := List.mem_map.mp hb
        rw [nT p hp] at e
        cases e
      · rw [hk] at e
        cases e)
  have hM : L2.Mod K mg (hidT s₁.heap H) := ⟨hKb, nsK hns, ⟨mb, nsK hb, hbb⟩, let ⟨mc, h1, h2⟩ := hlim; ⟨mc, nsK h1, h2⟩⟩
  have CB : ∀ p ∈ cs, PySem.W.CodeHd (hidT s₁.heap H) p.1 p.2 := fun p hp => by
    obtain ⟨o, us, file, tf, flags, tg, inF, text, tt, e1, r1, r2, r3, r⟩ := C p hp
    refine ⟨o, us, file, tf, flags, tg, inF, text, tt, hidT_get e1 (free e1 (fun l n z => ?_) fun z => ?_), r1, r2, r3, r⟩
    · rw [r2] at z
      cases z
    · rw [r2] at z
      cases z
      simp at r3
  have BM : Bm (hidT s₁.heap H) mg := by
    obtain ⟨bm, ob, b1, b2, b3, b4, b5, b6⟩ := hbm
    exact ⟨bm, ob, b1, b2, hidT_get b3 (free b3 (fun l n z => by rw [b6] at z; cases z) fun z => by rw [b6] at z; cases z), b4, b5, b6⟩
  have e0 : Env0 P w K mg (hidT s₁.heap H) callerA [] s₁ H := ⟨rfl, hM, fun b o e => of_hidT e, Nat.le_of_eq (hidT_size _ _), trivial, fun b hb => absurd (show b ∈ ([] : List Addr) from hb) (by simp), hok, .of_eq hg⟩
  obtain ⟨fd, ps, hF, hB⟩ := F _ hKb (nsK hns) BM CB
  have hs := hsp H (fun p hp => HT _ (memT p hp)) (fun b ps e => by
    rcases Hs b _ e with ⟨_, z⟩ | ⟨_, _, z⟩
    · cases z
      rfl
    · cases z) scr
  have hlen := hF.len _ _ _ _ hs
  refine codeAny_mono (hF.run [] s₁ H ⟨[.ref a], []⟩ [.ref a] [.ref a] _ _ hr e0 (hB s₁ [.ref a] KX hlen) (.cons rfl .nil) hs) fun r s' h => ?_
  cases r with
  | error e => exact (show False from h).elim
  | ok fl =>
    cases fl with
    | next => exact False.elim h
    | brk => exact False.elim h
    | cont => exact False.elim h
    | ret u =>
      obtain ⟨v, H', os, bare, un, hok', r', q⟩ := h
      have q' : v = .bl true := q
      subst q'
      obtain rfl : u = Value.bool true := r'
      have key : ∀ b o, b ∉ cs.map (·.2) → s₁.heap.get? b = some o → s'.heap.get? b = some o := fun b o nb e => by
        cases q : H b with
        | none => exact un.keep b o e q (by intro z; exact absurd (show b ∈ ([] : List Addr) from z) (by simp)) (by simp)
        | some u =>
          rcases Hs b u q with ⟨hb, _⟩ | ⟨_, _, rfl⟩
          · exact absurd hb nb
          · obtain ⟨e1, _⟩ := hok b _ q
            obtain ⟨e2, _⟩ := hok' b _ (un.frzs b _ _ q)
            rw [e] at e1
            cases e1
            exact e2
      have grown : ∀ b, b ∈ cs.map (·.2) → ∃ more : Array Value, s'.heap.get? b = some { cls := .none, data := .fields more } := fun b hb => by
        obtain ⟨more, z⟩ := un.tbls b #[] (HT b hb)
        exact ⟨_, hok' b _ z⟩
      refine ⟨rfl, ⟨fun b o e => ?_, fun b o e => ?_⟩, os, bare⟩
      · by_cases hb : b ∈ cs.map (·.2)
        · obtain ⟨more, hm⟩ := grown b hb
          obtain ⟨p, hp, rfl⟩ := List.mem_map.mp hb
          rw [hT p hp] at e
          cases e
          exact .inr (.inl ⟨((C p hp).tab (hT p hp)).isCodeTable, rfl, #[], more, rfl, by rw [Array.empty_append]; exact hm⟩)
        · exact .inl (key b o hb e)
      · by_cases hb : b ∈ cs.map (·.2)
        · obtain ⟨more, hm⟩ := grown b hb
          exact ⟨_, hm⟩
        · exact ⟨o, key b o hb e⟩
/-- what is asked at the head's heap -/
def LawG (l : PySem.W.OpenLaw) (w : World) (K : PySem.W.Frag) (k n : Nat) (mg : Str → Option Value) (fa : Addr) (h : Heap) : Prop :=
  ∃ (cs : List (Addr × Addr)) (sp : Sp), (∀ p ∈ cs, h.get? p.2 = some tblO) ∧ (∀ p ∈ cs, K.lookup p.2 = none) ∧ (∀ p ∈ cs, PySem.W.CodeHd h p.1 p.2) ∧
    (∀ (H : Hp) (a : Addr) (ns : List Int), ns.length ≤ n → (∀ z ∈ ns, Builtin.Int.intBits z ≤ 1048576) → (∀ p ∈ cs, H p.2 = some (.tbl #[])) → (∀ b ps, H b = some (.tbl ps) → ps = #[]) → Scr K H a ns → sp [.ref a] H (fun v _ => v = .bl true) fun _ _ _ => False) ∧
    ∀ base : Heap, K.In base → base.Ns mainGlobals mg → Bm base mg → (∀ p ∈ cs, PySem.W.CodeHd base p.1 p.2) → ∃ (fd : FuncData) (ps : List Str), FnAt callerA l.prog w K mg base k fa fd ps sp ∧ Binds K fd ps []
theorem walkG {l : PySem.W.OpenLaw} {n k : Nat} {q : Program} {loose : List Str} {XP : (Str → Option Value) → Heap → Prop} {YP : World → Heap → Prop} {d : DefRec} {K : Params → PySem.W.Frag}
    (hn : l.most = some n) (hn2 : n ≤ sizeLine) (hdf : d.params.defaults = []) (hr : Room k callerA) (hY : ∀ (w : World) (h : Heap), YP w h → (K w.params).In h)
    (F : ∀ (w : World) (mg : Str → Option Value) (fa : Addr) (h : Heap), YP w h → (K w.params).In h → h.Ns mainGlobals mg → mg d.name = some (.ref fa) → Laid q mg h → LawG l w (K w.params) k n mg fa h) :
    PySem.W.WalkO q loose XP YP l.row.toRowW d [] (fun f vs => PySem.call f vs) := by
  refine Att.attach_callB hn hdf fun w s₀ s₁ mg mb fa o pm cd doc a vs ns G Y ho hd hcd hmg hobj hints hlen hbits hg => ?_
  have KX := hY w _ Y
  have laid : Laid q mg s₁.heap := fun d hd => by
    obtain ⟨a, o, fd, c, P, h1, h2, h3, h4, h5, h6⟩ := G.T.tab d hd
    exact ⟨a, o, fd, c, P, h1, h2, h3, h4, PySem.W.CodeHd.of h5 h6, h6.2⟩
  obtain ⟨cs, sp, hT, nT, C, hsp, hF⟩ := F w mg fa _ Y KX G.T.g hmg laid
  exact law_callG KX G.T.g G.T.b G.T.builtins G.T.nolimit hg hT nT C G.T.bmain hobj hints (Nat.le_trans hlen hn2) hr hF fun H hH hc hS => hsp H a ns hlen hbits hH hc hS
/-- the classes by their names in the module -/
def clsOf (mg : Str → Option Value) (x : Str) : Option Addr := match mg x with | some (.ref a) => some a | _ => none
/-- a def of the text: its place, its code object, its table -/
structure DK (K : PySem.W.Frag) (mg : Str → Option Value) (h : Heap) (x : Str) (st : Stmt) (f c P : Addr) : Prop where
  mgf : mg x = some (.ref f)
  code : PySem.W.CodeHd h c P
  tab : h.get? P = some tblO
  free : K.lookup P = none
  dc : ∀ base nm tabs, (c, P) ∈ tabs → PySem.W.CodeHd base c P → DefC ⟨K, base, nm, tabs, clsOf mg⟩ mg x st
theorem DK.of {K : PySem.W.Frag} {mg : Str → Option Value} {h : Heap} {q : Program} {x : Str} {st : Stmt} {f c P : Addr} {oc kV dc pm ct e : Value} {od an dd : Option Addr} {sl sl2 : Array (Option Value)} {vs : Array Value} (KX : K.In h) (G : h.Ns mainGlobals mg) (L : Laid q mg h)
    (hrec : ((recsOf q).any fun e => e.name == x) = true) (a1 : PySem.W.nsIn K mainGlobals x = some (some (.ref f)))
    (l1 : K.lookup f = some ⟨oc, od, .func (PySem.W.fnOf x x (defArgs st) (defBody st) (defScope st) .none kV dc pm an (.ref c) ct), sl⟩) (c1 : PySem.W.codeIn K (.ref c) x = true) (k1 : PySem.W.keepIn K (.ref f) = true)
    (t1 : K.lookup c = some ⟨e, dd, .fields vs, sl2⟩) (p1 : vs[11]? = some (.ref P)) (n1 : K.lookup P = none) : DK K mg h x st f c P := by
  have hm := PySem.W.mg_of KX G a1
  obtain ⟨dL, hmem, hnm⟩ := List.any_eq_true.mp hrec
  have hnm : dL.name = x := beq_iff_eq.mp hnm
  obtain ⟨a', o', fd', c', P', h1, h2, h3, h4, h5, h6⟩ := L dL hmem
  rw [hnm, hm] at h1
  cases h1
  have g1 := KX _ _ l1
  rw [g1] at h2
  cases h2
  cases h3
  cases h4
  have g2 := KX _ _ t1
  obtain ⟨o, us, file, tf, flags, tg, inF, text, tt, e1, r1, r2, r3, r⟩ := id h5
  rw [g2] at e1
  cases e1
  cases r2
  rw [p1] at r3
  cases r3
  exact ⟨hm, h5, h6, n1, fun base nm tabs ht hh => ⟨f, c, _, _, ⟨oc, od, kV, dc, pm, an, ct, sl, rfl, l1, c1⟩, hm, k1, ht, hh⟩⟩
theorem law_of {nm : Nat → Nat → Option Str} {l : PySem.W.OpenLaw} {w : World} {K : PySem.W.Frag} {k n : Nat} {mg : Str → Option Value} {fa : Addr} {h : Heap} {T : XTS} {cs : List (Addr × Addr)} (hT : ∀ p ∈ cs, h.get? p.2 = some tblO) (nT : ∀ p ∈ cs, K.lookup p.2 = none) (C : ∀ p ∈ cs, PySem.W.CodeHd h p.1 p.2) (hfa : mg "law" = some (.ref fa))
    (hD : ∀ base : Heap, Bm base mg → (∀ p ∈ cs, PySem.W.CodeHd base p.1 p.2) → DefS l.prog w ⟨K, base, nm, cs, clsOf mg⟩ mg k "law" T) (hlaw : ∀ ns : List Int, ns.length ≤ n → T ns [] [] fun d _ => d = .bl true) : LawG l w K k n mg fa h := by
  refine ⟨cs, fun vs H Q E => ∀ base, spS ⟨K, base, nm, cs, clsOf mg⟩ T vs H Q E, hT, nT, C, fun H a ns hl _ hH hc hS base => ?_, fun base hK hN hB hC => ?_⟩
  · refine ⟨[], [], a, ns, [], [], _, rfl, hS, .nil, ⟨rfl, List.nodup_nil, fun m a c h1 h2 => by simp at h1, fun P ps e => ?_, fun p hp => ⟨#[], hH p hp⟩⟩, hlaw ns hl, fun d st' ι' v H' e g r s => ?_⟩
    · have e' := hc P ps e
      subst e'
      exact ⟨by unfold TriplesOk; trivial, fun pos cv z => by unfold codeAmong at z; cases z⟩
    · have e : d = .bl true := e
      subst e
      cases r
      rfl
  · obtain ⟨f, fd, ps, hF, hm, hk, hb⟩ := (hD base hB hC).ex
    rw [hfa] at hm
    cases hm
    exact ⟨fd, ps, fnAt_of (hF.imp fun vs H Q E q => q base), hb⟩
end GD

set_option Elab.async false
set_option linter.all false
set_option maxRecDepth 100000
set_option maxHeartbeats 2000000
namespace GD
open PySem PySem.Spec PyProof.Rows L2 GX

/-! ## 10. statements without effects, by computing -/
inductive Rs where
  | nx (e : EV) | rt (d : D) | bk (e : EV) | ct (e : EV)
abbrev RS := EV → SS → Option Rs
def xs (r : RS) : XS := fun D0 env st => match r env st with
  | some (.nx e) => D0.nx e st
  | some (.rt d) => D0.rt d st
  | some (.bk e) => D0.bk e st
  | some (.ct e) => D0.ct e st
  | none => False
def rNext : RS := fun env _ => some (.nx env)
def rRet (m : MP) : RS := fun env st => match m env st with | some d => some (.rt d) | none => none
def rSeq (r u : RS) : RS := fun env st => match r env st with
  | some (.nx e) => u e st
  | some (.rt d) => some (.rt d)
  | some (.bk e) => some (.bk e)
  | some (.ct e) => some (.ct e)
  | none => none
def rIf (c : MB) (r u : RS) : RS := fun env st => match c env st with
  | some true => r env st
  | some false => u env st
  | none => none
def rAsg (m : MP) (t : MT) : RS := fun env st => match m env st with
  | some d => (match t d env with | some e => some (.nx e) | none => none)
  | none => none
def rForGo (t : MT) (r : RS) (st : SS) : List D → EV → Option Rs
  | [], env => some (.nx env)
  | d :: ds, env => match t d env with
    | some env1 => (match r env1 st with
      | some (.nx e) => rForGo t r st ds e
      | some (.ct e) => rForGo t r st ds e
      | some (.bk e) => some (.nx e)
      | some (.rt d) => some (.rt d)
      | none => none)
    | none => none
def rFor (mi : MI) (t : MT) (r : RS) : RS := fun env st => match mi env st with | some (ds, _) => rForGo t r st ds env | none => none
section
variable {X : Cx} {w : Wd} {pos : Pos} {e c : Expr} {tg iter : Expr} {s : Stmt} {rest : List Stmt} {r u : RS}
theorem dr_mo {t : XS} (h : PS X s (tS w t)) (q : ∀ D0 env st, xs r D0 env st → t D0 env st) : PS X s (tS w (xs r)) := PS.mo h fun E σ H ⟨ι, env, st, D0, he, hs, ht, hE⟩ => ⟨ι, env, st, D0, he, hs, q _ _ _ ht, hE⟩
theorem drs_mo {ss : List Stmt} {t : XS} (h : PSs X ss (tS w t)) (q : ∀ D0 env st, xs r D0 env st → t D0 env st) : PSs X ss (tS w (xs r)) := PSs.mo h fun E σ H ⟨ι, env, st, D0, he, hs, ht, hE⟩ => ⟨ι, env, st, D0, he, hs, q _ _ _ ht, hE⟩
theorem dr_nil : PSs X [] (tS w (xs rNext)) := drs_mo ds_nil fun _ _ _ h => h
theorem dr_ret {m : MP} (he : PE X e (tP w m)) : PS X (.Return (some e) pos) (tS w (xs (rRet m))) := dr_mo (ds_ret (dx_of he)) fun D0 env st h => by
  unfold xs rRet at h
  cases hm : m env st with
  | none => rw [hm] at h; exact h.elim
  | some d =>
    rw [hm] at h
    exact ⟨d, hm, h⟩
theorem dr_one (h1 : PS X s (tS w (xs r))) : PSs X [s] (tS w (xs r)) := ds_one h1
theorem dr_cons (h1 : PS X s (tS w (xs r))) (h2 : PSs X rest (tS w (xs u))) : PSs X (s :: rest) (tS w (xs (rSeq r u))) := drs_mo (ds_cons h1 h2) fun D0 env st h => by
  unfold sSeq xs
  unfold xs rSeq at h
  cases hr : r env st with
  | none => rw [hr] at h; exact h.elim
  | some v =>
    rw [hr] at h
    cases v <;> exact h
theorem dr_if {m : MB} {sa sb : List Stmt} (hc : PT X c (tBo w m)) (ha : PSs X sa (tS w (xs r))) (hb : PSs X sb (tS w (xs u))) : PS X (.If c sa sb pos) (tS w (xs (rIf m r u))) := dr_mo (ds_if (dxb_of hc) ha hb) fun D0 env st h => by
  have h' : (match (match m env st with | some true => r env st | some false => u env st | none => none) with
    | some (.nx e) => D0.nx e st | some (.rt d) => D0.rt d st | some (.bk e) => D0.bk e st | some (.ct e) => D0.ct e st | none => False) := h
  cases hm : m env st with
  | none => rw [hm] at h'; exact h'.elim
  | some b =>
    rw [hm] at h'
    cases b with
    | true => exact ⟨true, hm, iteT h'⟩
    | false => exact ⟨false, hm, iteF h'⟩
theorem dr_asg {m : MP} {tgt : MT} {g : TG} {own : List Nat} (ht : GT w own g tgt) (he : PE X e (tP w m)) (hg : PG X tg g) (hs : swapsWithSole [tg] e pos.line X.env = pure false := by rfl) (hw : swappedStores [tg] e X.env = pure none := by rfl)
    (h1 : (assignEach [tg] X.env).map (·.2) = [assign tg X.env] := by rfl) : PS X (.Assign [tg] e pos) (tS w (xs (rAsg m tgt))) := dr_mo (ds_asg ht (dx_of he) hg hs hw h1) fun D0 env st h => by
  unfold xs rAsg at h
  cases hm : m env st with
  | none => rw [hm] at h; exact h.elim
  | some d =>
    rw [hm] at h
    cases ht : tgt d env with
    | none => simp only [ht] at h
    | some e1 =>
      simp only [ht] at h
      exact ⟨d, hm, e1, ht, h⟩
theorem dr_set {m : MP} {i : Nat} {x : Str} {pos' : Pos} (hN : X.N.Nodup) (hi : X.N[i]? = some x) (hx : Loc X.env.scope x) (he : PE X e (tP w m)) (hs : swapsWith e (some (.Name x pos')) pos.line X.env = pure false := by rfl) (hf : X.fn x = true ∨ X.env.scope.names.lookup x = some .local := by first | exact .inl rfl | exact .inr rfl | assumption) (hfx : ∀ p ∈ w.fx, p.1 ≠ i := by intro _ h; cases h) :
    PS X (.Assign [.Name x pos'] e pos) (tS w (xs (rAsg m (tgN i)))) := dr_mo (ds_set hN hi hx (dx_of he) hs hf hfx) fun D0 env st h => by
  unfold xs rAsg at h
  cases hm : m env st with
  | none => rw [hm] at h; exact h.elim
  | some d =>
    rw [hm] at h
    exact ⟨d, hm, _, rfl, h⟩
theorem for_r {t : MT} {D0 : DE} {st : SS} {ro : Option Nat} : ∀ (ds : List D) (env : EV), (match rForGo t r st ds env with | some (.nx e) => D0.nx e st | some (.rt d) => D0.rt d st | some (.bk e) => D0.bk e st | some (.ct e) => D0.ct e st | none => False) → sForGo t (xs r) st ro D0 ds env st
  | [], env, h => ⟨Hold.refl, h⟩
  | d :: ds, env, h => by
    unfold rForGo at h
    cases ht : t d env with
    | none => rw [ht] at h; exact h.elim
    | some env1 =>
      rw [ht] at h
      refine ⟨Hold.refl, env1, ht, ?_⟩
      unfold xs
      cases hr : r env1 st with
      | none => simp only [hr] at h
      | some v =>
        simp only [hr] at h
        cases v with
        | nx e => exact for_r ds e h
        | ct e => exact for_r ds e h
        | bk e => exact h
        | rt d => exact h
theorem dr_for {mi : MI} {tgt : MT} {g : TG} {own : List Nat} {body : List Stmt} (hp : PassesOwn (model X.prog X.w) X.A X.env X.xe) (hc : X.calm = true) (ht : GT w own g tgt) (hi : PI X tg iter (tI w mi)) (hg : PG X tg g) (hb : PSs X body (tS w (xs r)))
    (hs : ∀ x, foldedSetIterable iter X.env x = pure x := by intro _; rfl) : PS X (.For tg iter body [] pos) (tS w (xs (rFor mi tgt r))) := dr_mo (ds_for hp hc ht (dxi_of hi) hg hb hs) fun D0 env st h => by
  unfold xs rFor at h
  cases hm : mi env st with
  | none => rw [hm] at h; exact h.elim
  | some v =>
    obtain ⟨ds, ro⟩ := v
    rw [hm] at h
    exact ⟨ds, ro, hm, for_r ds env h⟩
theorem Fit.blk {s : Shared} {H : Hp} {scope : Scope} {C : Addr} {cl : List (Str × Addr)} {fp : List Addr} (hf : Fit X w) : Fit (X.blk s H scope (compEnvC scope cl C X.env) fp) w := ⟨hf.k, hf.b, hf.c⟩
end
/-- a def's value, computed -/
def fnR (N : List Str) (n : Nat) (r : RS) : List D → SS → Option D := fun ds st => if ds.length = n then (match r (startE N ds) st with
  | some (.rt d) => if D.lo st.length d = true then some d else none
  | some (.nx _) => some .non
  | _ => none) else none
theorem DefC.p {P : Program} {wl : World} {w : Ws} {mg : Str → Option Value} {x : Str} {st : Stmt} {N ps : List Str} {k : Nat} {r : RS} (F : DefC w mg x st) (S : FnScope N ps (defScope st))
    (hb : ∀ (kV doc pm : Value) (an : Option Addr) (cdv ct : Value) (us : List Value), us.length = ps.length → bindArgs (PySem.W.fnOf x x (defArgs st) (defBody st) (defScope st) .none kV doc pm an cdv ct) ⟨us, []⟩ = pure (ps.zip us))
    (hbody : ∀ (f c : Addr) (A : Around) (outer : List Env) (s : Shared) (H : Hp) (E : XK), Room k (A.deeper (envOfC x (defScope st) s.heap.objs.size f (.ref c))) → Fit (cxOf CX0 P wl w.K mg w.base N x (defScope st) f (.ref c) A outer s H E).nox ⟨w, c, [], [], [], true⟩ →
      PSs (cxOf CX0 P wl w.K mg w.base N x (defScope st) f (.ref c) A outer s H E).nox (defBody st) (tS ⟨w, c, [], [], [], true⟩ (xs r))) : DefP P wl w mg (k + 1) x (fnR N ps.length r) := by
  refine (DefC.x F S hb hbody).toP fun ds st d h _ => ?_
  unfold fnR at h
  split at h
  · rename_i hl
    split at h
    · rename_i d' hr
      split at h
      · rename_i hlo
        cases h
        refine ⟨hlo, hl, ?_⟩
        unfold xs
        rw [hr]
        exact ⟨rfl, List.take_length⟩
      · cases h
    · rename_i e hr
      cases h
      refine ⟨rfl, hl, ?_⟩
      unfold xs
      rw [hr]
      exact ⟨rfl, List.take_length⟩
    · cases h
  · cases h
/-! ### comparisons as tests -/
section
variable {X : Cx} {w : Wd} {pos : Pos} {a b : Expr} {ma mb : MP} {xa xb : XP}
theorem dt_cmp {op : CmpOp} {f : F2} {r : R2} (ho : OpR X (compareOp op) r) (hr : OpP w f r) (ha : PE X a (tP w ma)) (hb : PE X b (tP w mb)) (hm : behindInMarks op b = false := by rfl) : PT X (.Compare a [op] [b] pos) (tBo w (bV (mOp f ma mb))) :=
  PT.mo (pt_cmpR ho ha hb hm) fun σ H Q ⟨ι, env, st, x, he, hs, hx, q⟩ => op_read (w := w) hr σ H _ (by
    unfold bV at hx
    split at hx
    · rename_i x' e
      cases hx
      exact ⟨ι, env, st, _, he, hs, e, fun v H1 k1 r1 s1 => by cases r1; exact ⟨_, rfl, q H1 k1 s1⟩⟩
    · cases hx)
theorem dxt_cmp {op : CmpOp} {f : F2} {r : R2} (ho : OpR X (compareOp op) r) (hr : OpP w f r) (ha : PE X a (tX w xa)) (hb : PE X b (tX w xb)) (hm : behindInMarks op b = false := by rfl) : PT X (.Compare a [op] [b] pos) (tXB w (xV (xOp f xa xb))) :=
  PT.mo (pt_cmpR ho ha hb hm) fun σ H Q ⟨ι, env, st, R, he, hs, hx, q⟩ => xop_read (w := w) hr σ H _ ⟨ι, env, st, _, he, hs, hx, fun d st1 ι1 v H1 ⟨b, e, hR⟩ g1 r1 s1 => by
    subst e
    cases r1
    exact ⟨b, rfl, q b st1 ι1 H1 hR g1 s1⟩⟩
theorem qLt : OpP w fLt (rI0 fun i j => .bl (decide (i < j))) := qI0 fun i j d h ι H => by cases h; exact .bl _
theorem qLe : OpP w fLe (rI0 fun i j => .bl (decide (i ≤ j))) := qI0 fun i j d h ι H => by cases h; exact .bl _
theorem qGt : OpP w fGt (rI0 fun i j => .bl (decide (i > j))) := qI0 fun i j d h ι H => by cases h; exact .bl _
theorem qGe : OpP w fGe (rI0 fun i j => .bl (decide (i ≥ j))) := qI0 fun i j d h ι H => by cases h; exact .bl _
theorem dt_lt (ha : PE X a (tP w ma)) (hb : PE X b (tP w mb)) : PT X (.Compare a [.Lt] [b] pos) (tBo w (bV (mOp fLt ma mb))) := dt_cmp op_lt qLt ha hb (nomark _)
theorem dt_le (ha : PE X a (tP w ma)) (hb : PE X b (tP w mb)) : PT X (.Compare a [.LtE] [b] pos) (tBo w (bV (mOp fLe ma mb))) := dt_cmp op_le qLe ha hb (nomark _)
theorem dt_gt (ha : PE X a (tP w ma)) (hb : PE X b (tP w mb)) : PT X (.Compare a [.Gt] [b] pos) (tBo w (bV (mOp fGt ma mb))) := dt_cmp op_gt qGt ha hb (nomark _)
theorem dt_ge (ha : PE X a (tP w ma)) (hb : PE X b (tP w mb)) : PT X (.Compare a [.GtE] [b] pos) (tBo w (bV (mOp fGe ma mb))) := dt_cmp op_ge qGe ha hb (nomark _)
theorem dt_eq (hu : Room 0 X.A) (ha : PE X a (tP w ma)) (hb : PE X b (tP w mb)) : PT X (.Compare a [.Eq] [b] pos) (tBo w (bV (mOp fEq ma mb))) := dt_cmp (op_eqD hu.units) qEq ha hb (nomark _)
theorem dt_ne (hu : Room 0 X.A) (ha : PE X a (tP w ma)) (hb : PE X b (tP w mb)) : PT X (.Compare a [.NotEq] [b] pos) (tBo w (bV (mOp fNe ma mb))) := dt_cmp (op_neD hu.units) qNe ha hb (nomark _)
theorem dt_in (hu : Room 0 X.A) (ha : PE X a (tP w ma)) (hb : PE X b (tP w mb)) (hm : behindInMarks .In b = false := by rfl) : PT X (.Compare a [.In] [b] pos) (tBo w (bV (mOp fIn ma mb))) := dt_cmp (OpR.or2 (op_inD (units65 hu)) (op_inT (units65 hu))) qIn ha hb hm
theorem dt_nin (hu : Room 0 X.A) (ha : PE X a (tP w ma)) (hb : PE X b (tP w mb)) (hm : behindInMarks .NotIn b = false := by rfl) : PT X (.Compare a [.NotIn] [b] pos) (tBo w (bV (mOp fNotIn ma mb))) := dt_cmp (OpR.or2 (op_notInD (units65 hu)) (op_notInT (units65 hu))) qNotIn ha hb hm
theorem dt_isN (ha : PE X a (tP w ma)) (hb : PE X b (tP w mb)) : PT X (.Compare a [.Is] [b] pos) (tBo w (bV (mOp fIsN ma mb))) := dt_cmp op_isN qIsN ha hb (nomark _)
theorem dxt_lt (ha : PE X a (tX w xa)) (hb : PE X b (tX w xb)) : PT X (.Compare a [.Lt] [b] pos) (tXB w (xV (xOp fLt xa xb))) := dxt_cmp op_lt qLt ha hb (nomark _)
theorem dxt_eq (hu : Room 0 X.A) (ha : PE X a (tX w xa)) (hb : PE X b (tX w xb)) : PT X (.Compare a [.Eq] [b] pos) (tXB w (xV (xOp fEq xa xb))) := dxt_cmp (op_eqD hu.units) qEq ha hb (nomark _)
end
/-! ### more operators -/
section
variable {X : Cx} {w : Wd} {pos : Pos} {a b : Expr}
def fPow : F2 := fI fun i j => if 0 ≤ j ∧ j ≤ 64 ∧ 0 ≤ i ∧ i ≤ 1000 then some (.int (i ^ j.toNat)) else none
theorem qPow : OpP w fPow (rI CPow fun i j => .int (i ^ j.toNat)) := qI fun i j d h => by
  split at h
  · rename_i hc
    cases h
    exact ⟨⟨hc.1, by omega, by omega⟩, fun ι H => .int _⟩
  · cases h
theorem dp_pow {ma mb : MP} (ha : PE X a (tP w ma)) (hb : PE X b (tP w mb)) : PE X (.BinOp a .Pow b pos) (tP w (mOp fPow ma mb)) := dp_bin op_pow qPow ha hb
end
end GD
namespace GD
open PySem PySem.Spec PyProof.Rows L2 GX
theorem fxS {w : Ws} {c a : Addr} {ns : List Int} {i : Nat} (h : 0 ≠ i) : ∀ p ∈ (WdS w c a ns).fx, p.1 ≠ i := fun p hp => by
  rw [List.mem_singleton.mp hp]
  exact h
end GD

set_option Elab.async false
set_option linter.all false
set_option maxRecDepth 100000
set_option maxHeartbeats 4000000
namespace GD
open PySem PySem.Spec PyProof.Rows L2 GX

/-! ## 11. the words that all laws begin with -/
theorem for_inv {t : MT} {body : XS} {st0 : SS} {D0 : DE} (Iv : List D → EV → SS → Prop) (hs : ∀ d ds env st, Iv (d :: ds) env st → ∃ env1, t d env = some env1 ∧ ∀ K : DE, (∀ env st, Iv ds env st → K.nx env st) → (∀ env st, Iv ds env st → K.ct env st) → K.rt = D0.rt → K.bk = D0.nx → body K env1 st)
    (he : ∀ env st, Iv [] env st → D0.nx env st) : ∀ (ds : List D) (env : EV) (st : SS), Iv ds env st → sForGo t body st0 none D0 ds env st
  | [], env, st, h => ⟨trivial, he env st h⟩
  | d :: ds, env, st, h => by
    obtain ⟨env1, h1, h2⟩ := hs d ds env st h
    exact ⟨trivial, env1, h1, h2 _ (fun env st k => for_inv Iv hs he ds env st k) (fun env st k => for_inv Iv hs he ds env st k) rfl rfl⟩
def nI (k : Nat) : D := .int (k : Int)
def dN (l : List Nat) : D := .tup (l.map nI)
def tblD (many : Nat) (rows : List (List Nat)) : D := .tup [.str ("table" : Str), nI many, .tup (rows.map dN)]
theorem intsD0 (n : Nat) : intsD 0 n = (List.range n).map nI := by
  unfold intsD nI
  simp
structure Boxed (st : SS) (n : Nat) : Prop where
  ex : ∃ (dn : Nat) (i : Nat) (ms : List Int), st[n]? = some (.lst [.ref dn, .int (i : Int)]) ∧ dn < n ∧ st[dn]? = some (.lst (ms.map D.int))
structure Ev (n : Nat) (st st1 : SS) : Prop where
  len : st1.length = st.length
  at_ : ∀ m, m ≠ n → st1[m]? = st[m]?
theorem Ev.refl (n : Nat) (st : SS) : Ev n st st := ⟨rfl, fun _ _ => rfl⟩
theorem Ev.trans {n : Nat} {a b c : SS} (h : Ev n a b) (k : Ev n b c) : Ev n a c := ⟨k.len.trans h.len, fun m hm => (k.at_ m hm).trans (h.at_ m hm)⟩
def cellT : XTS := fun ns ds st R => ∃ k : Int, ds = [.int k] ∧ 0 ≤ k ∧ ∀ i : Int, R (.int i) st
def digitsT : XTS := fun ns ds st R => ∃ i j : Nat, ds = [.int i, .int j] ∧ i ≤ j ∧ j ≤ 1000 ∧ ∀ ms : List Int, R (.ref st.length) (st ++ [.lst (ms.map D.int)])
def boxT : XTS := fun ns ds st R => ∃ i j : Nat, ds = [.int i, .int j] ∧ i ≤ j ∧ j ≤ 1000 ∧ ∀ st1 n, st.length ≤ n → st.length ≤ st1.length → (∀ m, m < st.length → st1[m]? = st[m]?) → Boxed st1 n → R (.ref n) st1
def drawT : XT := fun ds st R => ∃ (n : Nat) (m : Int), ds = [.ref n, .int m] ∧ 0 < m ∧ Boxed st n ∧ ∀ (r : Nat) st1, (r : Int) < m → Boxed st1 n → Ev n st st1 → R (nI r) st1
def someT : XT := fun ds st R => ∃ (n many : Nat) (sparse : Int), ds = [.ref n, nI many, .int sparse] ∧ many ≤ 1000 ∧ Boxed st n ∧ ∀ (l : List Nat) st1, l.Pairwise (· < ·) → (∀ x ∈ l, x < many) → Boxed st1 n → Ev n st st1 → R (dN l) st1
def tableT : XT := fun ds st R => ∃ (n things marks : Nat), ds = [.ref n, nI things, nI marks] ∧ things ≤ 100 ∧ marks ≤ 100 ∧ Boxed st n ∧ ∀ (many : Nat) (rows : List (List Nat)) st1, many ≤ marks → rows.length ≤ things → (∀ r ∈ rows, r.Pairwise (· < ·) ∧ ∀ x ∈ r, x < many) → Boxed st1 n → Ev n st st1 → R (tblD many rows) st1
def N_law_cell : List Str := [("_law_script" : Str), ("_law_k" : Str)]
def X_law_cell (ns : List Int) : XS := (sSeq (sIf (xbOf (bV (mOp fLt (mVar 1) (mLenS ns)))) (sRet (xOf (mIxS ns (mVar 1)))) sNext) (sRet (xOf (mC (.int 0)))))
def N_law_digits : List Str := [("_law_script" : Str), ("_law_first" : Str), ("_law_last" : Str), ("_law_digits_here" : Str), ("_law_k" : Str), ("_law_cell_here" : Str), ("_law_turn" : Str), ("_law_seed" : Str)]
def X_law_digits (ns : List Int) : XS := (sSeq (sAsg (xNew (xaOf (mLst mNil))) (tgN 3)) (sSeq (sFor (xiOf (iRng2 (mVar 1) (mVar 2))) (tgN 4) (sSeq (sAsg (xCallS cellT ns (xCons (xOf (mVar 4)) xNil)) (tgN 5)) (sSeq (sIf (xbOf (bV (mOp fLt (mVar 5) (mC (.int 0))))) (sAsg (xOf (mOp fSub (mC (.int 1)) (mOp fMul (mC (.int 2)) (mVar 5)))) (tgN 5)) sNext) (sIf (xbOf (bV (mOp fGe (mVar 5) (mOp fPow (mC (.int 10)) (mC (.int 18)))))) (sFor (xiOf (iRng (mC (.int 60)))) (tgN 6) (sIf (xbOf (bV (mOp fGt (mVar 5) (mC (.int 0))))) (sSeq (sAppP (mVar 3) (xOf (mOp fMod (mF1 fInt (mVar 5)) (mC (.int 1000))))) (sAsg (xOf (mOp fDiv (mVar 5) (mC (.int 1000)))) (tgN 5))) sNext)) (sSeq (sAsg (xOf (mOp fMod (mF1 fInt (mOp fAdd (mOp fAdd (mOp fMul (mVar 5) (mC (.int 48271))) (mOp fMul (mVar 4) (mC (.int 69621)))) (mC (.int 11)))) (mC (.int 2147483647)))) (tgN 7)) (sFor (xiOf (iRng (mC (.int 12)))) (tgN 6) (sSeq (sAsg (xOf (mOp fMod (mF1 fInt (mOp fAdd (mOp fAdd (mOp fMul (mVar 7) (mC (.int 16807))) (mOp fMul (mC (.int 7)) (mVar 6))) (mC (.int 1)))) (mC (.int 2147483647)))) (tgN 7)) (sAppP (mVar 3) (xOf (mOp fMod (mF1 fInt (mOp fDiv (mVar 7) (mC (.int 997)))) (mC (.int 1000)))))))))))) (sRet (xOf (mVar 3)))))
def N_law_box : List Str := [("_law_script" : Str), ("_law_first" : Str), ("_law_last" : Str)]
def X_law_box (ns : List Int) : XS := (sRet (xNew (xLst (xCons (xCallS digitsT ns (xCons (xOf (mVar 1)) (xCons (xOf (mVar 2)) xNil))) (xCons (xOf (mC (.int 0))) xNil)))))
def N_law_draw : List Str := [("_law_box_here" : Str), ("_law_many" : Str), ("_law_at" : Str)]
def X_law_draw : XS := (sSeq (sAsg (xOf (mOp fIx (mVar 0) (mC (.int 1)))) (tgN 2)) (sSeq (sSub (xOf (mOp fAdd (mVar 2) (mC (.int 1)))) (mVar 0) (mC (.int 1))) (sSeq (sIf (xbOf (bV (mOp fLt (mVar 2) (mF1 fLen (mOp fIx (mVar 0) (mC (.int 0))))))) (sRet (xOf (mOp fMod (mF1 fInt (mOp fIx (mOp fIx (mVar 0) (mC (.int 0))) (mVar 2))) (mVar 1)))) sNext) (sRet (xOf (mC (.int 0)))))))
def N_law_some : List Str := [("_law_box_here" : Str), ("_law_many" : Str), ("_law_sparse" : Str), ("_law_k" : Str)]
def X_law_some : XS := (sRet (xTupL (xComp (xiOf (iRng (mVar 1))) (tgN 3) (xV (xOp fLt (xCall drawT (xCons (xOf (mVar 0)) (xCons (xOf (mC (.int 6))) xNil))) (xOf (mVar 2)))) (xOf (mVar 3)) [3])))
def N_law_table : List Str := [("_law_box_here" : Str), ("_law_things" : Str), ("_law_marks" : Str), ("_law_many" : Str), ("_law_sparse" : Str), ("_law_k" : Str), ("_law_rows" : Str)]
def X_law_table : XS := (sSeq (sAsg (xCall drawT (xCons (xOf (mVar 0)) (xCons (xOf (mOp fAdd (mVar 2) (mC (.int 1)))) xNil))) (tgN 3)) (sSeq (sAsg (xOp fAdd (xOf (mC (.int 2))) (xCall drawT (xCons (xOf (mVar 0)) (xCons (xOf (mC (.int 3))) xNil)))) (tgN 4)) (sSeq (sAsg (xTupL (xComp (xRng (xCall drawT (xCons (xOf (mVar 0)) (xCons (xOf (mOp fAdd (mVar 1) (mC (.int 1)))) xNil)))) (tgN 5) (xbOf bYes) (xCall someT (xCons (xOf (mVar 0)) (xCons (xOf (mVar 3)) (xCons (xOf (mVar 4)) xNil)))) [5])) (tgN 6)) (sRet (xOf (mTup (mCons (mC (.str ("table" : Str))) (mCons (mVar 3) (mCons (mVar 6) mNil)))))))))
def N_law_same : List Str := [("_law_actual" : Str), ("_law_expected" : Str), ("_law_k" : Str)]
def R_law_same (F_rec : List D → SS → Option D) : RS := (rSeq (rIf (bV (mF1 (fIs "tuple") (mVar 1))) (rSeq (rIf (bOr (bNot (bV (mF1 (fIs "tuple") (mVar 0)))) (bV (mOp fNe (mF1 fLen (mVar 0)) (mF1 fLen (mVar 1))))) (rRet (mC (.bl false))) rNext) (rSeq (rFor (iRng (mF1 fLen (mVar 1))) (tgN 2) (rIf (bNot (bV (mCall F_rec (mCons (mOp fIx (mVar 0) (mVar 2)) (mCons (mOp fIx (mVar 1) (mVar 2)) mNil))))) (rRet (mC (.bl false))) rNext)) (rRet (mC (.bl true))))) rNext) (rSeq (rIf (bV (mOp fIsN (mVar 1) (mC .non))) (rRet (mOp fIsN (mVar 0) (mC .non))) rNext) (rSeq (rIf (bV (mF1 (fIs "bool") (mVar 1))) (rRet (mAnd (mF1 (fIs "bool") (mVar 0)) (mOp fEq (mVar 0) (mVar 1)))) rNext) (rSeq (rIf (bV (mF1 (fIs "int") (mVar 1))) (rRet (mAnd (mF1 (fIs "int") (mVar 0)) (mAnd (mNot (mF1 (fIs "bool") (mVar 0))) (mOp fEq (mVar 0) (mVar 1))))) rNext) (rRet (mAnd (mF1 (fIs "str") (mVar 0)) (mOp fEq (mVar 0) (mVar 1))))))))
theorem cell_ok (ns : List Int) (ds : List D) (st : SS) (R : D → SS → Prop) (h : cellT ns ds st R) : fnS N_law_cell 2 X_law_cell ns ds st R := by
  obtain ⟨k, rfl, hk, hR⟩ := h
  refine ⟨rfl, ?_⟩
  show X_law_cell ns _ [none, some (.int k)] st
  refine ⟨decide (k < ns.length), rfl, ite2 (fun hb => ?_) fun hb => ⟨_, rfl, hR 0⟩⟩
  have hlt : k < ns.length := of_decide_eq_true hb
  have hkn : k.toNat < ns.length := by omega
  refine ⟨.int ns[k.toNat], ?_, hR _⟩
  have e1 : ixN ns.length k = some k.toNat := by
    unfold ixN
    rw [if_pos hk, if_pos hlt]
  show (match atI ns k with | some k => some (D.int k) | none => none) = _
  unfold atI
  rw [e1]
  show (match ns[k.toNat]? with | some k => some (D.int k) | none => none) = _
  rw [List.getElem?_eq_getElem hkn]
theorem ixN_nat {n i : Nat} (h : i < n) : ixN n (i : Int) = some i := by
  unfold ixN
  rw [if_pos (by omega), if_pos (by omega)]
  simp
theorem atI_nat {α : Type} (xs : List α) (i : Nat) : atI xs (i : Int) = xs[i]? := by
  unfold atI
  by_cases h : i < xs.length
  · rw [ixN_nat h]
    rfl
  · have e : ixN xs.length (i : Int) = none := by
      unfold ixN
      rw [if_pos (by omega), if_neg (by omega)]
    rw [e, List.getElem?_eq_none (by omega)]
    rfl
theorem draw_ok (ds : List D) (st : SS) (R : D → SS → Prop) (h : drawT ds st R) : fnT N_law_draw 2 X_law_draw ds st R := by
  obtain ⟨n, m, rfl, hm, ⟨dn, i, ms, h1, hne, h2⟩, hR⟩ := h
  have hn : n < st.length := (List.getElem?_eq_some_iff.mp h1).1
  refine ⟨rfl, ?_⟩
  show X_law_draw _ [some (.ref n), some (.int m), none] st
  have key : ∀ st' : SS, st'[n]? = some (.lst [.ref dn, .int ((i : Int) + 1)]) → st'[dn]? = some (.lst (ms.map D.int)) → st' = st.set n (.lst [.ref dn, .int ((i : Int) + 1)]) → ∀ r : Nat, (r : Int) < m → R (nI r) st' := fun st' e1 e2 e3 r hr => by
    refine hR r st' hr ⟨dn, i + 1, ms, by rw [e1]; simp, hne, e2⟩ ⟨by rw [e3, List.length_set], fun k hk => by rw [e3, List.getElem?_set_ne (Ne.symm hk)]⟩
  have s1 : (st.set n (.lst [.ref dn, .int ((i : Int) + 1)]))[n]? = some (.lst [.ref dn, .int ((i : Int) + 1)]) := List.getElem?_set_self hn
  have s2 : (st.set n (.lst [.ref dn, .int ((i : Int) + 1)]))[dn]? = some (.lst (ms.map D.int)) := by rw [List.getElem?_set_ne (by omega)]; exact h2
  refine ⟨.int i, by simp [mOp, mVar, mC, fIx, seqOf, h1, atI, ixN], _, rfl, ?_⟩
  refine ⟨.int (i + 1), by simp [mOp, mVar, mC, fAdd, List.set], n, 1, _, 1, rfl, rfl, h1, rfl, ?_⟩
  show sSeq _ _ _ [some (.ref n), some (.int m), some (.int i)] (st.set n (.lst [.ref dn, .int ((i : Int) + 1)]))
  refine ⟨decide ((i : Int) < (ms.map D.int).length), ?_, ite2 (fun hb => ?_) fun hb => ?_⟩
  · simp [bV, mOp, mVar, mF1, mC, fLt, fI, fLen, fIx, seqOf, s1, s2, atI, ixN]
  · have hlt : i < ms.length := by simpa using of_decide_eq_true hb
    refine ⟨nI (ms[i] % m).toNat, ?_, key _ s1 s2 rfl _ (by rw [Int.toNat_of_nonneg (Int.emod_nonneg _ (by omega))]; exact Int.emod_lt_of_pos _ hm)⟩
    have e2 : atI (ms.map D.int) (i : Int) = some (.int ms[i]) := by rw [atI_nat, List.getElem?_map, List.getElem?_eq_getElem hlt]; rfl
    have e3 : (((ms[i] % m).toNat : Nat) : Int) = ms[i] % m := Int.toNat_of_nonneg (Int.emod_nonneg _ (by omega))
    have e4 : atI [D.ref dn, D.int ((i : Int) + 1)] 0 = some (D.ref dn) := rfl
    simp only [mOp, mVar, mF1, mC, fIx, seqOf, s1, s2, e4, e2, List.getElem?_cons_succ, List.getElem?_cons_zero, fInt, fMod, fI, hm, if_true, nI, e3]
  · exact ⟨_, rfl, key _ s1 s2 rfl 0 (by simpa using hm)⟩
theorem some_go {n many : Nat} {sparse : Int} {R0 : D → SS → Prop} {st0 : SS} (hR : ∀ (l : List Nat) st1, l.Pairwise (· < ·) → (∀ x ∈ l, x < many) → Boxed st1 n → Ev n st0 st1 → R0 (dN l) st1) :
    ∀ (ks : List Nat) (st : SS) (done : List Nat), (∀ x ∈ done, x < many) → done.Pairwise (· < ·) → (∀ x ∈ ks, x < many ∧ ∀ y ∈ done, y < x) → ks.Pairwise (· < ·) → Boxed st n → Ev n st0 st →
      xGo (tgN 3) (xV (xOp fLt (xCall drawT (xCons (xOf (mVar 0)) (xCons (xOf (mC (.int 6))) xNil))) (xOf (mVar 2)))) (xOf (mVar 3)) [some (.ref n), some (nI many), some (.int sparse), none] st0 none (ks.map nI) st (fun ys st1 => R0 (.tup (done.map nI ++ ys)) st1)
  | [], st, done, h1, h2, _, _, hB, hE => ⟨trivial, by show R0 (.tup (done.map nI ++ [])) st; rw [List.append_nil]; exact hR done st h2 h1 hB hE⟩
  | k :: ks, st, done, h1, h2, h3, h4, hB, hE => by
    refine ⟨trivial, [some (.ref n), some (nI many), some (.int sparse), some (nI k)], rfl, ?_⟩
    refine ⟨.ref n, rfl, .int 6, rfl, n, 6, rfl, by decide, hB, fun r st1 hr hB1 hE1 => ?_⟩
    refine ⟨.int sparse, rfl, .bl (decide ((r : Int) < sparse)), rfl, _, rfl, ite2 (fun _ => ?_) fun _ => ?_⟩
    · refine ⟨nI k, rfl, ?_⟩
      have hk := List.pairwise_cons.mp h4
      have q := some_go (sparse := sparse) hR ks st1 (done ++ [k]) (fun x hx => ?_) ?_ (fun x hx => ⟨(h3 x (List.mem_cons_of_mem _ hx)).1, fun y hy => ?_⟩) hk.2 hB1 (hE.trans hE1)
      · have e : (fun ys st1 => R0 (.tup ((done ++ [k]).map nI ++ ys)) st1) = fun ys st1 => R0 (.tup (done.map nI ++ (nI k :: ys))) st1 := by
          funext ys st1
          simp
        rw [e] at q
        exact q
      · rcases List.mem_append.mp hx with hx | hx
        · exact h1 x hx
        · rw [List.mem_singleton.mp hx]; exact (h3 k List.mem_cons_self).1
      · rw [List.pairwise_append]
        exact ⟨h2, by simp, fun a ha b hb => by rw [List.mem_singleton.mp hb]; exact (h3 k List.mem_cons_self).2 a ha⟩
      · rcases List.mem_append.mp hy with hy | hy
        · exact (h3 x (List.mem_cons_of_mem _ hx)).2 y hy
        · rw [List.mem_singleton.mp hy]; exact hk.1 x hx
    · exact some_go hR ks st1 done h1 h2 (fun x hx => h3 x (List.mem_cons_of_mem _ hx)) (List.pairwise_cons.mp h4).2 hB1 (hE.trans hE1)
theorem some_ok (ds : List D) (st : SS) (R : D → SS → Prop) (h : someT ds st R) : fnT N_law_some 3 X_law_some ds st R := by
  obtain ⟨n, many, sparse, rfl, hm, hB, hR⟩ := h
  refine ⟨rfl, ?_⟩
  show X_law_some _ [some (.ref n), some (nI many), some (.int sparse), none] st
  refine ⟨intsD 0 many, none, ?_, ?_⟩
  · show iRng (mVar 1) _ st = _
    unfold iRng nI
    simp [mVar]
    omega
  · rw [intsD0]
    have q := some_go (sparse := sparse) (R0 := R) hR (List.range many) st [] (by simp) List.Pairwise.nil (fun x hx => ⟨List.mem_range.mp hx, by simp⟩) List.pairwise_lt_range hB (Ev.refl n st)
    exact q
theorem table_go {n many things marks : Nat} {sparse : Int} {R0 : D → SS → Prop} {st0 : SS} (hm : many ≤ 1000) :
    ∀ (ks : List D) (st : SS) (done : List (List Nat)), (∀ (rows : List (List Nat)) st1, rows.length = done.length + ks.length → (∀ r ∈ rows, r.Pairwise (· < ·) ∧ ∀ x ∈ r, x < many) → Boxed st1 n → Ev n st0 st1 → R0 (.tup (rows.map dN)) st1) → (∀ r ∈ done, r.Pairwise (· < ·) ∧ ∀ x ∈ r, x < many) → Boxed st n → Ev n st0 st →
      ∀ stx, xGo (tgN 5) (xbOf bYes) (xCall someT (xCons (xOf (mVar 0)) (xCons (xOf (mVar 3)) (xCons (xOf (mVar 4)) xNil)))) [some (.ref n), some (nI things), some (nI marks), some (nI many), some (.int sparse), none, none] stx none ks st (fun ys st1 => R0 (.tup (done.map dN ++ ys)) st1)
  | [], st, done, hR, h1, hB, hE, stx => ⟨trivial, by show R0 (.tup (done.map dN ++ [])) st; rw [List.append_nil]; exact hR done st rfl h1 hB hE⟩
  | k :: ks, st, done, hR, h1, hB, hE, stx => by
    refine ⟨trivial, [some (.ref n), some (nI things), some (nI marks), some (nI many), some (.int sparse), some k, none], rfl, true, rfl, iteT ?_⟩
    refine ⟨.ref n, rfl, nI many, rfl, .int sparse, rfl, n, many, sparse, rfl, hm, hB, fun l st1 hl1 hl2 hB1 hE1 => ?_⟩
    have q := table_go (things := things) (marks := marks) (sparse := sparse) (R0 := R0) hm ks st1 (done ++ [l]) (fun rows st2 hlen => hR rows st2 (by rw [hlen, List.length_append, List.length_cons]; simp; omega)) (fun r hr => ?_) hB1 (hE.trans hE1) stx
    · have e : (fun ys st1 => R0 (.tup ((done ++ [l]).map dN ++ ys)) st1) = fun ys st1 => R0 (.tup (done.map dN ++ (dN l :: ys))) st1 := by
        funext ys st1
        simp
      rw [e] at q
      exact q
    · rcases List.mem_append.mp hr with hr | hr
      · exact h1 r hr
      · rw [List.mem_singleton.mp hr]; exact ⟨hl1, hl2⟩
theorem table_ok (ds : List D) (st : SS) (R : D → SS → Prop) (h : tableT ds st R) : fnT N_law_table 3 X_law_table ds st R := by
  obtain ⟨n, things, marks, rfl, ht, hm, hB, hR⟩ := h
  refine ⟨rfl, ?_⟩
  show X_law_table _ [some (.ref n), some (nI things), some (nI marks), none, none, none, none] st
  refine ⟨.ref n, rfl, .int ((marks : Int) + 1), rfl, n, _, rfl, by omega, hB, fun many st1 hmany hB1 hE1 => ⟨_, rfl, ?_⟩⟩
  refine ⟨.int 2, rfl, .ref n, rfl, .int 3, rfl, n, 3, rfl, by decide, hB1, fun sp st2 hsp hB2 hE2 => ⟨.int (2 + (sp : Int)), rfl, _, rfl, ?_⟩⟩
  refine ⟨.ref n, rfl, .int ((things : Int) + 1), rfl, n, _, rfl, by omega, hB2, fun count st3 hcount hB3 hE3 => ⟨(count : Int), rfl, by omega, by omega, ?_⟩⟩
  refine table_go (n := n) (many := many) (things := things) (marks := marks) (sparse := 2 + (sp : Int)) (R0 := fun d st' => ∃ env1, tgN 6 d [some (.ref n), some (nI things), some (nI marks), some (nI many), some (.int (2 + (sp : Int))), none, none] = some env1 ∧ sRet (xOf (mTup (mCons (mC (.str ("table" : Str))) (mCons (mVar 3) (mCons (mVar 6) mNil))))) { nx := fun _ st' => R .non st', rt := R } env1 st') (st0 := st) (by omega) (intsD 0 ((count : Int)).toNat) st3 [] (fun rows st4 hlen hrows hB4 hE4 => ⟨_, rfl, ?_⟩) (by simp) hB3 ((hE1.trans hE2).trans hE3) st3
  refine ⟨tblD many rows, rfl, hR many rows st4 (by omega) ?_ hrows hB4 hE4⟩
  rw [hlen, intsD_len]
  simp
  omega
/-! ### the digits -/
def EnvD (n : Nat) (i j : Int) (env : EV) : Prop := ∃ a b c d, env = [none, some (.int i), some (.int j), some (.ref n), a, b, c, d]
theorem digits_ok (ns : List Int) (ds : List D) (st : SS) (R : D → SS → Prop) (h : digitsT ns ds st R) : fnS N_law_digits 3 X_law_digits ns ds st R := by
  obtain ⟨i, j, rfl, hij, hj, hR⟩ := h
  refine ⟨rfl, ?_⟩
  show X_law_digits ns _ [none, some (.int i), some (.int j), none, none, none, none, none] st
  refine ⟨[], rfl, _, rfl, ?_⟩
  refine ⟨intsD (i : Int) ((j : Int) - i).toNat, none, ?_, ?_⟩
  · show iRng2 (mVar 1) (mVar 2) _ _ = _
    unfold iRng2
    simp only [mVar, List.set, List.getElem?_cons_succ, List.getElem?_cons_zero]
    rw [if_pos ⟨⟨by omega, by omega⟩, by omega, by omega⟩]
  have app : ∀ ms : List Int, (st ++ [Cell.lst (ms.map D.int)])[st.length]? = some (.lst (ms.map D.int)) := fun ms => by simp
  have sets : ∀ (ms : List Int) (k : Int), (st ++ [Cell.lst (ms.map D.int)]).set st.length (.lst (ms.map D.int ++ [.int k])) = st ++ [Cell.lst ((ms ++ [k]).map D.int)] := fun ms k => by simp
  refine for_inv (fun rest env st1 => (∀ d ∈ rest, ∃ k : Nat, d = nI k) ∧ EnvD st.length i j env ∧ ∃ ms : List Int, st1 = st ++ [.lst (ms.map D.int)] ∧ ms.length + 60 * rest.length ≤ 60000) ?_ ?_ _ _ _ ⟨?_, ⟨_, _, _, _, rfl⟩, [], rfl, ?_⟩
  · rintro d rest env st1 ⟨hd, ⟨a, b, c, e, rfl⟩, ms, rfl, hlen⟩
    obtain ⟨k, rfl⟩ := hd d List.mem_cons_self
    have hrest : ∀ d ∈ rest, ∃ k : Nat, d = nI k := fun d h => hd d (List.mem_cons_of_mem _ h)
    rw [List.length_cons] at hlen
    refine ⟨[none, some (.int i), some (.int j), some (.ref st.length), some (nI k), b, c, e], rfl, fun K hnx hct hrt hbk => ?_⟩
    refine ⟨nI k, rfl, (k : Int), rfl, by omega, fun v => ⟨_, rfl, ?_⟩⟩
    have go : ∀ v : Int, sIf (xbOf (bV (mOp fGe (mVar 5) (mOp fPow (mC (.int 10)) (mC (.int 18)))))) (sFor (xiOf (iRng (mC (.int 60)))) (tgN 6) (sIf (xbOf (bV (mOp fGt (mVar 5) (mC (.int 0))))) (sSeq (sAppP (mVar 3) (xOf (mOp fMod (mF1 fInt (mVar 5)) (mC (.int 1000))))) (sAsg (xOf (mOp fDiv (mVar 5) (mC (.int 1000)))) (tgN 5))) sNext)) (sSeq (sAsg (xOf (mOp fMod (mF1 fInt (mOp fAdd (mOp fAdd (mOp fMul (mVar 5) (mC (.int 48271))) (mOp fMul (mVar 4) (mC (.int 69621)))) (mC (.int 11)))) (mC (.int 2147483647)))) (tgN 7)) (sFor (xiOf (iRng (mC (.int 12)))) (tgN 6) (sSeq (sAsg (xOf (mOp fMod (mF1 fInt (mOp fAdd (mOp fAdd (mOp fMul (mVar 7) (mC (.int 16807))) (mOp fMul (mC (.int 7)) (mVar 6))) (mC (.int 1)))) (mC (.int 2147483647)))) (tgN 7)) (sAppP (mVar 3) (xOf (mOp fMod (mF1 fInt (mOp fDiv (mVar 7) (mC (.int 997)))) (mC (.int 1000)))))))) K [none, some (.int i), some (.int j), some (.ref st.length), some (nI k), some (.int v), c, e] (st ++ [.lst (ms.map D.int)]) := by
      intro v
      refine ⟨decide (v ≥ 10 ^ 18), ?_, ite2 (fun _ => ?_) fun _ => ?_⟩
      · rfl
      · refine ⟨intsD 0 60, none, rfl, ?_⟩
        refine for_inv (fun r2 env st1 => (∃ v c e, env = [none, some (.int i), some (.int j), some (.ref st.length), some (nI k), some (.int v), c, e]) ∧ ∃ ms2 : List Int, st1 = st ++ [.lst (ms2.map D.int)] ∧ ms2.length + r2.length + 60 * rest.length ≤ 60000) ?_ ?_ _ _ _ ⟨⟨v, c, e, rfl⟩, ms, rfl, by rw [intsD_len]; omega⟩
        · rintro d2 r2 env st1 ⟨⟨v, c, e, rfl⟩, ms2, rfl, hl2⟩
          rw [List.length_cons] at hl2
          refine ⟨_, rfl, fun K2 hnx2 hct2 hrt2 hbk2 => ?_⟩
          refine ⟨decide (v > 0), rfl, ite2 (fun _ => ?_) fun _ => hnx2 _ _ ⟨⟨_, _, _, rfl⟩, ms2, rfl, by omega⟩⟩
          refine ⟨st.length, _, rfl, app ms2, .int (v % 1000), rfl, _, app ms2, by rw [List.length_map]; omega, ?_⟩
          refine ⟨.int (v / 1000), rfl, _, rfl, ?_⟩
          rw [sets]
          exact hnx2 _ _ ⟨⟨_, _, _, rfl⟩, _, rfl, by rw [List.length_append, List.length_singleton]; omega⟩
        · rintro env st1 ⟨⟨v, c, e, rfl⟩, ms2, rfl, hl2⟩
          exact hnx _ _ ⟨hrest, ⟨_, _, _, _, rfl⟩, ms2, rfl, by simpa using hl2⟩
      · refine ⟨.int ((v * 48271 + (k : Int) * 69621 + 11) % 2147483647), by simp [mOp, mVar, mC, mF1, fInt, fMod, fAdd, fMul, fI, nI], _, rfl, ?_⟩
        refine ⟨intsD 0 12, none, rfl, ?_⟩
        refine for_inv (fun r2 env st1 => (∀ d ∈ r2, ∃ k : Nat, d = nI k) ∧ (∃ s v c, env = [none, some (.int i), some (.int j), some (.ref st.length), some (nI k), some (.int v), c, some (.int s)]) ∧ ∃ ms2 : List Int, st1 = st ++ [.lst (ms2.map D.int)] ∧ ms2.length + r2.length + 60 * rest.length ≤ 60000) ?_ ?_ _ _ _ ⟨?_, ⟨_, v, c, rfl⟩, ms, rfl, by rw [intsD_len]; omega⟩
        · rintro d2 r2 env st1 ⟨hd2, ⟨s, v, c, rfl⟩, ms2, rfl, hl2⟩
          obtain ⟨k2, rfl⟩ := hd2 d2 List.mem_cons_self
          rw [List.length_cons] at hl2
          refine ⟨_, rfl, fun K2 hnx2 hct2 hrt2 hbk2 => ?_⟩
          refine ⟨.int ((s * 16807 + 7 * (k2 : Int) + 1) % 2147483647), by simp [mOp, mVar, mC, mF1, fInt, fMod, fAdd, fMul, fI, nI], _, rfl, ?_⟩
          refine ⟨st.length, _, rfl, app ms2, .int (((s * 16807 + 7 * (k2 : Int) + 1) % 2147483647) / 997 % 1000), rfl, _, app ms2, by rw [List.length_map]; omega, ?_⟩
          rw [sets]
          exact hnx2 _ _ ⟨fun d h => hd2 d (List.mem_cons_of_mem _ h), ⟨_, _, _, rfl⟩, _, rfl, by rw [List.length_append, List.length_singleton]; omega⟩
        · rintro env st1 ⟨_, ⟨s, v, c, rfl⟩, ms2, rfl, hl2⟩
          exact hnx _ _ ⟨hrest, ⟨_, _, _, _, rfl⟩, ms2, rfl, by simpa using hl2⟩
        · intro d hd
          have hd : d ∈ intsD 0 12 := hd
          rw [intsD0] at hd
          obtain ⟨k, _, e⟩ := List.mem_map.mp hd
          exact ⟨k, e.symm⟩
    refine ⟨decide (v < 0), rfl, ite2 (fun _ => ?_) fun _ => go v⟩
    exact ⟨.int (1 - 2 * v), rfl, _, rfl, go _⟩
  · rintro env st1 ⟨_, ⟨a, b, c, e, rfl⟩, ms, rfl, _⟩
    exact ⟨.ref st.length, rfl, hR ms⟩
  · intro d hd
    unfold intsD at hd
    obtain ⟨k, _, rfl⟩ := List.mem_map.mp hd
    exact ⟨i + k, by unfold nI; simp⟩
  · rw [intsD_len]
    simp
    omega
theorem box_ok (ns : List Int) (ds : List D) (st : SS) (R : D → SS → Prop) (h : boxT ns ds st R) : fnS N_law_box 3 X_law_box ns ds st R := by
  obtain ⟨i, j, rfl, hij, hj, hR⟩ := h
  refine ⟨rfl, ?_⟩
  show X_law_box ns _ [none, some (.int i), some (.int j)] st
  refine ⟨.int i, rfl, .int j, rfl, i, j, rfl, hij, hj, fun ms => ?_⟩
  refine ⟨.int 0, rfl, by show 2 ≤ 1000; decide, ?_⟩
  refine hR _ _ (by simp) (by simp) (fun m hm => ?_) ⟨st.length, 0, ms, ?_, ?_, ?_⟩
  · rw [List.append_assoc, List.getElem?_append_left hm]
  · rw [List.getElem?_append_right (Nat.le_refl _), Nat.sub_self]
    rfl
  · simp
  · simp
end GD

set_option Elab.async false
set_option linter.all false
set_option maxRecDepth 100000
set_option maxHeartbeats 4000000
namespace GD
open PySem PySem.Spec PyProof.Rows L2 GX

/-! ## 12. the word that compares -/
def D.fit : Nat → D → Bool
  | _, .non => true
  | _, .bl _ => true
  | _, .int _ => true
  | _, .str x => D.good (.str x)
  | 0, .tup _ => false
  | n + 1, .tup l => decide (l.length ≤ 1000000) && l.all (D.fit n)
  | _, .ref _ => false
def sameB : Nat → D → D → Bool
  | _, a, .non => match a with | .non => true | _ => false
  | _, a, .bl b => match a with | .bl c => c == b | _ => false
  | _, a, .int b => match a with | .int c => decide (c = b) | _ => false
  | _, a, .str b => match a with | .str c => c == b | _ => false
  | 0, _, .tup _ => false
  | n + 1, a, .tup l => match a with | .tup k => decide (k.length = l.length) && (k.zip l).all fun p => sameB n p.1 p.2 | _ => false
  | _, _, .ref _ => false
theorem zip_self {α : Type} : ∀ l : List α, l.zip l = l.map fun x => (x, x)
  | [] => rfl
  | x :: xs => by rw [List.zip_cons_cons, zip_self xs]; rfl
theorem same_refl : ∀ (n : Nat) (d : D), D.fit n d = true → sameB n d d = true
  | _, .non, _ => by unfold sameB; rfl
  | _, .bl b, _ => by unfold sameB; simp
  | _, .int i, _ => by unfold sameB; simp
  | _, .str x, _ => by unfold sameB; simp
  | 0, .tup l, h => by unfold D.fit at h; cases h
  | n + 1, .tup l, h => by
    unfold D.fit at h
    rw [Bool.and_eq_true] at h
    unfold sameB
    simp only [decide_true, Bool.true_and]
    rw [zip_self, List.all_map, List.all_eq_true]
    exact fun x hx => same_refl n x (List.all_eq_true.mp h.2 x hx)
  | _, .ref _, h => by unfold D.fit at h; cases h
def sameFn (n : Nat) : List D → SS → Option D := fun ds _ => match ds with
  | [a, e] => if D.fit n a = true ∧ D.fit n e = true then some (.bl (sameB n a e)) else none
  | _ => none
def sameF : List D → SS → Option D := sameFn 8
theorem sameF_refl {d : D} {st : SS} (h : D.fit 8 d = true) : sameF [d, d] st = some (.bl true) := by
  show (if D.fit 8 d = true ∧ D.fit 8 d = true then some (D.bl (sameB 8 d d)) else none) = _
  rw [if_pos ⟨h, h⟩, same_refl _ _ h]
-- the names: GD11
theorem kk (s T : String) (b : Bool) (h : kitB s T = some b) (st : SS) (d : D) (hd : d.kind st = some s) : fIs T st d = some (.bl b) := by
  unfold fIs
  rw [hd]
  simp only [h]
section
variable {r u : RS} {c : MB} {env e1 : EV} {st : SS} {d : D}
theorem rSeq_nx (h : r env st = some (.nx e1)) : rSeq r u env st = u e1 st := by unfold rSeq; rw [h]
theorem rSeq_rt (h : r env st = some (.rt d)) : rSeq r u env st = some (.rt d) := by unfold rSeq; rw [h]
theorem rIf_t (h : c env st = some true) : rIf c r u env st = r env st := by unfold rIf; rw [h]
theorem rIf_f (h : c env st = some false) : rIf c r u env st = u env st := by unfold rIf; rw [h]
theorem rRet_e {m : MP} (h : m env st = some d) : rRet m env st = some (.rt d) := by unfold rRet; rw [h]
theorem rAsg_e {m : MP} {t : MT} (h : m env st = some d) (ht : t d env = some e1) : rAsg m t env st = some (.nx e1) := by unfold rAsg; rw [h]; simp only [ht]
end
theorem eqI (i j : Int) (st : SS) : fEq st (.int i) (.int j) = some (.bl (decide (i = j))) := rfl
theorem neI (i j : Int) (st : SS) : fNe st (.int i) (.int j) = some (.bl (!decide (i = j))) := rfl
theorem eqB (i j : Bool) (st : SS) : fEq st (.bl i) (.bl j) = some (.bl (i == j)) := by cases i <;> cases j <;> rfl
theorem eqS (i j : Str) (st : SS) (hi : D.good (.str i) = true) (hj : D.good (.str j) = true) : fEq st (.str i) (.str j) = some (.bl (i == j)) := if_pos ⟨hi, hj⟩
theorem isV {s T : String} {b : Bool} (h : kitB s T = some b) {i : Nat} {env : EV} {st : SS} {d : D} (he : env[i]? = some (some d)) (hd : d.kind st = some s) : mF1 (fIs T) (mVar i) env st = some (.bl b) := by
  unfold mF1 mVar
  simp only [he]
  exact kk s T b h st d hd
theorem isVb {s T : String} {b : Bool} (h : kitB s T = some b) {i : Nat} {env : EV} {st : SS} {d : D} (he : env[i]? = some (some d)) (hd : d.kind st = some s) : bV (mF1 (fIs T) (mVar i)) env st = some b := by
  unfold bV
  rw [isV h he hd]
theorem k1 : kitB "NoneType" "tuple" = some false := by decide +kernel
theorem k2 : kitB "bool" "tuple" = some false := by decide +kernel
theorem k3 : kitB "int" "tuple" = some false := by decide +kernel
theorem k4 : kitB "str" "tuple" = some false := by decide +kernel
theorem k5 : kitB "tuple" "tuple" = some true := by decide +kernel
theorem k11 : kitB "NoneType" "bool" = some false := by decide +kernel
theorem k12 : kitB "bool" "bool" = some true := by decide +kernel
theorem k13 : kitB "int" "bool" = some false := by decide +kernel
theorem k14 : kitB "str" "bool" = some false := by decide +kernel
theorem k15 : kitB "tuple" "bool" = some false := by decide +kernel
theorem k21 : kitB "NoneType" "int" = some false := by decide +kernel
theorem k22 : kitB "bool" "int" = some true := by decide +kernel
theorem k23 : kitB "int" "int" = some true := by decide +kernel
theorem k24 : kitB "str" "int" = some false := by decide +kernel
theorem k25 : kitB "tuple" "int" = some false := by decide +kernel
theorem k31 : kitB "NoneType" "str" = some false := by decide +kernel
theorem k32 : kitB "bool" "str" = some false := by decide +kernel
theorem k33 : kitB "int" "str" = some false := by decide +kernel
theorem k34 : kitB "str" "str" = some true := by decide +kernel
theorem k35 : kitB "tuple" "str" = some false := by decide +kernel
theorem mAnd_t {a b : MP} {env : EV} {st : SS} (h : a env st = some (.bl true)) : mAnd a b env st = b env st := by unfold mAnd; rw [h]
theorem mAnd_f {a b : MP} {env : EV} {st : SS} (h : a env st = some (.bl false)) : mAnd a b env st = some (.bl false) := by unfold mAnd; rw [h]
theorem same_loop {n : Nat} {k l : List D} {st : SS} (hk : ∀ x ∈ k, D.fit n x = true) (hl : ∀ x ∈ l, D.fit n x = true) (hlen : k.length = l.length) :
    ∀ (m i : Nat) (x : Option D), i + m = l.length → rForGo (tgN 2) (rIf (bNot (bV (mCall (sameFn n) (mCons (mOp fIx (mVar 0) (mVar 2)) (mCons (mOp fIx (mVar 1) (mVar 2)) mNil))))) (rRet (mC (.bl false))) rNext) st ((List.range' i m).map nI) [some (.tup k), some (.tup l), x] =
      some (if ((k.drop i).zip (l.drop i)).all (fun p => sameB n p.1 p.2) = true then .nx [some (.tup k), some (.tup l), if m = 0 then x else some (nI (i + m - 1))] else .rt (.bl false))
  | 0, i, x, h => by
    have e : l.drop i = [] := List.drop_eq_nil_of_le (by omega)
    rw [e, List.zip_nil_right]
    rfl
  | m + 1, i, x, h => by
    have hi : i < l.length := by omega
    have hik : i < k.length := by omega
    have e1 : ∀ (ds : List D) (hd : i < ds.length), atI ds (i : Int) = some ds[i] := fun ds hd => by rw [atI_nat, List.getElem?_eq_getElem hd]
    have ev : bNot (bV (mCall (sameFn n) (mCons (mOp fIx (mVar 0) (mVar 2)) (mCons (mOp fIx (mVar 1) (mVar 2)) mNil)))) [some (.tup k), some (.tup l), some (nI i)] st = some (!sameB n k[i] l[i]) := by
      have f1 : D.fit n k[i] = true := hk _ (List.getElem_mem _)
      have f2 : D.fit n l[i] = true := hl _ (List.getElem_mem _)
      simp [bNot, bV, mCall, mCons, mNil, mOp, mVar, fIx, seqOf, nI, e1 k hik, e1 l hi, sameFn, f1, f2]
    rw [List.range'_succ, List.map_cons, rForGo]
    show (match (match rIf _ _ _ [some (.tup k), some (.tup l), some (nI i)] st with | some (.nx e) => _ | some (.ct e) => _ | some (.bk e) => _ | some (.rt d) => _ | none => _ : Option Rs) with | x => x) = _
    rw [List.drop_eq_getElem_cons hi, List.drop_eq_getElem_cons hik, List.zip_cons_cons, List.all_cons]
    cases hs : sameB n k[i] l[i] with
    | false =>
      rw [hs] at ev
      rw [rIf_t ev]
      rfl
    | true =>
      rw [hs] at ev
      rw [rIf_f ev]
      have q := same_loop (st := st) hk hl hlen m (i + 1) (some (nI i)) (by omega)
      simp only [rNext, Bool.true_and]
      rw [q]
      by_cases hm : m = 0
      · subst hm
        simp
      · simp [hm]
        try (have : i + 1 + m - 1 = i + (m + 1) - 1 := by omega)
        try rw [this]
        try rfl
theorem same_step {n : Nat} {F : List D → SS → Option D} (hF : ∀ m, n = m + 1 → F = sameFn m) (ds : List D) (st : SS) (d : D) (h : sameFn n ds st = some d) : fnR N_law_same 2 (R_law_same F) ds st = some d := by
  match ds, h with
  | [a, e], h =>
  have h : (if D.fit n a = true ∧ D.fit n e = true then some (D.bl (sameB n a e)) else none) = some d := h
  split at h
  · rename_i hf
    cases h
    obtain ⟨fa, fe⟩ := hf
    have key : R_law_same F [some a, some e, none] st = some (.rt (.bl (sameB n a e))) := by
      unfold R_law_same
      have isN : ∀ {x y : D}, fIsN st x .non = some (.bl x.isN) := rfl
      cases e with
      | tup l =>
       cases n with
       | zero => unfold D.fit at fe; cases fe
       | succ n =>
        rw [hF n rfl]
        have c1 := isVb (st := st) (i := 1) (env := [some a, some (.tup l), none]) k5 rfl rfl
        cases a with
        | tup k =>
          refine rSeq_rt ((rIf_t c1).trans ?_)
          have c2 := isVb (st := st) (i := 0) (env := [some (.tup k), some (.tup l), none]) k5 rfl rfl
          by_cases hlen : k.length = l.length
          · have c3 : bOr (bNot (bV (mF1 (fIs "tuple") (mVar 0)))) (bV (mOp fNe (mF1 fLen (mVar 0)) (mF1 fLen (mVar 1)))) [some (.tup k), some (.tup l), none] st = some false := by
              have c4 : bV (mOp fNe (mF1 fLen (mVar 0)) (mF1 fLen (mVar 1))) [some (.tup k), some (.tup l), none] st = some false := by
                simp [bV, mOp, mF1, mVar, fLen, seqOf, neI, hlen]
              unfold bOr bNot
              rw [c2]
              exact c4
            refine (rSeq_nx (rIf_f c3)).trans ?_
            unfold D.fit at fa fe
            rw [Bool.and_eq_true] at fa fe
            have hk := List.all_eq_true.mp fa.2
            have hl := List.all_eq_true.mp fe.2
            have hle : l.length ≤ 1000000 := of_decide_eq_true fe.1
            have loop := same_loop (st := st) hk hl hlen l.length 0 none (by simp)
            have it : iRng (mF1 fLen (mVar 1)) [some (.tup k), some (.tup l), none] st = some ((List.range' 0 l.length).map nI, none) := by
              have e : iRng (mF1 fLen (mVar 1)) [some (.tup k), some (.tup l), none] st = if (l.length : Int) ≤ 1000000 ∧ -1000000 ≤ (l.length : Int) then some (intsD 0 ((l.length : Int)).toNat, none) else none := rfl
              rw [e, if_pos ⟨by omega, by omega⟩, intsD0, ← List.range_eq_range']
              rfl
            have f : ∀ (r : RS), rFor (iRng (mF1 fLen (mVar 1))) (tgN 2) r [some (.tup k), some (.tup l), none] st = rForGo (tgN 2) r st ((List.range' 0 l.length).map nI) [some (.tup k), some (.tup l), none] := fun r => by
              unfold rFor
              rw [it]
            have sB : sameB (n + 1) (.tup k) (.tup l) = (k.zip l).all fun p => sameB n p.1 p.2 := by
              show (decide (k.length = l.length) && _) = _
              rw [decide_eq_true hlen, Bool.true_and]
            rw [sB]
            rw [List.drop_zero, List.drop_zero] at loop
            cases hz : (k.zip l).all fun p => sameB n p.1 p.2 with
            | true =>
              rw [hz] at loop
              exact (rSeq_nx ((f _).trans loop)).trans rfl
            | false =>
              rw [hz] at loop
              exact rSeq_rt ((f _).trans loop)
          · have c3 : bOr (bNot (bV (mF1 (fIs "tuple") (mVar 0)))) (bV (mOp fNe (mF1 fLen (mVar 0)) (mF1 fLen (mVar 1)))) [some (.tup k), some (.tup l), none] st = some true := by
              have c4 : bV (mOp fNe (mF1 fLen (mVar 0)) (mF1 fLen (mVar 1))) [some (.tup k), some (.tup l), none] st = some true := by
                have : ¬ ((k.length : Int) = (l.length : Int)) := by omega
                simp [bV, mOp, mF1, mVar, fLen, seqOf, neI, this, hlen]
              unfold bOr bNot
              rw [c2]
              exact c4
            refine (rSeq_rt ((rIf_t c3).trans (rRet_e rfl))).trans ?_
            show _ = some (Rs.rt (.bl (decide (k.length = l.length) && _)))
            rw [decide_eq_false hlen]
            rfl
        | ref m => cases n <;> simp [D.fit] at fa
        | non => exact rSeq_rt ((rIf_t c1).trans (rSeq_rt ((rIf_t (by unfold bOr bNot; rw [isVb (i := 0) k1 rfl rfl]; rfl)).trans (rRet_e rfl))))
        | bl b => exact rSeq_rt ((rIf_t c1).trans (rSeq_rt ((rIf_t (by unfold bOr bNot; rw [isVb (i := 0) k2 rfl rfl]; rfl)).trans (rRet_e rfl))))
        | int b => exact rSeq_rt ((rIf_t c1).trans (rSeq_rt ((rIf_t (by unfold bOr bNot; rw [isVb (i := 0) k3 rfl rfl]; rfl)).trans (rRet_e rfl))))
        | str b => exact rSeq_rt ((rIf_t c1).trans (rSeq_rt ((rIf_t (by unfold bOr bNot; rw [isVb (i := 0) k4 rfl rfl]; rfl)).trans (rRet_e rfl))))
      | ref m => cases n <;> simp [D.fit] at fe
      | non =>
        refine (rSeq_nx (rIf_f (isVb (i := 1) k1 rfl rfl))).trans ?_
        refine rSeq_rt ((rIf_t rfl).trans (rRet_e ?_))
        cases a <;> cases n <;> rfl
      | bl b =>
        refine (rSeq_nx (rIf_f (isVb (i := 1) k2 rfl rfl))).trans ?_
        refine (rSeq_nx (rIf_f rfl)).trans ?_
        refine rSeq_rt ((rIf_t (isVb (i := 1) k12 rfl rfl)).trans (rRet_e ?_))
        cases a with
        | bl c => exact ((mAnd_t (isV (i := 0) k12 rfl rfl)).trans (eqB c b st)).trans (by cases n <;> rfl)
        | non => exact (mAnd_f (isV (i := 0) k11 rfl rfl)).trans (by cases n <;> rfl)
        | int c => exact (mAnd_f (isV (i := 0) k13 rfl rfl)).trans (by cases n <;> rfl)
        | str c => exact (mAnd_f (isV (i := 0) k14 rfl rfl)).trans (by cases n <;> rfl)
        | tup c => exact (mAnd_f (isV (i := 0) k15 rfl rfl)).trans (by cases n <;> rfl)
        | ref m => cases n <;> simp [D.fit] at fa
      | int b =>
        refine (rSeq_nx (rIf_f (isVb (i := 1) k3 rfl rfl))).trans ?_
        refine (rSeq_nx (rIf_f rfl)).trans ?_
        refine (rSeq_nx (rIf_f (isVb (i := 1) k13 rfl rfl))).trans ?_
        refine rSeq_rt ((rIf_t (isVb (i := 1) k23 rfl rfl)).trans (rRet_e ?_))
        have nb : ∀ (x : D) (r : Bool), mF1 (fIs "bool") (mVar 0) [some x, some (.int b), none] st = some (.bl r) → mNot (mF1 (fIs "bool") (mVar 0)) [some x, some (.int b), none] st = some (.bl (!r)) := fun x r h => by unfold mNot; rw [h]
        cases a with
        | int c => exact ((mAnd_t (isV (i := 0) k23 rfl rfl)).trans ((mAnd_t (nb _ _ (isV (i := 0) k13 rfl rfl))).trans (eqI c b st))).trans (by cases n <;> rfl)
        | bl c => exact ((mAnd_t (isV (i := 0) k22 rfl rfl)).trans (mAnd_f (nb _ _ (isV (i := 0) k12 rfl rfl)))).trans (by cases n <;> rfl)
        | non => exact (mAnd_f (isV (i := 0) k21 rfl rfl)).trans (by cases n <;> rfl)
        | str c => exact (mAnd_f (isV (i := 0) k24 rfl rfl)).trans (by cases n <;> rfl)
        | tup c => exact (mAnd_f (isV (i := 0) k25 rfl rfl)).trans (by cases n <;> rfl)
        | ref m => cases n <;> simp [D.fit] at fa
      | str b =>
        refine (rSeq_nx (rIf_f (isVb (i := 1) k4 rfl rfl))).trans ?_
        refine (rSeq_nx (rIf_f rfl)).trans ?_
        refine (rSeq_nx (rIf_f (isVb (i := 1) k14 rfl rfl))).trans ?_
        refine (rSeq_nx (rIf_f (isVb (i := 1) k24 rfl rfl))).trans ?_
        refine rRet_e ?_
        cases a with
        | str c => exact ((mAnd_t (isV (i := 0) k34 rfl rfl)).trans (eqS c b st (by unfold D.fit at fa; exact fa) (by unfold D.fit at fe; exact fe))).trans (by cases n <;> rfl)
        | non => exact (mAnd_f (isV (i := 0) k31 rfl rfl)).trans (by cases n <;> rfl)
        | bl c => exact (mAnd_f (isV (i := 0) k32 rfl rfl)).trans (by cases n <;> rfl)
        | int c => exact (mAnd_f (isV (i := 0) k33 rfl rfl)).trans (by cases n <;> rfl)
        | tup c => exact (mAnd_f (isV (i := 0) k35 rfl rfl)).trans (by cases n <;> rfl)
        | ref m => cases n <;> simp [D.fit] at fa
    show (if 2 = 2 then (match R_law_same F [some a, some e, none] st with | some (.rt d) => if D.lo st.length d = true then some d else none | some (.nx _) => some .non | _ => none) else none) = _
    rw [key]
    rfl
  · cases h
theorem DefP.imp {P : Program} {wl : World} {w : Ws} {mg : Str → Option Value} {k : Nat} {x : Str} {F F' : List D → SS → Option D} (c : DefP P wl w mg k x F) (h : ∀ ds st d, F' ds st = some d → F ds st = some d) : DefP P wl w mg k x F' := by
  obtain ⟨f, fd, ps, hF, r⟩ := c.ex
  exact ⟨f, fd, ps, hF.imp fun vs H Q E ⟨ι, st, ds, d, r, s, hd, q⟩ => ⟨ι, st, ds, d, r, s, h _ _ _ hd, q⟩, r⟩
theorem DefC.none {P : Program} {wl : World} {w : Ws} {mg : Str → Option Value} {x : Str} {st : Stmt} {N ps : List Str} {k : Nat} (F : DefC w mg x st) (S : FnScope N ps (defScope st))
    (hb : ∀ (kV doc pm : Value) (an : Option Addr) (cdv ct : Value) (us : List Value), us.length = ps.length → bindArgs (PySem.W.fnOf x x (defArgs st) (defBody st) (defScope st) .none kV doc pm an cdv ct) ⟨us, []⟩ = pure (ps.zip us)) : DefP P wl w mg (k + 1) x (fun _ _ => Option.none) := by
  have q : DefX P wl w mg (k + 1) x (fnT N ps.length fun _ _ _ => False) := DefC.x F S hb fun f c A outer s H E hr hf => PSs.mo pss_never fun E σ H ⟨_, _, _, _, _, _, h, _⟩ => h.elim
  exact q.toP fun ds st d h => by cases h
/-- the comparing word, to the depth that all laws need; step: its walk -/
theorem same_def {P : Program} {wl : World} {w : Ws} {mg : Str → Option Value} (step : ∀ {k : Nat} {F : List D → SS → Option D}, DefP P wl w mg (k + 1) "_law_same" F → DefP P wl w mg (k + 2) "_law_same" (fnR N_law_same 2 (R_law_same F)))
    (base : DefP P wl w mg 1 "_law_same" fun _ _ => Option.none) : DefP P wl w mg 12 "_law_same" sameF := by
  have all : ∀ n, DefP P wl w mg (n + 2) "_law_same" (sameFn n) := by
    intro n
    induction n with
    | zero => exact DefP.imp (step base) fun ds st d h => same_step (n := 0) (fun m e => by cases e) ds st d h
    | succ n ih => exact DefP.imp (step (k := n + 1) ih) fun ds st d h => same_step (n := n + 1) (fun m e => by cases e; rfl) ds st d h
  exact (all 8).mono (by decide)
end GD

set_option Elab.async false
set_option linter.all false
set_option maxRecDepth 100000
set_option maxHeartbeats 4000000
namespace GD
open PySem PySem.Spec PyProof.Rows L2 GX
/-! ## 13. computing the mirrors -/
theorem fnR_rt {N : List Str} {n : Nat} {r : RS} {ds : List D} {st : SS} {d : D} (hl : ds.length = n) (h : r (startE N ds) st = some (.rt d)) (lo : D.lo st.length d = true) : fnR N n r ds st = some d := by
  unfold fnR
  rw [if_pos hl, h]
  show (if D.lo st.length d = true then some d else none) = _
  rw [if_pos lo]
theorem allGo_map {α : Type} {t : MT} {b : MB} {m : MP} {env : EV} {st : SS} {f : α → D} {p : α → Bool} : ∀ (l : List α), (∀ a ∈ l, ∃ env1, t (f a) env = some env1 ∧ b env1 st = some true ∧ m env1 st = some (.bl (p a))) → allGo t b m env st false (l.map f) = some (l.all p)
  | [], _ => rfl
  | a :: l, h => by
    obtain ⟨env1, h1, h2, h3⟩ := h a List.mem_cons_self
    rw [List.map_cons, allGo, h1]
    simp only [h2, h3]
    rw [allGo_map l fun a ha => h a (List.mem_cons_of_mem _ ha), List.all_cons]
    cases p a <;> rfl
theorem anyGo_map {α : Type} {t : MT} {b : MB} {m : MP} {env : EV} {st : SS} {f : α → D} {p : α → Bool} : ∀ (l : List α), (∀ a ∈ l, ∃ env1, t (f a) env = some env1 ∧ b env1 st = some true ∧ m env1 st = some (.bl (p a))) → allGo t b m env st true (l.map f) = some (l.any p)
  | [], _ => rfl
  | a :: l, h => by
    obtain ⟨env1, h1, h2, h3⟩ := h a List.mem_cons_self
    rw [List.map_cons, allGo, h1]
    simp only [h2, h3]
    rw [anyGo_map l fun a ha => h a (List.mem_cons_of_mem _ ha), List.any_cons]
    cases p a <;> rfl
theorem fGo_map {α : Type} {t : MT} {b : MB} {m : MP} {env : EV} {st : SS} {f : α → D} {p : α → Bool} {g : α → D} : ∀ (l : List α), (∀ a ∈ l, ∃ env1, t (f a) env = some env1 ∧ b env1 st = some (p a) ∧ (p a = true → m env1 st = some (g a))) → fGo t b m env st (l.map f) = some ((l.filter p).map g)
  | [], _ => rfl
  | a :: l, h => by
    obtain ⟨env1, h1, h2, h3⟩ := h a List.mem_cons_self
    rw [List.map_cons, fGo, h1]
    simp only [h2]
    have q := fGo_map l fun a ha => h a (List.mem_cons_of_mem _ ha)
    cases hp : p a with
    | true =>
      simp only [h3 hp]
      rw [q, List.filter_cons_of_pos hp]
      rfl
    | false =>
      simp only
      rw [q, List.filter_cons_of_neg (by rw [hp]; decide)]
theorem lo_nI (n k : Nat) : D.lo n (nI k) = true := rfl
theorem lo_map {α : Type} {n : Nat} {f : α → D} (h : ∀ a, D.lo n (f a) = true) : ∀ l : List α, D.loAll n (l.map f) = true
  | [] => rfl
  | a :: l => by rw [List.map_cons, D.loAll, h a, lo_map h l]; rfl
theorem lo_dN (n : Nat) (l : List Nat) : D.lo n (dN l) = true := by unfold dN D.lo; exact lo_map (lo_nI n) l
theorem pys_nI : ∀ l : List Nat, D.pys (l.map nI) = l.map fun (k : Nat) => PyData.int (k : Int)
  | [] => rfl
  | a :: l => by rw [List.map_cons, D.pys, pys_nI l]; rfl
theorem imm_nI : ∀ l : List Nat, D.imms (l.map nI) = true
  | [] => rfl
  | a :: l => by rw [List.map_cons, D.imms, imm_nI l]; rfl
theorem lay_ints : ∀ l : List Nat, PyData.canLayAll0 (l.map fun (k : Nat) => PyData.int (k : Int)) = true
  | [] => rfl
  | a :: l => by rw [List.map_cons, PyData.canLayAll0, lay_ints l]; rfl
theorem dep_ints : ∀ l : List Nat, PyData.depthAll (l.map fun (k : Nat) => PyData.int (k : Int)) ≤ 1
  | [] => by unfold PyData.depthAll; decide
  | a :: l => by
    have q := dep_ints l
    rw [List.map_cons, PyData.depthAll]
    have e : PyData.depth (PyData.int (a : Int)) ≤ 1 := by unfold PyData.depth; decide
    omega
theorem good_dN (l : List Nat) : D.good (dN l) = true := by
  unfold D.good dN D.imm D.py SeqAt.shaped
  rw [imm_nI, pys_nI, Bool.true_and, Bool.and_eq_true]
  refine ⟨?_, decide_eq_true ?_⟩
  · unfold PyData.canLay0; exact lay_ints l
  · have := dep_ints l
    unfold PyData.depth
    omega
theorem good_nI (k : Nat) : D.good (nI k) = true := rfl
theorem inD_nI (k : Nat) (l : List Nat) : inD (nI k) (l.map nI) = l.contains k := by
  unfold inD
  rw [pys_nI, List.any_map]
  induction l with
  | nil => rfl
  | cons a l ih =>
    rw [List.any_cons, List.contains_cons, ih]
    congr 1
    show ((a : Int) == (k : Int)) = (k == a)
    rw [Bool.eq_iff_iff, beq_iff_eq, beq_iff_eq]
    constructor <;> intro h <;> omega
theorem fIn_nI (st : SS) (k : Nat) (l : List Nat) : fIn st (nI k) (dN l) = some (.bl (l.contains k)) := by
  have g : D.good (.tup (l.map nI)) = true := good_dN l
  show (if D.good (nI k) = true ∧ D.good (.tup (l.map nI)) = true then some (D.bl (inD (nI k) (l.map nI))) else none) = _
  rw [if_pos ⟨good_nI k, g⟩, inD_nI]
theorem fNotIn_nI (st : SS) (k : Nat) (l : List Nat) : fNotIn st (nI k) (dN l) = some (.bl (!l.contains k)) := by
  have g : D.good (.tup (l.map nI)) = true := good_dN l
  show (if D.good (nI k) = true ∧ D.good (.tup (l.map nI)) = true then some (D.bl (!inD (nI k) (l.map nI))) else none) = _
  rw [if_pos ⟨good_nI k, g⟩, inD_nI]
theorem fIx_map {α : Type} (st : SS) (f : α → D) (l : List α) (i : Nat) {a : α} (h : l[i]? = some a) : fIx st (.tup (l.map f)) (nI i) = some (f a) := by
  show atI (l.map f) (i : Int) = _
  rw [atI_nat, List.getElem?_map, h]
  rfl
theorem rowD (rows : List (List Nat)) {i : Nat} (h : i < rows.length) : rows[i]? = some (rows.getD i []) := by
  rw [List.getD_eq_getElem?_getD, List.getElem?_eq_getElem h]
  rfl
theorem enumD_rows (rows : List (List Nat)) : enumD (rows.map dN) = (List.range rows.length).map fun i => .tup [nI i, dN (rows.getD i [])] := by
  apply List.ext_getElem?
  intro i
  by_cases h : i < rows.length
  · rw [enumD_get (d := dN (rows.getD i [])) (by rw [List.getElem?_map, rowD rows h]; rfl), List.getElem?_map, List.getElem?_range h]
    rfl
  · rw [List.getElem?_eq_none (by rw [enumD_len, List.length_map]; omega), List.getElem?_eq_none (by simp; omega)]
theorem iRng_nat {m : MP} {env : EV} {st : SS} {n : Nat} (h : m env st = some (nI n)) (hn : n ≤ 1000000) : iRng m env st = some ((List.range n).map nI, none) := by
  unfold iRng
  rw [h]
  show (if (n : Int) ≤ 1000000 ∧ -1000000 ≤ (n : Int) then some (intsD 0 ((n : Int)).toNat, none) else none) = _
  rw [if_pos ⟨by omega, by omega⟩, intsD0]
  rfl
theorem fit_dN {l : List Nat} (h : l.length ≤ 1000000) (n : Nat) : D.fit (n + 1) (dN l) = true := by
  unfold dN D.fit
  rw [Bool.and_eq_true, List.length_map]
  refine ⟨decide_eq_true h, ?_⟩
  rw [List.all_map, List.all_eq_true]
  intro x _
  show D.fit n (nI x) = true
  cases n <;> rfl
section
variable {env : EV} {st : SS} {d x y : D} {ds : List D} {m : MP} {r : ML}
theorem mCons_e (h : m env st = some d) (k : r env st = some ds) : mCons m r env st = some (d :: ds) := by unfold mCons; rw [h, k]
theorem mCons1 (h : m env st = some d) : mCons m mNil env st = some [d] := mCons_e h rfl
theorem mCall_e {F : List D → SS → Option D} (h : r env st = some ds) : mCall F r env st = F ds st := by unfold mCall; rw [h]
theorem mCall1 {F : List D → SS → Option D} (h : m env st = some x) : mCall F (mCons m mNil) env st = F [x] st := mCall_e (mCons1 h)
theorem mCall2 {F : List D → SS → Option D} {m2 : MP} (h : m env st = some x) (k : m2 env st = some y) : mCall F (mCons m (mCons m2 mNil)) env st = F [x, y] st := mCall_e (mCons_e h (mCons1 k))
theorem mOp_e {f : F2} {a b : MP} (h : a env st = some x) (k : b env st = some y) : mOp f a b env st = f st x y := by unfold mOp; rw [h, k]
theorem bV_e {b : Bool} (h : m env st = some (.bl b)) : bV m env st = some b := by unfold bV; rw [h]
theorem bNot_e {c : MB} {b : Bool} (h : c env st = some b) : bNot c env st = some (!b) := by unfold bNot; rw [h]
theorem bOr_f {a b : MB} (h : a env st = some false) : bOr a b env st = b env st := by unfold bOr; rw [h]
theorem bAnd_t {a b : MB} (h : a env st = some true) : bAnd a b env st = b env st := by unfold bAnd; rw [h]
theorem bAnd_f {a b : MB} (h : a env st = some false) : bAnd a b env st = some false := by unfold bAnd; rw [h]
theorem mComp_e {mi : MI} {t : MT} {b : MB} {own : List Nat} {ro : Option Nat} (h : mi env st = some (ds, ro)) : mComp mi t b m own env st = fGo t b m (ewipe env own) st ds := by unfold mComp; rw [h]
theorem mGenT_e {mi : MI} {t : MT} {b : MB} {own : List Nat} {es : List D} (h : mComp mi t b m own env st = some es) : mGenT mi t b m own env st = some (.tup es) := by unfold mGenT; rw [h]
theorem mAll_e {sa : Bool} {mi : MI} {t : MT} {b : MB} {own : List Nat} {ro : Option Nat} {c : Bool} (h : mi env st = some (ds, ro)) (k : allGo t b m (ewipe env own) st sa ds = some c) : mAll sa mi t b m own env st = some (.bl c) := by unfold mAll; rw [h]; simp only [k]
theorem mLenL_e (h : r env st = some ds) : mLenL r env st = some (.int ds.length) := by unfold mLenL; rw [h]
theorem mTupL_e (h : r env st = some ds) : mTupL r env st = some (.tup ds) := by unfold mTupL; rw [h]
theorem mTup_e (h : r env st = some ds) (hl : ds.length ≤ 1000) : mTup r env st = some (.tup ds) := by unfold mTup; rw [h]; exact if_pos hl
theorem iSeq_dN {l : List Nat} (h : m env st = some (dN l)) : iSeq m env st = some (l.map nI, none) := by unfold iSeq; rw [h]; rfl
end
/-! ### the sets of a table -/
def isPart (a b : List Nat) : Bool := a.all fun k => b.contains k
def commonM (many : Nat) (rows : List (List Nat)) (things : List Nat) : List Nat := (List.range many).filter fun m => things.all fun g => (rows.getD g []).contains m
def havingM (rows : List (List Nat)) (marks : List Nat) : List Nat := (List.range rows.length).filter fun g => isPart marks (rows.getD g [])
def closureM (many : Nat) (rows : List (List Nat)) (marks : List Nat) : List Nat := commonM many rows (havingM rows marks)
theorem isPart_iff {a b : List Nat} : isPart a b = true ↔ ∀ k ∈ a, k ∈ b := by
  unfold isPart
  rw [List.all_eq_true]
  simp
theorem mem_common {many : Nat} {rows : List (List Nat)} {things : List Nat} {m : Nat} : m ∈ commonM many rows things ↔ m < many ∧ ∀ g ∈ things, m ∈ rows.getD g [] := by
  unfold commonM
  rw [List.mem_filter, List.mem_range, List.all_eq_true]
  simp
theorem mem_having {rows : List (List Nat)} {marks : List Nat} {g : Nat} : g ∈ havingM rows marks ↔ g < rows.length ∧ ∀ m ∈ marks, m ∈ rows.getD g [] := by
  unfold havingM
  rw [List.mem_filter, List.mem_range, isPart_iff]
theorem sorted_ext : ∀ {a b : List Nat}, a.Pairwise (· < ·) → b.Pairwise (· < ·) → (∀ k, k ∈ a ↔ k ∈ b) → a = b
  | [], [], _, _, _ => rfl
  | [], y :: b, _, _, h => absurd ((h y).mpr List.mem_cons_self) (by simp)
  | x :: a, [], _, _, h => absurd ((h x).mp List.mem_cons_self) (by simp)
  | x :: a, y :: b, ha, hb, h => by
    have ha' := List.pairwise_cons.mp ha
    have hb' := List.pairwise_cons.mp hb
    have hxy : x = y := by
      rcases List.mem_cons.mp ((h x).mp List.mem_cons_self) with e | e
      · exact e
      · rcases List.mem_cons.mp ((h y).mpr List.mem_cons_self) with e2 | e2
        · exact e2.symm
        · have h1 := hb'.1 x e
          have h2 := ha'.1 y e2
          omega
    subst hxy
    congr 1
    refine sorted_ext ha'.2 hb'.2 fun k => ⟨fun hk => ?_, fun hk => ?_⟩
    · rcases List.mem_cons.mp ((h k).mp (List.mem_cons_of_mem _ hk)) with e | e
      · subst e; exact absurd (ha'.1 _ hk) (Nat.lt_irrefl _)
      · exact e
    · rcases List.mem_cons.mp ((h k).mpr (List.mem_cons_of_mem _ hk)) with e | e
      · subst e; exact absurd (hb'.1 _ hk) (Nat.lt_irrefl _)
      · exact e
theorem sorted_filter (n : Nat) (p : Nat → Bool) : ((List.range n).filter p).Pairwise (· < ·) := List.Pairwise.filter _ List.pairwise_lt_range
theorem common_sorted (many : Nat) (rows : List (List Nat)) (t : List Nat) : (commonM many rows t).Pairwise (· < ·) := sorted_filter _ _
section
variable {many : Nat} {rows : List (List Nat)} {marks more things : List Nat}
theorem having_anti (h : ∀ k ∈ marks, k ∈ more) {g : Nat} (hg : g ∈ havingM rows more) : g ∈ havingM rows marks := by
  rw [mem_having] at hg ⊢
  exact ⟨hg.1, fun m hm => hg.2 m (h m hm)⟩
theorem common_anti {a b : List Nat} (h : ∀ k ∈ a, k ∈ b) {m : Nat} (hm : m ∈ commonM many rows b) : m ∈ commonM many rows a := by
  rw [mem_common] at hm ⊢
  exact ⟨hm.1, fun g hg => hm.2 g (h g hg)⟩
theorem closure_mono (h : ∀ k ∈ marks, k ∈ more) : ∀ k ∈ closureM many rows marks, k ∈ closureM many rows more := fun k hk => common_anti (fun g hg => having_anti h hg) hk
theorem closure_grows (h : ∀ k ∈ marks, k < many) : ∀ k ∈ marks, k ∈ closureM many rows marks := fun k hk => mem_common.mpr ⟨h k hk, fun g hg => (mem_having.mp hg).2 k hk⟩
theorem closure_lt : ∀ k ∈ closureM many rows marks, k < many := fun k hk => (mem_common.mp hk).1
theorem closure_twice : closureM many rows (closureM many rows marks) = closureM many rows marks := by
  refine sorted_ext (common_sorted _ _ _) (common_sorted _ _ _) fun k => ⟨fun hk => ?_, fun hk => closure_grows closure_lt k hk⟩
  refine common_anti (fun g hg => ?_) hk
  rw [mem_having] at hg ⊢
  exact ⟨hg.1, fun m hm => (mem_common.mp hm).2 g (mem_having.mpr hg)⟩
end
end GD

set_option Elab.async false
set_option linter.all false
set_option maxRecDepth 100000
set_option maxHeartbeats 2000000
namespace GX
open PySem PySem.Spec PyProof.Rows L2 GenW SC
section
variable {P : Program} {w : World} {k : Nat} {outer : List Env} {H : Hp} {sc s : Shared} {ex : List Addr} {G : GWs} {u : Value}
end
section
variable {X : Cx} {k : Nat} {e o : Expr} {tg : TGx} {to : TE} {apos cpos : Pos}
end
end GX

set_option Elab.async false
set_option linter.all false
set_option maxRecDepth 100000
set_option maxHeartbeats 2000000
namespace GX
open PySem PySem.Spec PyProof.Rows L2 PySem.W ClX
/-! ## 12. the size of a displayed set of whole numbers -/
section
variable {prog : Program} {w : World} {A : Around} {E : Value → Shared → Prop} {D : Addr}
end
inductive PEsI (X : Cx) : List Expr → List TE → Prop
  | nil : PEsI X [] []
  | cons {e : Expr} {t : TE} {es : List Expr} {ts : List TE} : PE X e t → PEsI X es ts → PEsI X (e :: es) (t :: ts)
section
variable {X : Cx}
variable {p q pos : Pos} {elts : List Expr} {ts : List TE} {n : Nat}
end
end GX

set_option Elab.async false
set_option linter.all false
set_option maxRecDepth 100000
set_option maxHeartbeats 2000000
namespace GD
open PySem PySem.Spec PyProof.Rows L2 GX

/-! ## 14. joins, slices, conversions -/
section
variable {X : Cx} {w : Wd}
/-! ### tuple(x), list(x) -/
def fTup : F1 := fun st d => match seqOf st d with | some ds => some (.tup ds) | none => none
theorem qTup {K : PySem.W.Frag} : Op1P w fTup (fun xs H Q => ∃ p ys, xs = [.ref p] ∧ ((SqL K H p ys ∧ ∀ l, H l = none → Q (.ref l) (upd H l (.tup ys))) ∨ (SqT K H p ys ∧ Q (.ref p) H))) := by
  intro ι st H x dx d Q s rx hf q
  unfold fTup at hf
  split at hf
  · rename_i ds e
    cases hf
    obtain ⟨a, vs, rfl, rs, hl, hh⟩ := seq_cases (K := K) s rx e
    rcases hh with h1 | ⟨rfl, h1⟩
    · exact ⟨a, vs, rfl, .inl ⟨h1, fun l hn => q _ _ (Kp.new hn) (.tup upd_same hl (rs.kp (Kp.new hn))) (s.new hn (fun _ z => by cases z) (nin_of s hn))⟩⟩
    · exact ⟨a, vs, rfl, .inr ⟨sqt_of h1, q _ H (Kp.refl H) (.tup h1 hl rs) s⟩⟩
  · cases hf
variable {pos p : Pos} {a : Expr}
theorem dp_tupV {m : MP} (hg : Gl X "tuple") (hm : X.mg "tuple" = none) (ha : PE X a (tP w m)) (hs : starEach [a] X.env = (false, eval a X.env) :: starEach [] X.env := by rfl) : PE X (.Call (.Name "tuple" p) [a] [] pos) (tP w (mF1 fTup m)) :=
  PE.mo (pe_callTy call_tuple_of hg hm (by decide +kernel) (pa_cons ha pa_nil hs) (he := hs)) fun σ H Q h => op1_p qTup σ H Q h
def mLstOf (m : MP) : ML := fun env st => match m env st with | some d => seqOf st d | none => none
theorem dl_list {m : MP} (hg : Gl X "list") (hm : X.mg "list" = none) (ha : PE X a (tP w m)) (hs : starEach [a] X.env = (false, eval a X.env) :: starEach [] X.env := by rfl) : PE X (.Call (.Name "list" p) [a] [] pos) (tLs w (mLstOf m)) :=
  PE.mo (pe_callTy call_list_of hg hm (by decide +kernel) (pa_cons ha pa_nil hs) (he := hs)) fun σ H Q ⟨ι, env, st, ds, he, hst, hmm, q⟩ => by
    unfold mLstOf at hmm
    split at hmm
    · rename_i d e
      refine ⟨ι, env, st, d, he, hst, e, fun v H1 k1 r1 s1 => ?_⟩
      obtain ⟨a, vs, rfl, rs, hl, hh⟩ := seq_cases (K := X.K) s1 r1 hmm
      refine ⟨a, vs, rfl, hh.imp id fun z => sqt_of z.2, fun l hn => ?_⟩
      exact q l vs _ (k1.trans (Kp.new hn)) upd_same (k1.fresh (nin_of s1 hn) hn) hl (rs.kp (Kp.new hn)) (s1.new hn (fun _ z => by cases z) (nin_of s1 hn))
    · cases hmm
/-! ### slices -/
def cutG {α : Type} (xs : List α) (lo hi : Option Int) : List α := (xs.drop (HT.sIx xs.length 0 lo)).take (HT.sIx xs.length xs.length hi - HT.sIx xs.length 0 lo)
theorem Reps.cut2 {ι : List Addr} {H : Hp} {vs : List V} {ds : List D} (r : Reps ι H vs ds) (lo hi : Option Int) : Reps ι H (cutV vs lo hi) (cutG ds lo hi) := by
  unfold cutV cutG
  rw [r.length]
  exact (r.drop _).take _
def mPart (m : Option MP) : EV → SS → Option (Option Int) := fun env st => match m with
  | none => some none
  | some m => (match m env st with | some (.int i) => some (some i) | _ => none)
def POd (w : Wd) (t : TO) (m : Option MP) : Prop := ∀ (σ : L2.St) (H : Hp) (Q : Option Int → Hp → Prop) (ι : List Addr) (env : EV) (st : SS) (o : Option Int), EnvR w ι env σ H → SR w.s ι st H → mPart m env st = some o → (∀ H', Kp ι H H' → SR w.s ι st H' → Q o H') → t σ H Q
theorem pod_none : POd w tNoPart none := fun σ H Q ι env st o he hs hm q => by
  cases hm
  exact q H (Kp.refl H) hs
theorem pod_some {m : MP} : POd w (tPart (tP w m)) (some m) := fun σ H Q ι env st o he hs hm q => by
  unfold mPart at hm
  simp only at hm
  split at hm
  · rename_i i e
    cases hm
    refine ⟨ι, env, st, _, he, hs, e, fun v H1 k1 r1 s1 => ?_⟩
    cases r1
    exact ⟨i, rfl, q H1 k1 s1⟩
  · cases hm
def sliceD : D → Option Int → Option Int → Option D
  | .tup ds, lo, hi => some (.tup (cutG ds lo hi))
  | .str z, lo, hi => if z.length ≤ 1000000 then some (.str (cutS z lo hi)) else none
  | _, _, _ => none
def mSl (m : MP) (lo hi : Option MP) : MP := fun env st => match m env st, mPart lo env st, mPart hi env st with
  | some d, some l, some h => sliceD d l h
  | _, _, _ => none
theorem cutG_length {α : Type} (xs : List α) (lo hi : Option Int) : (cutG xs lo hi).length ≤ xs.length := by
  unfold cutG
  rw [List.length_take, List.length_drop]
  omega
theorem cutG_all {α : Type} {xs : List α} {lo hi : Option Int} (h : HT.sIx xs.length 0 lo = 0 ∧ HT.sIx xs.length xs.length hi = xs.length) : cutG xs lo hi = xs := by
  unfold cutG
  rw [h.1, h.2, List.drop_zero, Nat.sub_zero, List.take_length]
theorem dp_sl {e : Expr} {m : MP} {lo hi : Option Expr} {ml mh : Option MP} {tl th : TO} {p2 : Pos} (he : PE X e (tP w m)) (hl : PO X lo tl) (hu : PO X hi th) (dl : POd w tl ml) (dh : POd w th mh) : PE X (.Subscript e (.Slice lo hi none p2) pos) (tP w (mSl m ml mh)) := by
  refine PE.mo (pe_slice (SlR.or sl_tupA sl_str) he hl hu) fun σ H Q ⟨ι, env, st, d, hen, hst, hm, q⟩ => ?_
  unfold mSl at hm
  split at hm
  · rename_i dx l h e1 e2 e3
    refine ⟨ι, env, st, dx, hen, hst, e1, fun v H1 k1 r1 s1 => dl σ H1 _ ι env st l (hen.kp k1) s1 e2 fun H2 k2 s2 => dh σ H2 _ ι env st h ((hen.kp k1).kp k2) s2 e3 fun H3 k3 s3 => ?_⟩
    have kk := (k1.trans k2).trans k3
    have r3 := (r1.kp k2).kp k3
    unfold sliceD at hm
    split at hm
    · rename_i ds
      cases hm
      cases r3 with
      | tup h1 l1 rs =>
        refine .inl ⟨_, _, rfl, sqt_of h1, fun hw => ?_, fun _ p hp => ?_⟩
        · rw [rs.length] at hw
          rw [cutG_all hw] at q
          exact q _ H3 kk (.tup h1 l1 rs) s3
        · exact q _ _ (kk.trans (Kp.new hp)) (.tup upd_same (Nat.le_trans (cutG_length _ _ _) l1) ((rs.cut2 l h).kp (Kp.new hp))) (s3.new hp (fun _ z => by cases z) (nin_of s3 hp))
    · split at hm
      · rename_i z hz
        cases hm
        cases r3
        exact .inr ⟨_, rfl, big_size hz, q _ H3 kk (.str _) s3⟩
      · cases hm
    · cases hm
  · cases hm
/-! ### one sign in a text -/
variable {b : Expr} {ma mb : MP}
end
end GD

set_option Elab.async false
set_option linter.all false
set_option maxRecDepth 100000
set_option maxHeartbeats 4000000
namespace GD
open PySem PySem.Spec PyProof.Rows L2 GX
/-! ## 15. comparing sets; lists of sets -/
abbrev pI (l : List Nat) : List PyData := l.map fun (k : Nat) => PyData.int (k : Int)
theorem py_dN (l : List Nat) : D.py (dN l) = .tuple (pI l) := by
  unfold dN D.py
  rw [pys_nI]
theorem eqvAll_ints : ∀ a b : List Nat, PyData.eqvAll (pI a) (pI b) = decide (a = b)
  | [], [] => by simp [pI, PyData.eqvAll]
  | [], y :: b => by simp [pI, PyData.eqvAll]
  | x :: a, [] => by simp [pI, PyData.eqvAll]
  | x :: a, y :: b => by
    rw [pI, List.map_cons, pI, List.map_cons, PyData.eqvAll]
    have h := eqvAll_ints a b
    unfold pI at h
    rw [h]
    have e : PyData.eqv (PyData.int (x : Int)) (PyData.int (y : Int)) = decide (x = y) := by
      unfold PyData.eqv
      rw [Bool.eq_iff_iff, beq_iff_eq, decide_eq_true_iff]
      omega
    rw [e]
    rw [Bool.eq_iff_iff, Bool.and_eq_true, decide_eq_true_iff, decide_eq_true_iff, decide_eq_true_iff, List.cons.injEq]
theorem eqv_dN (a b : List Nat) : PyData.eqv (D.py (dN a)) (D.py (dN b)) = decide (a = b) := by
  rw [py_dN, py_dN]
  unfold PyData.eqv
  exact eqvAll_ints a b
theorem fEq_dN (st : SS) (a b : List Nat) : fEq st (dN a) (dN b) = some (.bl (decide (a = b))) := by
  unfold fEq
  rw [if_pos ⟨good_dN a, good_dN b⟩, eqv_dN]
theorem mAnd_e {a b : MP} {env : EV} {st : SS} {x y : Bool} (h : a env st = some (.bl x)) (k : x = true → b env st = some (.bl y)) : mAnd a b env st = some (.bl (x && y)) := by
  cases x with
  | true => rw [mAnd_t h, k rfl]; rfl
  | false => rw [mAnd_f h]; rfl
/-! ### more than another -/
/-- the store has grown -/
theorem Boxed.ext {st st1 : SS} {n : Nat} (h : Boxed st n) (p : st <+: st1) : Boxed st1 n := by
  obtain ⟨dn, i, ms, h1, h2, h3⟩ := h.ex
  obtain ⟨t, rfl⟩ := p
  refine ⟨dn, i, ms, ?_, h2, ?_⟩
  · rw [List.getElem?_append_left (List.getElem?_eq_some_iff.mp h1).1]; exact h1
  · rw [List.getElem?_append_left (List.getElem?_eq_some_iff.mp h3).1]; exact h3
/-! ### arrows -/
theorem seqOf_lst {st : SS} {n : Nat} {ds : List D} (h : st[n]? = some (.lst ds)) : seqOf st (.ref n) = some ds := by
  unfold seqOf
  simp only [h]
/-! ### texts of single signs -/
end GD

set_option Elab.async false
set_option linter.all false
set_option maxRecDepth 100000
set_option maxHeartbeats 2000000
namespace GD
open PySem PySem.Spec PyProof.Rows L2 GX

/-! ## 16. lists that calls give -/
section
variable {X : Cx} {w : Wd} {pos p : Pos} {a b e : Expr} {tg : Expr}
def xSeq (m : XP) : XI := fun env st R => m env st fun d st1 => ∃ ds ro, seqI st1 d = some (ds, ro) ∧ R ds ro st1
theorem dxi_seq {m : XP} (hl : PE X e (tX w m)) : PI X tg e (tXI w (xSeq m)) := by
  refine PI.mo (pi_seqU hl) fun σ H Q ⟨ι, env, st, R, he, hs, hm, q⟩ => ⟨ι, env, st, _, he, hs, hm, fun d st1 ι1 v H1 h1 g1 r1 s1 => ?_⟩
  obtain ⟨ds, ro, e, hR⟩ := h1
  obtain ⟨a, vs, rfl, rs, hl, hh⟩ := seqI_cases s1 r1 e
  refine ⟨a, rfl, ?_⟩
  rcases hh with ⟨n, rfl, hn, hc, h1⟩ | ⟨rfl, h1⟩
  · exact .inl ⟨⟨vs, sql_of h1⟩, q _ _ st1 ι1 _ H1 hR g1 s1 (itd_lst hn hc hl)⟩
  · exact .inr ⟨⟨vs, sqt_of h1⟩, q _ _ st1 ι1 _ H1 hR g1 s1 (itd_tup h1 rs hl)⟩
def xCat (a b : XP) : XA := fun env st R => a env st fun x st1 => b env st1 fun y st2 => ∃ n m ds es, x = .ref n ∧ y = .ref m ∧ st2[n]? = some (.lst ds) ∧ st2[m]? = some (.lst es) ∧ ds.length + es.length ≤ 1000000 ∧ R (ds ++ es) st2
theorem dxl_cat {ma mb : XP} (ha : PE X a (tX w ma)) (hb : PE X b (tX w mb)) : PE X (.BinOp a .Add b pos) (tXL w (xCat ma mb)) := by
  refine PE.mo (pe_op op_cat ha hb) fun σ H Q ⟨ι, env, st, R, he, hs, hm, q⟩ => ⟨ι, env, st, _, he, hs, hm, fun x st1 ι1 vx H1 h1 g1 r1 s1 => ⟨ι1, env, st1, _, he.gr g1, s1, h1, fun y st2 ι2 vy H2 h2 g2 r2 s2 => ?_⟩⟩
  obtain ⟨n, m, ds, es, rfl, rfl, e1, e2, hl, hR⟩ := h2
  have r1' := r1.gr g2
  cases r1' with
  | ref hn =>
    cases r2 with
    | ref hm2 =>
      obtain ⟨vs, v1, l1, rs⟩ := s2.cell _ _ _ hn e1
      obtain ⟨us, v2, l2, ru⟩ := s2.cell _ _ _ hm2 e2
      have gg := g1.trans g2
      refine ⟨_, _, vs, us, rfl, rfl, v1, v2, by rw [rs.length, ru.length]; exact big_size hl, fun pp hp => ?_⟩
      exact q (ds ++ es) st2 ι2 pp (vs ++ us) _ hR (gg.trans (.of (Kp.new hp))) upd_same (gg.fresh s2 hp) (nin_of s2 hp) (by rw [List.length_append]; exact big_size hl) ((rs.append ru).kp (Kp.new hp)) (s2.new hp (fun _ z => by cases z) (nin_of s2 hp))
theorem reps_map {α : Type} {ι : List Addr} {H : Hp} {f : α → V} {g : α → D} (h : ∀ x, Rep ι H (f x) (g x)) : ∀ l : List α, Reps ι H (l.map f) (l.map g)
  | [] => .nil
  | x :: l => .cons (h x) (reps_map h l)
end
end GD

set_option Elab.async false
set_option linter.all false
set_option maxRecDepth 100000
set_option maxHeartbeats 4000000
namespace GS
open PySem PySem.Spec PyProof.Rows SrtO
/-! ## sorted of pairs of tuples of ints -/
abbrev K2 := List Int × List Int
def lexK (a b : K2) : Bool := if a.1 = b.1 then HT.lexLt a.2 b.2 else HT.lexLt a.1 b.1
theorem lexLt_irr : ∀ a : List Int, HT.lexLt a a = false
  | [] => rfl
  | x :: xs => by rw [HT.lexLt_cons, if_pos rfl, lexLt_irr xs]
theorem lexLt_asym : ∀ a b : List Int, HT.lexLt a b = true → HT.lexLt b a = false
  | [], [], h => by cases h
  | [], _ :: _, _ => rfl
  | _ :: _, [], h => by cases h
  | x :: xs, y :: ys, h => by
    rw [HT.lexLt_cons] at h ⊢
    by_cases e : x = y
    · rw [if_pos e] at h
      rw [if_pos e.symm]
      exact lexLt_asym xs ys h
    · rw [if_neg e] at h
      rw [if_neg fun z => e z.symm]
      have := of_decide_eq_true h
      exact decide_eq_false (by omega)
theorem lexLt_tot : ∀ a b : List Int, HT.lexLt a b = false → HT.lexLt b a = false → a = b
  | [], [], _, _ => rfl
  | [], _ :: _, h, _ => by cases h
  | _ :: _, [], _, h => by cases h
  | x :: xs, y :: ys, h, k => by
    rw [HT.lexLt_cons] at h k
    by_cases e : x = y
    · rw [if_pos e] at h
      rw [if_pos e.symm] at k
      rw [e, lexLt_tot xs ys h k]
    · rw [if_neg e] at h
      rw [if_neg fun z => e z.symm] at k
      have := of_decide_eq_false h
      have := of_decide_eq_false k
      omega
theorem lexLt_trans : ∀ a b c : List Int, HT.lexLt a b = true → HT.lexLt b c = true → HT.lexLt a c = true
  | [], [], _, h, _ => by cases h
  | [], _ :: _, [], _, h => by cases h
  | [], _ :: _, _ :: _, _, _ => rfl
  | _ :: _, [], _, h, _ => by cases h
  | _ :: _, _ :: _, [], _, h => by cases h
  | x :: xs, y :: ys, z :: zs, h, k => by
    rw [HT.lexLt_cons] at h k ⊢
    by_cases e : x = y
    · rw [if_pos e] at h
      by_cases e2 : y = z
      · rw [if_pos e2] at k
        rw [if_pos (e.trans e2)]
        exact lexLt_trans xs ys zs h k
      · rw [if_neg e2] at k
        rw [if_neg fun q => e2 (e ▸ q)]
        rw [e]
        exact k
    · rw [if_neg e] at h
      have h1 := of_decide_eq_true h
      by_cases e2 : y = z
      · rw [if_neg (by omega)]
        exact decide_eq_true (by omega)
      · rw [if_neg e2] at k
        have := of_decide_eq_true k
        rw [if_neg (by omega)]
        exact decide_eq_true (by omega)
theorem swo_lexLt : Swo HT.lexLt := ⟨lexLt_asym, fun x y z h1 h2 => by
  cases h : HT.lexLt z x with
  | false => rfl
  | true =>
    cases h3 : HT.lexLt x y with
    | true =>
      have := lexLt_trans z x y h h3
      rw [h2] at this
      cases this
    | false =>
      have e := lexLt_tot x y h3 h1
      subst e
      rw [h2] at h
      cases h⟩
theorem swo_lexK {α : Type} (k : α → K2) : Swo fun v u => lexK (k v) (k u) := by
  have no : ∀ a b : K2, lexK a b = false ↔ (a.1 = b.1 ∧ HT.lexLt a.2 b.2 = false) ∨ (a.1 ≠ b.1 ∧ HT.lexLt a.1 b.1 = false) := fun a b => by
    unfold lexK
    by_cases e : a.1 = b.1
    · rw [if_pos e]; simp [e]
    · rw [if_neg e]; simp [e]
  refine ⟨fun x y h => ?_, fun x y z h1 h2 => ?_⟩
  · unfold lexK at h ⊢
    by_cases e : (k x).1 = (k y).1
    · rw [if_pos e] at h
      rw [if_pos e.symm]
      exact lexLt_asym _ _ h
    · rw [if_neg e] at h
      rw [if_neg fun z => e z.symm]
      exact lexLt_asym _ _ h
  · rw [no] at h1 h2 ⊢
    rcases h1 with ⟨e1, h1⟩ | ⟨e1, h1⟩ <;> rcases h2 with ⟨e2, h2⟩ | ⟨e2, h2⟩
    · exact .inl ⟨e2.trans e1, swo_lexLt.tr _ _ _ h1 h2⟩
    · exact .inr ⟨fun z => e2 (z.trans e1.symm), by rw [← e1]; exact h2⟩
    · exact .inr ⟨fun z => e1 (e2.symm.trans z), by rw [e2]; exact h1⟩
    · refine .inr ⟨fun z => ?_, swo_lexLt.tr _ _ _ h1 h2⟩
      have h3 := h2
      rw [z] at h3
      exact e1 (lexLt_tot _ _ h1 h3)
/-- the tuple of ints at a -/
def TupAt (h : Heap) (a : Addr) (ns : List Int) : Prop := ∃ o items n, h.get? a = some o ∧ o.cls = .type "tuple" ∧ o.data = .seq items n ∧ IntsAre items.toList ns
def IsKP (h : Heap) (v : Value) (k : K2) : Prop := ∃ a o n f r, v = .ref a ∧ h.get? a = some o ∧ o.cls = .type "tuple" ∧ o.data = .seq #[.ref f, .ref r] n ∧ TupAt h f k.1 ∧ TupAt h r k.2
section
variable {prog : Program} {w : World} {A : Around} {E : Value → Shared → Prop} {s : Shared}
theorem items_of {P : Program} {w : World} : ∀ {us : List Value} {ns : List Int}, IntsAre us ns → ItemsAre (intKind P w) ns us
  | _, _, .nil => .nil
  | _, _, .cons n t h => .cons (intKind_is P w n t) (items_of h)
theorem TupAt.key {P : Program} {w : World} {h : Heap} {a : Addr} {ns : List Int} (x : TupAt h a ns) : IsTupleKey (intKind P w) h ns a := let ⟨o, items, n, h1, h2, h3, h4⟩ := x; ⟨o, items, n, h1, h2, h3, items_of h4⟩
theorem tup_eq {a b : Addr} {x y : List Int} {Q : Bool → Shared → Prop} (hu : A.units < cLine) (hx : TupAt s.heap a x) (hy : TupAt s.heap b y) (h : Q (decide (x = y)) s) : wpAny (model prog w) A (eqBool (.ref a) (.ref b)) Q E s :=
  wpAny_eqBool_tuple (knd := intKind prog w) hu hx.key hy.key h
theorem tup_lt {a b : Addr} {x y : List Int} {Q : Value → Shared → Prop} (hu : A.units < cLine) (hx : TupAt s.heap a x) (hy : TupAt s.heap b y) (h : Q (.bool (HT.lexLt x y)) s) : wpAny (model prog w) A (compareOp .Lt (.ref a) (.ref b)) Q E s := by
  obtain ⟨o, items, n, h1, h2, h3, h4⟩ := hx
  obtain ⟨o', items', n', k1, k2, k3, k4⟩ := hy
  exact HT.lt_tupInts ⟨o, h1, h2, n, h3⟩ ⟨o', k1, k2, n', k3⟩ h4 k4 hu h
theorem pairK_cmp {vs : List Value} {k : Value → K2} (hu : A.units < cLine) (hp : ∀ v ∈ vs, IsKP s.heap v (k v)) : Cmp prog w A s (tuples' false) (fun p => p.1 ∈ vs) (lt2 fun v u => lexK (k v) (k u)) := by
  intro p q hm hm'
  have h1 := hp _ hm
  have h2 := hp _ hm'
  show wpAny (model prog w) A (keyLt' (tuples' false) p.1 q.1) (fun r s' => s' = s ∧ r = lexK (k p.1) (k q.1)) (fun _ _ => False) s
  generalize k p.1 = x at h1 ⊢
  generalize k q.1 = y at h2 ⊢
  obtain ⟨a, o, n, f, r, e, ho, hc, hd, hf, hr⟩ := h1
  obtain ⟨a', o', n', f', r', e', ho', hc', hd', hf', hr'⟩ := h2
  rw [e, e']
  refine PySem.W.kat_lt ho hd ho' hd' ?_
  show PySem.W.KatLex prog w A false (decide (2 < 2)) _ [(.ref f, .ref f'), (.ref r, .ref r')] 0 s
  refine PySem.W.kat_cons (tup_eq hu hf hf' ?_)
  refine PySem.W.kat_go (fun e1 => ?_) (fun e1 => ?_)
  · have ex : x.1 = y.1 := of_decide_eq_true e1
    refine PySem.W.kat_yes (PySem.W.kat_cons (tup_eq hu hr hr' ?_))
    refine PySem.W.kat_go (fun e2 => ?_) (fun e2 => ?_)
    · have ey : x.2 = y.2 := of_decide_eq_true e2
      refine PySem.W.kat_yes (PySem.W.kat_nil ⟨rfl, ?_⟩)
      unfold lexK
      rw [if_pos ex, ey, lexLt_irr]
      rfl
    · refine PySem.W.kat_no (PySem.W.kat_one _ _ (tup_lt hu hr hr' ?_))
      show s = s ∧ HT.lexLt x.2 y.2 = lexK x y
      unfold lexK
      rw [if_pos ex]
      exact ⟨rfl, rfl⟩
  · have ex : ¬ x.1 = y.1 := of_decide_eq_false e1
    refine PySem.W.kat_no (PySem.W.kat_one _ _ (tup_lt hu hf hf' ?_))
    show s = s ∧ HT.lexLt x.1 y.1 = lexK x y
    unfold lexK
    rw [if_neg ex]
    exact ⟨rfl, rfl⟩
theorem TupAt.keeps {h h' : Heap} {a : Addr} {ns : List Int} (x : TupAt h a ns) (k : ∀ b o, h.get? b = some o → o.cls = .type "tuple" → h'.get? b = some o) : TupAt h' a ns := let ⟨o, items, n, h1, h2, h3, h4⟩ := x; ⟨o, items, n, k _ _ h1 h2, h2, h3, h4⟩
theorem IsKP.keeps {h h' : Heap} {v : Value} {y : K2} (x : IsKP h v y) (k : ∀ b o, h.get? b = some o → o.cls = .type "tuple" → h'.get? b = some o) : IsKP h' v y := by
  obtain ⟨a, o, n, f, r, e, ho, hc, hd, hf, hr⟩ := x
  exact ⟨a, o, n, f, r, e, k _ _ ho hc, hc, hd, hf.keeps k, hr.keeps k⟩
theorem firstsK {h : Heap} : ∀ {vs : List Value}, (∀ v ∈ vs, ∃ y, IsKP h v y) → ∃ fs, PySem.W.KatTups h vs fs ∧ fs.length = vs.length ∧ ∀ f ∈ fs, ∃ a o, f = Value.ref a ∧ h.get? a = some o ∧ o.cls = .type "tuple"
  | [], _ => ⟨[], .nil, rfl, fun _ z => by cases z⟩
  | v :: vs, hv => by
    obtain ⟨y, a, o, n, f, r, rfl, ho, hc, hd, ⟨of, items, nf, f1, f2, f3, f4⟩, _⟩ := hv v List.mem_cons_self
    obtain ⟨fs, h1, h2, h3⟩ := firstsK (vs := vs) fun v hm => hv v (List.mem_cons_of_mem _ hm)
    refine ⟨.ref f :: fs, .cons ho hc hd rfl h1, by rw [List.length_cons, List.length_cons, h2], fun g hg => ?_⟩
    rcases List.mem_cons.mp hg with e | e
    · exact ⟨f, of, e, f1, f2⟩
    · exact h3 g e
theorem pairsK_sortableO {a : Addr} {vs : List Value} {k : Value → K2} (hu : A.units < cLine) (h0 : 0 < vs.length) (hp : ∀ v ∈ vs, IsKP s.heap v (k v)) (ha : ∀ o, s.heap.get? a = some o → o.cls ≠ .type "tuple") : SortableO prog w A s a vs fun v u => lexK (k v) (k u) := by
  intro h' keep
  have hp' : ∀ v ∈ vs, IsKP h' v (k v) := fun v hm => (hp v hm).keeps fun b o e c => keep b o (fun z => by subst z; exact ha o e c) e
  obtain ⟨fs, h1, h2, h3⟩ := firstsK fun v hm => ⟨_, hp' v hm⟩
  refine ⟨tuples' false, fun Q E hq => ?_, pairK_cmp (s := { s with heap := h' }) hu hp'⟩
  refine PySem.W.kat_kind (T := .type "tuple") h1 (by omega) (fun f hm => ?_) (by rfl) ?_
  · obtain ⟨b, o, rfl, ho, hc⟩ := h3 f hm
    have q : PySem.W.Looks (model prog w) h' (typeOf (.ref b)) o.cls := (PySem.W.Looks.ld ho).andThen .now
    rw [hc] at q
    exact q
  · have e : (Value.type "tuple" != Value.type "tuple") = false := by first | decide +kernel | rfl | decide
    rw [e]
    exact hq
/-- sorted(l) of pairs of tuples of ints: sorted by k, stable -/
theorem sorted_pairsK {l : Addr} {vs : List Value} {k : Value → K2} {Q : Value → Shared → Prop} (hu : A.in1.in1.units < cLine) (hl : s.heap.IsList l vs.toArray) (hz : vs.length ≤ sizeLine) (hp : ∀ v ∈ vs, IsKP s.heap v (k v))
    (h : ∀ (h' : Heap) (d : Addr) (out : List Value), Srtd (fun v u => lexK (k v) (k u)) out → Stb (fun v u => lexK (k v) (k u)) out vs → (∀ b o, s.heap.get? b = some o → h'.get? b = some o) → s.heap.objs.size ≤ d → (∃ n, h'.get? d = some (seqObj "list" out.toArray n)) → Q (.ref d) { s with heap := h' }) :
    wpAny (model prog w) A (call (.builtin "sorted") [.ref l]) Q E s := by
  refine sorted_ord (swo_lexK k) hl hz (fun h2 h₁ a ha kk => ?_) fun out hs hb => ?_
  · refine pairsK_sortableO (s := { s with heap := h₁ }) hu (by omega) (fun v hm => (hp v hm).keeps fun b o e _ => (kk b o e).2) fun o e => ?_
    have e' : some o = some (seqObj "list" vs.toArray 0) := e.symm.trans ha
    cases e'
    intro c
    exact absurd (Value.type.inj c) (by decide)
  · exact h _ _ out hs hb (fun b o e => sortedAll_old e) (Nat.le_succ _) (sortedAll_at s.heap vs out.toArray)
end
end GS
namespace GS
open PySem PySem.Spec PyProof.Rows L2
def rSortK (K : PySem.W.Frag) : List V → Hp → VK → Prop := fun vs H Q => ∃ (a : Addr) (xs : List V) (k : V → K2), vs = [V.ref a] ∧ SqL K H a xs ∧ (∀ x ∈ xs, ∃ t f r, x = V.ref t ∧ H t = some (.tup [.ref f, .ref r]) ∧ H f = some (.tup ((k x).1.map V.int)) ∧ H r = some (.tup ((k x).2.map V.int))) ∧
  ∀ ys p, SrtO.Srtd (fun v u => lexK (k v) (k u)) ys → SrtO.Stb (fun v u => lexK (k v) (k u)) ys xs → H p = none → Q (.ref p) (upd H p (.lst ys))
section
variable {X : Cx}
theorem tupAt_of {pins : List (Addr × Obj)} {σ : L2.St} {H : Hp} {s : Shared} (I : Inv X pins σ H s) {f : Addr} {ns : List Int} (h : H f = some (.tup (ns.map V.int))) : TupAt s.heap f ns := by
  obtain ⟨_, its2, r2, o, ho, hc, n, hd⟩ := I.hok _ _ h
  exact ⟨o, _, n, ho, hc, hd, by simpa using ints_of_vals r2⟩
theorem cr_sortK (hu : X.A.units + 4 < cLine) : CallR X (.builtin "sorted") (rSortK X.K) := by
  intro pins s σ H vs us Q I r h
  obtain ⟨a, xs, k, rfl, hs, hx, q⟩ := h
  obtain ⟨its, rv, hl, hz⟩ := I.list hs
  obtain ⟨u, rfl, ru⟩ := vals1 r
  obtain rfl : u = Value.ref a := ru
  obtain ⟨e1, e2⟩ := refs_back rv fun x m => by
    obtain ⟨t, f, r, e, _⟩ := hx x m
    exact ⟨t, e⟩
  refine sorted_pairsK (k := fun u => k (backV u)) (by have e : X.A.in1.in1.units ≤ X.A.units + 4 := (by first | (unfold Around.in1; simp; try omega) | (simp [Around.in1]; try omega)); omega) hl.isList (by rw [← rv.length]; exact hz) (fun v hv => ?_) fun h' d out h1 h2 kp hd hn => ?_
  · obtain ⟨t, rfl⟩ := e2 v hv
    have hm : V.ref t ∈ xs := by rw [e1]; exact List.mem_map.mpr ⟨_, hv, rfl⟩
    obtain ⟨t', f, r, e, ht, hf, hr⟩ := hx _ hm
    cases e
    obtain ⟨_, its2, r2, o, ho, hc, n, hd⟩ := I.hok _ _ ht
    obtain ⟨u1, u2, rfl, ri, rj⟩ := vals2 r2
    cases ri
    cases rj
    exact ⟨t, o, n, f, r, rfl, ho, hc, hd, tupAt_of I hf, tupAt_of I hr⟩
  · have h3 : ∀ u ∈ out, ∃ a, u = Value.ref a := fun u hu => e2 u (h2.perm.mem_iff.mp hu)
    obtain ⟨n, hn⟩ := hn
    have hb : SrtO.Stb (fun v u => lexK (k v) (k u)) (out.map backV) xs := by
      rw [e1]
      exact SrtO.Stb.map (swo_lexK k) backV h2
    refine ⟨.ref d, upd H d (.lst (out.map backV)), I.laid (t' := s.toks) kp hd ⟨?_, out, n, vals_back h3, hn⟩, rfl, q _ d (SrtO.srtd_map h1) hb (I.hok.fresh hd)⟩
    rw [hb.len]
    exact hz
end
end GS

set_option Elab.async false
set_option linter.all false
set_option maxRecDepth 100000
set_option maxHeartbeats 2000000
namespace GD
open PySem PySem.Spec PyProof.Rows L2 GX GS

/-! ## 17. sorted of pairs of sets -/
def pairD (p : List Nat × List Nat) : D := .tup [dN p.1, dN p.2]
abbrev iN (l : List Nat) : List Int := l.map fun (k : Nat) => (k : Int)
/-- the value v stands for the pair p -/
def IsPr (H : Hp) (v : V) (p : List Nat × List Nat) : Prop := ∃ t f r, v = V.ref t ∧ H t = some (.tup [.ref f, .ref r]) ∧ H f = some (.tup ((iN p.1).map V.int)) ∧ H r = some (.tup ((iN p.2).map V.int))
theorem iN_inj : ∀ {a b : List Nat}, iN a = iN b → a = b
  | [], [], _ => rfl
  | [], _ :: _, h => by cases h
  | _ :: _, [], h => by cases h
  | x :: a, y :: b, h => by
    have h1 := List.cons.inj h
    have : x = y := Int.ofNat.inj h1.1
    rw [this, iN_inj h1.2]
theorem mapI_inj : ∀ {a b : List Int}, a.map V.int = b.map V.int → a = b
  | [], [], _ => rfl
  | [], _ :: _, h => by cases h
  | _ :: _, [], h => by cases h
  | x :: a, y :: b, h => by
    have h1 := List.cons.inj h
    cases h1.1
    rw [mapI_inj h1.2]
theorem IsPr.uniq {H : Hp} {v : V} {p q : List Nat × List Nat} (h : IsPr H v p) (k : IsPr H v q) : p = q := by
  obtain ⟨t, f, r, rfl, h1, h2, h3⟩ := h
  obtain ⟨t', f', r', e, k1, k2, k3⟩ := k
  cases e
  rw [h1] at k1
  cases k1
  rw [h2] at k2
  rw [h3] at k3
  have e1 : iN p.1 = iN q.1 := mapI_inj (HO.tup.inj (Option.some.inj k2))
  have e2 : iN p.2 = iN q.2 := mapI_inj (HO.tup.inj (Option.some.inj k3))
  exact Prod.ext (iN_inj e1) (iN_inj e2)
open Classical in
noncomputable def pick (H : Hp) (v : V) : List Nat × List Nat := if h : ∃ p, IsPr H v p then h.choose else ([], [])
theorem pick_eq {H : Hp} {v : V} {p : List Nat × List Nat} (h : IsPr H v p) : pick H v = p := by
  unfold pick
  rw [dif_pos ⟨p, h⟩]
  exact (Exists.choose_spec (⟨p, h⟩ : ∃ p, IsPr H v p)).uniq h
theorem rep_dN {ι : List Addr} {H : Hp} {v : V} {l : List Nat} (r : Rep ι H v (dN l)) : ∃ f, v = .ref f ∧ H f = some (.tup ((iN l).map V.int)) := by
  cases r with
  | tup h1 l1 rs =>
    have e : (l.map nI) = (iN l).map D.int := by rw [List.map_map]; rfl
    rw [e] at rs
    rw [rs.ints] at h1
    exact ⟨_, rfl, h1⟩
theorem rep_pr {ι : List Addr} {H : Hp} {v : V} {p : List Nat × List Nat} (r : Rep ι H v (pairD p)) : IsPr H v p := by
  cases r with
  | tup h1 l1 rs =>
    cases rs with
    | cons r1 rs =>
      cases rs with
      | cons r2 rs =>
        cases rs
        obtain ⟨f, rfl, hf⟩ := rep_dN r1
        obtain ⟨g, rfl, hg⟩ := rep_dN r2
        exact ⟨_, f, g, rfl, h1, hf, hg⟩
def keyN (p : List Nat × List Nat) : K2 := (iN p.1, iN p.2)
abbrev lexN (p q : List Nat × List Nat) : Bool := lexK (keyN p) (keyN q)
theorem pick_map {ι : List Addr} {H : Hp} : ∀ {vs : List V} {ps : List (List Nat × List Nat)}, Reps ι H vs (ps.map pairD) → vs.map (pick H) = ps ∧ ∀ v ∈ vs, Rep ι H v (pairD (pick H v))
  | _, [], h => by cases h; exact ⟨rfl, fun _ z => by cases z⟩
  | _, p :: ps, h => by
    cases h with
    | cons r t =>
      obtain ⟨h1, h2⟩ := pick_map t
      have e := pick_eq (rep_pr r)
      refine ⟨by rw [List.map_cons, e, h1], fun v hv => ?_⟩
      rcases List.mem_cons.mp hv with z | z
      · rw [z, e]; exact r
      · exact h2 v z
theorem reps_pick {ι : List Addr} {H : Hp} : ∀ {ys : List V}, (∀ v ∈ ys, Rep ι H v (pairD (pick H v))) → Reps ι H ys ((ys.map (pick H)).map pairD)
  | [], _ => .nil
  | y :: ys, h => .cons (h y List.mem_cons_self) (reps_pick fun v hv => h v (List.mem_cons_of_mem _ hv))
def xSortK (m : XP) : XA := fun env st R => m env st fun d st1 => ∃ n ps, d = .ref n ∧ st1[n]? = some (.lst (ps.map pairD)) ∧ ∀ qs, SrtO.Srtd lexN qs → SrtO.Stb lexN qs ps → R (qs.map pairD) st1
section
variable {X : Cx} {w : Wd} {pos p : Pos} {a : Expr}
theorem dxl_sortK {m : XP} (hu : Room 0 X.A) (hg : Gl X "sorted") (hm : X.mg "sorted" = none) (ha : PE X a (tX w m)) (hs : starEach [a] X.env = (false, eval a X.env) :: starEach [] X.env := by rfl) : PE X (.Call (.Name "sorted" p) [a] [] pos) (tXL w (xSortK m)) := by
  refine PE.mo (pe_callB (cr_sortK (by have := hu.un; omega)) hg hm (by decide +kernel) (pa_cons ha pa_nil hs) (he := hs)) fun σ H Q ⟨ι, env, st, R, he, hst, hmm, q⟩ => ⟨ι, env, st, _, he, hst, hmm, fun d st1 ι1 v H1 h1 g1 r1 s1 => ?_⟩
  obtain ⟨n, ps, rfl, hc, hR⟩ := h1
  cases r1 with
  | ref hn =>
    obtain ⟨vs, hv, hl, rs⟩ := s1.cell _ _ _ hn hc
    obtain ⟨e1, e2⟩ := pick_map rs
    refine ⟨_, vs, fun v => keyN (pick H1 v), rfl, sql_of hv, fun x hx => ?_, fun ys pp h2 h3 hp => ?_⟩
    · obtain ⟨t, f, r, h⟩ := rep_pr (e2 x hx)
      exact ⟨t, f, r, h⟩
    · have hperm := h3.perm
      have hy : ∀ v ∈ ys, Rep ι1 H1 v (pairD (pick H1 v)) := fun v hv => e2 v (hperm.mem_iff.mp hv)
      have hb : SrtO.Stb lexN (ys.map (pick H1)) ps := by
        have := SrtO.Stb.map (swo_lexK keyN) (pick H1) h3
        rw [e1] at this
        exact this
      refine q _ st1 ι1 pp ys _ (hR (ys.map (pick H1)) (SrtO.srtd_map h2) hb) (g1.trans (.of (Kp.new hp))) upd_same (g1.fresh s1 hp) (nin_of s1 hp) ?_ ((reps_pick hy).kp (Kp.new hp)) (s1.new hp (fun _ z => by cases z) (nin_of s1 hp))
      rw [List.length_map, hb.perm.length_eq]
      rw [List.length_map] at hl
      exact hl
end
end GD

set_option Elab.async false
set_option linter.all false
set_option maxRecDepth 100000
set_option maxHeartbeats 2000000
namespace GD
open PySem PySem.Spec PyProof.Rows L2 GX
/-! ## 20. name = [..], the name a plain local -/
section
variable {X : Cx} {w : Wd} {tg iter elt : Expr} {ifs : List Expr}
theorem ds_setLp {mi : MI} {t : MT} {b : MB} {m : MP} {i : Nat} {y : Str} {py : Pos} {scope : Scope} {own : List (Str × Nat)} {pos spos : Pos} {g : TG} (hc : X.calm = true) (hN : X.N.Nodup) (hy : X.N[i]? = some y) (hyl : X.env.scope.names.lookup y = some .local)
    (hk : X.env.scope.kind = .function) (hln : (py.line == pos.line) = true) (hsc : (scope.names.any fun (n, k) => n == y && (k == .local || k == .cell)) = false)
    (hi : PI X tg iter (tI w mi)) (ok : BlkOk X.N X.env.scope scope own) (ht : GT w (own.map (·.2)) g t)
    (hg : ∀ (s : Shared) (H : Hp) (C : Addr) (cl : List (Str × Addr)) (fp : List Addr), PG (X.blk s H scope (compEnvC scope cl C X.env) fp) tg g) (hb : ∀ (s : Shared) (H : Hp) (C : Addr) (cl : List (Str × Addr)) (fp : List Addr), PTs (X.blk s H scope (compEnvC scope cl C X.env) fp) ifs (tBo w b))
    (he : ∀ (s : Shared) (H : Hp) (C : Addr) (cl : List (Str × Addr)) (fp : List Addr), PE (X.blk s H scope (compEnvC scope cl C X.env) fp) elt (tP w m)) (hs : ∀ x, foldedSetIterable iter X.env x = pure x := by intro _; rfl) (hfx : ∀ v ∈ own.map (·.2), ∀ p ∈ w.fx, p.1 ≠ v := by intro _ _ _ h; cases h) (hfy : ∀ p ∈ w.fx, p.1 ≠ i := by intro _ h; cases h) :
    PS X (.Assign [.Name y py] (.ListComp elt [⟨tg, iter, ifs, 0⟩] scope pos) spos) (tS w (sAsg (xNew (xaOf (mComp mi t b m (own.map (·.2))))) (tgN i))) := by
  refine PS.mo (ps_setLc hc hN hy hyl (sw_true hk hyl hln hsc) hi ok hg hb he hs) fun E σ H ⟨ι, env, st, D0, hen, hst, hm, hE⟩ => ?_
  show tLc (tI w mi) g (tBo w b) (tP w m) (own.map (·.2)) σ H fun x H1 => gName i x σ H1 E.nx
  obtain ⟨ds, hm, h1⟩ := hm
  refine lc_read hfx ht σ H _ ⟨ι, env, st, ds, hen, hst, hm, fun p vs H1 k1 hp hn hl r1 s1 => ?_⟩
  obtain ⟨env1, h1, h2⟩ := h1
  cases h1
  have hpi := nin_of hst hn
  have gg : Gr ι H (ι ++ [p]) H1 := ⟨List.prefix_append _ _, k1, fun c hc => by
      rcases List.mem_append.mp hc with hc | hc
      · exact .inl hc
      · rw [List.mem_singleton.mp hc]; exact .inr hn⟩
  have rr : Rep (ι ++ [p]) H1 (.ref p) (.ref st.length) := .ref (by rw [← s1.len, List.getElem?_append_right (Nat.le_refl _), Nat.sub_self]; rfl)
  exact hE.nx _ _ (ι ++ [p]) _ H1 h2 gg ((hen.gr gg).set i rr hfy) (s1.add hp hpi hl r1)
end
end GD

set_option Elab.async false
set_option linter.all false
set_option maxRecDepth 100000
set_option maxHeartbeats 2000000
namespace GL
open PySem PySem.Spec PyProof.Rows L2 GX GD
/-! ## 1. pins: objects that are known for a while -/
abbrev PL := List (Addr × Obj)
section
variable {P : Program} {w : World} {K : PySem.W.Frag} {mg : Str → Option Value} {base : Heap} {A : Around} {outer : List Env} {s : Shared} {H H' : Hp} {h h' : Heap} {L : PL} {a b : Addr} {o : Obj} {fr : List Addr}
end
/-! ## 2. a lambda is made -/
structure CloOk (cl : List (Str × Addr)) (scope : Scope) : Prop where
  mem : ∀ x c, cl.lookup x = some c → x ∈ freeN scope
  inj : ∀ x y c, cl.lookup x = some c → cl.lookup y = some c → x = y
section
variable {X : Cx}
end
end GL

set_option Elab.async false
set_option linter.all false
set_option maxRecDepth 100000
set_option maxHeartbeats 2000000
namespace GL
open PySem PySem.Spec PyProof.Rows L2 GX GD
/-! ## 3. a lambda of one parameter is called -/
structure LamSc (p : Str) (scope : Scope) : Prop where
  kind : scope.kind = .function
  co : scope.isCoroutine = false
  gen : scope.isGenerator = false
  nocell : ∀ y ∈ scope.names, y.2 ≠ .cell
  par : scope.names.lookup p = some .local
  nd : (p :: freeN scope).Nodup
  loc : ∀ y ∈ scope.names, y.2 = .local → y.1 = p
section
variable {P : Program} {w : World} {K : PySem.W.Frag} {mg : Str → Option Value} {base : Heap} {A : Around} {outer : List Env} {s : Shared} {H H' : Hp} {cl : List (Str × Addr)} {ys : List Str} {vs : List V}
end
/-- a lambda's promise: over what it captured, its argument -/
structure LamOk (P : Program) (wl : World) (K : PySem.W.Frag) (mg : Str → Option Value) (base : Heap) (k : Nat) (l : Expr) (sp : List V → V → Hp → VK → Prop) : Prop where
  run : ∀ (A : Around) (outer : List Env) (s : Shared) (H : Hp) (f : Addr) (u : Value) (v : V) (caps : List V) (Q : VK), Room k A → Env0 P wl K mg base A outer s H → LamAt H f l caps → RelV v u → sp caps v H Q →
    codeAny (model P wl) A (.call (.ref f) ⟨[u], []⟩) (CR CX0 outer P wl H s Q fun _ _ _ => False) s
/-! ## 4. calls -/
section
variable {X : Cx}
end
end GL

set_option Elab.async false
set_option linter.all false
set_option maxRecDepth 100000
set_option maxHeartbeats 2000000
namespace GL
open PySem PySem.Spec PyProof.Rows L2 GX GD
/-! ## 5. a def is called with a lambda: the cells are known meanwhile -/
section
variable {X : Cx} {pins : List (Addr × Obj)} {σ : L2.St} {H : Hp} {s : Shared}
end
/-! ## 6. over data -/
section
variable {ι ι' : List Addr} {H H' : Hp} {L : PL}
mutual
theorem rep_tr (h : ∀ b xs, H b = some (.tup xs) → H' b = some (.tup xs)) : ∀ {v : V} {d : D}, Rep ι H v d → Rep ι H' v d
  | _, _, .non => .non
  | _, _, .bl b => .bl b
  | _, _, .int i => .int i
  | _, _, .str x => .str x
  | _, _, .tup e l r => .tup (h _ _ e) l (reps_tr h r)
  | _, _, .ref e => .ref e
theorem reps_tr (h : ∀ b xs, H b = some (.tup xs) → H' b = some (.tup xs)) : ∀ {vs : List V} {ds : List D}, Reps ι H vs ds → Reps ι H' vs ds
  | _, _, .nil => .nil
  | _, _, .cons r t => .cons (rep_tr h r) (reps_tr h t)
end
end
section
variable {w : Ws} {ι ι' : List Addr} {st st' : SS} {H H' : Hp} {L : PL} {v : V} {d : D}
end
end GL

set_option Elab.async false
set_option linter.all false
set_option maxRecDepth 100000
set_option maxHeartbeats 2000000
namespace GD
open PySem PySem.Spec PyProof.Rows L2 GX GL
/-! ## 23. lambdas over data -/
def lamSp (w : Ws) (caps : List D) (U : XT) : List V → V → Hp → VK → Prop := fun vcaps v H Q => ∃ ι st d R, Reps ι H vcaps caps ∧ Rep ι H v d ∧ SR w ι st H ∧ U [d] st R ∧ ∀ d' st' ι' v' H', R d' st' → Gr ι H ι' H' → Rep ι' H' v' d' → SR w ι' st' H' → Q v' H'
structure LamD (P : Program) (wl : World) (w : Ws) (mg : Str → Option Value) (k : Nat) (l : Expr) (caps : List D) (U : XT) : Prop where
  ok : LamOk P wl w.K mg w.base k l (lamSp w caps U)
theorem LamD.imp {P : Program} {wl : World} {w : Ws} {mg : Str → Option Value} {k : Nat} {l : Expr} {caps : List D} {U U' : XT} (h : LamD P wl w mg k l caps U) (q : ∀ ds st R, U' ds st R → U ds st R) : LamD P wl w mg k l caps U' :=
  ⟨⟨fun A outer s H f u v cs Q hr e0 hl r ⟨ι, st, d, R, r1, r2, s1, hU, hQ⟩ => h.ok.run A outer s H f u v cs Q hr e0 hl r ⟨ι, st, d, R, r1, r2, s1, q _ _ _ hU, hQ⟩⟩⟩
theorem LamD.mono {P : Program} {wl : World} {w : Ws} {mg : Str → Option Value} {j k : Nat} {l : Expr} {caps : List D} {U : XT} (h : LamD P wl w mg j l caps U) (q : j ≤ k) : LamD P wl w mg k l caps U :=
  ⟨⟨fun A outer s H f u v cs Q hr => h.ok.run A outer s H f u v cs Q (hr.mono q)⟩⟩
/-! ### defs whose second argument is a lambda -/
def spL (P : Program) (wl : World) (w : Ws) (mg : Str → Option Value) (j : Nat) (T : XT → XT) : Sp := fun vs H Q _ => ∃ ι st f l caps U v0 us ds R, vs = v0 :: .ref f :: us ∧ LamR ι H f l caps ∧ LamD P wl w mg j l caps U ∧ Reps ι H (v0 :: us) ds ∧ SR w ι st H ∧ T U ds st R ∧
  ∀ d st' ι' v H', R d st' → Gr ι H ι' H' → Rep ι' H' v d → SR w ι' st' H' → Q v H'
structure DefL (P : Program) (wl : World) (w : Ws) (mg : Str → Option Value) (k j : Nat) (x : Str) (T : XT → XT) : Prop where
  ex : ∃ (f : Addr) (fd : FuncData) (ps : List Str), FnOk P wl w.K mg w.base CX0 k f fd ps (spL P wl w mg j T) ∧ mg x = some (.ref f) ∧ PySem.W.keepIn w.K (.ref f) = true ∧ Binds w.K fd ps []
theorem DefL.imp {P : Program} {wl : World} {w : Ws} {mg : Str → Option Value} {k j : Nat} {x : Str} {T T' : XT → XT} (c : DefL P wl w mg k j x T) (h : ∀ U ds st R, T' U ds st R → T U ds st R) : DefL P wl w mg k j x T' := by
  obtain ⟨f, fd, ps, hF, r⟩ := c.ex
  exact ⟨f, fd, ps, hF.imp fun vs H Q E ⟨ι, st, f, l, caps, U, v0, us, ds, R, e, h1, h2, h3, h4, h5, h6⟩ => ⟨ι, st, f, l, caps, U, v0, us, ds, R, e, h1, h2, h3, h4, h _ _ _ _ h5, h6⟩, r⟩
def startL (n : Nat) (ds : List D) : EV := match ds with
  | [] => []
  | d :: ds => some d :: none :: (ds.map some ++ List.replicate (n - (ds.length + 2)) none)
def fnL (k n : Nat) (t : XT → XS) : XT → XT := fun U ds st R => ds.length + 1 = n ∧ t U { nx := fun _ st' => R .non st', rt := R } (startL k ds) st
abbrev WdL (w : Ws) (c f : Addr) (l : Expr) (caps : List D) : Wd := ⟨w, c, [(1, .ref f)], [], [(f, l, caps)], true⟩
theorem DefC.l {P : Program} {wl : World} {w : Ws} {mg : Str → Option Value} {x : Str} {st : Stmt} {N ps : List Str} {k j : Nat} {t : XT → XS} (F : DefC w mg x st) (S : FnScope N ps (defScope st))
    (hb : ∀ (kV doc pm : Value) (an : Option Addr) (cdv ct : Value) (us : List Value), us.length = ps.length → bindArgs (PySem.W.fnOf x x (defArgs st) (defBody st) (defScope st) .none kV doc pm an cdv ct) ⟨us, []⟩ = pure (ps.zip us))
    (hbody : ∀ (f c fl : Addr) (l : Expr) (caps : List D) (U : XT) (A : Around) (outer : List Env) (s : Shared) (H : Hp) (E : XK), LamD P wl w mg j l caps U → Room k (A.deeper (envOfC x (defScope st) s.heap.objs.size f (.ref c))) → Fit (cxOf CX0 P wl w.K mg w.base N x (defScope st) f (.ref c) A outer s H E).nox (WdL w c fl l caps) →
      PSs (cxOf CX0 P wl w.K mg w.base N x (defScope st) f (.ref c) A outer s H E).nox (defBody st) (tS (WdL w c fl l caps) (t U))) : DefL P wl w mg (k + 1) j x (fnL N.length ps.length t) := by
  obtain ⟨f, c, Pt, fd, ⟨oc, od, kV, doc, pm, an, ct, osl, rfl, lk, hcd⟩, hm, hk, ht, hh⟩ := F.ex
  refine ⟨f, _, ps, fn_of lk hcd S (fun vs H Q E ⟨ι, st, fl, l, caps, U, v0, us, ds, R, e, h1, h2, h3, h4, h5, h6⟩ => by subst e; have hl := h3.length; rw [List.length_cons] at hl; rw [List.length_cons, List.length_cons, hl]; exact h5.1) fun A outer s H vs Q E hr ⟨ι, st, fl, l, caps, U, v0, us, ds, R, e, h1, h2, h3, s', h, q⟩ => ⟨_, (hbody f c fl l caps U A outer s H E h2 hr ⟨rfl, rfl, rfl⟩).nox, ?_⟩, hm, hk, .all (hb kV doc pm an (.ref c) ct)⟩
  subst e
  cases h3 with
  | @cons _ _ d0 ds r0 rs =>
  have hl := rs.length
  refine ⟨ι, startL N.length (d0 :: ds), st, _, ⟨?_, ?_, fun _ => ⟨Pt, .inl hh, s'.tab _ ht⟩, ?_, (fun _ z => by cases z), fun q hq => by rw [List.mem_singleton.mp hq]; exact h1⟩, s', h.2, fun env st' ι' σ H' h g r s => q .non st' ι' .non H' h g .non s, fun d st' ι' v H' h g r s => q d st' ι' v H' h g r s, fun _ _ _ _ _ h _ _ _ => h.elim, fun _ _ _ _ _ h _ _ _ => h.elim⟩
  · unfold startL L2.start
    simp [hl]
  · intro i d hd
    unfold startL at hd
    unfold L2.start
    cases i with
    | zero => simp at hd; subst hd; exact ⟨v0, by simp, r0⟩
    | succ i =>
      cases i with
      | zero => simp at hd
      | succ i =>
        simp only [List.getElem?_cons_succ] at hd
        simp only [List.map_cons, List.cons_append, List.getElem?_cons_succ]
        by_cases hi : i < ds.length
        · rw [List.getElem?_append_left (by simpa using hi)] at hd
          rw [List.getElem?_append_left (by simpa [hl] using hi)]
          rw [List.getElem?_map] at hd
          cases hd' : ds[i]? with
          | none => rw [hd'] at hd; cases hd
          | some d' =>
            rw [hd'] at hd
            simp at hd
            subst hd
            obtain ⟨v, e1, e2⟩ := rs.get' hd'
            exact ⟨v, by rw [List.getElem?_map, e1]; rfl, e2⟩
        · rw [List.getElem?_append_right (by simpa using Nat.le_of_not_lt hi)] at hd
          rw [List.getElem?_replicate] at hd
          split at hd <;> cases hd
  · intro q hq
    rw [List.mem_singleton.mp hq]
    unfold L2.start
    simp
/-! ### calls -/
section
variable {X : Cx} {w : Wd} {pos p pc : Pos} {e e0 e2 : Expr} {x cn : Str}
/-! ### a lambda written among the arguments -/
variable {params : Arguments} {body : Expr} {scope : Scope} {lp : Pos}
end
end GD
namespace GD
open PySem PySem.Spec PyProof.Rows L2 GX GL
/-- by the number of names alone -/
theorem DefL.n {P : Program} {wl : World} {w : Ws} {mg : Str → Option Value} {l j : Nat} {x : Str} {N : List Str} {k n : Nat} {t : XT → XS} (h : DefL P wl w mg l j x (fnL N.length n t)) (e : N.length = k) : DefL P wl w mg l j x (fnL k n t) := by
  subst e
  exact h
end GD

set_option Elab.async false
set_option linter.all false
set_option maxRecDepth 100000
set_option maxHeartbeats 2000000
namespace GBL
open PySem
open PySem.Sem (wp)
end GBL
namespace GD
open PySem PySem.Spec PyProof.Rows L2 GX
/-! ## 24. truth, ranges downwards, least items -/
def truD (st : SS) : D → Option Bool
  | .non => some false
  | .bl b => some b
  | .int i => some (i != 0)
  | .str y => if y.length ≤ 1000000 then some ((y.length : Int) != 0) else none
  | .tup l => some (!l.isEmpty)
  | .ref n => match st[n]? with
    | some (.lst l) => some (!l.isEmpty)
    | _ => none
def bT (m : MP) : MB := fun env st => match m env st with | some d => truD st d | none => none
theorem isEmpty_reps {ι : List Addr} {H : Hp} {vs : List V} {ds : List D} (r : Reps ι H vs ds) : (!vs.isEmpty) = !ds.isEmpty := by cases r <;> rfl
section
variable {X : Cx} {w : Wd} {pos p p1 p2 : Pos} {a b e : Expr} {tg : Expr}
theorem tru_v {ι : List Addr} {st : SS} {H : Hp} {v : V} {d : D} {k : Bool} (s : SR w.s ι st H) (r : Rep ι H v d) (h : truD st d = some k) : TruV X.K v H k := by
  cases r with
  | non => exact (Option.some.inj h).symm
  | bl b => exact (Option.some.inj h).symm
  | int i => exact (Option.some.inj h).symm
  | str x =>
    have h : (if x.length ≤ 1000000 then some ((x.length : Int) != 0) else none) = some k := h
    split at h
    · rename_i hl
      exact ⟨big_size hl, (Option.some.inj h).symm⟩
    · cases h
  | tup e l r =>
    have h : some (!_) = some k := h
    exact .inr (.inl ⟨_, sqt_of e, by rw [isEmpty_reps r]; exact (Option.some.inj h).symm⟩)
  | @ref n a hn =>
    have h : (match st[n]? with | some (.lst l) => some (!l.isEmpty) | _ => none) = some k := h
    split at h
    · rename_i hc
      obtain ⟨vs, h1, l, r⟩ := s.cell _ _ _ hn hc
      exact .inl ⟨vs, sql_of h1, by rw [isEmpty_reps r]; exact (Option.some.inj h).symm⟩
    · cases h
theorem db_tru {m : MP} (h : PE X a (tP w m)) (he : ∀ whole, isTrue a X.env whole = (do let v ← whole; standAt a.pos; holding [v] (truthy v)) := by intro _; rfl) : PT X a (tBo w (bT m)) :=
  PT.mo (pt_truth h he) fun σ H Q ⟨ι, env, st, k, hen, hs, hm, q⟩ => by
    unfold bT at hm
    split at hm
    · rename_i d e1
      exact ⟨ι, env, st, d, hen, hs, e1, fun v H1 k1 r1 s1 => ⟨k, tru_v s1 r1 hm, q H1 k1 s1⟩⟩
    · cases hm
/-- -n -/
def fNeg : F1 := fun _ d => match d with | .int i => some (.int (-i)) | _ => none
theorem dp_neg {m : MP} (h : PE X a (tP w m)) : PE X (.UnaryOp .USub a pos) (tP w (mF1 fNeg m)) :=
  PE.mo (pe_un un_neg h) fun σ H Q ⟨ι, env, st, d, hen, hs, hm, q⟩ => by
    unfold mF1 at hm
    split at hm
    · rename_i dx e1
      refine ⟨ι, env, st, dx, hen, hs, e1, fun v H1 k1 r1 s1 => ?_⟩
      unfold fNeg at hm
      split at hm
      · cases hm
        cases r1
        exact ⟨_, rfl, q _ H1 k1 (.int _) s1⟩
      · cases hm
    · cases hm
end
end GD

set_option Elab.async false
set_option linter.all false
set_option maxRecDepth 100000
set_option maxHeartbeats 2000000
namespace GD
open PySem PySem.Spec PyProof.Rows L2 GX
/-! ## 26. generator expressions over what a call gives -/
section
variable {X : Cx} {w : Wd} {pos : Pos} {tg iter elt c : Expr} {ifs : List Expr}
structure GenAX (X : Cx) (w : Wd) (mi : XI) (t : MT) (b : MB) (m : MP) (own : List Nat) (k : Nat) (e : Expr) : Prop where
  ex : ∃ (g : TG), PGx X k e (tGen X.base w.s.nm w.c (tXI w mi) g (fun c' => tBo (w.at c') b) (fun c' => tP (w.at c') m) own) ∧ (∀ c', GT (w.at c') own g t) ∧ ∀ v ∈ own, ∀ p ∈ w.fx, p.1 ≠ v
  gn : w.gn = true
section
variable {mi : XI} {t : MT} {b : MB} {m : MP} {own : List Nat} {k : Nat} {e : Expr} {p : Pos}
end
end
end GD

set_option Elab.async false
set_option linter.all false
set_option maxRecDepth 100000
set_option maxHeartbeats 2000000
namespace GD
open PySem PySem.Spec PyProof.Rows L2 GX
/-! ## 27. chained comparisons, zip of tuples, more comparisons with effects -/
section
variable {X : Cx} {w : Wd} {pos : Pos} {a b c : Expr} {ma mb mc : MP} {xa xb xc : XP}
def mChain (f f' : F2) (a b c : MP) : MP := fun env st => match a env st, b env st with
  | some x, some y => match f st x y with
    | some (.bl true) => (match c env st with | some z => (match f' st y z with | some (.bl r) => some (.bl r) | _ => none) | none => none)
    | some (.bl false) => some (.bl false)
    | _ => none
  | _, _ => none
theorem chain_read {f f' : F2} {r r' : R2} (hr : OpP w f r) (hr' : OpP w f' r') (σ : L2.St) (H : Hp) (Q : VK) : tP w (mChain f f' ma mb mc) σ H Q → tChain r r' (tP w ma) (tP w mb) (tP w mc) σ H Q := by
  rintro ⟨ι, env, st, d, he, hs, hm, q⟩
  unfold mChain at hm
  split at hm
  · rename_i x y ea eb
    refine ⟨ι, env, st, x, he, hs, ea, fun v H1 k1 r1 s1 => ⟨ι, env, st, y, he.kp k1, s1, eb, fun u H2 k2 r2 s2 => ?_⟩⟩
    split at hm
    · rename_i ef
      refine hr ι st H2 v u x y _ _ s2 (r1.kp k2) r2 ef fun z H3 k3 r3 s3 => ?_
      cases r3
      refine ⟨true, rfl, iteT ?_⟩
      split at hm
      · rename_i z ec
        refine ⟨ι, env, st, z, ((he.kp k1).kp k2).kp k3, s3, ec, fun v' H4 k4 r4 s4 => ?_⟩
        split at hm
        · rename_i r0 ef'
          cases hm
          exact hr' ι st H4 u v' y z _ _ s4 ((r2.kp k3).kp k4) r4 ef' fun z' H5 k5 r5 s5 => q z' H5 ((((k1.trans k2).trans k3).trans k4).trans k5) r5 s5
        · cases hm
      · cases hm
    · rename_i ef
      cases hm
      refine hr ι st H2 v u x y _ _ s2 (r1.kp k2) r2 ef fun z H3 k3 r3 s3 => ?_
      cases r3
      exact ⟨false, rfl, iteF (q _ H3 ((k1.trans k2).trans k3) (.bl _) s3)⟩
    · cases hm
  · cases hm
theorem dp_chain {op op' : CmpOp} {f f' : F2} {r r' : R2} (ho : OpR X (compareOp op) r) (hr : OpP w f r) (ho' : OpR X (compareOp op') r') (hr' : OpP w f' r') (ha : PE X a (tP w ma)) (hb : PE X b (tP w mb)) (hc : PE X c (tP w mc))
    (hm : lastMarks [op, op'] [b, c] = false := by with_unfolding_all rfl) : PE X (.Compare a [op, op'] [b, c] pos) (tP w (mChain f f' ma mb mc)) :=
  PE.mo (pe_chain ho ho' ha hb hc hm) fun σ H Q h => chain_read hr hr' σ H Q h
theorem dt_chain {op op' : CmpOp} {f f' : F2} {r r' : R2} (ho : OpR X (compareOp op) r) (hr : OpP w f r) (ho' : OpR X (compareOp op') r') (hr' : OpP w f' r') (ha : PE X a (tP w ma)) (hb : PE X b (tP w mb)) (hc : PE X c (tP w mc))
    (hm : lastMarks [op, op'] [b, c] = false := by with_unfolding_all rfl) : PT X (.Compare a [op, op'] [b, c] pos) (tBo w (bV (mChain f f' ma mb mc))) :=
  PT.mo (pt_chain ho ho' ha hb hc hm) fun σ H Q ⟨ι, env, st, x, he, hs, hx, q⟩ => chain_read (w := w) hr hr' σ H _ (by
    unfold bV at hx
    split at hx
    · rename_i x' e
      cases hx
      exact ⟨ι, env, st, _, he, hs, e, fun v H1 k1 r1 s1 => by cases r1; exact ⟨_, rfl, q H1 k1 s1⟩⟩
    · cases hx)
theorem dxt_isN (ha : PE X a (tX w xa)) (hb : PE X b (tX w xb)) : PT X (.Compare a [.Is] [b] pos) (tXB w (xV (xOp fIsN xa xb))) := dxt_cmp op_isN qIsN ha hb (nomark _)
theorem dxt_notN (ha : PE X a (tX w xa)) (hb : PE X b (tX w xb)) : PT X (.Compare a [.IsNot] [b] pos) (tXB w (xV (xOp fNotN xa xb))) := dxt_cmp op_notN qNotN ha hb (nomark _)
end
/-! ### zip of two tuples -/
def zipD (xs ys : List D) : List D := List.zipWith (fun x y => .tup [x, y]) xs ys
theorem zipD_len (xs ys : List D) : (zipD xs ys).length = min xs.length ys.length := by simp [zipD]
section
variable {X : Cx} {w : Wd} {ι : List Addr} {st : SS} {H0 : Hp} {a b : Addr} {K : PySem.W.Frag}
theorem itd_zipT {vs us : List V} {xs ys : List D} (h : H0 a = some (.tup vs)) (r : Reps ι H0 vs xs) (h' : H0 b = some (.tup us)) (r' : Reps ι H0 us ys) (hl : xs.length ≤ sizeLine) : ItD w ι st (RZ.ItzT K a b) (zipD xs ys) none H0 := by
  refine ⟨fun ι' st' H k p _ s => ⟨fun i hi => ?_, fun i x H' hi hy => ?_, fun i hi => ?_⟩, by rw [zipD_len]; omega⟩
  · rw [zipD_len] at hi
    have q : i < vs.length := by rw [r.length]; omega
    have q' : i < us.length := by rw [r'.length]; omega
    exact ⟨vs, us, vs[i], us[i], sqt_of (k.fix h trivial), sqt_of (k.fix h' trivial), List.getElem?_eq_getElem q, List.getElem?_eq_getElem q'⟩
  · obtain ⟨T, x, y, rfl, hT, rfl, hx, hy⟩ := hy
    obtain ⟨d, h1, h2⟩ := (r.mono k p).get (hx vs (sqt_of (k.fix h trivial)))
    obtain ⟨d', h1', h2'⟩ := (r'.mono k p).get (hy us (sqt_of (k.fix h' trivial)))
    obtain ⟨q1, q2, q3⟩ := new_pair s hT h2 h2'
    refine ⟨_, ?_, q1, q2, q3⟩
    unfold zipD; rw [List.getElem?_zipWith, h1, h1']
  · rw [zipD_len] at hi
    refine ⟨vs, us, sqt_of (k.fix h trivial), sqt_of (k.fix h' trivial), ?_⟩
    rw [r.length, r'.length]
    omega
def iZip (m1 m2 : MP) : MI := fun env st => match m1 env st, m2 env st with | some (.tup xs), some (.tup ys) => some (zipD xs ys, none) | _, _ => none
theorem di_zip {elts : List Expr} {kk : Nat} {tpos : Pos} {e e2 : Expr} {m m2 : MP} {p pos : Pos} (hg : Gl X "zip") (hm : X.mg "zip" = none) (ha : PE X e (tP w m)) (hb : PE X e2 (tP w m2))
    (hs : starEach [e, e2] X.env = (false, eval e X.env) :: starEach [e2] X.env := by rfl) (hpl : (backTo pos (starEach [e2] X.env)).any (·.1) = false := by rfl) (hs2 : starEach [e2] X.env = (false, eval e2 X.env) :: starEach [] X.env := by rfl) :
    PI X (.Tuple elts kk tpos) (.Call (.Name "zip" p) [e, e2] [] pos) (tI w (iZip m m2)) := by
  refine PI.mo (RZ.pi_zipA hg hm (pa_cons ha (pa_cons hb pa_nil hs2) hs) hs hpl) fun σ H R ⟨ι, env, st, ds, ro, he, hst, hmm, q⟩ => ?_
  unfold iZip at hmm
  split at hmm
  · rename_i xs ys e1 e2'
    cases hmm
    refine ⟨ι, env, st, _, he, hst, e1, fun v H1 k1 r1 s1 => ?_⟩
    refine ⟨ι, env, st, _, he.kp k1, s1, e2', fun v2 H2 k2 r2 s2 => ?_⟩
    have r1' := r1.kp k2
    cases r1' with
    | tup h1 l1 q1 =>
      cases r2 with
      | tup h2 l2 q2 => exact ⟨_, _, _, _, rfl, .inr ⟨sqt_of h1, sqt_of h2, q _ H2 (k1.trans k2) s2 (itd_zipT h1 q1 h2 q2 l1)⟩⟩
  · cases hmm
end
end GD

set_option Elab.async false
set_option linter.all false
set_option maxRecDepth 100000
set_option maxHeartbeats 4000000
namespace GD
open PySem PySem.Spec PyProof.Rows L2 GX
/-! ## 18. mirrors by the number of names alone: shared by all laws -/
def startE' (k : Nat) (ds : List D) : EV := ds.map some ++ List.replicate (k - ds.length) none
def fnR' (k n : Nat) (r : RS) : List D → SS → Option D := fun ds st => if ds.length = n then (match r (startE' k ds) st with
  | some (.rt d) => if D.lo st.length d = true then some d else none
  | some (.nx _) => some .non
  | _ => none) else none
def fnT' (k n : Nat) (t : XS) : XT := fun ds st R => ds.length = n ∧ t { nx := fun _ st' => R .non st', rt := R } (startE' k ds) st
theorem DefP.n {P : Program} {wl : World} {w : Ws} {mg : Str → Option Value} {l : Nat} {x : Str} {N : List Str} {k n : Nat} {r : RS} (h : DefP P wl w mg l x (fnR N n r)) (e : N.length = k) : DefP P wl w mg l x (fnR' k n r) := by
  subst e
  exact h
theorem DefX.n {P : Program} {wl : World} {w : Ws} {mg : Str → Option Value} {l : Nat} {x : Str} {N : List Str} {k n : Nat} {t : XS} (h : DefX P wl w mg l x (fnT N n t)) (e : N.length = k) : DefX P wl w mg l x (fnT' k n t) := by
  subst e
  exact h
theorem fnR'_rt {k n : Nat} {r : RS} {ds : List D} {st : SS} {d : D} (hl : ds.length = n) (h : r (startE' k ds) st = some (.rt d)) (lo : D.lo st.length d = true) : fnR' k n r ds st = some d := by
  unfold fnR'
  rw [if_pos hl, h]
  show (if D.lo st.length d = true then some d else none) = _
  rw [if_pos lo]
/-! ### sorted sets -/
theorem sorted_len : ∀ {n : Nat} {l : List Nat}, l.Pairwise (· < ·) → (∀ x ∈ l, x < n) → l.length ≤ n := by
  intro n l h1 h2
  have e : l = (List.range n).filter fun k => l.contains k := sorted_ext h1 (sorted_filter _ _) fun k => by
    rw [List.mem_filter, List.mem_range]
    simp only [List.contains_iff_mem]
    exact ⟨fun h => ⟨h2 k h, h⟩, fun h => h.2⟩
  rw [e]
  have := List.length_filter_le (fun k => l.contains k) (List.range n)
  simpa using this
/-- a sorted set of ints that stand for numbers -/
theorem nats_of {ms : List Int} {l : List Nat} (h1 : ms.Pairwise (· < ·)) (h2 : ∀ k, k ∈ ms ↔ k ∈ l.map fun (k : Nat) => (k : Int)) : ∃ more : List Nat, ms.map D.int = more.map nI ∧ more.Pairwise (· < ·) ∧ ∀ k, k ∈ more ↔ k ∈ l := by
  have nn : ∀ k ∈ ms, 0 ≤ k := fun k hk => by
    obtain ⟨j, _, rfl⟩ := List.mem_map.mp ((h2 k).mp hk)
    omega
  refine ⟨ms.map Int.toNat, ?_, ?_, fun k => ?_⟩
  · rw [List.map_map]
    refine List.map_congr_left fun k hk => ?_
    show D.int k = D.int ((k.toNat : Nat) : Int)
    rw [Int.toNat_of_nonneg (nn k hk)]
  · rw [List.pairwise_map]
    refine List.Pairwise.imp_of_mem (fun {a b} ha hb h => ?_) h1
    have := nn a ha
    have := nn b hb
    omega
  · constructor
    · intro hk
      obtain ⟨j, hj, rfl⟩ := List.mem_map.mp hk
      obtain ⟨i, hi, e⟩ := List.mem_map.mp ((h2 j).mp hj)
      have : j.toNat = i := by omega
      rw [this]
      exact hi
    · intro hk
      exact List.mem_map.mpr ⟨(k : Int), (h2 _).mpr (List.mem_map.mpr ⟨k, hk, rfl⟩), by simp⟩
/-! ### the store grows -/
def Up (st st1 : SS) : Prop := ∀ m, m < st.length → st1[m]? = st[m]?
theorem Up.refl (st : SS) : Up st st := fun _ _ => rfl
theorem Up.len {st st1 : SS} (u : Up st st1) : st.length ≤ st1.length := by
  cases h : st.length with
  | zero => omega
  | succ n =>
    have hn : n < st.length := by omega
    have e := u n hn
    rw [List.getElem?_eq_getElem hn] at e
    have := (List.getElem?_eq_some_iff.mp e).1
    omega
theorem Up.trans {a b c : SS} (u : Up a b) (v : Up b c) : Up a c := fun m hm => (v m (Nat.lt_of_lt_of_le hm u.len)).trans (u m hm)
theorem Up.app (st t : SS) : Up st (st ++ t) := fun m hm => List.getElem?_append_left hm
theorem Up.pre {st st1 : SS} (p : st <+: st1) : Up st st1 := by
  obtain ⟨t, rfl⟩ := p
  exact Up.app st t
theorem Up.set {st st1 : SS} (u : Up st st1) {n : Nat} (h : st.length ≤ n) (c : Cell) : Up st (st1.set n c) := fun m hm => by
  rw [List.getElem?_set_ne (by omega)]
  exact u m hm
theorem Up.get {st st1 : SS} (u : Up st st1) {n : Nat} {c : Cell} (h : st[n]? = some c) : st1[n]? = some c := (u n (List.getElem?_eq_some_iff.mp h).1).trans h
theorem Boxed.up {st st1 : SS} {n : Nat} (h : Boxed st n) (u : Up st st1) : Boxed st1 n := by
  obtain ⟨dn, i, ms, h1, h2, h3⟩ := h.ex
  exact ⟨dn, i, ms, u.get h1, h2, u.get h3⟩
theorem Boxed.lt {st : SS} {n : Nat} (h : Boxed st n) : n < st.length := by
  obtain ⟨dn, i, ms, h1, _⟩ := h.ex
  exact (List.getElem?_eq_some_iff.mp h1).1
/-- what stands behind the box is written -/
theorem Boxed.hi {st : SS} {n p : Nat} (h : Boxed st n) (hp : n < p) (c : Cell) : Boxed (st.set p c) n := by
  obtain ⟨dn, i, ms, h1, h2, h3⟩ := h.ex
  exact ⟨dn, i, ms, by rw [List.getElem?_set_ne (by omega)]; exact h1, h2, by rw [List.getElem?_set_ne (by omega)]; exact h3⟩
/-- the store has grown, but for the box at n, which was drawn from -/
structure Ub (n : Nat) (st st1 : SS) : Prop where
  at_ : ∀ m, m < st.length → m ≠ n → st1[m]? = st[m]?
  len : st.length ≤ st1.length
theorem Ub.refl (n : Nat) (st : SS) : Ub n st st := ⟨fun _ _ _ => rfl, Nat.le_refl _⟩
theorem Ub.trans {n : Nat} {a b c : SS} (u : Ub n a b) (v : Ub n b c) : Ub n a c := ⟨fun m hm h => (v.at_ m (Nat.lt_of_lt_of_le hm u.len) h).trans (u.at_ m hm h), Nat.le_trans u.len v.len⟩
theorem Ev.ub {n : Nat} {st st1 : SS} (e : Ev n st st1) : Ub n st st1 := ⟨fun m _ h => e.at_ m h, by rw [e.len]; exact Nat.le_refl _⟩
theorem Up.ub {st st1 : SS} (u : Up st st1) (n : Nat) : Ub n st st1 := ⟨fun m hm _ => u m hm, u.len⟩
theorem Ub.get {n : Nat} {st st1 : SS} (u : Ub n st st1) {m : Nat} {c : Cell} (h : st[m]? = some c) (hm : m ≠ n) : st1[m]? = some c := (u.at_ m (List.getElem?_eq_some_iff.mp h).1 hm).trans h
theorem Ub.set {n : Nat} {st st1 : SS} (u : Ub n st st1) {p : Nat} (hp : st.length ≤ p) (c : Cell) : Ub n st (st1.set p c) := ⟨fun m hm h => by
  rw [List.getElem?_set_ne (by omega)]
  exact u.at_ m hm h, by rw [List.length_set]; exact u.len⟩
/-- a new list is given -/
def NewL (st : SS) (l : List D) (R : D → SS → Prop) : Prop := ∀ st1 n, st.length ≤ n → Up st st1 → st1[n]? = some (.lst l) → R (.ref n) st1
theorem NewL.mo {st : SS} {l : List D} {R R' : D → SS → Prop} (h : NewL st l R) (q : ∀ d st1, R d st1 → R' d st1) : NewL st l R' := fun st1 n a b c => q _ _ (h st1 n a b c)
theorem seqI_lst {st : SS} {n : Nat} {ds : List D} (h : st[n]? = some (.lst ds)) : seqI st (.ref n) = some (ds, some n) := by
  unfold seqI
  simp only [h]
theorem iSeq_lst {st : SS} {n : Nat} {ds : List D} {m : MP} {env : EV} (h : m env st = some (.ref n)) (k : st[n]? = some (.lst ds)) : iSeq m env st = some (ds, some n) := by
  unfold iSeq
  rw [h]
  exact seqI_lst k
theorem getApp (st : SS) (c : Cell) : (st ++ [c])[st.length]? = some c := by simp
theorem setApp (st : SS) (c d : Cell) : (st ++ [c]).set st.length d = st ++ [d] := by simp
/-! ### computing, by comprehensions -/
section
variable {env : EV} {st : SS} {t : MT} {b : MB} {m mi : MP}
theorem comp_id {α : Type} {f : α → D} {g : α → D} {own : List Nat} {mit : MI} {l : List α} {ro : Option Nat} (h : mit env st = some (l.map f, ro)) (k : ∀ a ∈ l, ∃ env1, t (f a) (ewipe env own) = some env1 ∧ b env1 st = some true ∧ m env1 st = some (g a)) : mComp mit t b m own env st = some (l.map g) := by
  rw [mComp_e h, fGo_map (p := fun _ => true) (g := g) l fun a ha => let ⟨e1, h1, h2, h3⟩ := k a ha; ⟨e1, h1, h2, fun _ => h3⟩, List.filter_eq_self.mpr fun _ _ => rfl]
theorem comp_fi {α : Type} {f : α → D} {g : α → D} {p : α → Bool} {own : List Nat} {mit : MI} {l : List α} {ro : Option Nat} (h : mit env st = some (l.map f, ro)) (k : ∀ a ∈ l, ∃ env1, t (f a) (ewipe env own) = some env1 ∧ b env1 st = some (p a) ∧ (p a = true → m env1 st = some (g a))) : mComp mit t b m own env st = some ((l.filter p).map g) := by
  rw [mComp_e h, fGo_map (p := p) (g := g) l k]
end
end GD

set_option Elab.async false
set_option linter.all false
set_option maxRecDepth 100000
set_option maxHeartbeats 4000000
namespace GD
open PySem PySem.Spec PyProof.Rows L2 GX GS
/-! ## 19. all sets in lectic order -/
def lecS : Nat → Nat → List (List Nat)
  | _, 0 => [[]]
  | lo, n + 1 => lecS (lo + 1) n ++ (lecS (lo + 1) n).map (lo :: ·)
def LecLt (a b : List Nat) : Prop := ∃ m, m ∉ a ∧ m ∈ b ∧ ∀ k, k < m → (k ∈ a ↔ k ∈ b)
/-- a sorted set from lo on, below hi -/
def SetIn (lo hi : Nat) (s : List Nat) : Prop := s.Pairwise (· < ·) ∧ ∀ x ∈ s, lo ≤ x ∧ x < hi
theorem SetIn.nil (lo hi : Nat) : SetIn lo hi [] := ⟨List.Pairwise.nil, fun _ h => by cases h⟩
theorem mem_lecS : ∀ (n lo : Nat) (s : List Nat), s ∈ lecS lo n ↔ SetIn lo (lo + n) s
  | 0, lo, s => by
    unfold lecS SetIn
    constructor
    · intro h
      rw [List.mem_singleton.mp h]
      exact SetIn.nil _ _
    · rintro ⟨_, h⟩
      cases s with
      | nil => exact List.mem_cons_self
      | cons x s => have := h x List.mem_cons_self; omega
  | n + 1, lo, s => by
    unfold lecS
    rw [List.mem_append, List.mem_map]
    constructor
    · rintro (h | ⟨s', h, rfl⟩)
      · obtain ⟨h1, h2⟩ := (mem_lecS n (lo + 1) s).mp h
        exact ⟨h1, fun x hx => by have := h2 x hx; omega⟩
      · obtain ⟨h1, h2⟩ := (mem_lecS n (lo + 1) s').mp h
        refine ⟨List.pairwise_cons.mpr ⟨fun x hx => by have := h2 x hx; omega, h1⟩, fun x hx => ?_⟩
        rcases List.mem_cons.mp hx with e | e
        · omega
        · have := h2 x e; omega
    · rintro ⟨h1, h2⟩
      cases s with
      | nil => exact .inl ((mem_lecS n (lo + 1) []).mpr (SetIn.nil _ _))
      | cons x s =>
        have h3 := List.pairwise_cons.mp h1
        have hx := h2 x List.mem_cons_self
        by_cases e : x = lo
        · subst e
          refine .inr ⟨s, (mem_lecS n (x + 1) s).mpr ⟨h3.2, fun y hy => ?_⟩, rfl⟩
          have := h3.1 y hy
          have := h2 y (List.mem_cons_of_mem _ hy)
          omega
        · refine .inl ((mem_lecS n (lo + 1) _).mpr ⟨h1, fun y hy => ?_⟩)
          have hy2 := h2 y hy
          rcases List.mem_cons.mp hy with z | z
          · omega
          · have := h3.1 y z; omega
theorem LecLt.asym {a b : List Nat} (h : LecLt a b) (k : LecLt b a) : False := by
  obtain ⟨m, h1, h2, h3⟩ := h
  obtain ⟨n, k1, k2, k3⟩ := k
  rcases Nat.lt_trichotomy m n with h | h | h
  · exact h1 ((k3 m h).mp h2)
  · subst h; exact h1 k2
  · exact k1 ((h3 n h).mp k2)
theorem LecLt.trans {a b c : List Nat} (h : LecLt a b) (k : LecLt b c) : LecLt a c := by
  obtain ⟨m, h1, h2, h3⟩ := h
  obtain ⟨n, k1, k2, k3⟩ := k
  rcases Nat.lt_trichotomy m n with h | h | h
  · exact ⟨m, h1, (k3 m h).mp h2, fun x hx => (h3 x hx).trans (k3 x (by omega))⟩
  · subst h; exact absurd h2 k1
  · exact ⟨n, fun z => k1 ((h3 n h).mp z), k2, fun x hx => (h3 x (by omega)).trans (k3 x hx)⟩
theorem least_apart {a b : List Nat} : ∀ n, (∀ k, k < n → (k ∈ a ↔ k ∈ b)) ∨ ∃ m, m < n ∧ ¬(m ∈ a ↔ m ∈ b) ∧ ∀ k, k < m → (k ∈ a ↔ k ∈ b)
  | 0 => .inl fun k h => by omega
  | n + 1 => by
    rcases least_apart n with h | ⟨m, h1, h2, h3⟩
    · by_cases e : (n ∈ a ↔ n ∈ b)
      · refine .inl fun k hk => ?_
        by_cases z : k = n
        · subst z; exact e
        · exact h k (by omega)
      · exact .inr ⟨n, by omega, e, h⟩
    · exact .inr ⟨m, by omega, h2, h3⟩
theorem LecLt.tot {a b : List Nat} {n : Nat} (ha : a.Pairwise (· < ·)) (hb : b.Pairwise (· < ·)) (la : ∀ x ∈ a, x < n) (lb : ∀ x ∈ b, x < n) (h : a ≠ b) : LecLt a b ∨ LecLt b a := by
  rcases least_apart (a := a) (b := b) n with z | ⟨m, h1, h2, h3⟩
  · exfalso
    apply h
    refine sorted_ext ha hb fun k => ?_
    by_cases hk : k < n
    · exact z k hk
    · exact ⟨fun q => absurd (la k q) hk, fun q => absurd (lb k q) hk⟩
  · by_cases hm : m ∈ a
    · refine .inr ⟨m, fun z => h2 ⟨fun _ => z, fun _ => hm⟩, hm, fun k hk => (h3 k hk).symm⟩
    · refine .inl ⟨m, hm, Classical.byContradiction fun z => h2 ⟨fun q => absurd q hm, fun q => absurd q z⟩, h3⟩
theorem lecS_pw : ∀ (n lo : Nat), (lecS lo n).Pairwise LecLt
  | 0, lo => List.pairwise_singleton _ _
  | n + 1, lo => by
    unfold lecS
    rw [List.pairwise_append]
    have ih := lecS_pw n (lo + 1)
    refine ⟨ih, List.pairwise_map.mpr (List.Pairwise.imp_of_mem (fun {a b} ha hb h => ?_) ih), fun a ha b hb => ?_⟩
    · obtain ⟨m, h1, h2, h3⟩ := h
      have hm := ((mem_lecS n (lo + 1) b).mp hb).2 m h2
      refine ⟨m, fun z => ?_, List.mem_cons_of_mem _ h2, fun k hk => ?_⟩
      · rcases List.mem_cons.mp z with e | e
        · omega
        · exact h1 e
      · rw [List.mem_cons, List.mem_cons, h3 k hk]
    · obtain ⟨b', hb', rfl⟩ := List.mem_map.mp hb
      have h1 := ((mem_lecS n (lo + 1) a).mp ha).2
      have h2 := ((mem_lecS n (lo + 1) b').mp hb').2
      refine ⟨lo, fun z => by have := h1 lo z; omega, List.mem_cons_self, fun k hk => ⟨fun z => by have := h1 k z; omega, fun z => ?_⟩⟩
      rcases List.mem_cons.mp z with e | e
      · omega
      · have := h2 k e; omega
theorem pw_ext {α : Type} {R : α → α → Prop} (as : ∀ a b, R a b → R b a → False) : ∀ {a b : List α}, a.Pairwise R → b.Pairwise R → (∀ k, k ∈ a ↔ k ∈ b) → a = b
  | [], [], _, _, _ => rfl
  | [], y :: b, _, _, h => absurd ((h y).mpr List.mem_cons_self) (by simp)
  | x :: a, [], _, _, h => absurd ((h x).mp List.mem_cons_self) (by simp)
  | x :: a, y :: b, ha, hb, h => by
    have ha' := List.pairwise_cons.mp ha
    have hb' := List.pairwise_cons.mp hb
    have hxy : x = y := by
      rcases List.mem_cons.mp ((h x).mp List.mem_cons_self) with e | e
      · exact e
      · rcases List.mem_cons.mp ((h y).mpr List.mem_cons_self) with e2 | e2
        · exact e2.symm
        · exact (as _ _ (hb'.1 x e) (ha'.1 y e2)).elim
    subst hxy
    congr 1
    refine pw_ext as ha'.2 hb'.2 fun k => ⟨fun hk => ?_, fun hk => ?_⟩
    · rcases List.mem_cons.mp ((h k).mp (List.mem_cons_of_mem _ hk)) with e | e
      · subst e; exact (as _ _ (ha'.1 _ hk) (ha'.1 _ hk)).elim
      · exact e
    · rcases List.mem_cons.mp ((h k).mpr (List.mem_cons_of_mem _ hk)) with e | e
      · subst e; exact (as _ _ (hb'.1 _ hk) (hb'.1 _ hk)).elim
      · exact e
theorem lecS_nodup (n lo : Nat) : (lecS lo n).Nodup := List.Pairwise.imp (fun h e => by subst e; exact h.asym h) (lecS_pw n lo)
theorem lecS_len : ∀ (n lo : Nat), (lecS lo n).length = 2 ^ n
  | 0, _ => rfl
  | n + 1, lo => by
    unfold lecS
    rw [List.length_append, List.length_map, lecS_len n, Nat.pow_succ]
    omega
/-- the key: a sign for each number -/
def vecN (lo n : Nat) (s : List Nat) : List Nat := (List.range' lo n).map fun m => if s.contains m then 1 else 0
theorem vec_lt {a b : List Nat} : ∀ (n lo : Nat), HT.lexLt (iN (vecN lo n a)) (iN (vecN lo n b)) = true ↔ ∃ m, lo ≤ m ∧ m < lo + n ∧ m ∉ a ∧ m ∈ b ∧ ∀ k, lo ≤ k → k < m → (k ∈ a ↔ k ∈ b)
  | 0, lo => by
    constructor
    · intro h; cases h
    · rintro ⟨m, h1, h2, _⟩; omega
  | n + 1, lo => by
    have ih := vec_lt (a := a) (b := b) n (lo + 1)
    unfold vecN iN at ih ⊢
    rw [List.range'_succ, List.map_cons, List.map_cons, List.map_cons, List.map_cons, HT.lexLt_cons]
    have sg : ∀ s : List Nat, ((if s.contains lo = true then (1 : Nat) else 0 : Nat) : Int) = if lo ∈ s then 1 else 0 := fun s => by
      by_cases h : lo ∈ s
      · rw [if_pos h, if_pos (List.contains_iff_mem.mpr h)]; rfl
      · rw [if_neg h, if_neg (fun z => h (List.contains_iff_mem.mp z))]; rfl
    rw [sg, sg]
    have step : (lo ∈ a ↔ lo ∈ b) → ((∃ m, lo + 1 ≤ m ∧ m < lo + 1 + n ∧ m ∉ a ∧ m ∈ b ∧ ∀ k, lo + 1 ≤ k → k < m → (k ∈ a ↔ k ∈ b)) ↔ ∃ m, lo ≤ m ∧ m < lo + (n + 1) ∧ m ∉ a ∧ m ∈ b ∧ ∀ k, lo ≤ k → k < m → (k ∈ a ↔ k ∈ b)) := fun he => by
      constructor
      · rintro ⟨m, h1, h2, h3, h4, h5⟩
        refine ⟨m, by omega, by omega, h3, h4, fun k hk hk2 => ?_⟩
        by_cases z : k = lo
        · subst z; exact he
        · exact h5 k (by omega) hk2
      · rintro ⟨m, h1, h2, h3, h4, h5⟩
        refine ⟨m, ?_, by omega, h3, h4, fun k hk hk2 => h5 k (by omega) hk2⟩
        by_cases z : m = lo
        · subst z; exact absurd (he.mpr h4) h3
        · omega
    by_cases ha : lo ∈ a <;> by_cases hb : lo ∈ b
    · rw [if_pos ha, if_pos hb, if_pos rfl, ih]
      exact step ⟨fun _ => hb, fun _ => ha⟩
    · rw [if_pos ha, if_neg hb, if_neg (by decide)]
      constructor
      · intro h; exact absurd (of_decide_eq_true h) (by decide)
      · rintro ⟨m, h1, h2, h3, h4, h5⟩
        by_cases z : m = lo
        · subst z; exact absurd ha h3
        · exact absurd ((h5 lo (Nat.le_refl _) (by omega)).mp ha) hb
    · rw [if_neg ha, if_pos hb, if_neg (by decide)]
      exact ⟨fun _ => ⟨lo, Nat.le_refl _, by omega, ha, hb, fun k h1 h2 => by omega⟩, fun _ => by decide⟩
    · rw [if_neg ha, if_neg hb, if_pos rfl, ih]
      exact step ⟨fun h => absurd h ha, fun h => absurd h hb⟩
theorem vec_inj {a b : List Nat} : ∀ (n lo : Nat), vecN lo n a = vecN lo n b → ∀ k, lo ≤ k → k < lo + n → (k ∈ a ↔ k ∈ b)
  | 0, lo, _, k, h1, h2 => by omega
  | n + 1, lo, h, k, h1, h2 => by
    unfold vecN at h
    rw [List.range'_succ, List.map_cons, List.map_cons] at h
    have h3 := List.cons.inj h
    by_cases e : k = lo
    · subst e
      have := h3.1
      by_cases ha : k ∈ a <;> by_cases hb : k ∈ b
      · exact ⟨fun _ => hb, fun _ => ha⟩
      · rw [if_pos (List.contains_iff_mem.mpr ha), if_neg (fun z => hb (List.contains_iff_mem.mp z))] at this; cases this
      · rw [if_neg (fun z => ha (List.contains_iff_mem.mp z)), if_pos (List.contains_iff_mem.mpr hb)] at this; cases this
      · exact ⟨fun z => absurd z ha, fun z => absurd z hb⟩
    · exact vec_inj n (lo + 1) h3.2 k (by omega) (by omega)
def setP (many : Nat) (s : List Nat) : List Nat × List Nat := (vecN 0 many s, s)
theorem lexN_set {many : Nat} {a b : List Nat} (ha : SetIn 0 many a) (hb : SetIn 0 many b) (h : a ≠ b) : lexN (setP many a) (setP many b) = true ↔ LecLt a b := by
  have hne : ¬ (iN (vecN 0 many a) = iN (vecN 0 many b)) := fun e => h (sorted_ext ha.1 hb.1 fun k => by
    have q := vec_inj many 0 (iN_inj e) k (Nat.zero_le _)
    by_cases hk : k < many
    · exact q (by omega)
    · exact ⟨fun z => absurd (ha.2 k z).2 hk, fun z => absurd (hb.2 k z).2 hk⟩)
  have e : lexN (setP many a) (setP many b) = HT.lexLt (iN (vecN 0 many a)) (iN (vecN 0 many b)) := by
    unfold lexN lexK keyN setP
    exact if_neg hne
  rw [e, vec_lt]
  constructor
  · rintro ⟨m, h1, h2, h3, h4, h5⟩
    exact ⟨m, h3, h4, fun k hk => h5 k (Nat.zero_le _) hk⟩
  · rintro ⟨m, h3, h4, h5⟩
    exact ⟨m, Nat.zero_le _, by have := (hb.2 m h4).2; omega, h3, h4, fun k _ hk => h5 k hk⟩
/-- some sets, in lectic order -/
def lecF (many : Nat) (sets : List (List Nat)) : List (List Nat) := (lecS 0 many).filter fun s => sets.contains s
theorem sort_lec {many : Nat} {sets : List (List Nat)} {qs : List (List Nat × List Nat)} (hs : ∀ s ∈ sets, SetIn 0 many s) (hn : sets.Nodup) (h1 : SrtO.Srtd lexN qs) (h2 : SrtO.Stb lexN qs (sets.map (setP many))) : qs = (lecF many sets).map (setP many) := by
  have hp := h2.perm
  have e : qs = (qs.map (·.2)).map (setP many) := by
    rw [List.map_map]
    refine (List.map_id _).symm.trans (List.map_congr_left fun q hq => ?_)
    obtain ⟨s, hs', rfl⟩ := List.mem_map.mp (hp.mem_iff.mp hq)
    rfl
  have hp2 : (qs.map (·.2)).Perm sets := by
    have := hp.map (·.2)
    rw [List.map_map] at this
    exact this.trans (.of_eq (List.map_id _))
  have nd : (qs.map (·.2)).Nodup := hp2.nodup_iff.mpr hn
  rw [e]
  congr 1
  have srt : (qs.map (·.2)).Pairwise LecLt := by
    rw [e] at h1
    have h3 : (qs.map (·.2)).Pairwise fun a b => lexN (setP many b) (setP many a) = false := List.pairwise_map.mp h1
    have h4 := List.Pairwise.and h3 nd
    refine List.Pairwise.imp_of_mem (fun {a b} ha hb h => ?_) h4
    have sa := hs a (hp2.mem_iff.mp ha)
    have sb := hs b (hp2.mem_iff.mp hb)
    rcases LecLt.tot sa.1 sb.1 (fun x hx => (sa.2 x hx).2) (fun x hx => (sb.2 x hx).2) h.2 with z | z
    · exact z
    · have := (lexN_set sb sa h.2.symm).mpr z
      rw [h.1] at this
      cases this
  refine pw_ext (fun _ _ => LecLt.asym) srt (List.Pairwise.filter _ (lecS_pw many 0)) fun k => ?_
  unfold lecF
  rw [hp2.mem_iff, List.mem_filter, mem_lecS, List.contains_iff_mem, Nat.zero_add]
  exact ⟨fun h => ⟨hs k h, h⟩, fun h => h.2⟩
/-- all subsets, as they are made -/
def rowsM : Nat → List (List Nat)
  | 0 => [[]]
  | k + 1 => rowsM k ++ (rowsM k).map (· ++ [k])
theorem rowsM_succ (k : Nat) : rowsM (k + 1) = rowsM k ++ (rowsM k).map (· ++ [k]) := rfl
theorem mem_rowsM : ∀ (k : Nat) (s : List Nat), s ∈ rowsM k ↔ SetIn 0 k s
  | 0, s => by
    rw [← mem_lecS 0 0]
    rfl
  | k + 1, s => by
    unfold rowsM
    rw [List.mem_append, List.mem_map]
    constructor
    · rintro (h | ⟨s', h, rfl⟩)
      · obtain ⟨h1, h2⟩ := (mem_rowsM k s).mp h
        exact ⟨h1, fun x hx => by have := h2 x hx; omega⟩
      · obtain ⟨h1, h2⟩ := (mem_rowsM k s').mp h
        refine ⟨List.pairwise_append.mpr ⟨h1, List.pairwise_singleton _ _, fun a ha b hb => ?_⟩, fun x hx => ?_⟩
        · rw [List.mem_singleton.mp hb]; exact (h2 a ha).2
        · rcases List.mem_append.mp hx with e | e
          · have := h2 x e; omega
          · rw [List.mem_singleton.mp e]; omega
    · rintro ⟨h1, h2⟩
      by_cases hk : k ∈ s
      · refine .inr ⟨s.filter (· ≠ k), (mem_rowsM k _).mpr ⟨h1.filter _, fun x hx => ?_⟩, ?_⟩
        · have hx' := List.mem_filter.mp hx
          have := h2 x hx'.1
          have := of_decide_eq_true hx'.2
          omega
        · refine sorted_ext ?_ h1 fun x => ?_
          · refine List.pairwise_append.mpr ⟨h1.filter _, List.pairwise_singleton _ _, fun a ha b hb => ?_⟩
            have ha' := List.mem_filter.mp ha
            have := h2 a ha'.1
            have := of_decide_eq_true ha'.2
            rw [List.mem_singleton.mp hb]
            omega
          · rw [List.mem_append, List.mem_filter, List.mem_singleton]
            constructor
            · rintro (h | h)
              · exact h.1
              · rw [h]; exact hk
            · intro h
              by_cases e : x = k
              · exact .inr e
              · exact .inl ⟨h, decide_eq_true e⟩
      · refine .inl ((mem_rowsM k s).mpr ⟨h1, fun x hx => ?_⟩)
        have := h2 x hx
        by_cases e : x = k
        · subst e; exact absurd hx hk
        · omega
theorem rowsM_nodup : ∀ k, (rowsM k).Nodup
  | 0 => List.pairwise_singleton _ _
  | k + 1 => by
    unfold rowsM
    rw [List.nodup_append]
    have ih := rowsM_nodup k
    refine ⟨ih, List.pairwise_map.mpr (List.Pairwise.imp (fun h e => h (List.append_cancel_right e)) ih), fun a ha b hb e => ?_⟩
    subst e
    obtain ⟨s, _, rfl⟩ := List.mem_map.mp hb
    have := ((mem_rowsM k _).mp ha).2 k (List.mem_append_right _ List.mem_cons_self)
    omega
theorem rowsM_len : ∀ k, (rowsM k).length = 2 ^ k
  | 0 => rfl
  | k + 1 => by
    unfold rowsM
    rw [List.length_append, List.length_map, rowsM_len k, Nat.pow_succ]
    omega
theorem lecF_rows (many : Nat) : lecF many (rowsM many) = lecS 0 many := by
  unfold lecF
  refine List.filter_eq_self.mpr fun s hs => ?_
  rw [List.contains_iff_mem, mem_rowsM]
  have := (mem_lecS many 0 s).mp hs
  rw [Nat.zero_add] at this
  exact this
/-- the closed sets of a table in lectic order -/
def closedM (many : Nat) (rows : List (List Nat)) : List (List Nat) := (lecS 0 many).filter fun s => decide (closureM many rows s = s)
end GD

set_option Elab.async false
set_option linter.all false
set_option maxRecDepth 100000
set_option maxHeartbeats 4000000
namespace GF
open PySem PySem.Spec PyProof.Rows L2 GX GD GS
/-! the words that many laws share, computed -/
theorem getI {st : SS} {rows : List (List Nat)} {g : Nat} (h : g < rows.length) : fIx st (.tup (rows.map dN)) (nI g) = some (dN (rows.getD g [])) := fIx_map st dN rows g (rowD rows h)
theorem lenE {st : SS} {α : Type} {f : α → D} {l : List α} {m : MP} {env : EV} (h : m env st = some (.tup (l.map f))) : mF1 fLen m env st = some (nI l.length) := by
  unfold mF1
  rw [h]
  show some (D.int ((l.map f).length : Nat)) = _
  rw [List.length_map]
  rfl
theorem none_left {l : List Nat} {p : Nat → Bool} : decide (((l.filter fun k => !p k).length : Int) = 0) = l.all p := by
  rw [Bool.eq_iff_iff, decide_eq_true_iff, List.all_eq_true]
  constructor
  · intro h k hk
    have h0 : (l.filter fun k => !p k) = [] := List.eq_nil_of_length_eq_zero (by omega)
    have q := List.filter_eq_nil_iff.mp h0 k hk
    simpa using q
  · intro h
    have h0 : (l.filter fun k => !p k) = [] := List.filter_eq_nil_iff.mpr fun k hk => by simpa using h k hk
    rw [h0]
    rfl
theorem having_lt {rows : List (List Nat)} {marks : List Nat} : ∀ g ∈ havingM rows marks, g < rows.length := fun g hg => (mem_having.mp hg).1
def R_is_part : RS := (rRet (mAll false (iSeq (mVar 0)) (tgN 2) bYes (mOp fIn (mVar 2) (mVar 1)) [2]))
def F_is_part : List D → SS → Option D := fnR' 3 2 R_is_part
theorem is_part_eval (st : SS) (a b : List Nat) : F_is_part [dN a, dN b] st = some (.bl (isPart a b)) := by
  refine fnR'_rt rfl ?_ rfl
  refine rRet_e ?_
  show (match allGo (tgN 2) bYes (mOp fIn (mVar 2) (mVar 1)) [some (dN a), some (dN b), none] st false (a.map nI) with | some x => some (D.bl x) | none => none) = _
  rw [allGo_map (p := fun k => b.contains k) a fun k _ => ⟨_, rfl, rfl, fIn_nI st k b⟩]
  rfl
def R_law_inside : RS := (rRet (mOp fEq (mLenL (mComp (iSeq (mVar 0)) (tgN 2) (bV (mOp fNotIn (mVar 2) (mVar 1))) (mVar 2) [2])) (mC (.int 0))))
def F_law_inside : List D → SS → Option D := fnR' 3 2 R_law_inside
theorem inside_eval (st : SS) (a b : List Nat) : F_law_inside [dN a, dN b] st = some (.bl (isPart a b)) := by
  refine fnR'_rt rfl ?_ rfl
  refine rRet_e ((mOp_e (mLenL_e (comp_fi (p := fun k => !b.contains k) (g := nI) (iSeq_dN rfl) fun k _ => ⟨_, rfl, bV_e ((mOp_e rfl rfl).trans (fNotIn_nI st k b)), fun _ => rfl⟩)) rfl).trans ?_)
  rw [eqI, List.length_map, none_left]
  rfl
def R_law_common : RS := (rRet (mTupL (mComp (iRng (mOp fIx (mVar 0) (mC (.int 1)))) (tgN 2) (bV (mOp fEq (mLenL (mComp (iSeq (mVar 1)) (tgN 3) (bV (mOp fNotIn (mVar 2) (mOp fIx (mOp fIx (mVar 0) (mC (.int 2))) (mVar 3)))) (mVar 3) [3])) (mC (.int 0)))) (mVar 2) [2])))
def F_law_common : List D → SS → Option D := fnR' 4 2 R_law_common
theorem law_common_eval {st : SS} {many : Nat} {rows : List (List Nat)} {things : List Nat} (hm : many ≤ 1000000) (ht : ∀ g ∈ things, g < rows.length) : F_law_common [tblD many rows, dN things] st = some (dN (commonM many rows things)) := by
  refine fnR'_rt rfl ?_ (lo_dN _ _)
  refine rRet_e (mTupL_e (comp_fi (p := fun m => things.all fun g => (rows.getD g []).contains m) (g := nI) (iRng_nat rfl hm) fun m _ => ⟨_, rfl, ?_, fun _ => rfl⟩))
  refine bV_e ((mOp_e (mLenL_e (comp_fi (p := fun g => !(rows.getD g []).contains m) (g := nI) (iSeq_dN rfl) fun g hg => ⟨_, rfl, bV_e ((mOp_e rfl ((mOp_e rfl rfl).trans (getI (ht g hg)))).trans (fNotIn_nI st m _)), fun _ => rfl⟩)) rfl).trans ?_)
  rw [eqI, List.length_map, none_left]
def R_law_having : RS := (rRet (mTupL (mComp (iRng (mF1 fLen (mOp fIx (mVar 0) (mC (.int 2))))) (tgN 2) (bV (mCall F_law_inside (mCons (mVar 1) (mCons (mOp fIx (mOp fIx (mVar 0) (mC (.int 2))) (mVar 2)) mNil)))) (mVar 2) [2])))
def F_law_having : List D → SS → Option D := fnR' 3 2 R_law_having
theorem law_having_eval {st : SS} {many : Nat} {rows : List (List Nat)} {marks : List Nat} (hr : rows.length ≤ 1000000) : F_law_having [tblD many rows, dN marks] st = some (dN (havingM rows marks)) := by
  refine fnR'_rt rfl ?_ (lo_dN _ _)
  refine rRet_e (mTupL_e (comp_fi (p := fun g => isPart marks (rows.getD g [])) (g := nI) (iRng_nat (n := rows.length) (lenE rfl) hr) fun g hg => ⟨_, rfl, ?_, fun _ => rfl⟩))
  exact bV_e ((mCall2 rfl ((mOp_e rfl rfl).trans (getI (List.mem_range.mp hg)))).trans (inside_eval _ _ _))
def R_law_closure : RS := (rRet (mCall F_law_common (mCons (mVar 0) (mCons (mCall F_law_having (mCons (mVar 0) (mCons (mVar 1) mNil))) mNil))))
def F_law_closure : List D → SS → Option D := fnR' 2 2 R_law_closure
theorem law_closure_eval {st : SS} {many : Nat} {rows : List (List Nat)} {marks : List Nat} (hm : many ≤ 1000000) (hr : rows.length ≤ 1000000) : F_law_closure [tblD many rows, dN marks] st = some (dN (closureM many rows marks)) := by
  refine fnR'_rt rfl ?_ (lo_dN _ _)
  exact rRet_e ((mCall2 rfl ((mCall2 rfl rfl).trans (law_having_eval hr))).trans (law_common_eval hm having_lt))
def X_law_lectic : XS := (sSeq (sAsg (xNew (xaOf (mLst mNil))) (tgN 2)) (sSeq (sFor (xiOf (iSeq (mVar 1))) (tgN 3) (sAppP (mVar 2) (xOf (mTup (mCons (mTupL (mComp (iRng (mVar 0)) (tgN 4) bYes (mF1 fInt (mOp fIn (mVar 4) (mVar 3))) [4])) (mCons (mVar 3) mNil)))))) (sRet (xNew (xComp (xSeq (xNew (xSortK (xOf (mVar 2))))) (tgN 5) (xbOf bYes) (xOf (mOp fIx (mVar 5) (mC (.int 1)))) [5])))))
def Y_law_lectic : XT := fnT' 6 2 X_law_lectic
/-- some sets are put in lectic order -/
def lecticT : XT := fun ds st R => ∃ (many n : Nat) (sets : List (List Nat)), ds = [nI many, .ref n] ∧ many ≤ 1000 ∧ st[n]? = some (.lst (sets.map dN)) ∧ sets.length ≤ 100000 ∧ (∀ s ∈ sets, SetIn 0 many s) ∧ sets.Nodup ∧ NewL st ((lecF many sets).map dN) R
abbrev T_law_lectic : XT := lecticT
theorem vec_eval {st : SS} {many : Nat} {s : List Nat} {mi mk ms : MP} {i : Nat} {own : List Nat} {env : EV} (h : mi env st = some (nI many)) (hm : many ≤ 1000000) (hk : ∀ k, mk ((ewipe env own).set i (some (nI k))) st = some (nI k)) (hs : ∀ k, ms ((ewipe env own).set i (some (nI k))) st = some (dN s)) : mTupL (mComp (iRng mi) (tgN i) bYes (mF1 fInt (mOp fIn mk ms)) own) env st = some (dN (vecN 0 many s)) := by
  unfold vecN dN
  rw [← List.range_eq_range', List.map_map]
  refine mTupL_e (comp_id (iRng_nat h hm) fun k _ => ⟨_, rfl, rfl, ?_⟩)
  unfold mF1
  rw [(mOp_e (hk k) (hs k)).trans (fIn_nI st k s)]
  show some (D.int (if s.contains k = true then 1 else 0)) = some (nI (if s.contains k = true then 1 else 0))
  cases s.contains k <;> rfl
theorem lectic_ok (ds : List D) (st : SS) (R : D → SS → Prop) (h : lecticT ds st R) : Y_law_lectic ds st R := by
  obtain ⟨many, n, sets, rfl, hm, hst, hlen, hs, hnd, hR⟩ := h
  have hn : n < st.length := (List.getElem?_eq_some_iff.mp hst).1
  refine ⟨rfl, ?_⟩
  show X_law_lectic _ [some (nI many), some (.ref n), none, none, none, none] st
  refine ⟨[], rfl, _, rfl, ?_⟩
  have hst1 : ∀ t : SS, (st ++ t)[n]? = some (.lst (sets.map dN)) := fun t => by rw [List.getElem?_append_left hn]; exact hst
  refine ⟨sets.map dN, some n, iSeq_lst rfl (hst1 _), ?_⟩
  -- the loop
  have loop : ∀ (todo done : List (List Nat)) (x3 x4 x5 : Option D) (K : DE), done.length + todo.length ≤ 100000 →
      (∀ x3 x4 x5, K.nx [some (nI many), some (.ref n), some (.ref st.length), x3, x4, x5] (st ++ [Cell.lst ((done ++ todo).map fun s => pairD (setP many s))])) →
      sForGo (tgN 3) (sAppP (mVar 2) (xOf (mTup (mCons (mTupL (mComp (iRng (mVar 0)) (tgN 4) bYes (mF1 fInt (mOp fIn (mVar 4) (mVar 3))) [4])) (mCons (mVar 3) mNil))))) (st ++ [Cell.lst []]) (some n) K (todo.map dN) [some (nI many), some (.ref n), some (.ref st.length), x3, x4, x5] (st ++ [Cell.lst (done.map fun s => pairD (setP many s))]) := by
    intro todo
    induction todo with
    | nil =>
      intro done x3 x4 x5 K _ hK
      refine ⟨(hst1 _).trans (hst1 _).symm, ?_⟩
      have := hK x3 x4 x5
      rw [List.append_nil] at this
      exact this
    | cons s todo ih =>
      intro done x3 x4 x5 K hl hK
      refine ⟨(hst1 _).trans (hst1 _).symm, [some (nI many), some (.ref n), some (.ref st.length), some (dN s), x4, x5], rfl, ?_⟩
      refine ⟨st.length, _, rfl, getApp _ _, pairD (setP many s), ?_, _, getApp _ _, by rw [List.length_map]; rw [List.length_cons] at hl; omega, ?_⟩
      · refine mTup_e (mCons_e (vec_eval rfl (by omega) (fun k => rfl) fun k => rfl) (mCons1 rfl)) (by show 2 ≤ 1000; decide)
      · have q := ih (done ++ [s]) (some (dN s)) x4 x5 K (by rw [List.length_append]; rw [List.length_cons] at hl; simp; omega) (fun a b c => by
          have := hK a b c
          rw [List.append_assoc]
          exact this)
        rw [setApp]
        rw [List.map_append] at q
        exact q
  refine loop sets [] none none none _ (by simpa using hlen) fun x3 x4 x5 => ?_
  rw [List.nil_append]
  refine ⟨.ref st.length, rfl, st.length, sets.map (setP many), rfl, by rw [getApp, List.map_map]; rfl, fun qs h1 h2 => ?_⟩
  rw [sort_lec hs hnd h1 h2]
  -- the sorted list is read
  refine ⟨((lecF many sets).map (setP many)).map pairD, some (st ++ [Cell.lst (sets.map fun s => pairD (setP many s))]).length, seqI_lst (getApp _ _), ?_⟩
  have go : ∀ (todo : List (List Nat)) (env : EV) (st1 : SS) (R1 : List D → SS → Prop) (k : Nat), 5 < env.length → R1 (todo.map dN) st1 → xGo (tgN 5) (xbOf bYes) (xOf (mOp fIx (mVar 5) (mC (.int 1)))) env st1 (some k) ((todo.map (setP many)).map pairD) st1 R1 := by
    intro todo
    induction todo with
    | nil => intro env st1 R1 k _ h; exact ⟨rfl, h⟩
    | cons s todo ih =>
      intro env st1 R1 k he h
      refine ⟨rfl, _, rfl, true, rfl, iteT ⟨dN s, ?_, ih env st1 _ k he h⟩⟩
      show mOp fIx (mVar 5) (mC (.int 1)) (env.set 5 (some (pairD (setP many s)))) st1 = _
      unfold mOp mVar
      rw [List.getElem?_set_self he]
      rfl
  refine go _ _ _ _ _ (by simp [ewipe]) ?_
  refine hR _ _ ?_ ?_ (getApp _ _)
  · rw [List.length_append, List.length_append]; omega
  · intro m hm
    rw [List.append_assoc, List.append_assoc]
    exact List.getElem?_append_left hm
def X_law_subsets : XS := (sSeq (sAsg (xNew (xaOf (mLst (mCons (mTup mNil) mNil)))) (tgN 1)) (sSeq (sFor (xiOf (iRng (mVar 0))) (tgN 2) (sAsg (xNew (xCat (xOf (mVar 1)) (xNew (xaOf (mComp (iSeq (mVar 1)) (tgN 3) bYes (mOp fAdd (mVar 3) (mTup (mCons (mVar 2) mNil))) [3]))))) (tgN 1))) (sRet (xCall T_law_lectic (xCons (xOf (mVar 0)) (xCons (xOf (mVar 1)) xNil))))))
def Y_law_subsets : XT := fnT' 4 1 X_law_subsets
def subsetsT : XT := fun ds st R => ∃ many : Nat, ds = [nI many] ∧ many ≤ 10 ∧ NewL st ((lecS 0 many).map dN) R
abbrev T_law_subsets : XT := subsetsT
theorem dN_snoc (s : List Nat) (k : Nat) (st : SS) : s.length ≤ 1000 → fAdd st (dN s) (.tup [nI k]) = some (dN (s ++ [k])) := fun h => by
  unfold dN
  rw [List.map_append]
  refine if_pos ?_
  rw [List.length_map]
  show s.length + 1 ≤ _
  omega
theorem subsets_ok (ds : List D) (st : SS) (R : D → SS → Prop) (h : subsetsT ds st R) : Y_law_subsets ds st R := by
  obtain ⟨many, rfl, hm, hR⟩ := h
  refine ⟨rfl, ?_⟩
  show X_law_subsets _ [some (nI many), none, none, none] st
  refine ⟨[.tup []], rfl, _, rfl, ?_⟩
  refine ⟨(List.range many).map nI, none, iRng_nat rfl (by omega), ?_⟩
  have p2 : ∀ k, k ≤ 10 → 2 ^ k ≤ 1024 := fun k hk => Nat.le_trans (Nat.pow_le_pow_right (by decide) hk) (by decide)
  refine for_inv (fun rest env st1 => ∃ i, i ≤ many ∧ rest = (List.range' i (many - i)).map nI ∧ Up st st1 ∧ ∃ n x2 x3, env = [some (nI many), some (.ref n), x2, x3] ∧ st.length ≤ n ∧ st1[n]? = some (.lst ((rowsM i).map dN))) ?_ ?_ _ _ _ ⟨0, Nat.zero_le _, by rw [List.range_eq_range', Nat.sub_zero], Up.app _ _, st.length, none, none, rfl, Nat.le_refl _, getApp _ _⟩
  · rintro d rest env st1 ⟨i, hi, hrest, hu, n, x2, x3, rfl, hn, hc⟩
    have hlt : i < many := by
      by_cases h : i < many
      · exact h
      · have : many - i = 0 := by omega
        rw [this] at hrest
        cases hrest
    have hk : many - i = (many - (i + 1)) + 1 := by omega
    rw [hk, List.range'_succ, List.map_cons] at hrest
    obtain ⟨rfl, rfl⟩ := List.cons.inj hrest
    refine ⟨[some (nI many), some (.ref n), some (nI i), x3], rfl, fun K hnx hct hrt hbk => ?_⟩
    have cmp : mComp (iSeq (mVar 1)) (tgN 3) bYes (mOp fAdd (mVar 3) (mTup (mCons (mVar 2) mNil))) [3] [some (nI many), some (.ref n), some (nI i), x3] st1 = some (((rowsM i).map (· ++ [i])).map dN) := by
      rw [List.map_map]
      have it : iSeq (mVar 1) [some (nI many), some (.ref n), some (nI i), x3] st1 = some ((rowsM i).map dN, some n) := iSeq_lst rfl hc
      refine comp_id (g := fun s => dN (s ++ [i])) it fun s hs => ⟨_, rfl, rfl, (mOp_e rfl (mTup_e (mCons1 rfl) (by show 1 ≤ 1000; decide))).trans (dN_snoc s i _ ?_)⟩
      obtain ⟨h1, h2⟩ := (mem_rowsM i s).mp hs
      have := sorted_len h1 (fun x hx => (h2 x hx).2)
      omega
    refine ⟨.ref n, rfl, _, cmp, ?_⟩
    have hn1 : n < st1.length := (List.getElem?_eq_some_iff.mp hc).1
    refine ⟨n, st1.length, (rowsM i).map dN, ((rowsM i).map (· ++ [i])).map dN, rfl, rfl, by rw [List.getElem?_append_left hn1]; exact hc, getApp _ _, ?_, ?_⟩
    · rw [List.length_map, List.length_map, List.length_map, rowsM_len]
      have := p2 i (by omega)
      omega
    refine ⟨_, rfl, hnx _ _ ⟨i + 1, hlt, rfl, ?_, _, _, _, rfl, ?_, ?_⟩⟩
    · exact hu.trans ((Up.app _ _).trans (Up.app _ _))
    · rw [List.length_append]
      have := hu.len
      omega
    · rw [getApp, rowsM_succ, List.map_append]
  · rintro env st1 ⟨i, hi, hrest, hu, n, x2, x3, rfl, hn, hc⟩
    have : i = many := by
      by_cases h : i < many
      · have hk : many - i = (many - (i + 1)) + 1 := by omega
        rw [hk, List.range'_succ] at hrest
        cases hrest
      · omega
    subst this
    refine ⟨nI i, rfl, .ref n, rfl, i, n, rowsM i, rfl, by omega, hc, ?_, fun s hs => (mem_rowsM i s).mp hs, rowsM_nodup i, ?_⟩
    · rw [rowsM_len]
      have := p2 i (by omega)
      omega
    · intro st2 k hk hu2 hc2
      rw [lecF_rows] at hc2
      exact hR st2 k (Nat.le_trans hu.len hk) (hu.trans hu2) hc2
def X_law_closed : XS := (sRet (xNew (xComp (xSeq (xCall T_law_subsets (xCons (xOf (mOp fIx (mVar 0) (mC (.int 1)))) xNil))) (tgN 1) (xbOf (bV (mOp fEq (mCall F_law_closure (mCons (mVar 0) (mCons (mVar 1) mNil))) (mVar 1)))) (xOf (mVar 1)) [1])))
def Y_law_closed : XT := fnT' 2 1 X_law_closed
def closedT : XT := fun ds st R => ∃ (many : Nat) (rows : List (List Nat)), ds = [tblD many rows] ∧ many ≤ 10 ∧ rows.length ≤ 1000 ∧ NewL st ((closedM many rows).map dN) R
abbrev T_law_closed : XT := closedT
theorem xgo_filter {α : Type} {t : MT} {b : MB} {m : MP} {env : EV} {f g : α → D} {p : α → Bool} {st1 : SS} {k : Option Nat} : ∀ (l : List α) (R : List D → SS → Prop), (∀ a ∈ l, ∃ env1, t (f a) env = some env1 ∧ b env1 st1 = some (p a) ∧ (p a = true → m env1 st1 = some (g a))) → R ((l.filter p).map g) st1 → xGo t (xbOf b) (xOf m) env st1 k (l.map f) st1 R
  | [], R, _, hR => by
    refine ⟨?_, hR⟩
    unfold Hold
    cases k <;> trivial
  | a :: l, R, h, hR => by
    obtain ⟨env1, h1, h2, h3⟩ := h a List.mem_cons_self
    refine ⟨by unfold Hold; cases k <;> trivial, env1, h1, p a, h2, ?_⟩
    cases hp : p a with
    | true =>
      refine iteT ⟨g a, h3 hp, xgo_filter l _ (fun a ha => h a (List.mem_cons_of_mem _ ha)) ?_⟩
      rw [List.filter_cons_of_pos hp] at hR
      exact hR
    | false =>
      refine iteF (xgo_filter l R (fun a ha => h a (List.mem_cons_of_mem _ ha)) ?_)
      rw [List.filter_cons_of_neg (by rw [hp]; decide)] at hR
      exact hR
theorem closed_ok (ds : List D) (st : SS) (R : D → SS → Prop) (h : closedT ds st R) : Y_law_closed ds st R := by
  obtain ⟨many, rows, rfl, hm, hr, hR⟩ := h
  refine ⟨rfl, ?_⟩
  show X_law_closed _ [some (tblD many rows), none] st
  refine ⟨nI many, rfl, many, rfl, hm, fun st1 n hn hu hc => ?_⟩
  refine ⟨(lecS 0 many).map dN, some n, seqI_lst hc, ?_⟩
  refine xgo_filter (p := fun s => decide (closureM many rows s = s)) (g := dN) _ _ (fun s _ => ⟨_, rfl, bV_e ((mOp_e ((mCall2 rfl rfl).trans (law_closure_eval (by omega) (by omega))) rfl).trans (fEq_dN _ _ _)), fun _ => rfl⟩) ?_
  exact hR _ _ hu.len (hu.trans (Up.app _ _)) (getApp _ _)
end GF

set_option Elab.async false
set_option linter.all false
set_option maxRecDepth 100000
set_option maxHeartbeats 4000000
namespace GF
open PySem PySem.Spec PyProof.Rows L2 GX GD GS
theorem bOr_e {a b : MB} {env : EV} {st : SS} {x y : Bool} (h : a env st = some x) (k : b env st = some y) : bOr a b env st = some (x || y) := by
  unfold bOr
  rw [h]
  cases x with
  | true => rfl
  | false => exact k
theorem bAnd_e {a b : MB} {env : EV} {st : SS} {x y : Bool} (h : a env st = some x) (k : x = true → b env st = some y) : bAnd a b env st = some (x && y) := by
  unfold bAnd
  rw [h]
  cases x with
  | true => exact (k rfl)
  | false => rfl
end GF

set_option Elab.async false
set_option linter.all false
set_option maxRecDepth 100000
set_option maxHeartbeats 4000000
namespace GD
open PySem PySem.Spec PyProof.Rows L2 GX GS
/-! ## 21. reduced tables -/
section
variable (I : Nat → Nat → Bool) (a b : Nat)
def fl (I : Nat → Nat → Bool) : Nat → Nat → Bool := fun m g => I g m
end
section
variable {I : Nat → Nat → Bool} {a b : Nat}
end
/-! ### of tables -/
section
variable {many : Nat} {rows : List (List Nat)}
def Tab (many : Nat) (rows : List (List Nat)) : Prop := ∀ r ∈ rows, r.Pairwise (· < ·) ∧ ∀ x ∈ r, x < many
theorem Tab.row (T : Tab many rows) (g : Nat) : (rows.getD g []).Pairwise (· < ·) ∧ ∀ x ∈ rows.getD g [], x < many := by
  by_cases h : g < rows.length
  · exact T _ (List.mem_of_getElem? (rowD rows h))
  · rw [List.getD_eq_getElem?_getD, List.getElem?_eq_none (by omega)]
    exact ⟨List.Pairwise.nil, fun _ z => by cases z⟩
open GF
theorem atD (l : List Nat) {i : Nat} (h : i < l.length) : l[i]? = some (l.getD i 0) := by
  rw [List.getD_eq_getElem?_getD, List.getElem?_eq_getElem h]
  rfl
theorem closed_nodup : (closedM many rows).Nodup := (lecS_nodup many 0).filter _
end
end GD

set_option Elab.async false
set_option linter.all false
set_option maxRecDepth 100000
set_option maxHeartbeats 4000000
namespace GD
open PySem PySem.Spec PyProof.Rows L2 GX GS
/-! ## 22. loops over lists, by what is done -/
theorem for_ls {α : Type} {f : α → D} {items : List α} {t : MT} {body : XS} {st0 : SS} {ro : Option Nat} {D0 : DE} (Iv : List α → EV → SS → Prop)
    (hh : ∀ done env st, Iv done env st → Hold st0 ro st)
    (hs : ∀ done a todo env st, items = done ++ a :: todo → Iv done env st → ∃ env1, t (f a) env = some env1 ∧ ∀ K : DE, (∀ env st, Iv (done ++ [a]) env st → K.nx env st) → (∀ env st, Iv (done ++ [a]) env st → K.ct env st) → K.rt = D0.rt → K.bk = D0.nx → body K env1 st)
    (he : ∀ env st, Iv items env st → D0.nx env st) {env : EV} {st : SS} (h0 : Iv [] env st) : sForGo t body st0 ro D0 (items.map f) env st := by
  have go : ∀ (todo done : List α) (env : EV) (st : SS), items = done ++ todo → Iv done env st → sForGo t body st0 ro D0 (todo.map f) env st := by
    intro todo
    induction todo with
    | nil =>
      intro done env st e h
      rw [List.append_nil] at e
      subst e
      exact ⟨hh _ _ _ h, he _ _ h⟩
    | cons a todo ih =>
      intro done env st e h
      obtain ⟨env1, h1, h2⟩ := hs done a todo env st e h
      have e2 : items = (done ++ [a]) ++ todo := by rw [e, List.append_assoc]; rfl
      exact ⟨hh _ _ _ h, env1, h1, h2 _ (fun env st k => ih _ env st e2 k) (fun env st k => ih _ env st e2 k) rfl rfl⟩
  exact go items [] env st rfl h0
theorem range_split {n a : Nat} {done todo : List Nat} (h : List.range n = done ++ a :: todo) : done = List.range a ∧ a < n := by
  have hl : done.length < n := by
    have := congrArg List.length h
    rw [List.length_range, List.length_append, List.length_cons] at this
    omega
  have ha : (List.range n)[done.length]? = some a := by
    rw [h, List.getElem?_append_right (Nat.le_refl _), Nat.sub_self]
    rfl
  rw [List.getElem?_range hl] at ha
  have ha := Option.some.inj ha
  subst ha
  refine ⟨?_, hl⟩
  have e : done = (List.range n).take done.length := by rw [h, List.take_left']; rfl
  rw [List.take_range, Nat.min_eq_left (by omega)] at e
  exact e
/-- over a range -/
theorem for_rg {n : Nat} {t : MT} {body : XS} {st0 : SS} {D0 : DE} (Iv : Nat → EV → SS → Prop)
    (hs : ∀ i env st, i < n → Iv i env st → ∃ env1, t (nI i) env = some env1 ∧ ∀ K : DE, (∀ env st, Iv (i + 1) env st → K.nx env st) → (∀ env st, Iv (i + 1) env st → K.ct env st) → K.rt = D0.rt → K.bk = D0.nx → body K env1 st)
    (he : ∀ env st, Iv n env st → D0.nx env st) {env : EV} {st : SS} (h0 : Iv 0 env st) : sForGo t body st0 none D0 ((List.range n).map nI) env st := by
  refine for_ls (ro := none) (fun done env st => Iv done.length env st) (fun _ _ _ _ => trivial) (fun done a todo env st e h => ?_) (fun env st h => he env st (by rw [List.length_range] at h; exact h)) h0
  obtain ⟨e1, e2⟩ := range_split e
  have el : done.length = a := by rw [e1, List.length_range]
  rw [el] at h
  obtain ⟨env1, h1, h2⟩ := hs a env st e2 h
  refine ⟨env1, h1, fun K k1 k2 k3 k4 => h2 K (fun env st q => k1 env st ?_) (fun env st q => k2 env st ?_) k3 k4⟩ <;> (rw [List.length_append, el]; exact q)
/-! ### parts, as they are made -/
theorem lenR {st : SS} {α : Type} {f : α → D} {l : List α} {n : Nat} {m : MP} {env : EV} (h : m env st = some (.ref n)) (k : st[n]? = some (.lst (l.map f))) : mF1 fLen m env st = some (nI l.length) := by
  unfold mF1
  rw [h]
  show fLen st (.ref n) = _
  unfold fLen seqOf
  simp only [k, List.length_map]
  rfl
theorem getR {st : SS} {α : Type} {f : α → D} {l : List α} {n i : Nat} {a : α} (k : st[n]? = some (.lst (l.map f))) (h : l[i]? = some a) : fIx st (.ref n) (nI i) = some (f a) := by
  unfold fIx seqOf
  simp only [k]
  show atI (l.map f) (i : Int) = _
  rw [atI_nat, List.getElem?_map, h]
  rfl
theorem tupR {st : SS} {ds : List D} {n : Nat} {m : MP} {env : EV} (h : m env st = some (.ref n)) (k : st[n]? = some (.lst ds)) : mF1 fTup m env st = some (.tup ds) := by
  unfold mF1
  rw [h]
  show fTup st (.ref n) = _
  unfold fTup seqOf
  simp only [k]
theorem Tab.set {many : Nat} {rows : List (List Nat)} (T : Tab many rows) {s : List Nat} (h : s.Pairwise (· < ·) ∧ ∀ x ∈ s, x < many) (j : Nat) : Tab many (rows.set j s) := fun r hr => by
  rcases List.mem_or_eq_of_mem_set hr with h1 | h1
  · exact T r h1
  · rw [h1]; exact h
theorem Ev.keep {n : Nat} {st st1 : SS} (e : Ev n st st1) {p : Nat} {c : Cell} (h : st[p]? = some c) (hp : p ≠ n) : st1[p]? = some c := (e.at_ p hp).trans h
theorem getSet {st : SS} {n : Nat} {c d : Cell} (h : st[n]? = some c) : (st.set n d)[n]? = some d := List.getElem?_set_self (List.getElem?_eq_some_iff.mp h).1
end GD

set_option Elab.async false
set_option linter.all false
set_option maxRecDepth 100000
set_option maxHeartbeats 4000000
namespace GD
open PySem PySem.Spec PyProof.Rows L2 GX GS
/-! ## 25. the next closed set -/
def unionM (a b : List Nat) : List Nat := (List.range ((a ++ b).foldr (fun x y => max (x + 1) y) 0)).filter fun k => a.contains k || b.contains k
theorem lt_bound : ∀ (l : List Nat) (x : Nat), x ∈ l → x < l.foldr (fun x y => max (x + 1) y) 0
  | a :: l, x, h => by
    rw [List.foldr_cons]
    rcases List.mem_cons.mp h with e | e
    · subst e; omega
    · have := lt_bound l x e; omega
theorem mem_unionM {a b : List Nat} {k : Nat} : k ∈ unionM a b ↔ k ∈ a ∨ k ∈ b := by
  unfold unionM
  rw [List.mem_filter, List.mem_range, Bool.or_eq_true, List.contains_iff_mem, List.contains_iff_mem]
  exact ⟨fun h => h.2, fun h => ⟨lt_bound _ _ (List.mem_append.mpr h), h⟩⟩
theorem unionM_sorted (a b : List Nat) : (unionM a b).Pairwise (· < ·) := sorted_filter _ _
/-- a closure operator on the sets below many -/
structure ClosOp (many : Nat) (cl : List Nat → List Nat) : Prop where
  inn : ∀ s, SetIn 0 many s → SetIn 0 many (cl s)
  ext : ∀ s, SetIn 0 many s → ∀ x ∈ s, x ∈ cl s
  mono : ∀ s t, SetIn 0 many s → SetIn 0 many t → (∀ x ∈ s, x ∈ t) → ∀ x ∈ cl s, x ∈ cl t
  idem : ∀ s, SetIn 0 many s → cl (cl s) = cl s
def closedL (many : Nat) (cl : List Nat → List Nat) : List (List Nat) := (lecS 0 many).filter fun s => decide (cl s = s)
section
variable {many : Nat} {cl : List Nat → List Nat} {s : List Nat}
end
theorem closedL_closure (many : Nat) (rows : List (List Nat)) : closedL many (closureM many rows) = closedM many rows := rfl
end GD

set_option Elab.async false
set_option linter.all false
set_option maxRecDepth 100000
set_option maxHeartbeats 4000000
namespace GF
open PySem PySem.Spec PyProof.Rows L2 GX GD GS
/-! the closed sets, walked -/
/-- what a lambda does that closes sets; the store that it leans on grows -/
def clU (many : Nat) (cl : List Nat → List Nat) (st0 : SS) : XT := fun ds st R => ∃ s, ds = [dN s] ∧ SetIn 0 many s ∧ Up st0 st ∧ ∀ st', Up st st' → R (dN (cl s)) st'
theorem clU.up {many : Nat} {cl : List Nat → List Nat} {st st1 : SS} (u : Up st st1) {ds : List D} {st' : SS} {R : D → SS → Prop} (h : clU many cl st1 ds st' R) : clU many cl st ds st' R := by
  obtain ⟨s, h1, h2, h3, h4⟩ := h
  exact ⟨s, h1, h2, u.trans h3, h4⟩
theorem closedL_len (many : Nat) (cl : List Nat → List Nat) : (closedL many cl).length ≤ 2 ^ many := by
  unfold closedL
  have := List.length_filter_le (fun s => decide (cl s = s)) (lecS 0 many)
  rw [lecS_len] at this
  exact this
/-! ### the order -/
end GF

set_option Elab.async false
set_option linter.all false
set_option maxRecDepth 100000
set_option maxHeartbeats 4000000
namespace GF
open PySem PySem.Spec PyProof.Rows L2 GX GD GS
/-! counts, covers -/
def R_shared : RS := (rRet (mGenT (iSeq (mVar 0)) (tgN 2) (bV (mOp fIn (mVar 2) (mVar 1))) (mVar 2) [2]))
def F_shared : List D → SS → Option D := fnR' 3 2 R_shared
theorem shared_eval (st : SS) (a b : List Nat) : F_shared [dN a, dN b] st = some (dN (a.filter fun k => b.contains k)) := by
  refine fnR'_rt rfl ?_ (lo_dN _ _)
  exact rRet_e (mGenT_e (comp_fi (p := fun k => b.contains k) (g := nI) (iSeq_dN rfl) fun k _ => ⟨_, rfl, bV_e ((mOp_e rfl rfl).trans (fIn_nI _ _ _)), fun _ => rfl⟩))
def cntM (rows : List (List Nat)) (s : List Nat) : Nat := (havingM rows s).length
/-! ### pairs of neighbours, counted -/
abbrev Quad := List Nat × List Nat × Nat × Nat
theorem closedM_len {many : Nat} {rows : List (List Nat)} (h : many ≤ 8) : (closedM many rows).length ≤ 256 := by
  have := closedL_len many (closureM many rows)
  rw [closedL_closure] at this
  exact Nat.le_trans this (Nat.pow_le_pow_right (by decide) h)
end GF

set_option Elab.async false
set_option linter.all false
set_option maxRecDepth 100000
set_option maxHeartbeats 4000000
namespace GD
open PySem PySem.Spec PyProof.Rows L2 GX GS
/-! ## 28. kinds of data: what == and in say of them -/
/-- f names the things of a type by data of one shape -/
structure DF {α : Type} [DecidableEq α] (f : α → D) (d : Nat) : Prop where
  eqv : ∀ a b, PyData.eqv (f a).py (f b).py = decide (a = b)
  imm : ∀ a, (f a).imm = true
  lay : ∀ a, PyData.canLay0 (f a).py = true
  dep : ∀ a, PyData.depth (f a).py ≤ d
namespace DF
variable {α β : Type} [DecidableEq α] [DecidableEq β] {f : α → D} {g : β → D} {d e : Nat}
theorem good (h : DF f d) (hd : d ≤ 64 := by decide) (a : α) : (f a).good = true := by
  unfold D.good SeqAt.shaped
  rw [h.imm a, h.lay a, Bool.true_and, Bool.true_and]
  exact decide_eq_true (Nat.le_trans (h.dep a) hd)
theorem nI : DF nI 0 := by
  refine ⟨fun a b => ?_, fun _ => rfl, fun _ => rfl, fun _ => Nat.le_refl _⟩
  show PyData.eqv (.int (a : Int)) (.int (b : Int)) = _
  unfold PyData.eqv
  rw [Bool.eq_iff_iff, beq_iff_eq, decide_eq_true_iff]
  omega
theorem int : DF D.int 0 := by
  refine ⟨fun a b => ?_, fun _ => rfl, fun _ => rfl, fun _ => Nat.le_refl _⟩
  show PyData.eqv (.int a) (.int b) = _
  unfold PyData.eqv
  rw [Bool.eq_iff_iff, beq_iff_eq, decide_eq_true_iff]
theorem imms (h : DF f d) : ∀ l : List α, D.imms (l.map f) = true
  | [] => rfl
  | a :: l => by rw [List.map_cons, D.imms, h.imm a, h.imms l]; rfl
theorem lays (h : DF f d) : ∀ l : List α, PyData.canLayAll0 (D.pys (l.map f)) = true
  | [] => rfl
  | a :: l => by rw [List.map_cons, D.pys, PyData.canLayAll0, h.lay a, h.lays l]; rfl
theorem deps (h : DF f d) : ∀ l : List α, PyData.depthAll (D.pys (l.map f)) ≤ d
  | [] => by unfold List.map D.pys PyData.depthAll; exact Nat.zero_le _
  | a :: l => by
    rw [List.map_cons, D.pys, PyData.depthAll]
    have := h.dep a
    have := h.deps l
    omega
theorem eqvs (h : DF f d) : ∀ a b : List α, PyData.eqvAll (D.pys (a.map f)) (D.pys (b.map f)) = decide (a = b)
  | [], [] => by simp [D.pys, PyData.eqvAll]
  | [], y :: b => by simp [D.pys, PyData.eqvAll]
  | x :: a, [] => by simp [D.pys, PyData.eqvAll]
  | x :: a, y :: b => by
    rw [List.map_cons, List.map_cons, D.pys, D.pys, PyData.eqvAll, h.eqv, h.eqvs a b]
    rw [Bool.eq_iff_iff, Bool.and_eq_true, decide_eq_true_iff, decide_eq_true_iff, decide_eq_true_iff, List.cons.injEq]
theorem list (h : DF f d) : DF (fun l : List α => D.tup (l.map f)) (d + 1) := by
  refine ⟨fun a b => ?_, fun a => ?_, fun a => ?_, fun a => ?_⟩
  · show PyData.eqv (.tuple (D.pys (a.map f))) (.tuple (D.pys (b.map f))) = _
    unfold PyData.eqv
    exact h.eqvs a b
  · show D.imm (.tup (a.map f)) = true
    unfold D.imm
    exact h.imms a
  · show PyData.canLay0 (.tuple (D.pys (a.map f))) = true
    unfold PyData.canLay0
    exact h.lays a
  · show PyData.depth (.tuple (D.pys (a.map f))) ≤ d + 1
    unfold PyData.depth
    have := h.deps a
    omega
theorem pair (h : DF f d) (k : DF g e) (u : Nat) (hu : d ≤ u := by decide) (hu2 : e ≤ u := by decide) : DF (fun p : α × β => D.tup [f p.1, g p.2]) (u + 1) := by
  refine ⟨fun a b => ?_, fun a => ?_, fun a => ?_, fun a => ?_⟩
  · show PyData.eqv (.tuple [(f a.1).py, (g a.2).py]) (.tuple [(f b.1).py, (g b.2).py]) = _
    unfold PyData.eqv PyData.eqvAll PyData.eqvAll PyData.eqvAll
    rw [h.eqv, k.eqv, Bool.and_true, Bool.eq_iff_iff, Bool.and_eq_true, decide_eq_true_iff, decide_eq_true_iff, decide_eq_true_iff, Prod.ext_iff]
  · show D.imm (.tup [f a.1, g a.2]) = true
    unfold D.imm D.imms D.imms D.imms
    rw [h.imm, k.imm]
    rfl
  · show PyData.canLay0 (.tuple [(f a.1).py, (g a.2).py]) = true
    unfold PyData.canLay0 PyData.canLayAll0 PyData.canLayAll0 PyData.canLayAll0
    rw [h.lay, k.lay]
    rfl
  · show PyData.depth (.tuple [(f a.1).py, (g a.2).py]) ≤ u + 1
    unfold PyData.depth PyData.depthAll PyData.depthAll PyData.depthAll
    have := h.dep a.1
    have := k.dep a.2
    omega
theorem ne (h : DF f d) (st : SS) (a b : α) (hd : d ≤ 64 := by decide) : fNe st (f a) (f b) = some (.bl (!decide (a = b))) := by
  unfold fNe
  rw [if_pos ⟨h.good hd a, h.good hd b⟩, h.eqv]
theorem inD (h : DF f d) (a : α) (l : List α) : inD (f a) (l.map f) = decide (a ∈ l) := by
  unfold GD.inD
  rw [D.pys_eq, List.map_map, List.any_map]
  rw [Bool.eq_iff_iff, List.any_eq_true, decide_eq_true_iff]
  constructor
  · rintro ⟨x, hx, e⟩
    have e : PyData.eqv (f x).py (f a).py = true := e
    rw [h.eqv, decide_eq_true_iff] at e
    rw [← e]
    exact hx
  · intro hx
    refine ⟨a, hx, ?_⟩
    show PyData.eqv (f a).py (f a).py = true
    rw [h.eqv]
    exact decide_eq_true rfl
theorem dN : DF dN 1 := nI.list
theorem rows : DF (fun l : List (List Nat) => D.tup (l.map GD.dN)) 2 := dN.list
/-- pairs of sets -/
theorem two : DF (fun p : List Nat × List Nat => D.tup [GD.dN p.1, GD.dN p.2]) 2 := dN.pair dN 1
end DF
end GD

set_option Elab.async false
set_option linter.all false
set_option maxRecDepth 100000
set_option maxHeartbeats 4000000
namespace GF
open PySem PySem.Spec PyProof.Rows L2 GX GD GS
/-! the concepts of a table -/
def latD (n : Nat) (order : List (List Nat)) : D := .tup [.str ("lattice" : Str), nI n, .tup (order.map dN)]
theorem enumD_map {α : Type} (f : α → D) (l : List α) (z : α) : enumD (l.map f) = (List.range l.length).map fun i => D.tup [nI i, f (l.getD i z)] := by
  refine List.ext_getElem? fun i => ?_
  by_cases h : i < l.length
  · have h1 : (l.map f)[i]? = some (f (l.getD i z)) := by
      rw [List.getElem?_map, List.getElem?_eq_getElem h, Option.map_some, List.getD_eq_getElem?_getD, List.getElem?_eq_getElem h]
      rfl
    rw [enumD_get h1, List.getElem?_map, List.getElem?_range h]
    rfl
  · rw [List.getElem?_eq_none (by rw [enumD_len, List.length_map]; omega), List.getElem?_eq_none (by rw [List.length_map, List.length_range]; omega)]
end GF

set_option Elab.async false
set_option linter.all false
set_option maxRecDepth 100000
set_option maxHeartbeats 2000000
/-! tuple[::-1] -/
namespace GS
open PySem PySem.Spec PyProof.Rows L2 HT
section
variable {prog : Program} {w : World} {A : Around} {E : Value → Shared → Prop} {s : Shared}
theorem adjust_rev (n : Nat) : Builtin.Slice.sliceAdjust none none (-1) (n : Int) = ((n : Int) - 1, -1) := by
  unfold Builtin.Slice.sliceAdjust
  rfl
theorem places_rev (n : Nat) : Builtin.Slice.slicePlaces ((n : Int) - 1) (-1) (-1) = n := by
  unfold Builtin.Slice.slicePlaces
  have h1 : ¬ ((-1 : Int) > 0) := by decide
  simp only [h1, if_false]
  have e1 : (- -1 : Int) = 1 := by decide
  simp only [e1, Int.ediv_one]
  split <;> omega
theorem sliceApplied_rev {sl : Addr} {vl vu vs : Value} {n : Nat} {Q : Int × Int × Nat → Shared → Prop} (hs : s.heap.IsSliceOf sl vl vu vs) (pl : IsPart vl none) (pu : IsPart vu none) (ps : IsPart vs (some (-1)))
    (h : Q ((n : Int) - 1, -1, n) s) : wpAny (model prog w) A (Builtin.Slice.sliceApplied (.ref sl) (pure (n : Int))) Q E s := by
  obtain ⟨os, hos, hcs, hds⟩ := id hs
  unfold Builtin.Slice.sliceApplied Builtin.Slice.sliceFields
  refine wpAny_bind (wpAny_bind (wpAny_field hos hds (x := vl) rfl (wpAny_bind (wpAny_field hos hds (x := vu) rfl (wpAny_bind (wpAny_field hos hds (x := vs) rfl (wpAny_pure ?_)))))))
  refine wpAny_bind (slicePart_ ps ?_)
  show wpAny _ _ (if ((-1 : Int) == 0) = true then _ else _) _ _ s
  rw [if_neg (by decide)]
  refine wpAny_bind (slicePart_ pl (wpAny_bind (slicePart_ pu (wpAny_bind (wpAny_pure ?_)))))
  show wpAny _ _ (match Builtin.Slice.sliceAdjust none none (-1) (n : Int) with | (lo, hi) => pure (lo, (-1 : Int), Builtin.Slice.slicePlaces lo hi (-1))) _ _ s
  rw [adjust_rev n]
  show wpAny _ _ (pure ((n : Int) - 1, (-1 : Int), Builtin.Slice.slicePlaces ((n : Int) - 1) (-1) (-1))) _ _ s
  rw [places_rev]
  exact wpAny_pure h
theorem pick_rev (xs : Array Value) : ((List.range xs.size).filterMap fun (m : Nat) => xs[((xs.size : Int) - 1 + (m : Int) * -1).toNat]?).toArray = xs.toList.reverse.toArray := by
  have e : (List.range xs.size).filterMap (fun (m : Nat) => xs[((xs.size : Int) - 1 + (m : Int) * -1).toNat]?) = ((List.range xs.size).map fun k => xs.size - 1 - k).filterMap (xs[·]?) := by
    rw [List.filterMap_map]
    congr 1
    funext m
    have : ((xs.size : Int) - 1 + (m : Int) * -1).toNat = xs.size - 1 - m := by omega
    rw [this]
    rfl
  rw [e, PySem.W.krv_range, List.filterMap_reverse, PySem.W.krv_all]
theorem getItem_tuple_rev {t sl : Addr} {items : Array Value} {vl vu vs : Value} {Q : Value → Shared → Prop} (ht : IsTup s.heap t items) (hs : s.heap.IsSliceOf sl vl vu vs) (pl : IsPart vl none) (pu : IsPart vu none) (ps : IsPart vs (some (-1)))
    (h : Q (.ref s.heap.objs.size) { s with heap := s.heap.push { cls := .type "tuple", data := .seq items.toList.reverse.toArray } })
    (hsz : items.size ≤ sizeLine) : wpAny (model prog w) A (getItem (.ref t) (.ref sl)) Q E s := by
  have htake : sizeOk (.seq items.toList.reverse.toArray) := by
    show items.toList.reverse.toArray.size ≤ sizeLine
    rw [List.size_toArray, List.length_reverse, Array.length_toList]
    exact hsz
  obtain ⟨os, hos, hcs, hds⟩ := id hs
  have hTs : s.TypeIs (.ref sl) "slice" := ⟨os, hos, hcs⟩
  unfold getItem
  try with_reducible refine wpAny_holding ?_
  first | refine wpAny_bind (wpAny_pure ?_) | skip
  refine wpAny_bind (wpAny_sequenceKey ht.typeIs (by decide) ?_)
  refine wpAny_bind (wpAny_callSpecial?_slot (name := Str.ofString "__getitem__") ht.typeIs PyProof.Rows.slot_tuple_getitem
    (wpAny_call_entry PyProof.Rows.slot_tuple_getitem ht.typeIs entry_tuple_getitem ?_ (args_tuple_getitem _ _)))
  show wpAny _ _ (Builtin.Tuple.tupleItemsOf (.ref t) >>= _) _ _ s
  refine wpAny_bind (tupleItemsOf_ ht ?_)
  refine wpAny_bind (wpAny_typeOf hTs ?_)
  rw [if_pos (by decide)]
  refine wpAny_bind (sliceApplied_rev hs pl pu ps ?_)
  have hno : ¬ ((((items.size : Int) - 1) == 0 && (-1 : Int) == 1 && items.size == items.size) = true) := by
    intro q
    rw [Bool.and_eq_true, Bool.and_eq_true] at q
    exact absurd (eq_of_beq q.1.2) (by decide)
  show wpAny _ _ (if (((items.size : Int) - 1) == 0 && (-1 : Int) == 1 && items.size == items.size) = true then _ else _) _ _ s
  rw [if_neg hno, pick_rev]
  first
    | exact wpAny_bind (m := Builtin.Tuple.tupleExact _) (wpAny_newObj_type (wpAny_pure ⟨_, rfl, wpAny_pure h⟩) htake)
    | exact wpAny_bind (m := Builtin.Tuple.tupleExact _) (wpAny_newObj_type (wpAny_bind (wpAny_pure (wpAny_pure ⟨_, rfl, wpAny_pure h⟩))) htake)
    | exact wpAny_bind (wpAny_bind (m := Builtin.Tuple.tupleExact _) (wpAny_newObj_type (wpAny_pure (wpAny_pure ⟨_, rfl, wpAny_pure h⟩)) htake))
    | exact wpAny_bind (wpAny_bind (m := Builtin.Tuple.tupleExact _) (wpAny_newObj_type (wpAny_pure ⟨_, rfl, wpAny_pure h⟩) htake))
end
/-! ### t[::-1] -/
def tRevT (K : PySem.W.Frag) (te : TE) : TE := fun σ H Q => te σ H fun x H1 => ∃ a xs, x = .ref a ∧ SqT K H1 a xs ∧ ∀ p, H1 p = none → Q (.ref p) (upd H1 p (.tup xs.reverse))
theorem pe_revT {X : Cx} {e : Expr} {te : TE} {k : Nat} {p1 p2 p3 pos : Pos} (he : PE X e te) : PE X (.Subscript e (.Slice none none (some (.UnaryOp .USub (.Constant (.int 1) k p1) p2)) p3) pos) (tRevT X.K te) := by
  refine ⟨fun pins s σ H Q I h => ?_⟩
  refine Subscript_ (thn (he.run pins s σ H _ I h) fun v s1 ⟨x, H1, I1, r1, q1⟩ => ?_)
  obtain ⟨a, xs, ex, hx, q⟩ := q1
  subst ex
  cases r1
  have hst : PO X (some (.UnaryOp .USub (.Constant (.int 1) k p1) p2)) (tPart (tUn (rU fun i => .int (-i)) (tC (.int 1)))) := po_some (pe_un un_neg pe_int)
  refine wpAny_Slice (thn (po_none.run pins s1 σ H1 (fun o H2 => o = none ∧ H2 = H1) I1 ⟨rfl, rfl⟩) fun vl s2 ⟨l, H2, I2, pl, el, e2⟩ => ?_)
  subst el e2
  refine thn (po_none.run pins s2 σ H2 (fun o H3 => o = none ∧ H3 = H2) I2 ⟨rfl, rfl⟩) fun vu s3 ⟨u, H3, I3, pu, eu, e3⟩ => ?_
  subst eu e3
  refine thn (hst.run pins s3 σ H3 (fun o H4 => o = some (-1) ∧ H4 = H3) I3 ⟨1, rfl, -1, rfl, rfl, rfl⟩) fun vs s4 ⟨o, H4, I4, ps, eo, e4⟩ => ?_
  subst eo e4
  have I5 : Inv X pins σ H4 { s4 with heap := s4.heap.push { cls := .type "slice", data := .fields #[vl, vu, vs] } } := I4.kept (t' := s4.toks) fun b ob q => Heap.get?_push_of_some _ q
  obtain ⟨its, r, ht, hz⟩ := I5.tuple hx
  show wpAny (model X.prog X.w) X.A (subscriptTail e (.Slice none none (some (.UnaryOp .USub (.Constant (.int 1) k p1) p2)) p3) (.ref a) (.ref s4.heap.objs.size)) (EP X pins σ Q) X.xe { s4 with heap := s4.heap.push { cls := .type "slice", data := .fields #[vl, vu, vs] } }
  refine tail_any (ops := [.ref a, .ref s4.heap.objs.size]) ht.typeIs (PyProof.Rows.slot_tuple_getitem.lookup) ?_ (by with_unfolding_all rfl)
  refine getItem_tuple_rev ht (Heap.IsSliceOf.new _ vl vu vs) pl pu ps ?_ (by rw [List.size_toArray, ← r.length]; exact hz)
  refine ⟨.ref _, _, I5.laid (t' := s4.toks) (o := .tup xs.reverse) (fun b ob q => Heap.get?_push_of_some _ q) (Nat.le_refl _) ?_, rfl, q _ (I5.hok.fresh (Nat.le_refl _))⟩
  exact ⟨by rw [List.length_reverse]; exact hz, _, r.reverse, IsTup.new _ _⟩
end GS
namespace GD
open PySem PySem.Spec PyProof.Rows L2 GX
section
variable {X : Cx} {w : Wd} {pos : Pos}
/-- t[::-1] of a tuple -/
def fRev : F1 := fun _ d => match d with | .tup ds => some (.tup ds.reverse) | _ => none
theorem reps_rev {ι : List Addr} {H : Hp} : ∀ {vs : List V} {ds : List D}, Reps ι H vs ds → Reps ι H vs.reverse ds.reverse
  | _, _, .nil => .nil
  | _, _, .cons r rr => by
    rw [List.reverse_cons, List.reverse_cons]
    exact (reps_rev rr).append (.one r)
theorem dp_rev {e : Expr} {m : MP} {k : Nat} {p1 p2 p3 : Pos} (he : PE X e (tP w m)) : PE X (.Subscript e (.Slice none none (some (.UnaryOp .USub (.Constant (.int 1) k p1) p2)) p3) pos) (tP w (mF1 fRev m)) := by
  refine PE.mo (GS.pe_revT he) fun σ H Q ⟨ι, env, st, d, hen, hst, hm, q⟩ => ?_
  unfold mF1 at hm
  split at hm
  · rename_i x ex
    unfold fRev at hm
    split at hm
    · cases hm
      refine ⟨ι, env, st, _, hen, hst, ex, fun v H1 k1 r1 s1 => ?_⟩
      cases r1 with
      | tup h1 l1 q1 =>
        refine ⟨_, _, rfl, sqt_of h1, fun p hp => q _ _ (k1.trans (Kp.new hp)) (.tup upd_same (by rw [List.length_reverse]; exact l1) (reps_rev (q1.kp (Kp.new hp)))) (s1.new hp (fun _ z => by cases z) (nin_of s1 hp))⟩
    · cases hm
  · cases hm
end
end GD

set_option Elab.async false
set_option linter.all false
set_option maxRecDepth 100000
set_option maxHeartbeats 2000000
/-! sorted(x) of a list or a tuple of data of one kind -/
namespace GS
open PySem PySem.Spec PyProof.Rows L2 HT PySem.W
section
variable {prog : Program} {w : World} {A : Around} {E : Value → Shared → Prop} {s : Shared} {β : Type} {R : Value → β → Prop} {enc : β → PyData} {vs : List Value} {bs : List β}
end
section
variable {X : Cx}
end
end GS
namespace GD
open PySem PySem.Spec PyProof.Rows L2 GX PySem.W
/-! ### as a rule of data -/
def leD : D → D → Bool := dataLe false D.py
/-- items that sorted() can put in order -/
structure SortOk (es : List D) : Prop where
  al : AllAlike (es.map D.py)
  so : Sortable (es.map D.py)
  imm : D.imms es = true
  dep : ∀ d ∈ es, (D.py d).depth ≤ 64
section
variable {X : Cx} {w : Wd} {pos : Pos} {p : Pos}
end
end GD

set_option Elab.async false
set_option linter.all false
set_option maxRecDepth 100000
set_option maxHeartbeats 4000000
/-! set(xs) of a list of ints, with its exact object -/
namespace GS
open PySem PySem.Spec PyProof.Rows L2 HT PySem.W
section
variable {P : Program} {w : World} {A : Around} {E : Value → Shared → Prop} {s : Shared}
/-- the object that set() begins with -/
abbrev emptyS (w : World) : Obj := { cls := .type "set", dict := none, data := .set #[] 0 (.fresh 0 0 (!w.params.followText "set-order")) }
abbrev withS (w : World) (h : Heap) : Heap := h.push (emptyS w)
theorem withS_at (h : Heap) : (withS w h).get? h.objs.size = some (emptyS w) := Heap.get?_push_size _ rfl
theorem set_of_list {l : Addr} {items : Array Value} (ns : List Int) {Q : Value → Shared → Prop} (quiet : A.handled = none) (isL : s.heap.IsList l items) (vals : IntsAre items.toList ns) (few : ns.length + 1 < scanBound)
    (goal : ∀ (g : Heap) (tk c : Nat), SetR w g s.heap.objs.size (fun j => decide (j ∈ ns)) c → c ≤ ns.length → (∀ b o, s.heap.get? b = some o → g.get? b = some o) → Q (.ref s.heap.objs.size) { s with heap := g, toks := tk }) :
    wpAny (model P w) A (call (.type "set") [.ref l]) Q E s := by
  have many : items.size = ns.length := (Array.length_toList (xs := items)).symm.trans (IntsAre.length vals)
  have ⟨_, _, mro_⟩ := F.called_set.mro
  have made_ := F.called_set.made
  have sub_ := F.called_set.sub
  refine wpAny_call (codeAny_of_tree (show wpAny _ _ (callAny (.type "set") _) _ _ _ from ?_))
  refine wpAny_pure ⟨Code.quiet_builtin _ (by decide +kernel), codeAny_builtin F.entry_type_call ?_⟩
  rw [Around.under_plain (weight_type_call_type "set" [Value.ref l] []) rfl]
  have c1 := F.called_set.notType
  have c2 := F.called_set.canCreate
  have c3 := F.typeCall_set_1 (Value.ref l)
  repeat (any_goals (first | assumption | wp_step))
  refine codeAny_mono (code_set_led1 (Value.ref l) (E := E) (Q₁ := fun x t => x = .ref s.heap.objs.size ∧ t = { s with heap := withS w s.heap }) ⟨rfl, rfl⟩) fun r t hr => ?_
  cases r with
  | error e => exact hr
  | ok fl =>
    cases fl with
    | ret x =>
      obtain ⟨rfl, rfl⟩ := hr
      have atS := withS_at (w := w) s.heap
      have tyS : Shared.TypeIs { s with heap := withS w s.heap } (.ref s.heap.objs.size) "set" := ⟨_, atS, rfl⟩
      have i1 := F.called_set.init.lookup
      have i2 := F.called_set.init.bind (.ref s.heap.objs.size)
      repeat (any_goals (first | assumption | wp_step))
      refine codeAny_mono (codeAny_call_builtin (R := wants (fun r t => r = .none ∧ ∃ g tk c, t = { s with heap := g, toks := tk } ∧ SetR w g s.heap.objs.size (fun j => decide (j ∈ ns)) c ∧ c ≤ ns.length ∧ ∀ b o, s.heap.get? b = some o → g.get? b = some o) E)
        F.called_set.init.plain F.entry_set_init (check_set_init_1 tyS ?_)) fun r2 t2 hr2 => ?_
      · obtain ⟨⟨oc, od, odt, osl⟩, ol, ocl, nl, odl⟩ := isL
        simp only at ocl odl
        subst ocl odl
        have ol2 : (withS w s.heap).get? l = some { cls := .type "list", dict := od, data := .seq items nl, slots := osl } := Heap.get?_push_of_some _ ol
        have n1 := F.sub_list_set
        have n2 := F.sub_list_frozenset
        have n3 : (Value.type "list" == Value.type "dict") = false := by decide
        have isL2 : (withS w s.heap).IsList l items := ⟨_, ol2, rfl, nl, rfl⟩
        unfold Builtin.«set.__init__» noKeywords Builtin.Frozenset.updateFrom
        generalize keep : pyIter = PI
        wp_walk
        subst keep
        refine wpAny_pyIter_list isL2 (wpAny_bind (wpAny_runValue ?_))
        have lS : l < s.heap.objs.size := Heap.lt_size ol
        have q3 : A.in1.in1.in1.handled = none := by simp [quiet]
        have sz : (withS w s.heap).objs.size = s.heap.objs.size + 1 := Heap.size_push ..
        have lI : l ≠ (withS w s.heap).objs.size := fun z => Nat.lt_irrefl l (Nat.lt_of_lt_of_le lS (by rw [z, sz]; exact Nat.le_succ _))
        have nS : s.heap.objs.size ∉ [(withS w s.heap).objs.size, l] := by
          intro z
          rcases List.mem_cons.mp z with z | z
          · rw [sz] at z
            exact Nat.ne_of_lt (Nat.lt_succ_self _) z
          · exact Nat.ne_of_gt lS (List.mem_singleton.mp z)
        have each : ∀ (i : Nat) (v : Value), items[i]? = some v → ∃ k t, ns[i]? = some k ∧ v = .int k t := fun i v hv => by
          have hi : i < ns.length := many ▸ (Array.getElem?_eq_some_iff.mp hv).1
          have ⟨t, e⟩ := IntsAre.int_at vals i v (by rw [Array.getElem?_toList]; exact hv)
          exact ⟨ns[i], t, List.getElem?_eq_getElem hi, by rw [e, List.getD_eq_getElem?_getD, List.getElem?_eq_getElem hi]; rfl⟩
        refine set_update_ints ((Walks.list q3 _ l lI items).toS) s.heap.objs.size nS ns many few each (items.size - 0) 0 _ (by omega) (Nat.zero_le _) ⟨⟨_, Heap.get?_push_size _ rfl, rfl, rfl⟩, (isL2.push _)⟩
          ⟨0, Nat.le_refl 0, setR_new_at (Heap.get?_push_of_some _ atS)⟩ fun t' c' mv hc hS => ?_
        obtain ⟨g, gg, dd, tk, oo⟩ := t'
        have e1 : gg = s.gens := mv.gens
        have e2 : dd = s.drawn := mv.drawn
        have e3 : oo = s.os := mv.os
        subst e1 e2 e3
        refine wpAny_pure (show wpAny _ _ (ret Value.none) _ _ _ from wpAny_pure ⟨rfl, g, tk, c', rfl, hS, many ▸ hc, fun b o e => ?_⟩)
        have hb := Heap.lt_size e
        refine mv.heap b o ?_ (Heap.get?_push_of_some _ (Heap.get?_push_of_some _ e))
        intro z
        rcases List.mem_cons.mp z with z | z
        · exact Nat.ne_of_lt hb z
        · have z := List.mem_singleton.mp z
          rw [sz] at z
          exact Nat.ne_of_lt (Nat.lt_succ_of_lt hb) z
      · cases r2 with
        | error e => exact hr2
        | ok fl2 =>
          cases fl2 with
          | ret r =>
            obtain ⟨rfl, g, tk, c, rfl, z1, z2, z3⟩ := hr2
            repeat (any_goals (first | assumption | wp_step))
            exact goal _ _ _ z1 z2 z3
          | _ => exact hr2.elim
    | _ => exact hr.elim
end
section
variable {X : Cx}
/-- set(x), x a tuple or a list of ints -/
theorem cr_setQ (hc : X.calm = true) : CallR X (.type "set") (fun xs H Q => ∃ (p : Addr) (ns : List Int), xs = [.ref p] ∧ (SqT X.K H p (ns.map V.int) ∨ SqL X.K H p (ns.map V.int)) ∧ ns.length ≤ 60 ∧ ∀ q c, H q = none → c ≤ ns.length → Q (.ref q) (upd H q (SetO X.w q (fun j => decide (j ∈ ns)) c))) := by
  intro pins s σ H xs us Q I r h
  obtain ⟨p0, ns, rfl, hq, hl, q⟩ := h
  have fin : ∀ (g : Heap) (tk c : Nat), SetR X.w g s.heap.objs.size (fun j => decide (j ∈ ns)) c → c ≤ ns.length → (∀ b o, s.heap.get? b = some o → g.get? b = some o) → EP X pins σ Q (.ref s.heap.objs.size) { s with heap := g, toks := tk } := fun g tk c R1 hcn k =>
    ⟨.ref s.heap.objs.size, upd H s.heap.objs.size (SetO X.w s.heap.objs.size (fun j => decide (j ∈ ns)) c), I.laid (t' := tk) k (Nat.le_refl _) (setO_new R1), rfl, q _ c (I.hok.fresh (Nat.le_refl _)) hcn⟩
  cases r with
  | cons r rr =>
    cases rr
    cases r
    have hd := I.ok.hd hc
    rcases hq with hq | hq
    · obtain ⟨its, rv, pt, hz⟩ := I.tuple hq
      exact call_set_tupI ns hd (show s.heap.IsTuple p0 its.toArray from pt) (ints_of_vals rv) (by unfold scanBound; omega) fin
    · obtain ⟨its, rv, pt, hz⟩ := I.list hq
      exact set_of_list ns hd pt.isList (ints_of_vals rv) (by unfold scanBound; omega) fin
end
end GS

set_option Elab.async false
set_option linter.all false
set_option maxRecDepth 100000
set_option maxHeartbeats 2000000
namespace GD
open PySem PySem.Spec PyProof.Rows L2 GX PySem.W GS
/-! sorted(set(x)), x a tuple or a list of ints -/
section
variable {X : Cx} {w : Wd} {pos p : Pos}
def xSortSetQ (m : XP) : XA := fun env st R => m env st fun d st1 => ∃ ns : List Int, seqOf st1 d = some (ns.map D.int) ∧ ns.length ≤ 60 ∧ ∀ ms : List Int, ms.Pairwise (· < ·) → (∀ k, k ∈ ms ↔ k ∈ ns) → R (ms.map D.int) st1
theorem dxl_sortSetQ {e : Expr} {m : XP} {p1 p2 : Pos} (hc : X.calm = true) (hg : Gl X "sorted") (hm : X.mg "sorted" = none) (hg2 : Gl X "set") (hm2 : X.mg "set" = none) (ha : PE X e (tX w m)) (hs : starEach [e] X.env = (false, eval e X.env) :: starEach [] X.env := by rfl)
    (hs2 : starEach [.Call (.Name "set" p1) [e] [] p2] X.env = (false, eval (.Call (.Name "set" p1) [e] [] p2) X.env) :: starEach [] X.env := by rfl) :
    PE X (.Call (.Name "sorted" p) [.Call (.Name "set" p1) [e] [] p2] [] pos) (tXL w (xSortSetQ m)) := by
  refine PE.mo (pe_callB (cr_sortedSet hc) hg hm (by decide +kernel) (pa_cons (pe_callTy (cr_setQ hc) hg2 hm2 (by decide +kernel) (pa_cons ha pa_nil hs) (he := hs)) pa_nil hs2) (he := hs2)) fun σ H Q ⟨ι, env, st, R, he, hst, hmm, q⟩ => ?_
  refine ⟨ι, env, st, _, he, hst, hmm, fun d st1 ι1 v H1 h1 g1 r1 s1 => ?_⟩
  obtain ⟨ns, hq, hl, hR⟩ := h1
  obtain ⟨a, vs, rfl, rs, _, hh⟩ := seq_cases (K := X.K) s1 r1 hq
  have ev := rs.ints
  subst ev
  refine ⟨a, ns, rfl, hh.elim (fun z => .inr z) (fun z => .inl (sqt_of z.2)), hl, fun qa c hq hcl => ⟨qa, _, c, rfl, upd_same, by omega, fun ms pp hp1 hp2 hp3 hp4 => ?_⟩⟩
  have hk : Kp ι1 H1 (upd H1 qa (SetO X.w qa (fun j => decide (j ∈ ns)) c)) := Kp.new hq
  have s2 : SR w.s ι1 st1 (upd H1 qa (SetO X.w qa (fun j => decide (j ∈ ns)) c)) := s1.new hq (fun _ z => by unfold SetO at z; cases z) (nin_of s1 hq)
  have gg : Gr ι H ι1 (upd (upd H1 qa (SetO X.w qa (fun j => decide (j ∈ ns)) c)) pp (.lst (ms.map V.int))) := g1.trans (.of (hk.trans (Kp.new hp4)))
  refine q (ms.map D.int) st1 ι1 pp (ms.map V.int) _ (hR ms hp1 fun k => by rw [hp2 k, decide_eq_true_eq]) gg upd_same ((g1.trans (.of hk)).fresh s2 hp4) (nin_of s2 hp4) ?_ Reps.of_ints (s2.new hp4 (fun _ z => by cases z) (nin_of s2 hp4))
  rw [List.length_map]
  have := pairlt_len hp1 (ns := ns) fun k hk => by simpa using (hp2 k).mp hk
  exact small_size (by omega)
end
end GD

set_option Elab.async false
set_option linter.all false
set_option maxRecDepth 100000
set_option maxHeartbeats 4000000
namespace GF
open PySem PySem.Spec PyProof.Rows L2 GX GD
/-! ## implications: what follows -/
abbrev Imp := List Nat × List Nat
def noImp : Imp := ([], [])
def keepB (s : List Nat) (r : Imp) : Bool := !isPart r.1 s || isPart r.2 s
theorem keepB_iff {s : List Nat} {r : Imp} : keepB s r = true ↔ ((∀ k ∈ r.1, k ∈ s) → ∀ k ∈ r.2, k ∈ s) := by
  unfold keepB
  rw [Bool.or_eq_true, Bool.not_eq_true', ← isPart_iff, ← isPart_iff]
  cases isPart r.1 s <;> simp
theorem filter_lt {α : Type} {p q : α → Bool} {x : α} : ∀ {l : List α}, (∀ a ∈ l, q a = true → p a = true) → x ∈ l → p x = true → q x = false → (l.filter q).length < (l.filter p).length
  | [], _, h, _, _ => by cases h
  | a :: l, hs, hx, hp, hq => by
    have mono : ∀ {l : List α}, (∀ a ∈ l, q a = true → p a = true) → (l.filter q).length ≤ (l.filter p).length := by
      intro l
      induction l with
      | nil => intro _; exact Nat.le_refl _
      | cons b l ih =>
        intro h
        have h1 := ih fun a ha => h a (List.mem_cons_of_mem _ ha)
        cases hb : q b with
        | true => rw [List.filter_cons_of_pos hb, List.filter_cons_of_pos (h b List.mem_cons_self hb), List.length_cons, List.length_cons]; omega
        | false =>
          rw [List.filter_cons_of_neg (by rw [hb]; decide)]
          refine Nat.le_trans h1 ?_
          by_cases hpb : p b = true
          · rw [List.filter_cons_of_pos hpb, List.length_cons]; omega
          · rw [List.filter_cons_of_neg hpb]; exact Nat.le_refl _
    have hs' : ∀ a ∈ l, q a = true → p a = true := fun a ha => hs a (List.mem_cons_of_mem _ ha)
    rcases List.mem_cons.mp hx with rfl | hx
    · rw [List.filter_cons_of_pos hp, List.filter_cons_of_neg (by rw [hq]; decide), List.length_cons]
      have := mono hs'
      omega
    · have h1 := filter_lt hs' hx hp hq
      cases hb : q a with
      | true => rw [List.filter_cons_of_pos hb, List.filter_cons_of_pos (hs a List.mem_cons_self hb), List.length_cons, List.length_cons]; omega
      | false =>
        rw [List.filter_cons_of_neg (by rw [hb]; decide)]
        refine Nat.lt_of_lt_of_le h1 ?_
        by_cases hpb : p a = true
        · rw [List.filter_cons_of_pos hpb, List.length_cons]; omega
        · rw [List.filter_cons_of_neg hpb]; exact Nat.le_refl _
/-- how many conclusions are not within -/
def muM (imps : List Imp) (s : List Nat) : Nat := (imps.filter fun r => !isPart r.2 s).length
theorem muM_le (imps : List Imp) (s : List Nat) : muM imps s ≤ imps.length := List.length_filter_le _ _
theorem muM_lt {imps : List Imp} {s t : List Nat} (h : ∀ k ∈ s, k ∈ t) {r : Imp} (hr : r ∈ imps) (h1 : isPart r.2 s = false) (h2 : isPart r.2 t = true) : muM imps t < muM imps s := by
  refine filter_lt (x := r) (fun a _ ha => ?_) hr (by rw [h1]; rfl) (by rw [h2]; rfl)
  rw [Bool.not_eq_true'] at ha ⊢
  cases hq : isPart a.2 s with
  | false => rfl
  | true =>
    have : isPart a.2 t = true := isPart_iff.mpr fun k hk => h k (isPart_iff.mp hq k hk)
    rw [this] at ha
    exact ha
def badM (imps : List Imp) (s : List Nat) : List Nat := (List.range imps.length).filter fun i => !keepB s (imps.getD i noImp)
theorem impD_at (imps : List Imp) {i : Nat} (h : i < imps.length) : imps[i]? = some (imps.getD i noImp) := by
  rw [List.getD_eq_getElem?_getD, List.getElem?_eq_getElem h]
  rfl
theorem imp_mem (imps : List Imp) {i : Nat} (h : i < imps.length) : imps.getD i noImp ∈ imps := List.mem_of_getElem? (impD_at imps h)
theorem bad_nil {imps : List Imp} {s : List Nat} (h : badM imps s = []) : ∀ r ∈ imps, keepB s r = true := fun r hr => by
  obtain ⟨i, hi, e⟩ := List.getElem_of_mem hr
  have e2 : imps.getD i noImp = r := by rw [List.getD_eq_getElem?_getD, List.getElem?_eq_getElem hi, e]; rfl
  cases hk : keepB s r with
  | true => rfl
  | false =>
    have : i ∈ badM imps s := List.mem_filter.mpr ⟨List.mem_range.mpr hi, by rw [e2, hk]; rfl⟩
    rw [h] at this
    cases this
theorem bad_cons {imps : List Imp} {s : List Nat} {i : Nat} {t : List Nat} (h : badM imps s = i :: t) : i < imps.length ∧ isPart (imps.getD i noImp).1 s = true ∧ isPart (imps.getD i noImp).2 s = false := by
  have hi : i ∈ badM imps s := by rw [h]; exact List.mem_cons_self
  obtain ⟨h1, h2⟩ := List.mem_filter.mp hi
  unfold keepB at h2
  refine ⟨List.mem_range.mp h1, ?_, ?_⟩
  · cases q : isPart (imps.getD i noImp).1 s with
    | true => rfl
    | false => rw [q] at h2; simp at h2
  · cases q : isPart (imps.getD i noImp).2 s with
    | false => rfl
    | true => rw [q] at h2; simp at h2
theorem mu_step {imps : List Imp} {s : List Nat} {i : Nat} {t : List Nat} (h : badM imps s = i :: t) : muM imps (unionM s (imps.getD i noImp).2) < muM imps s := by
  obtain ⟨h1, h2, h3⟩ := bad_cons h
  exact muM_lt (fun k hk => mem_unionM.mpr (.inl hk)) (imp_mem imps h1) h3 (isPart_iff.mpr fun k hk => mem_unionM.mpr (.inr hk))
def usedGo (imps : List Imp) : Nat → List Nat → List Nat → List Nat × List Nat
  | 0, s, u => (s, u)
  | n + 1, s, u => match badM imps s with
    | [] => (s, u)
    | i :: _ => usedGo imps n (unionM s (imps.getD i noImp).2) (u ++ [i])
theorem used_nil {imps : List Imp} {s : List Nat} (h : badM imps s = []) : ∀ n u, usedGo imps n s u = (s, u)
  | 0, u => rfl
  | n + 1, u => by rw [usedGo, h]
theorem used_cons {imps : List Imp} {s : List Nat} {i : Nat} {t : List Nat} (h : badM imps s = i :: t) (n : Nat) (u : List Nat) : usedGo imps (n + 1) s u = usedGo imps n (unionM s (imps.getD i noImp).2) (u ++ [i]) := by rw [usedGo, h]
/-- induction over what is done -/
theorem used_ind {imps : List Imp} {P : List Nat → List Nat → Prop} (step : ∀ s u i t, P s u → badM imps s = i :: t → P (unionM s (imps.getD i noImp).2) (u ++ [i])) : ∀ (n : Nat) (s u : List Nat), muM imps s ≤ n → P s u → P (usedGo imps n s u).1 (usedGo imps n s u).2 ∧ badM imps (usedGo imps n s u).1 = []
  | 0, s, u, hm, h => by
    refine ⟨h, ?_⟩
    show badM imps s = []
    cases hb : badM imps s with
    | nil => rfl
    | cons i t => have := mu_step hb; omega
  | n + 1, s, u, hm, h => by
    cases hb : badM imps s with
    | nil => rw [used_nil hb]; exact ⟨h, hb⟩
    | cons i t =>
      rw [used_cons hb]
      have := mu_step hb
      exact used_ind step n _ _ (by omega) (step s u i t h hb)
def usedM (imps : List Imp) (s : List Nat) : List Nat × List Nat := usedGo imps imps.length s []
/-- what follows from s -/
def cuM (imps : List Imp) (s : List Nat) : List Nat := (usedM imps s).1
section
variable {imps : List Imp} {s : List Nat}
theorem cu_grows : ∀ k ∈ s, k ∈ cuM imps s := (used_ind (P := fun t _ => ∀ k ∈ s, k ∈ t) (fun t u i _ h _ k hk => mem_unionM.mpr (.inl (h k hk))) imps.length s [] (muM_le _ _) fun _ h => h).1
theorem cu_keeps : ∀ r ∈ imps, keepB (cuM imps s) r = true := bad_nil (used_ind (P := fun _ _ => True) (fun _ _ _ _ _ _ => trivial) imps.length s [] (muM_le _ _) trivial).2
theorem cu_least {t : List Nat} (hs : ∀ k ∈ s, k ∈ t) (hk : ∀ r ∈ imps, keepB t r = true) : ∀ k ∈ cuM imps s, k ∈ t := (used_ind (P := fun x _ => ∀ k ∈ x, k ∈ t) (fun x u i _ h hb k hk' => by
    obtain ⟨h1, h2, h3⟩ := bad_cons hb
    rcases mem_unionM.mp hk' with q | q
    · exact h k q
    · exact keepB_iff.mp (hk _ (imp_mem imps h1)) (fun j hj => h j (isPart_iff.mp h2 j hj)) k q) imps.length s [] (muM_le _ _) hs).1
theorem cu_sorted (hs : s.Pairwise (· < ·)) : (cuM imps s).Pairwise (· < ·) := (used_ind (P := fun x _ => x.Pairwise (· < ·)) (fun x u i _ h hb => unionM_sorted _ _) imps.length s [] (muM_le _ _) hs).1
theorem cu_mono {t : List Nat} (h : ∀ k ∈ s, k ∈ t) : ∀ k ∈ cuM imps s, k ∈ cuM imps t := cu_least (fun k hk => cu_grows k (h k hk)) cu_keeps
theorem cu_self (hs : s.Pairwise (· < ·)) (h : ∀ r ∈ imps, keepB s r = true) : cuM imps s = s := sorted_ext (cu_sorted hs) hs fun k => ⟨cu_least (fun _ h => h) h k, cu_grows k⟩
theorem cu_iff (hs : s.Pairwise (· < ·)) : cuM imps s = s ↔ ∀ r ∈ imps, keepB s r = true := ⟨fun h => by rw [← h]; exact cu_keeps, cu_self hs⟩
end
/-! ### by rounds, as the law does -/
/-! ### derivations -/
def numOf (n : Nat) : D → Option Nat
  | .int i => if 0 ≤ i ∧ i < (n : Int) then some i.toNat else none
  | _ => none
def derGo (imps : List Imp) (c : List Nat) : List D → List Nat → Bool
  | [], found => isPart c found
  | d :: ds, found => match numOf imps.length d with
    | none => false
    | some k => isPart (imps.getD k noImp).1 found && derGo imps c ds (found ++ (imps.getD k noImp).2)
def derB (imps : List Imp) (r : Imp) (ds : List D) : Bool := derGo imps r.2 ds r.1
end GF

set_option Elab.async false
set_option linter.all false
set_option maxRecDepth 100000
set_option maxHeartbeats 4000000
namespace GF
open PySem PySem.Spec PyProof.Rows L2 GX GD
/-! ## 30. implications -/
def impD (r : Imp) : D := .tup [dN r.1, dN r.2]
theorem mNot_e {m : MP} {env : EV} {st : SS} {b : Bool} (h : m env st = some (.bl b)) : mNot m env st = some (.bl (!b)) := by unfold mNot; rw [h]
theorem mIf_e {c : MB} {a b : MP} {env : EV} {st : SS} {x : Bool} {d : D} (h : c env st = some x) (h1 : x = true → a env st = some d) (h2 : x = false → b env st = some d) : mIf c a b env st = some d := by
  unfold mIf
  rw [h]
  cases x with
  | true => exact h1 rfl
  | false => exact h2 rfl
/-! ### a tuple or a list that is read -/
theorem seqI_up {st st1 : SS} (u : Up st st1) {x : D} {r : List D × Option Nat} (h : seqI st x = some r) : seqI st1 x = some r := by
  unfold seqI at h ⊢
  split at h
  · exact h
  · split at h
    · rename_i n _ ds e
      simp only [u.get e]
      exact h
    · cases h
  · cases h
theorem seqI_of {st : SS} {x : D} {ds : List D} {ro : Option Nat} (h : seqI st x = some (ds, ro)) : seqOf st x = some ds := by
  unfold seqI at h
  unfold seqOf
  split at h
  · cases h; rfl
  · split at h
    · rename_i n _ ds e
      cases h
      simp only [e]
    · cases h
  · cases h
theorem ix_seq {α : Type} {st : SS} {x : D} {f : α → D} {l : List α} {ro : Option Nat} (h : seqI st x = some (l.map f, ro)) {i : Nat} {a : α} (k : l[i]? = some a) : fIx st x (nI i) = some (f a) := by
  unfold fIx
  rw [seqI_of h]
  show atI (l.map f) (i : Int) = _
  rw [GD.atI_nat, List.getElem?_map, k]
  rfl
theorem mF1_e {f : F1} {m : MP} {env : EV} {st : SS} {x : D} (h : m env st = some x) : mF1 f m env st = f st x := by unfold mF1; rw [h]
theorem iSeq_e {m : MP} {env : EV} {st : SS} {x : D} (h : m env st = some x) : iSeq m env st = seqI st x := by unfold iSeq; rw [h]
/-! ### a loop that returns at the first that holds -/
/-! ### numbers -/
theorem q_int (st : SS) (i : Int) : fIs "int" st (.int i) = some (.bl true) := kk _ _ _ k23 st _ rfl
theorem q_intb (st : SS) (b : Bool) : fIs "int" st (.bl b) = some (.bl true) := kk _ _ _ k22 st _ rfl
theorem q_ints (st : SS) (x : Str) : fIs "int" st (.str x) = some (.bl false) := kk _ _ _ k24 st _ rfl
theorem q_intn (st : SS) : fIs "int" st .non = some (.bl false) := kk _ _ _ k21 st _ rfl
theorem q_bool (st : SS) (i : Int) : fIs "bool" st (.int i) = some (.bl false) := kk _ _ _ k13 st _ rfl
theorem q_boolb (st : SS) (b : Bool) : fIs "bool" st (.bl b) = some (.bl true) := kk _ _ _ k12 st _ rfl
theorem q_tupt (st : SS) (l : List D) : fIs "tuple" st (.tup l) = some (.bl true) := kk _ _ _ k5 st _ rfl
theorem q_tupn (st : SS) : fIs "tuple" st .non = some (.bl false) := kk _ _ _ k1 st _ rfl
theorem q_tupi (st : SS) (i : Int) : fIs "tuple" st (.int i) = some (.bl false) := kk _ _ _ k3 st _ rfl
theorem k_lt : kitB "list" "tuple" = some false := by decide +kernel
theorem q_tupl {st : SS} {n : Nat} {l : List D} (h : st[n]? = some (.lst l)) : fIs "tuple" st (.ref n) = some (.bl false) := kk _ _ _ k_lt st _ (by unfold D.kind; simp only [h])
/-- an int, a truth value or a text -/
def isAtom : D → Bool
  | .int _ => true
  | .bl _ => true
  | .str _ => true
  | .non => true
  | _ => false
theorem chain_e {m : MP} {i n : Int} {mb : MP} {env : EV} {st : SS} (h : m env st = some (.int i)) (k : mb env st = some (.int n)) : mChain fLe fLt (mC (.int 0)) m mb env st = some (.bl (decide (0 ≤ i ∧ i < n))) := by
  unfold mChain
  rw [h, k]
  show (match some (D.bl (decide ((0 : Int) ≤ i))) with | some (D.bl true) => (match fLt st (.int i) (.int n) with | some (D.bl r) => some (D.bl r) | _ => none) | some (D.bl false) => some (D.bl false) | _ => none) = _
  by_cases h0 : (0 : Int) ≤ i
  · rw [decide_eq_true h0]
    show some (D.bl (decide (i < n))) = _
    congr 2
    exact decide_eq_decide.mpr ⟨fun z => ⟨h0, z⟩, fun z => z.2⟩
  · rw [decide_eq_false h0]
    show some (D.bl false) = _
    rw [decide_eq_false fun z => h0 z.1]
def R_is_number : RS := (rRet (mAnd (mF1 (fIs "int") (mVar 0)) (mAnd (mNot (mF1 (fIs "bool") (mVar 0))) (mChain fLe fLt (mC (.int 0)) (mVar 0) (mVar 1)))))
def F_is_number : List D → SS → Option D := fnR' 2 2 R_is_number
theorem is_number_eval {st : SS} {d : D} {n : Nat} (h : isAtom d = true) : F_is_number [d, nI n] st = some (.bl (numOf n d).isSome) := by
  refine fnR'_rt rfl (rRet_e ?_) rfl
  cases d with
  | int i =>
    refine (mAnd_e (x := true) (y := decide (0 ≤ i ∧ i < (n : Int))) ((mF1_e rfl).trans (q_int st i)) fun _ => ?_).trans ?_
    · exact mAnd_e (x := true) (mNot_e (b := false) ((mF1_e rfl).trans (q_bool st i))) fun _ => chain_e rfl rfl
    · show some (D.bl (true && decide (0 ≤ i ∧ i < (n : Int)))) = some (D.bl (if 0 ≤ i ∧ i < (n : Int) then some i.toNat else none).isSome)
      by_cases h : 0 ≤ i ∧ i < (n : Int)
      · rw [if_pos h, decide_eq_true h]; rfl
      · rw [if_neg h, decide_eq_false h]; rfl
  | bl b => exact (mAnd_e (x := true) (y := false) ((mF1_e rfl).trans (q_intb st b)) fun _ => (mAnd_e (x := false) (y := false) (mNot_e (b := true) ((mF1_e rfl).trans (q_boolb st b))) fun z => by cases z)).trans rfl
  | str x => exact (mAnd_e (x := false) (y := false) ((mF1_e rfl).trans (q_ints st x)) fun z => by cases z).trans rfl
  | non => exact (mAnd_e (x := false) (y := false) ((mF1_e rfl).trans (q_intn st)) fun z => by cases z).trans rfl
  | tup l => cases h
  | ref n => cases h
/-! ### what follows from a set -/
/-- a def over a tuple or a list of implications -/
structure ImpsAt (st : SS) (x : D) (imps : List Imp) : Prop where
  ex : ∃ ro, seqI st x = some (imps.map impD, ro)
theorem ImpsAt.up {st st1 : SS} {x : D} {imps : List Imp} (h : ImpsAt st x imps) (u : Up st st1) : ImpsAt st1 x imps := let ⟨ro, e⟩ := h.ex; ⟨ro, seqI_up u e⟩
theorem ImpsAt.tup (st : SS) (imps : List Imp) : ImpsAt st (.tup (imps.map impD)) imps := ⟨none, rfl⟩
/-- implications over so many marks -/
structure ImpIn (many : Nat) (imps : List Imp) : Prop where
  prem : ∀ r ∈ imps, SetIn 0 many r.1
  conc : ∀ r ∈ imps, SetIn 0 many r.2
theorem ImpIn.lt {many : Nat} {imps : List Imp} (h : ImpIn many imps) : ∀ r ∈ imps, ∀ x ∈ r.2, x < many := fun r hr x hx => ((h.conc r hr).2 x hx).2
end GF

set_option Elab.async false
set_option linter.all false
set_option maxRecDepth 100000
set_option maxHeartbeats 4000000
namespace GF
open PySem PySem.Spec PyProof.Rows L2 GX GD
/-! ## 31. what follows, by a promise without effects -/
open Classical in
noncomputable def relF (P : List D → SS → D → Prop) : List D → SS → Option D := fun ds st => if h : ∃ d, P ds st d then some h.choose else none
theorem relF_of {P : List D → SS → D → Prop} {ds : List D} {st : SS} {d : D} (h : relF P ds st = some d) : P ds st d := by
  unfold relF at h
  split at h
  · rename_i q
    cases h
    exact q.choose_spec
  · cases h
theorem relF_eq {P : List D → SS → D → Prop} {ds : List D} {st : SS} {d : D} (u : ∀ d', P ds st d' → d' = d) (h : P ds st d) : relF P ds st = some d := by
  unfold relF
  have q : ∃ d, P ds st d := ⟨d, h⟩
  rw [dif_pos q]
  exact congrArg some (u _ q.choose_spec)
theorem mapf_inj {α β : Type} {f : α → β} (hf : ∀ a b, f a = f b → a = b) : ∀ {a b : List α}, a.map f = b.map f → a = b
  | [], [], _ => rfl
  | [], _ :: _, h => by cases h
  | _ :: _, [], h => by cases h
  | x :: a, y :: b, h => by
    rw [List.map_cons, List.map_cons] at h
    injection h with h1 h2
    rw [hf _ _ h1, mapf_inj hf h2]
theorem nI_inj (a b : Nat) (h : nI a = nI b) : a = b := by
  unfold nI at h
  injection h with h
  omega
theorem dN_inj (a b : List Nat) (h : dN a = dN b) : a = b := by
  unfold dN at h
  injection h with h
  exact mapf_inj nI_inj h
theorem impD_inj (a b : Imp) (h : impD a = impD b) : a = b := by
  unfold impD at h
  injection h with h
  injection h with h1 h2
  injection h2 with h2 h3
  exact Prod.ext (dN_inj _ _ h1) (dN_inj _ _ h2)
theorem ImpsAt.uniq {st : SS} {x : D} {a b : List Imp} (h : ImpsAt st x a) (k : ImpsAt st x b) : a = b := by
  obtain ⟨r1, e1⟩ := h.ex
  obtain ⟨r2, e2⟩ := k.ex
  rw [e1] at e2
  injection e2 with e2
  injection e2 with e2 e3
  exact mapf_inj impD_inj e2
theorem up_take {st st1 : SS} (u : Up st st1) : st1.take st.length = st := by
  refine List.ext_getElem? fun i => ?_
  rw [List.getElem?_take]
  split
  · rename_i h
    exact u i h
  · rename_i h
    rw [List.getElem?_eq_none (by omega)]
/-! ### derivations -/
/-- what may be told as a derivation -/
structure YOk (st : SS) (y : D) : Prop where
  ex : (∃ es, y = .tup es ∧ (∀ e ∈ es, isAtom e = true) ∧ es.length ≤ 2000) ∨ y = .non ∨ (∃ i, y = .int i) ∨ ∃ n l, y = .ref n ∧ st[n]? = some (.lst l)
def derV (imps : List Imp) (r : Imp) : D → Bool
  | .tup es => derB imps r es
  | _ => false
theorem YOk.up {st st1 : SS} {y : D} (h : YOk st y) (u : Up st st1) : YOk st1 y := by
  rcases h.ex with q | q | q | ⟨n, l, e, q⟩
  · exact ⟨.inl q⟩
  · exact ⟨.inr (.inl q)⟩
  · exact ⟨.inr (.inr (.inl q))⟩
  · exact ⟨.inr (.inr (.inr ⟨n, l, e, u.get q⟩))⟩
theorem YOk.cases {st : SS} {y : D} (h : YOk st y) : (∃ es, y = .tup es ∧ (∀ e ∈ es, isAtom e = true) ∧ es.length ≤ 2000 ∧ fIs "tuple" st y = some (.bl true)) ∨ (fIs "tuple" st y = some (.bl false) ∧ ∀ imps r, derV imps r y = false) := by
  rcases h.ex with ⟨es, rfl, h1, h2⟩ | rfl | ⟨i, rfl⟩ | ⟨n, l, rfl, q⟩
  · exact .inl ⟨es, rfl, h1, h2, q_tupt st es⟩
  · exact .inr ⟨q_tupn st, fun _ _ => rfl⟩
  · exact .inr ⟨q_tupi st i, fun _ _ => rfl⟩
  · exact .inr ⟨q_tupl q, fun _ _ => rfl⟩
theorem nums_of {n : Nat} : ∀ {es : List D}, (∀ e ∈ es, (numOf n e).isSome = true) → ∃ ks : List Nat, es = ks.map nI ∧ ∀ k ∈ ks, k < n
  | [], _ => ⟨[], rfl, fun _ h => by cases h⟩
  | e :: es, h => by
    obtain ⟨ks, h1, h2⟩ := nums_of fun e he => h e (List.mem_cons_of_mem _ he)
    have he := h e List.mem_cons_self
    cases e with
    | int i =>
      have he : (if 0 ≤ i ∧ i < (n : Int) then some i.toNat else none).isSome = true := he
      by_cases hi : 0 ≤ i ∧ i < (n : Int)
      · refine ⟨i.toNat :: ks, ?_, fun k hk => ?_⟩
        · rw [List.map_cons, h1]
          unfold nI
          rw [Int.toNat_of_nonneg hi.1]
        · rcases List.mem_cons.mp hk with rfl | hk
          · omega
          · exact h2 k hk
      · rw [if_neg hi] at he; cases he
    | non => cases he
    | bl b => cases he
    | str x => cases he
    | tup l => cases he
    | ref m => cases he
end GF

set_option Elab.async false
set_option linter.all false
set_option maxRecDepth 100000
set_option maxHeartbeats 4000000
namespace GF
open PySem PySem.Spec PyProof.Rows L2 GX GD PySem.W
/-! ## 32. the law's own words on implications -/
theorem numOf_some {n k : Nat} {e : D} (h : numOf n e = some k) : e = nI k ∧ k < n := by
  cases e with
  | int i =>
    have h : (if 0 ≤ i ∧ i < (n : Int) then some i.toNat else none) = some k := h
    by_cases hi : 0 ≤ i ∧ i < (n : Int)
    · rw [if_pos hi] at h
      injection h with h
      subst h
      refine ⟨?_, by omega⟩
      unfold nI
      rw [Int.toNat_of_nonneg hi.1]
    · rw [if_neg hi] at h; cases h
  | non => cases h
  | bl b => cases h
  | str x => cases h
  | tup l => cases h
  | ref m => cases h
/-! ### drawn implications, changed numbers -/
theorem mSl_e {m : MP} {lo hi : Option MP} {env : EV} {st : SS} {es : List D} {l h : Option Int} (e : m env st = some (.tup es)) (e1 : mPart lo env st = some l) (e2 : mPart hi env st = some h) : mSl m lo hi env st = some (.tup (cutG es l h)) := by
  unfold mSl
  rw [e, e1, e2]
  rfl
end GF

set_option Elab.async false
set_option linter.all false
set_option maxRecDepth 100000
set_option maxHeartbeats 2000000
namespace GD
open PySem PySem.Spec PyProof.Rows L2 GX
/-! ## 28. dicts with tuples as keys -/
/-! ### keys -/
def keyD1 : D → Option L2.Key
  | .int i => some (.inl i)
  | .str x => some (.inr x)
  | _ => none
def keyDs : List D → Option (List L2.Key)
  | [] => some []
  | d :: ds => match keyD1 d, keyDs ds with | some k, some ks => some (k :: ks) | _, _ => none
def keyOf : D → Option (List L2.Key)
  | .tup ds => keyDs ds
  | _ => none
/-! ### what a table of pairs holds -/
section
variable {κ : Type} [DecidableEq κ]
def valD (kvs : List (κ × D)) (k : κ) : Option D := (kvs.find? fun p => decide (p.1 = k)).map (·.2)
variable {ι : List Addr} {H : Hp}
end
section
variable {X : Cx} {w : Wd} {pos p : Pos} {o e f : Expr}
end
end GD

set_option Elab.async false
set_option linter.all false
set_option maxRecDepth 100000
set_option maxHeartbeats 4000000
namespace GF
open PySem PySem.Spec PyProof.Rows L2 GX GD
/-! ## 33. what a dict holds; Luxenburger's base tells all -/
section
variable {κ : Type} [DecidableEq κ]
end
def keyN' (s : List Nat) : List L2.Key := s.map fun (k : Nat) => .inl (k : Int)
/-! ### closed sets right below -/
section
variable {many : Nat} {rows : List (List Nat)}
/-- what the dict holds behind some rows of the base -/
structure Told (rows : List (List Nat)) (done : List Quad) (kvs : List (List L2.Key × D)) : Prop where
  val : ∀ s d, valD kvs (keyN' s) = some d → d = nI (cntM rows s)
  has : ∀ q ∈ done, (valD kvs (keyN' q.1)).isSome = true ∧ (valD kvs (keyN' q.2.1)).isSome = true
end
end GF

set_option Elab.async false
set_option linter.all false
set_option maxRecDepth 100000
set_option maxHeartbeats 4000000
namespace GF
open PySem PySem.Spec PyProof.Rows L2 GX GD
/-! ## 34. trust by the base -/
end GF

set_option Elab.async false
set_option linter.all false
set_option maxRecDepth 100000
set_option maxHeartbeats 2000000
namespace GD
open PySem PySem.Spec PyProof.Rows L2 GX
/-! ## 29. more words -/
section
variable {X : Cx} {w : Wd} {pos p p1 p2 : Pos} {a b c e o : Expr} {ma mb : MP} {xa xb : XP}
/-! ### is True, is False -/
/-! ### and, or, not as values, with effects -/
variable {rest : List Expr}
/-! ### the least, the greatest of two -/
/-! ### list(range(n)), tuple(range(a, b)) -/
def mLstRng (m : MP) : ML := fun env st => match m env st with | some (.int n) => if n ≤ 1000000 ∧ 0 ≤ n then some (intsD 0 n.toNat) else none | _ => none
theorem dl_listRng {m : MP} (hc : X.calm = true) (hg : Gl X "list") (hm : X.mg "list" = none) (hg2 : Gl X "range") (hm2 : X.mg "range" = none) (ha : PE X a (tP w m)) (na : starEach [a] X.env = (false, eval a X.env) :: starEach [] X.env := by rfl)
    (na2 : starEach [.Call (.Name "range" p1) [a] [] p2] X.env = (false, eval (.Call (.Name "range" p1) [a] [] p2) X.env) :: starEach [] X.env := by rfl) : PE X (.Call (.Name "list" p) [.Call (.Name "range" p1) [a] [] p2] [] pos) (tLs w (mLstRng m)) := by
  refine PE.mo (pe_listRg hc hg hm (prg_1 hg2 hm2 ha na) na2) fun σ H Q ⟨ι, env, st, ds, he, hst, hmm, q⟩ => ?_
  unfold mLstRng at hmm
  split at hmm
  · rename_i n e1
    split at hmm
    · rename_i hn
      cases hmm
      refine ⟨ι, env, st, _, he, hst, e1, fun v H1 k1 r1 s1 => ?_⟩
      cases r1
      refine ⟨n, rfl, ⟨by omega, by omega, by omega, by omega, by omega⟩, fun l hl => ?_⟩
      refine q l _ _ (k1.trans (Kp.new hl)) upd_same (k1.fresh (nin_of s1 hl) hl) (by rw [intsD_len]; exact big_size (by omega)) ?_ (s1.new hl (fun _ z => by cases z) (nin_of s1 hl))
      unfold rgV intsD
      rw [Int.sub_zero]
      exact reps_map (fun i => .int _) _
    · cases hmm
  · cases hmm
/-! ### o.extend(new list), o.pop(), o.index(x), x += e -/
end
end GD

set_option Elab.async false
set_option linter.all false
set_option maxRecDepth 100000
set_option maxHeartbeats 2000000
namespace GD
open PySem PySem.Spec PyProof.Rows L2 GX PySem.W
/-! ## 30. the place of an item, name += e, max with a default -/
section
variable {X : Cx} {w : Wd} {pos p : Pos} {a b c e o : Expr} {ma mb : MP}
end
end GD

set_option Elab.async false
set_option linter.all false
set_option maxRecDepth 100000
set_option maxHeartbeats 2000000
namespace GD
open PySem PySem.Spec PyProof.Rows L2 GX PySem.W
/-! ## 31. o.pop(i), xs * n -/
theorem Reps.erase {ι : List Addr} {H : Hp} : ∀ {vs : List V} {ds : List D} (k : Nat), Reps ι H vs ds → Reps ι H (vs.eraseIdx k) (ds.eraseIdx k)
  | _, _, _, .nil => .nil
  | _, _, 0, .cons _ rr => rr
  | _, _, k + 1, .cons r rr => .cons r (Reps.erase k rr)
section
variable {X : Cx} {w : Wd} {pos p : Pos} {a b c e o : Expr} {ma mb : MP}
def xPopAt (mo : MP) (mi : XP) : XP := fun env st R => ∃ n ds0, mo env st = some (.ref n) ∧ st[n]? = some (.lst ds0) ∧ mi env st fun d st1 => ∃ (k : Nat) (ds : List D) (y : D), d = .int (k : Int) ∧ st1[n]? = some (.lst ds) ∧ ds[k]? = some y ∧ R y (st1.set n (.lst (ds.eraseIdx k)))
theorem seqIx_nat {n k : Nat} (h : k < n) : seqIndex? (k : Int) n = some k := by
  unfold seqIndex?
  simp
  omega
theorem dx_popAt {mo : MP} {mi : XP} {apos cpos : Pos} (ho : PE X o (tP w mo)) (he : PE X e (tX w mi))
    (hbase : attributeBase o "pop" X.env (eval o X.env) = eval o X.env := by rfl)
    (hfew : ((backTo cpos (starEach (e :: []) X.env)).all (fun x => !x.1) && (backToKw cpos (keywordEach [] X.env)).all (fun x => x.1.isSome)
      && decide ((e :: ([] : List Expr)).length + ([] : List Keyword).length + (if ([] : List Keyword).isEmpty then 0 else 1) < 30)) = true := by rfl)
    (hline : (apos.endLine == cpos.line) = true := by rfl) (hs : starEach (e :: []) X.env = (false, eval e X.env) :: starEach [] X.env := by rfl) (hplain : (backTo cpos (starEach [] X.env)).any (·.1) = false := by rfl) :
    PE X (.Call (.Attribute o "pop" apos) [e] [] cpos) (tX w (xPopAt mo mi)) := by
  refine PE.mo (pe_bm PySem.F.plainAttrs_list PySem.F.slot_list_pop PySem.F.type_list_pop mt_popAt ho (pa_cons he pa_nil hs) hbase hfew hline hs hplain) fun σ H Q ⟨ι, env, st, R, hen, hst, ⟨n, ds0, h1, h0, h2⟩, q⟩ => ?_
  refine ⟨ι, env, st, _, hen, hst, h1, fun vo H1 k1 r1 s1 => ?_⟩
  cases r1 with
  | ref hn =>
    rename_i pa
    obtain ⟨vs0, hv0, _⟩ := s1.cell n pa _ hn h0
    refine ⟨.inl ⟨rfl, vs0, SqL.of hv0⟩, ?_⟩
    refine ⟨ι, env, st, _, hen.kp k1, s1, h2, fun d st1 ι1 v H2 ⟨k, ds, y, e1, h3, h4, h5⟩ g2 r2 s2 => ?_⟩
    subst e1
    cases r2
    have hn2 := pre_get g2.pre hn
    obtain ⟨vs, hv, hl, rs⟩ := s2.cell n _ _ hn2 h3
    obtain ⟨vy, e2, ry⟩ := rs.get' h4
    have hk : k < vs.length := (List.getElem?_eq_some_iff.mp e2).1
    have hlen := rs.length
    have kw := Kp.wr (o := .lst (vs.eraseIdx k)) hv (List.mem_of_getElem? hn2)
    have hz : sizeLine < 2 ^ 63 := by rw [sizeLine_eq]; decide
    refine ⟨_, vs, (k : Int), k, vy, rfl, rfl, hv, by omega, by omega, seqIx_nat hk, e2, ?_⟩
    have gg : Gr ι H ι1 (upd H2 _ (.lst (vs.eraseIdx k))) := ((Gr.of k1).trans g2).trans (.of kw)
    refine q y _ ι1 vy _ h5 gg (ry.kp kw) (s2.wr hn2 ⟨vs, hv⟩ (Nat.le_trans ?_ hl) (rs.erase k))
    exact (List.eraseIdx_sublist _ _).length_le
end
end GD

set_option Elab.async false
set_option linter.all false
set_option maxRecDepth 100000
set_option maxHeartbeats 2000000
namespace GD
open PySem PySem.Spec PyProof.Rows L2 GX PySem.W
/-! ## 32. slices of lists -/
section
variable {X : Cx} {w : Wd} {pos p : Pos} {a b c e o : Expr}
end
end GD

set_option Elab.async false
set_option linter.all false
set_option maxRecDepth 100000
set_option maxHeartbeats 4000000
namespace GF
open PySem PySem.Spec PyProof.Rows L2 GX GD
/-! ## 35. pseudo-closed sets, the stem base -/
section
variable {n : Nat} {cl : List Nat → List Nat}
/-! ### the next one -/
/-! ### no base has fewer -/
end
end GF

set_option Elab.async false
set_option linter.all false
set_option maxRecDepth 100000
set_option maxHeartbeats 4000000
namespace GF
open PySem PySem.Spec PyProof.Rows L2 GX GD
/-! ## 36. bases -/
section
variable {n : Nat} {cl : List Nat → List Nat} {imps : List Imp}
/-- each is kept by what is closed; what keeps all is closed -/
structure BaseOf (n : Nat) (cl : List Nat → List Nat) (imps : List Imp) : Prop where
  sound : ∀ X, SetIn 0 n X → cl X = X → ∀ r ∈ imps, keepB X r = true
  complete : ∀ X, SetIn 0 n X → (∀ r ∈ imps, keepB X r = true) → cl X = X
theorem ImpIn.sub {a b : List Imp} (h : ImpIn n b) (s : ∀ r ∈ a, r ∈ b) : ImpIn n a := ⟨fun r hr => h.prem r (s r hr), fun r hr => h.conc r (s r hr)⟩
/-- one that follows from the rest is left out -/
theorem BaseOf.drop {a b : List Imp} {r : Imp} (B : BaseOf n cl (a ++ r :: b)) (hr : isPart r.2 (cuM (a ++ b) r.1) = true) : BaseOf n cl (a ++ b) := by
  refine ⟨fun X hX hc q hq => B.sound X hX hc q ?_, fun X hX hk => B.complete X hX fun q hq => ?_⟩
  · rcases List.mem_append.mp hq with z | z
    · exact List.mem_append_left _ z
    · exact List.mem_append_right _ (List.mem_cons_of_mem _ z)
  · rcases List.mem_append.mp hq with z | z
    · exact hk q (List.mem_append_left _ z)
    · rcases List.mem_cons.mp z with rfl | z
      · rw [keepB_iff]
        intro hp k hk2
        have := cu_mono (imps := a ++ b) hp k (isPart_iff.mp hr k hk2)
        rwa [(cu_iff hX.1).mpr hk] at this
      · exact hk q (List.mem_append_right _ z)
end
/-! ### the first of the sets; lists cut -/
theorem cut_drop {α : Type} (l : List α) (k : Nat) : cutG l (some (k : Int)) none = l.drop k := by
  unfold cutG
  rw [HT.sIx_nat, HT.sIx_none]
  by_cases h : k ≤ l.length
  · rw [Nat.min_eq_left h, List.take_of_length_le (by rw [List.length_drop]; omega)]
  · rw [Nat.min_eq_right (by omega), Nat.sub_self, List.take_zero, List.drop_eq_nil_of_le (by omega)]
end GF

set_option Elab.async false
set_option linter.all false
set_option maxRecDepth 100000
set_option maxHeartbeats 4000000
namespace GF
open PySem PySem.Spec PyProof.Rows L2 GX GD
/-! ## 37. bases -/
end GF

set_option Elab.async false
set_option linter.all false
set_option maxRecDepth 100000
set_option maxHeartbeats 4000000
namespace GF
open PySem PySem.Spec PyProof.Rows L2 GX GD
/-! ## 38. lists cut and joined -/
theorem mod_step {st : SS} {k n : Nat} : fMod st (nI k) (nI (n + 1)) = some (nI (k % (n + 1))) := if_pos (by omega)
theorem mod_step' {st : SS} {k n : Nat} (h : 0 < n) : fMod st (nI k) (nI n) = some (nI (k % n)) := if_pos (by show (0 : Int) < (n : Int); omega)
/-- what stands over what was drawn from -/
theorem Ub.lt {n : Nat} {st st1 : SS} {m : Nat} {c : Cell} (u : Ub n st st1) (h : st[m]? = some c) (hn : m ≠ n) : st1[m]? = some c := u.get h hn
end GF

set_option Elab.async false
set_option linter.all false
set_option maxRecDepth 100000
set_option maxHeartbeats 2000000
/-! sorted(x, key=f): f's calls may make code and generators of their own -/
namespace GS
open PySem PySem.Spec PyProof.Rows L2 HT PySem.W PySem.Calls
section
variable {prog : Program} {w : World} {A : Around} {E : Value → Shared → Prop} {s : Shared} {a kS : Addr} {b : Bool} {vs : List Value} {e1 : Nat} {P : PySem.Fin → Shared → Prop} {kz : List PyData}
end
/-! ### over the hand layer -/
section
variable {X : Cx} {pins : List (Addr × Obj)} {σ : L2.St} {H : Hp} {s : Shared}
end
end GS

set_option Elab.async false
set_option linter.all false
set_option maxRecDepth 100000
set_option maxHeartbeats 2000000
/-! sorted(range, key=f) -/
namespace GS
open PySem PySem.Spec PyProof.Rows L2 HT PySem.W PySem.Calls
section
variable {X : Cx} {pins : List (Addr × Obj)} {σ : L2.St} {H : Hp} {s : Shared}
end
end GS

set_option Elab.async false
set_option linter.all false
set_option maxRecDepth 100000
set_option maxHeartbeats 2000000
namespace GD
open PySem PySem.Spec PyProof.Rows L2 GX GL PySem.W
/-! ## 33. sorted by a key -/
section
variable {X : Cx} {w : Ws} {pins : List (Addr × Obj)} {σ : L2.St} {H : Hp} {s : Shared}
end
end GD
namespace GD
open PySem PySem.Spec PyProof.Rows L2 GX GL PySem.W
section
variable {X : Cx} {w : Wd} {pos p kpos lp : Pos} {e : Expr} {params : Arguments} {body : Expr} {scope : Scope}
end
end GD

set_option Elab.async false
set_option linter.all false
set_option maxRecDepth 100000
set_option maxHeartbeats 2000000
namespace GD
open PySem PySem.Spec PyProof.Rows L2 GX
/-! ## 34. a def at one place of the calls (no guard stands there) -/
structure DefA (A : Around) (P : Program) (wl : World) (w : Ws) (mg : Str → Option Value) (k : Nat) (x : Str) (T : XTS) : Prop where
  ex : ∃ (f : Addr) (fd : FuncData) (ps : List Str), FnAt A P wl w.K mg w.base k f fd ps (spS w T) ∧ mg x = some (.ref f) ∧ PySem.W.keepIn w.K (.ref f) = true ∧ Binds w.K fd ps []
/-! ### repr -/
section
variable {X : Cx} {w : Wd} {pos p : Pos} {e : Expr}
end
end GD

set_option Elab.async false
set_option linter.all false
set_option maxRecDepth 100000
set_option maxHeartbeats 4000000
namespace GF
open PySem PySem.Spec PyProof.Rows L2 GX GD PySem.W
/-! ## 39. sets by size, then the smaller first -/
/-! ### the law's own stem base -/
end GF

set_option Elab.async false
set_option linter.all false
set_option maxRecDepth 100000
set_option maxHeartbeats 4000000
namespace GF
open PySem PySem.Spec PyProof.Rows L2 GX GD
/-! ## 40. the order by signs; what a set has on its own -/
theorem nodup_sub {α : Type} [DecidableEq α] : ∀ {l m : List α}, l.Nodup → (∀ x ∈ l, x ∈ m) → l.length ≤ m.length
  | [], _, _, _ => Nat.zero_le _
  | a :: l, m, hn, h => by
    obtain ⟨h1, h2⟩ := List.nodup_cons.mp hn
    have ha := h a List.mem_cons_self
    have := nodup_sub (l := l) (m := m.erase a) h2 fun x hx => by
      have hne : x ≠ a := fun z => h1 (z ▸ hx)
      exact (List.mem_erase_of_ne hne).mpr (h x (List.mem_cons_of_mem _ hx))
    rw [List.length_erase_of_mem ha] at this
    have hp : 0 < m.length := List.length_pos_of_mem ha
    rw [List.length_cons]
    omega
end GF

set_option Elab.async false
set_option linter.all false
set_option maxRecDepth 100000
set_option maxHeartbeats 4000000
namespace GF
open PySem PySem.Spec PyProof.Rows L2 GX GD PySem.W
/-! ## 41. the order by signs; the direct base -/
theorem rForGo_nx {t : MT} {r : RS} {st : SS} {d : D} {ds : List D} {env env1 env2 : EV} (h : t d env = some env1) (k : r env1 st = some (.nx env2)) : rForGo t r st (d :: ds) env = rForGo t r st ds env2 := by
  rw [rForGo, h]
  simp only [k]
theorem bT_e {m : MP} {env : EV} {st : SS} {d : D} (h : m env st = some d) : bT m env st = truD st d := by unfold bT; rw [h]
theorem truD_dN (st : SS) (l : List Nat) : truD st (dN l) = some (!l.isEmpty) := by
  cases l <;> rfl
end GF

set_option Elab.async false
set_option linter.all false
set_option maxRecDepth 100000
set_option maxHeartbeats 4000000
namespace GF
open PySem PySem.Spec PyProof.Rows L2 GX GD
/-! ## 42. sets of numbers, concepts; an implication decided -/
def R_is_set : RS := (rSeq (rIf (bOr (bNot (bV (mF1 (fIs "tuple") (mVar 0)))) (bNot (bV (mAll false (iSeq (mVar 0)) (tgN 2) bYes (mCall F_is_number (mCons (mVar 2) (mCons (mVar 1) mNil))) [2])))) (rRet (mC (.bl false))) rNext) (rRet (mAll false (iZip (mVar 0) (mSl (mVar 0) (some (mC (.int 1))) none)) (tgTup 2 (tgCons (tgN 2) (tgCons (tgN 3) tgNil))) bYes (mOp fLt (mVar 2) (mVar 3)) [2, 3])))
def F_is_set : List D → SS → Option D := fnR' 4 2 R_is_set
def adjB (ks : List Nat) : Bool := (ks.zip (ks.drop 1)).all fun p => decide (p.1 < p.2)
def setB (n : Nat) (ks : List Nat) : Bool := ks.all (fun k => decide (k < n)) && adjB ks
theorem adj_iff : ∀ ks : List Nat, adjB ks = true ↔ ks.Pairwise (· < ·)
  | [] => by simp [adjB]
  | [a] => by simp [adjB]
  | a :: b :: ks => by
    have ih := adj_iff (b :: ks)
    have e : adjB (a :: b :: ks) = (decide (a < b) && adjB (b :: ks)) := by
      unfold adjB
      simp
    rw [e, Bool.and_eq_true, ih, decide_eq_true_iff, List.pairwise_cons (a := a)]
    constructor
    · rintro ⟨h1, h2⟩
      refine ⟨fun x hx => ?_, h2⟩
      rcases List.mem_cons.mp hx with rfl | hx
      · exact h1
      · exact Nat.lt_trans h1 ((List.pairwise_cons.mp h2).1 x hx)
    · rintro ⟨h1, h2⟩
      exact ⟨h1 b List.mem_cons_self, h2⟩
theorem setB_iff {n : Nat} {ks : List Nat} : setB n ks = true ↔ SetIn 0 n ks := by
  unfold setB
  rw [Bool.and_eq_true, adj_iff, List.all_eq_true]
  exact ⟨fun ⟨h1, h2⟩ => ⟨h2, fun x hx => ⟨Nat.zero_le _, of_decide_eq_true (h1 x hx)⟩⟩, fun h => ⟨fun x hx => decide_eq_true (h.2 x hx).2, h.1⟩⟩
theorem numOf_nat (n k : Nat) : (numOf n (nI k)).isSome = decide (k < n) := by
  show (if 0 ≤ (k : Int) ∧ (k : Int) < (n : Int) then some (k : Int).toNat else none).isSome = _
  by_cases h : k < n
  · rw [if_pos ⟨by omega, by omega⟩, decide_eq_true h]; rfl
  · rw [if_neg (by omega), decide_eq_false h]; rfl
theorem zip_nats : ∀ a b : List Nat, zipD (a.map nI) (b.map nI) = (a.zip b).map fun p => .tup [nI p.1, nI p.2]
  | [], _ => by simp [zipD]
  | _ :: _, [] => by simp [zipD]
  | x :: a, y :: b => by
    have := zip_nats a b
    unfold zipD at this ⊢
    rw [List.map_cons, List.map_cons, List.zipWith_cons_cons, List.zip_cons_cons, List.map_cons, this]
theorem ltNN (st : SS) (a b : Nat) : fLt st (nI a) (nI b) = some (.bl (decide (a < b))) := by
  show some (D.bl (decide ((a : Int) < (b : Int)))) = _
  congr 2
  rw [decide_eq_decide]
  omega
theorem is_set_eval (st : SS) (n : Nat) (ks : List Nat) : F_is_set [dN ks, nI n] st = some (.bl (setB n ks)) := by
  refine fnR'_rt rfl ?_ rfl
  show R_is_set [some (dN ks), some (nI n), none, none] st = _
  have h1 : mAll false (iSeq (mVar 0)) (tgN 2) bYes (mCall F_is_number (mCons (mVar 2) (mCons (mVar 1) mNil))) [2] [some (dN ks), some (nI n), none, none] st = some (.bl (ks.all fun k => decide (k < n))) := by
    refine mAll_e (iSeq_dN rfl) (allGo_map (p := fun k => decide (k < n)) ks fun k _ => ⟨_, rfl, rfl, (mCall2 rfl rfl).trans ((is_number_eval rfl).trans ?_)⟩)
    rw [numOf_nat]
  have hc : bOr (bNot (bV (mF1 (fIs "tuple") (mVar 0)))) (bNot (bV (mAll false (iSeq (mVar 0)) (tgN 2) bYes (mCall F_is_number (mCons (mVar 2) (mCons (mVar 1) mNil))) [2]))) [some (dN ks), some (nI n), none, none] st = some (!(ks.all fun k => decide (k < n))) := bOr_e (x := false) (bNot_e (b := true) (bV_e ((mF1_e rfl).trans (q_tupt st _)))) (bNot_e (bV_e h1))
  unfold setB
  cases hall : ks.all fun k => decide (k < n) with
  | false =>
    rw [hall] at hc
    exact (rSeq_rt ((rIf_t hc).trans (rRet_e rfl)))
  | true =>
    rw [hall] at hc
    refine (rSeq_nx ((rIf_f hc).trans rfl)).trans (rRet_e ?_)
    rw [Bool.true_and]
    unfold adjB
    have hz : GD.iZip (mVar 0) (mSl (mVar 0) (some (mC (.int 1))) none) [some (dN ks), some (nI n), none, none] st = some ((ks.zip (ks.drop 1)).map (fun p => .tup [nI p.1, nI p.2]), none) := by
      have e : mSl (mVar 0) (some (mC (.int 1))) none [some (dN ks), some (nI n), none, none] st = some (dN (ks.drop 1)) := by
        refine (mSl_e (l := some ((1 : Nat) : Int)) (h := none) rfl rfl rfl).trans ?_
        rw [cut_drop]
        unfold dN
        rw [List.map_drop]
      unfold GD.iZip
      rw [e]
      show some (zipD (ks.map nI) ((ks.drop 1).map nI), none) = _
      rw [zip_nats]
    exact mAll_e hz (allGo_map (f := fun (p : Nat × Nat) => D.tup [nI p.1, nI p.2]) (p := fun (p : Nat × Nat) => decide (p.1 < p.2)) _ fun p _ => ⟨_, rfl, rfl, (mOp_e rfl rfl).trans (ltNN _ _ _)⟩)
/-! ### decided -/
end GF

set_option Elab.async false
set_option linter.all false
set_option maxRecDepth 100000
set_option maxHeartbeats 4000000
namespace GF
open PySem PySem.Spec PyProof.Rows L2 GX GD
/-! ## 43. what repr says -/
mutual
def tinyP : PyData → Bool
  | .none => true
  | .bool _ => true
  | .int i => decide (0 ≤ i ∧ i < 64)
  | .list xs => tinyPs xs
  | .tuple xs => tinyPs xs
  | .str _ => false
  | .dict _ => false
def tinyPs : List PyData → Bool
  | [] => true
  | x :: xs => tinyP x && tinyPs xs
end
structure Tiny (p : PyData) : Prop where
  sh : p.showable = true
  nd : p.hasDict = false
  ls : p.leavesShort 13 = true
  ch : ∀ k ∈ p.shown.cps.toList, k < 200
structure Tinys (ps : List PyData) : Prop where
  sh : PyData.showableAll ps = true
  nd : PyData.hasDictAll ps = false
  ls : PyData.leavesShortAll 13 ps = true
  ch : ∀ t ∈ PyData.shownAll ps, ∀ k ∈ t.cps.toList, k < 200
theorem join_small {ts : List Str} (h : ∀ t ∈ ts, ∀ k ∈ t.cps.toList, k < 200) : ∀ k ∈ (Str.join ", " ts).cps.toList, k < 200 := fun k hk => by
  rcases (mem_join _ _ _).mp hk with ⟨t, h1, h2⟩ | ⟨_, h2⟩
  · exact h t h1 k h2
  · rw [signs_sep] at h2
    rcases List.mem_cons.mp h2 with rfl | h2
    · decide
    · rw [List.mem_singleton.mp h2]; decide
mutual
theorem tiny_of : ∀ p : PyData, tinyP p = true → Tiny p
  | .none, _ => ⟨rfl, rfl, rfl, fun k hk => by
    have := (mem_shown_none k).mp hk
    simp only [List.mem_cons, List.not_mem_nil, or_false] at this
    omega⟩
  | .bool b, _ => ⟨rfl, rfl, rfl, fun k hk => by
    have := (mem_shown_bool k b).mp hk
    cases b <;> simp only [Bool.false_eq_true, if_false, if_true, List.mem_cons, List.not_mem_nil, or_false] at this <;> omega⟩
  | .int i, h => by
    unfold tinyP at h
    obtain ⟨h1, h2⟩ := of_decide_eq_true h
    refine ⟨?_, by unfold PyData.hasDict; rfl, ?_, fun k hk => ?_⟩
    · unfold PyData.showable
      refine decide_eq_true ?_
      by_cases hz : i.natAbs = 0
      · rw [hz]; decide
      · have : i.natAbs.log2 < 6 := (Nat.log2_lt hz).mpr (by omega)
        omega
    · unfold PyData.leavesShort
      exact decide_eq_true (PyData.shown_int_le (by omega))
    · apply Classical.byContradiction
      intro hc
      exact shown_int_free' (k := k) ⟨by omega, by omega⟩ i hk
  | .list xs, h => by
    have t := tinys_of xs (by unfold tinyP at h; exact h)
    refine ⟨by unfold PyData.showable; exact t.sh, by unfold PyData.hasDict; exact t.nd, by unfold PyData.leavesShort; exact t.ls, fun k hk => ?_⟩
    rw [PyData.shown_list, mem_cps_append, mem_cps_append, signs_lbrack, signs_rbrack] at hk
    rcases hk with (hk | hk) | hk
    · rw [List.mem_singleton.mp hk]; decide
    · exact join_small t.ch k hk
    · rw [List.mem_singleton.mp hk]; decide
  | .tuple xs, h => by
    have t := tinys_of xs (by unfold tinyP at h; exact h)
    refine ⟨by unfold PyData.showable; exact t.sh, by unfold PyData.hasDict; exact t.nd, by unfold PyData.leavesShort; exact t.ls, fun k hk => ?_⟩
    rw [PyData.shown_tuple, mem_cps_append, mem_cps_append, signs_lparen] at hk
    rcases hk with (hk | hk) | hk
    · rw [List.mem_singleton.mp hk]; decide
    · exact join_small t.ch k hk
    · split at hk
      · have e : (((",)" : String) : Str)).cps.toList = [44, 41] := by decide
        rw [e] at hk
        rcases List.mem_cons.mp hk with rfl | hk
        · decide
        · rw [List.mem_singleton.mp hk]; decide
      · have e : ((((")" : String) : Str))).cps.toList = [41] := by decide
        rw [e] at hk
        rw [List.mem_singleton.mp hk]; decide
  | .str _, h => by unfold tinyP at h; cases h
  | .dict _, h => by unfold tinyP at h; cases h
theorem tinys_of : ∀ ps : List PyData, tinyPs ps = true → Tinys ps
  | [], _ => ⟨rfl, rfl, rfl, fun t ht => by rw [PyData.shownAll_nil] at ht; cases ht⟩
  | p :: ps, h => by
    unfold tinyPs at h
    rw [Bool.and_eq_true] at h
    have a := tiny_of p h.1
    have b := tinys_of ps h.2
    refine ⟨?_, ?_, ?_, fun t ht => ?_⟩
    · unfold PyData.showableAll; rw [a.sh, b.sh]; rfl
    · unfold PyData.hasDictAll; rw [a.nd, b.nd]; rfl
    · unfold PyData.leavesShortAll; rw [a.ls, b.ls]; rfl
    · rw [PyData.shownAll_cons, List.mem_cons] at ht
      rcases ht with rfl | ht
      · exact a.ch
      · exact b.ch t ht
end
/-! ## 44. concepts -/
/-! ### what is no set, no concept -/
theorem set_bad {st : SS} {n : Nat} {es : List D} (h : ∀ e ∈ es, isAtom e = true) (hb : (es.all fun e => (numOf n e).isSome) = false) : F_is_set [.tup es, nI n] st = some (.bl false) := by
  refine fnR'_rt rfl ?_ rfl
  show R_is_set [some (.tup es), some (nI n), none, none] st = _
  have h1 : mAll false (iSeq (mVar 0)) (tgN 2) bYes (mCall F_is_number (mCons (mVar 2) (mCons (mVar 1) mNil))) [2] [some (.tup es), some (nI n), none, none] st = some (.bl (es.all fun e => (numOf n e).isSome)) := by
    refine mAll_e (ro := none) (ds := es) rfl ?_
    have := allGo_map (f := fun d : D => d) (t := tgN 2) (b := bYes) (m := mCall F_is_number (mCons (mVar 2) (mCons (mVar 1) mNil))) (env := [some (.tup es), some (nI n), none, none]) (st := st) (p := fun e => (numOf n e).isSome) es fun e he => ⟨_, rfl, rfl, (mCall2 rfl rfl).trans (is_number_eval (h e he))⟩
    rw [List.map_id'] at this
    exact this
  have hc : bOr (bNot (bV (mF1 (fIs "tuple") (mVar 0)))) (bNot (bV (mAll false (iSeq (mVar 0)) (tgN 2) bYes (mCall F_is_number (mCons (mVar 2) (mCons (mVar 1) mNil))) [2]))) [some (.tup es), some (nI n), none, none] st = some true := by
    have := bOr_e (x := false) (bNot_e (b := true) (bV_e ((mF1_e (m := mVar 0) (env := [some (.tup es), some (nI n), none, none]) rfl).trans (q_tupt st es)))) (bNot_e (bV_e h1))
    rw [hb] at this
    exact this
  exact rSeq_rt ((rIf_t hc).trans (rRet_e rfl))
theorem set_not {st : SS} {n : Nat} {x : D} (h : fIs "tuple" st x = some (.bl false)) : F_is_set [x, nI n] st = some (.bl false) := by
  refine fnR'_rt rfl ?_ rfl
  show R_is_set [some x, some (nI n), none, none] st = _
  have hc : bOr (bNot (bV (mF1 (fIs "tuple") (mVar 0)))) (bNot (bV (mAll false (iSeq (mVar 0)) (tgN 2) bYes (mCall F_is_number (mCons (mVar 2) (mCons (mVar 1) mNil))) [2]))) [some x, some (nI n), none, none] st = some true := by
    unfold bOr
    rw [bNot_e (b := false) (bV_e ((mF1_e rfl).trans h))]
    rfl
  exact rSeq_rt ((rIf_t hc).trans (rRet_e rfl))
end GF

set_option Elab.async false
set_option linter.all false
set_option maxRecDepth 100000
set_option maxHeartbeats 4000000
namespace GF
open PySem PySem.Spec PyProof.Rows L2 GX GD
/-! ## 45. small data, shown -/
structure Sh (k w : Nat) (p : PyData) : Prop where
  ti : tinyP p = true
  de : p.depth ≤ k
  we : p.weight ≤ w
theorem Sh.mono {k w k' w' : Nat} {p : PyData} (h : Sh k w p) (a : k ≤ k') (b : w ≤ w') : Sh k' w' p := ⟨h.ti, Nat.le_trans h.de a, Nat.le_trans h.we b⟩
/-! ### how data read -/
/-! ### comprehensions whose items make lists of their own -/
/-! ## 46. the least, the greatest of some concepts -/
section
variable {many : Nat} {rows : List (List Nat)}
end
end GF

set_option Elab.async false
set_option linter.all false
set_option maxRecDepth 100000
set_option maxHeartbeats 4000000
namespace GF
open PySem PySem.Spec PyProof.Rows L2 GX GD
/-! ## 44. drawn orders and lattices -/
def mixT : XT := fun ds st R => ∃ (n many : Nat), ds = [.ref n, nI many] ∧ many ≤ 1000 ∧ Boxed st n ∧ ∀ (ord : List Nat) (p : Nat) st1, ord.Perm (List.range many) → Boxed st1 n → Ub n st st1 → st.length ≤ p → st1[p]? = some (.lst (ord.map nI)) → R (.ref p) st1
abbrev T_law_mixed_order : XT := mixT
def X_law_mixed_order : XS := (sSeq (sAsg (xNew (xaOf (mLstRng (mVar 1)))) (tgN 2)) (sSeq (sAsg (xNew (xaOf (mLst mNil))) (tgN 3)) (sSeq (sFor (xiOf (iRng (mVar 1))) (tgN 4) (sAppP (mVar 3) (xPopAt (mVar 2) (xOp fMod (xF1 fInt (xCall drawT (xCons (xOf (mVar 0)) (xCons (xOf (mC (.int 1000))) xNil)))) (xOf (mF1 fLen (mVar 2))))))) (sRet (xOf (mVar 3))))))
def Y_law_mixed_order : XT := fnT' 5 2 X_law_mixed_order
theorem lstRng_e {m : MP} {env : EV} {st : SS} {n : Nat} (h : m env st = some (nI n)) (hn : n ≤ 1000000) : mLstRng m env st = some ((List.range n).map nI) := by
  have := iRng_nat (m := m) (env := env) (st := st) h hn
  unfold mLstRng
  rw [h]
  unfold iRng at this
  rw [h] at this
  show (if (n : Int) ≤ 1000000 ∧ (0 : Int) ≤ n then some (intsD 0 ((n : Int)).toNat) else none) = _
  rw [if_pos ⟨by omega, by omega⟩]
  have t : (if (n : Int) ≤ 1000000 ∧ (-1000000 : Int) ≤ n then some (intsD 0 ((n : Int)).toNat, (none : Option Nat)) else none) = some ((List.range n).map nI, none) := this
  rw [if_pos ⟨by omega, by omega⟩] at t
  exact congrArg some (Prod.mk.inj (Option.some.inj t)).1
theorem map_erase {α β : Type} (f : α → β) : ∀ (l : List α) (k : Nat), (l.map f).eraseIdx k = (l.eraseIdx k).map f
  | [], _ => rfl
  | a :: l, 0 => rfl
  | a :: l, k + 1 => by rw [List.map_cons, List.eraseIdx_cons_succ, List.eraseIdx_cons_succ, List.map_cons, map_erase f l k]
theorem perm_pop {α : Type} : ∀ (l : List α) (k : Nat) {a : α}, l[k]? = some a → l.Perm (a :: l.eraseIdx k)
  | [], _, _, h => by cases h
  | b :: l, 0, a, h => by
    have : b = a := by simpa using h
    rw [this]
    exact List.Perm.refl _
  | b :: l, k + 1, a, h => ((perm_pop l k (by simpa using h)).cons b).trans (List.Perm.swap a b _)
theorem mix_ok (ds : List D) (st : SS) (R : D → SS → Prop) (h : mixT ds st R) : Y_law_mixed_order ds st R := by
  obtain ⟨n, many, rfl, hmany, hB, hR⟩ := h
  refine ⟨rfl, ?_⟩
  show X_law_mixed_order _ [some (.ref n), some (nI many), none, none, none] st
  refine ⟨_, lstRng_e (n := many) rfl (by omega), _, rfl, [], rfl, _, rfl, (List.range many).map nI, none, iRng_nat (n := many) rfl (by omega), ?_⟩
  have hn := hB.lt
  have l1 : (st ++ [Cell.lst ((List.range many).map nI)]).length = st.length + 1 := by rw [List.length_append]; rfl
  refine for_rg (fun i env s => ∃ (left ord : List Nat) (x4 : Option D), (ord ++ left).Perm (List.range many) ∧ ord.length = i ∧ Boxed s n ∧ Ub n st s ∧ s[st.length]? = some (.lst (left.map nI)) ∧ s[st.length + 1]? = some (.lst (ord.map nI)) ∧ env = [some (.ref n), some (nI many), some (.ref st.length), some (.ref (st.length + 1)), x4]) ?_ ?_ ?_
  · rintro i env s hi ⟨left, ord, x4, hp, hl, B, U, c1, c2, rfl⟩
    refine ⟨_, rfl, fun K k1 k2 k3 k4 => ?_⟩
    have hlen : ord.length + left.length = many := by
      have := hp.length_eq
      rw [List.length_append, List.length_range] at this
      exact this
    refine ⟨st.length + 1, _, rfl, c2, st.length, _, rfl, c1, .ref n, rfl, .int 1000, rfl, n, 1000, rfl, by decide, B, fun r s1 hr B1 E1 => ?_⟩
    have e1 := E1.keep c1 (Nat.ne_of_gt hn)
    have e2 := E1.keep c2 (by omega)
    obtain ⟨q, hq⟩ : ∃ q, left.length = q + 1 := ⟨left.length - 1, by omega⟩
    have hk : r % (q + 1) < left.length := by rw [hq]; exact Nat.mod_lt _ (Nat.succ_pos q)
    have hg : left[r % (q + 1)]? = some left[r % (q + 1)] := List.getElem?_eq_getElem hk
    refine ⟨nI r, rfl, nI left.length, lenR rfl e1, nI (r % (q + 1)), by rw [hq]; exact mod_step, ?_⟩
    refine ⟨r % (q + 1), left.map nI, nI left[r % (q + 1)], rfl, e1, by rw [List.getElem?_map, hg]; rfl, ?_⟩
    have e3 : (s1.set st.length (.lst ((left.map nI).eraseIdx (r % (q + 1)))))[st.length + 1]? = some (.lst (ord.map nI)) := by
      rw [List.getElem?_set_ne (by omega)]
      exact e2
    refine ⟨ord.map nI, e3, by rw [List.length_map]; omega, k1 _ _ ⟨left.eraseIdx (r % (q + 1)), ord ++ [left[r % (q + 1)]], _, ?_, ?_, (B1.hi hn _).hi (by omega) _, ((U.trans E1.ub).set (Nat.le_refl _) _).set (by omega) _, ?_, ?_, rfl⟩⟩
    · refine List.Perm.trans ?_ hp
      rw [List.append_assoc]
      exact (perm_pop left _ hg).symm.append_left ord
    · rw [List.length_append, hl]; rfl
    · rw [List.getElem?_set_ne (by omega), getSet e1, map_erase]
    · rw [getSet e3, List.map_append]
      rfl
  · rintro env s ⟨left, ord, x4, hp, hl, B, U, c1, c2, rfl⟩
    have hz : left = [] := by
      have := hp.length_eq
      rw [List.length_append, List.length_range, hl] at this
      exact List.eq_nil_of_length_eq_zero (by omega)
    rw [hz, List.append_nil] at hp
    exact ⟨_, rfl, hR ord _ _ hp B U (by omega) c2⟩
  · refine ⟨List.range many, [], none, List.Perm.refl _, rfl, (hB.up (Up.app _ _)).up (Up.app _ _), ((Up.app _ _).trans (Up.app _ _)).ub n, (Up.app _ _).get (getApp _ _), ?_, ?_⟩
    · rw [← l1]
      exact getApp _ _
    · rw [← l1]
      rfl
/-- the order that a numbering of sets gives -/
def ordOf (cs : List (List Nat)) (ord : List Nat) : List (List Nat) := (List.range cs.length).map fun x => (List.range cs.length).filter fun y => isPart (cs.getD (ord.getD x 0) []) (cs.getD (ord.getD y 0) [])
def latT : XT := fun ds st R => ∃ (n things marks : Nat), ds = [.ref n, nI things, nI marks] ∧ things ≤ 100 ∧ marks ≤ 8 ∧ Boxed st n ∧ ∀ (many : Nat) (rows : List (List Nat)) (ord : List Nat) st1, many ≤ marks → rows.length ≤ things → Tab many rows → ord.Perm (List.range (closedM many rows).length) → Boxed st1 n → Ub n st st1 → R (latD (closedM many rows).length (ordOf (closedM many rows) ord)) st1
abbrev T_law_lattice : XT := latT
def X_law_lattice : XS := (sSeq (sAsg (xCall closedT (xCons (xCall tableT (xCons (xOf (mVar 0)) (xCons (xOf (mVar 1)) (xCons (xOf (mVar 2)) xNil)))) xNil)) (tgN 3)) (sSeq (sAsg (xCall T_law_mixed_order (xCons (xOf (mVar 0)) (xCons (xOf (mF1 fLen (mVar 3))) xNil))) (tgN 4)) (sSeq (sAsg (xNew (xaOf (mLst mNil))) (tgN 5)) (sSeq (sFor (xiOf (iRng (mF1 fLen (mVar 3)))) (tgN 6) (sAppP (mVar 5) (xOf (mTupL (mComp (iRng (mF1 fLen (mVar 3))) (tgN 7) (bV (mCall F_law_inside (mCons (mOp fIx (mVar 3) (mOp fIx (mVar 4) (mVar 6))) (mCons (mOp fIx (mVar 3) (mOp fIx (mVar 4) (mVar 7))) mNil)))) (mVar 7) [7]))))) (sRet (xOf (mTup (mCons (mC (.str ("lattice" : Str))) (mCons (mF1 fLen (mVar 3)) (mCons (mF1 fTup (mVar 5)) mNil))))))))))
def Y_law_lattice : XT := fnT' 8 3 X_law_lattice
theorem perm_get {ord : List Nat} {n i : Nat} (hp : ord.Perm (List.range n)) (hi : i < n) : ord[i]? = some (ord.getD i 0) ∧ ord.getD i 0 < n := by
  have hl : ord.length = n := by rw [hp.length_eq, List.length_range]
  have e := atD ord (i := i) (by omega)
  refine ⟨e, ?_⟩
  have : ord.getD i 0 ∈ ord := List.mem_of_getElem? e
  exact List.mem_range.mp (hp.mem_iff.mp this)
theorem lat_ok (ds : List D) (st : SS) (R : D → SS → Prop) (h : latT ds st R) : Y_law_lattice ds st R := by
  obtain ⟨n, things, marks, rfl, ht, hm, hB, hR⟩ := h
  refine ⟨rfl, ?_⟩
  show X_law_lattice _ [some (.ref n), some (nI things), some (nI marks), none, none, none, none, none] st
  refine ⟨.ref n, rfl, nI things, rfl, nI marks, rfl, n, things, marks, rfl, by omega, by omega, hB, fun many rows s1 hmany hrows T B1 E1 => ?_⟩
  refine ⟨many, rows, rfl, by omega, by omega, fun s2 q hq U2 c2 => ⟨_, rfl, ?_⟩⟩
  have cl : (closedM many rows).length ≤ 256 := closedM_len (by omega)
  have hn1 := B1.lt
  refine ⟨.ref n, rfl, nI (closedM many rows).length, lenR rfl c2, n, _, rfl, by omega, B1.up U2, fun ord p s3 hp B3 U3 hp3 c3 => ⟨_, rfl, ?_⟩⟩
  have c2' := U3.get c2 (by omega)
  have hql : q < s2.length := (List.getElem?_eq_some_iff.mp c2).1
  refine ⟨[], rfl, _, rfl, (List.range (closedM many rows).length).map nI, none, iRng_nat (lenR rfl ((Up.app _ _).get c2')) (by omega), ?_⟩
  have hpl : p < s3.length := (List.getElem?_eq_some_iff.mp c3).1
  have hB4 := B3.lt
  have lx : ∀ x, x < (closedM many rows).length → ∀ (s : SS) (a5 a6 a7 : Option D), s[q]? = some (.lst ((closedM many rows).map dN)) → s[p]? = some (.lst (ord.map nI)) → ∀ (i : Nat), (∀ env : EV, env = [some (.ref n), some (nI things), some (nI marks), some (.ref q), some (.ref p), a5, a6, a7] → mVar i env s = some (nI x) → mOp fIx (mVar 3) (mOp fIx (mVar 4) (mVar i)) env s = some (dN ((closedM many rows).getD (ord.getD x 0) []))) := by
    intro x hx s a5 a6 a7 d1 d2 i env he hv
    subst he
    obtain ⟨g1, g2⟩ := perm_get hp hx
    exact (mOp_e rfl ((mOp_e rfl hv).trans (getR d2 g1))).trans (getR d1 (rowD _ g2))
  refine for_rg (fun i env s => ∃ (a6 a7 : Option D), Boxed s n ∧ Ub n st s ∧ s[q]? = some (.lst ((closedM many rows).map dN)) ∧ s[p]? = some (.lst (ord.map nI)) ∧ s[s3.length]? = some (.lst (((ordOf (closedM many rows) ord).take i).map dN)) ∧ env = [some (.ref n), some (nI things), some (nI marks), some (.ref q), some (.ref p), some (.ref s3.length), a6, a7]) ?_ ?_ ?_
  · rintro i env s hi ⟨a6, a7, B, U, d1, d2, d3, rfl⟩
    refine ⟨_, rfl, fun K k1 k2 k3 k4 => ?_⟩
    refine ⟨s3.length, _, rfl, d3, dN ((List.range (closedM many rows).length).filter fun y => isPart ((closedM many rows).getD (ord.getD i 0) []) ((closedM many rows).getD (ord.getD y 0) [])), ?_, _, d3, by rw [List.length_map, List.length_take]; omega, k1 _ _ ⟨_, _, B.hi hB4 _, U.set (by have a1 := E1.ub.len; have a2 := U2.len; have a3 := U3.len; omega) _, ?_, ?_, ?_, rfl⟩⟩
    · refine mTupL_e (comp_fi (g := nI) (p := fun y => isPart ((closedM many rows).getD (ord.getD i 0) []) ((closedM many rows).getD (ord.getD y 0) [])) (iRng_nat (n := (closedM many rows).length) (lenR rfl d1) (by omega)) fun y hy => ⟨_, rfl, bV_e ((mCall2 (lx i hi s _ _ _ d1 d2 6 _ rfl rfl) (lx y (List.mem_range.mp hy) s _ _ _ d1 d2 7 _ rfl rfl)).trans (inside_eval _ _ _)), fun _ => rfl⟩)
    · rw [List.getElem?_set_ne (by have := U3.len; omega)]; exact d1
    · rw [List.getElem?_set_ne (by omega)]; exact d2
    · rw [getSet d3]
      have e : (ordOf (closedM many rows) ord)[i]? = some ((List.range (closedM many rows).length).filter fun y => isPart ((closedM many rows).getD (ord.getD i 0) []) ((closedM many rows).getD (ord.getD y 0) [])) := by
        unfold ordOf
        rw [List.getElem?_map, List.getElem?_range hi]
        rfl
      rw [List.take_add_one, e, List.map_append]
      rfl
  · rintro env s ⟨a6, a7, B, U, d1, d2, d3, rfl⟩
    have ol : (ordOf (closedM many rows) ord).length = (closedM many rows).length := by unfold ordOf; rw [List.length_map, List.length_range]
    rw [List.take_of_length_le (by omega)] at d3
    exact ⟨_, mTup_e (mCons_e rfl (mCons_e (lenR rfl d1) (mCons1 (tupR rfl d3)))) (by show 3 ≤ 1000; decide), hR many rows ord _ hmany hrows T hp B U⟩
  · exact ⟨none, none, B3.up (Up.app _ _), (((E1.ub).trans (U2.ub n)).trans U3).trans ((Up.app _ _).ub n), (Up.app _ _).get c2', (Up.app _ _).get c3, getApp _ _, rfl⟩
end GF

set_option Elab.async false
set_option linter.all false
set_option maxRecDepth 100000
set_option maxHeartbeats 4000000
namespace GF
open PySem PySem.Spec PyProof.Rows L2 GX GD
/-! ## 45. orders: below, least, join, meet -/
def ordD (k : Str) (up : List (List Nat)) : D := .tup [.str k, nI up.length, .tup (up.map dN)]
def blwM (up : List (List Nat)) : List (List Nat) := (List.range up.length).map fun own => (List.range up.length).filter fun other => (up.getD other []).contains own
def optN : Option Nat → D
  | some n => nI n
  | none => .non
def leastM (up : List (List Nat)) (members : List Nat) : Option Nat := (members.filter fun one => isPart members (up.getD one [])).head?
def joinM (up : List (List Nat)) (x y : Nat) : Option Nat := leastM up ((up.getD x []).filter fun k => (up.getD y []).contains k)
theorem blw_len (up : List (List Nat)) : (blwM up).length = up.length := by unfold blwM; rw [List.length_map, List.length_range]
theorem lo_ord (n : Nat) (k : Str) (up : List (List Nat)) : D.lo n (ordD k up) = true := by
  unfold ordD D.lo D.loAll D.loAll D.loAll D.loAll
  have : D.lo n (.tup (up.map dN)) = true := by unfold D.lo; exact lo_map (lo_dN n) up
  rw [this]
  rfl
def R_below_of : RS := (rSeq (rAsg (mVar 0) (tgTup 3 (tgCons (tgN 1) (tgCons (tgN 2) (tgCons (tgN 3) tgNil))))) (rRet (mGenT (iRng (mVar 2)) (tgN 4) bYes (mGenT (iRng (mVar 2)) (tgN 5) (bV (mOp fIn (mVar 4) (mOp fIx (mVar 3) (mVar 5)))) (mVar 5) [5]) [4])))
def F_below_of : List D → SS → Option D := fnR' 6 1 R_below_of
theorem blw_eval {k : Str} {up : List (List Nat)} (st : SS) (h : up.length ≤ 1000000) : F_below_of [ordD k up] st = some (.tup ((blwM up).map dN)) := by
  refine fnR'_rt rfl ?_ (by unfold D.lo; exact lo_map (lo_dN _) _)
  refine (rSeq_nx (e1 := [some (ordD k up), some (.str k), some (nI up.length), some (.tup (up.map dN)), none, none]) (rAsg_e rfl rfl)).trans (rRet_e (mGenT_e ?_))
  unfold blwM
  rw [List.map_map]
  refine comp_id (f := nI) (g := dN ∘ fun own => (List.range up.length).filter fun other => (up.getD other []).contains own) (iRng_nat (n := up.length) rfl h) fun own _ => ⟨_, rfl, rfl, mGenT_e ?_⟩
  exact comp_fi (f := nI) (g := nI) (p := fun other => (up.getD other []).contains own) (iRng_nat (n := up.length) rfl h) fun other ho => ⟨_, rfl, bV_e ((mOp_e rfl ((mOp_e rfl rfl).trans (getI (List.mem_range.mp ho)))).trans (fIn_nI _ _ _)), fun _ => rfl⟩
def R_turned_over : RS := (rRet (mTup (mCons (mOp fIx (mVar 0) (mC (.int 0))) (mCons (mOp fIx (mVar 0) (mC (.int 1))) (mCons (mCall F_below_of (mCons (mVar 0) mNil)) mNil)))))
def F_turned_over : List D → SS → Option D := fnR' 1 1 R_turned_over
theorem flip_eval {k : Str} {up : List (List Nat)} (st : SS) (h : up.length ≤ 1000000) : F_turned_over [ordD k up] st = some (ordD k (blwM up)) := by
  refine fnR'_rt rfl ?_ (lo_ord _ _ _)
  refine (rRet_e (mTup_e (mCons_e rfl (mCons_e rfl (mCons1 ((mCall1 rfl).trans (blw_eval st h))))) (by show 3 ≤ 1000; decide))).trans ?_
  unfold ordD
  rw [blw_len]
def leastT : XT := fun ds st R => ∃ (k : Str) (up : List (List Nat)) (members : List Nat), ds = [ordD k up, dN members] ∧ (∀ x ∈ members, x < up.length) ∧ ∀ st1, Up st st1 → R (optN (leastM up members)) st1
abbrev T_least_of : XT := leastT
def X_least_of : XS := (sSeq (sAsg (xNew (xaOf (mComp (iSeq (mVar 1)) (tgN 2) (bV (mCall F_is_part (mCons (mVar 1) (mCons (mOp fIx (mOp fIx (mVar 0) (mC (.int 2))) (mVar 2)) mNil)))) (mVar 2) [2]))) (tgN 3)) (sRet (xOf (mIf (bT (mVar 3)) (mOp fIx (mVar 3) (mC (.int 0))) (mC .non)))))
def Y_least_of : XT := fnT' 4 2 X_least_of
theorem least_ok (ds : List D) (st : SS) (R : D → SS → Prop) (h : leastT ds st R) : Y_least_of ds st R := by
  obtain ⟨k, up, members, rfl, hm, hR⟩ := h
  refine ⟨rfl, ?_⟩
  show X_least_of _ [some (ordD k up), some (dN members), none, none] st
  refine ⟨(members.filter fun one => isPart members (up.getD one [])).map nI, comp_fi (f := nI) (g := nI) (p := fun one => isPart members (up.getD one [])) (iSeq_dN rfl) fun one h1 => ⟨_, rfl, bV_e ((mCall2 rfl ((mOp_e (x := .tup (up.map dN)) rfl rfl).trans (getI (hm one h1)))).trans (is_part_eval _ _ _)), fun _ => rfl⟩, _, rfl, optN (leastM up members), ?_, hR _ (Up.app _ _)⟩
  have c := getApp st (.lst ((members.filter fun one => isPart members (up.getD one [])).map nI))
  unfold leastM
  cases hf : members.filter fun one => isPart members (up.getD one []) with
  | nil =>
    rw [hf] at c
    have t : ∀ a b e, bT (mVar 3) [a, b, e, some (.ref st.length)] (st ++ [Cell.lst (([] : List Nat).map nI)]) = some false := fun a b e => by
      unfold bT
      show truD _ (.ref st.length) = _
      unfold truD
      simp only [c]
      rfl
    refine mIf_e (x := false) (t _ _ _) (fun z => by cases z) fun _ => rfl
  | cons a l =>
    rw [hf] at c
    have t : ∀ x b e, bT (mVar 3) [x, b, e, some (.ref st.length)] (st ++ [Cell.lst ((a :: l).map nI)]) = some true := fun x b e => by
      unfold bT
      show truD _ (.ref st.length) = _
      unfold truD
      simp only [c]
      rfl
    refine mIf_e (x := true) (t _ _ _) (fun _ => (mOp_e rfl rfl).trans (getR (f := nI) (l := a :: l) (i := 0) (a := a) c rfl)) fun z => by cases z
def InUp (up : List (List Nat)) : Prop := ∀ r ∈ up, ∀ x ∈ r, x < up.length
theorem InUp.at {up : List (List Nat)} (h : InUp up) {x : Nat} : ∀ y ∈ up.getD x [], y < up.length := by
  intro y hy
  by_cases hx : x < up.length
  · refine h _ ?_ y hy
    rw [List.getD_eq_getElem?_getD, List.getElem?_eq_getElem hx]
    exact List.getElem_mem hx
  · rw [List.getD_eq_getElem?_getD, List.getElem?_eq_none (by omega)] at hy
    cases hy
theorem inUp_below (up : List (List Nat)) : InUp (blwM up) := by
  intro r hr x hx
  rw [blw_len]
  unfold blwM at hr
  obtain ⟨own, _, rfl⟩ := List.mem_map.mp hr
  exact List.mem_range.mp (List.mem_filter.mp hx).1
def joinT : XT := fun ds st R => ∃ (k : Str) (up : List (List Nat)) (x y : Nat), ds = [ordD k up, nI x, nI y] ∧ InUp up ∧ x < up.length ∧ y < up.length ∧ ∀ st1, Up st st1 → R (optN (joinM up x y)) st1
def X_join_of : XS := (sRet (xCall T_least_of (xCons (xOf (mVar 0)) (xCons (xOf (mCall F_shared (mCons (mOp fIx (mOp fIx (mVar 0) (mC (.int 2))) (mVar 1)) (mCons (mOp fIx (mOp fIx (mVar 0) (mC (.int 2))) (mVar 2)) mNil)))) xNil))))
def Y_join_of : XT := fnT' 3 3 X_join_of
theorem join_ok (ds : List D) (st : SS) (R : D → SS → Prop) (h : joinT ds st R) : Y_join_of ds st R := by
  obtain ⟨k, up, x, y, rfl, hU, hx, hy, hR⟩ := h
  refine ⟨rfl, ?_⟩
  show X_join_of _ [some (ordD k up), some (nI x), some (nI y)] st
  refine ⟨_, rfl, _, (mCall2 ((mOp_e (x := .tup (up.map dN)) rfl rfl).trans (getI hx)) ((mOp_e (x := .tup (up.map dN)) rfl rfl).trans (getI hy))).trans (shared_eval _ _ _), k, up, _, rfl, fun z hz => hU.at z (List.mem_filter.mp hz).1, hR⟩
def meetT : XT := fun ds st R => ∃ (k : Str) (up : List (List Nat)) (x y : Nat), ds = [ordD k up, nI x, nI y] ∧ up.length ≤ 1000000 ∧ x < up.length ∧ y < up.length ∧ ∀ st1, Up st st1 → R (optN (joinM (blwM up) x y)) st1
def greatT : XT := fun ds st R => ∃ (k : Str) (up : List (List Nat)) (members : List Nat), ds = [ordD k up, dN members] ∧ up.length ≤ 1000000 ∧ (∀ x ∈ members, x < up.length) ∧ ∀ st1, Up st st1 → R (optN (leastM (blwM up) members)) st1
abbrev T_greatest_of : XT := greatT
def X_greatest_of : XS := (sRet (xCall T_least_of (xCons (xOf (mCall F_turned_over (mCons (mVar 0) mNil))) (xCons (xOf (mVar 1)) xNil))))
def Y_greatest_of : XT := fnT' 2 2 X_greatest_of
theorem great_ok (ds : List D) (st : SS) (R : D → SS → Prop) (h : greatT ds st R) : Y_greatest_of ds st R := by
  obtain ⟨k, up, members, rfl, hl, hm, hR⟩ := h
  refine ⟨rfl, ?_⟩
  show X_greatest_of _ [some (ordD k up), some (dN members)] st
  exact ⟨_, (mCall1 rfl).trans (flip_eval st hl), _, rfl, k, blwM up, members, rfl, fun x hx => by rw [blw_len]; exact hm x hx, hR⟩
end GF

set_option Elab.async false
set_option linter.all false
set_option maxRecDepth 100000
set_option maxHeartbeats 4000000
namespace GF
open PySem PySem.Spec PyProof.Rows L2 GX GD
/-! ## 46. the law's own joins and meets -/
def bestP (up : List (List Nat)) (found : List Nat) (x : Nat) : Bool := isPart found (up.getD x [])
theorem head_find {α : Type} (p : α → Bool) : ∀ l : List α, (l.filter p).head? = l.find? p
  | [] => rfl
  | a :: l => by
    cases h : p a with
    | true => rw [List.filter_cons_of_pos h, List.find?_cons_of_pos h]; rfl
    | false => rw [List.filter_cons_of_neg (by rw [h]; decide), List.find?_cons_of_neg (by rw [h]; decide), head_find p l]
theorem least_find (up : List (List Nat)) (members : List Nat) : leastM up members = members.find? (bestP up members) := head_find _ _
def R_law_best : RS := (rSeq (rFor (iSeq (mVar 0)) (tgN 2) (rIf (bV (mOp fEq (mLenL (mComp (iSeq (mVar 0)) (tgN 3) (bV (mOp fNotIn (mVar 3) (mOp fIx (mVar 1) (mVar 2)))) (mVar 3) [3])) (mC (.int 0)))) (rRet (mVar 2)) rNext)) (rRet (mC .non)))
def F_law_best : List D → SS → Option D := fnR' 4 2 R_law_best
theorem lo_optN (n : Nat) (o : Option Nat) : D.lo n (optN o) = true := by cases o <;> rfl
theorem best_eval {st : SS} {q : Nat} {up : List (List Nat)} {found : List Nat} (c : st[q]? = some (.lst (found.map nI))) (hf : ∀ x ∈ found, x < up.length) : F_law_best [.ref q, .tup (up.map dN)] st = some (optN (leastM up found)) := by
  refine fnR'_rt rfl ?_ (lo_optN _ _)
  show R_law_best [some (.ref q), some (.tup (up.map dN)), none, none] st = _
  have test : ∀ (x : Nat), x < up.length → bV (mOp fEq (mLenL (mComp (iSeq (mVar 0)) (tgN 3) (bV (mOp fNotIn (mVar 3) (mOp fIx (mVar 1) (mVar 2)))) (mVar 3) [3])) (mC (.int 0))) [some (.ref q), some (.tup (up.map dN)), some (nI x), none] st = some (bestP up found x) := by
    intro x hx
    refine bV_e ((mOp_e (mLenL_e (comp_fi (f := nI) (p := fun k => !(up.getD x []).contains k) (g := nI) (iSeq_lst rfl c) fun k _ => ⟨_, rfl, bV_e ((mOp_e rfl ((mOp_e rfl rfl).trans (getI hx))).trans (fNotIn_nI _ _ _)), fun _ => rfl⟩)) rfl).trans ?_)
    rw [eqI, List.length_map, none_left]
    rfl
  have loop : ∀ (l : List Nat) (x2 : Option D), (∀ x ∈ l, x < up.length) → (∃ a, l.find? (bestP up found) = some a ∧ rForGo (tgN 2) (rIf (bV (mOp fEq (mLenL (mComp (iSeq (mVar 0)) (tgN 3) (bV (mOp fNotIn (mVar 3) (mOp fIx (mVar 1) (mVar 2)))) (mVar 3) [3])) (mC (.int 0)))) (rRet (mVar 2)) rNext) st (l.map nI) [some (.ref q), some (.tup (up.map dN)), x2, none] = some (.rt (nI a))) ∨
      (l.find? (bestP up found) = none ∧ ∃ y, rForGo (tgN 2) (rIf (bV (mOp fEq (mLenL (mComp (iSeq (mVar 0)) (tgN 3) (bV (mOp fNotIn (mVar 3) (mOp fIx (mVar 1) (mVar 2)))) (mVar 3) [3])) (mC (.int 0)))) (rRet (mVar 2)) rNext) st (l.map nI) [some (.ref q), some (.tup (up.map dN)), x2, none] = some (.nx [some (.ref q), some (.tup (up.map dN)), y, none])) := by
    intro l
    induction l with
    | nil => intro x2 _; exact .inr ⟨rfl, x2, rfl⟩
    | cons a l ih =>
      intro x2 hl
      have ta := test a (hl a List.mem_cons_self)
      cases hb : bestP up found a with
      | true =>
        refine .inl ⟨a, List.find?_cons_of_pos hb, ?_⟩
        rw [hb] at ta
        rw [List.map_cons, rForGo]
        show (match (rIf _ (rRet (mVar 2)) rNext) [some (.ref q), some (.tup (up.map dN)), some (nI a), none] st with | some (.nx e) => _ | some (.ct e) => _ | some (.bk e) => _ | some (.rt d) => _ | none => _) = _
        rw [rIf_t ta]
        rfl
      | false =>
        rw [hb] at ta
        have e : rForGo (tgN 2) (rIf (bV (mOp fEq (mLenL (mComp (iSeq (mVar 0)) (tgN 3) (bV (mOp fNotIn (mVar 3) (mOp fIx (mVar 1) (mVar 2)))) (mVar 3) [3])) (mC (.int 0)))) (rRet (mVar 2)) rNext) st ((a :: l).map nI) [some (.ref q), some (.tup (up.map dN)), x2, none] = rForGo (tgN 2) (rIf (bV (mOp fEq (mLenL (mComp (iSeq (mVar 0)) (tgN 3) (bV (mOp fNotIn (mVar 3) (mOp fIx (mVar 1) (mVar 2)))) (mVar 3) [3])) (mC (.int 0)))) (rRet (mVar 2)) rNext) st (l.map nI) [some (.ref q), some (.tup (up.map dN)), some (nI a), none] := rForGo_nx rfl ((rIf_f ta).trans rfl)
        rw [e, List.find?_cons_of_neg (by rw [hb]; decide)]
        exact ih _ fun x hx => hl x (List.mem_cons_of_mem _ hx)
  have fr : ∀ r : RS, rFor (iSeq (mVar 0)) (tgN 2) r [some (.ref q), some (.tup (up.map dN)), none, none] st = rForGo (tgN 2) r st (found.map nI) [some (.ref q), some (.tup (up.map dN)), none, none] := fun r => by
    unfold rFor
    rw [iSeq_lst rfl c]
  rw [least_find]
  rcases loop found none hf with ⟨a, h1, h2⟩ | ⟨h1, y, h2⟩
  · rw [h1]
    exact rSeq_rt ((fr _).trans h2)
  · rw [h1]
    exact (rSeq_nx ((fr _).trans h2)).trans (rRet_e rfl)
def X_law_join : XS := (sRet (xCall (xF F_law_best) (xCons (xNew (xaOf (mComp (iSeq (mOp fIx (mOp fIx (mVar 0) (mC (.int 2))) (mVar 1))) (tgN 3) (bV (mOp fIn (mVar 3) (mOp fIx (mOp fIx (mVar 0) (mC (.int 2))) (mVar 2)))) (mVar 3) [3]))) (xCons (xOf (mOp fIx (mVar 0) (mC (.int 2)))) xNil))))
def Y_law_join : XT := fnT' 4 3 X_law_join
abbrev T_law_join : XT := joinT
theorem law_join_ok (ds : List D) (st : SS) (R : D → SS → Prop) (h : joinT ds st R) : Y_law_join ds st R := by
  obtain ⟨k, up, x, y, rfl, hU, hx, hy, hR⟩ := h
  refine ⟨rfl, ?_⟩
  show X_law_join _ [some (ordD k up), some (nI x), some (nI y), none] st
  refine ⟨((up.getD x []).filter fun k => (up.getD y []).contains k).map nI, comp_fi (f := nI) (g := nI) (p := fun k => (up.getD y []).contains k) (iSeq_dN ((mOp_e (x := .tup (up.map dN)) rfl rfl).trans (getI hx))) fun z _ => ⟨_, rfl, bV_e ((mOp_e rfl ((mOp_e (x := .tup (up.map dN)) rfl rfl).trans (getI hy))).trans (fIn_nI _ _ _)), fun _ => rfl⟩, .tup (up.map dN), rfl, optN (joinM up x y), ?_, hR _ (Up.app _ _)⟩
  exact best_eval (getApp _ _) fun z hz => hU.at z (List.mem_filter.mp hz).1
theorem blw_mem {up : List (List Nat)} {x z : Nat} (hx : x < up.length) : (blwM up).getD x [] = (List.range up.length).filter fun other => (up.getD other []).contains x := by
  unfold blwM
  rw [List.getD_eq_getElem?_getD, List.getElem?_map, List.getElem?_range hx]
  rfl
theorem filter_congr' {α : Type} {p q : α → Bool} {l : List α} (h : ∀ a ∈ l, p a = q a) : l.filter p = l.filter q := List.filter_congr h
theorem find_congr {α : Type} {p q : α → Bool} : ∀ {l : List α}, (∀ a ∈ l, p a = q a) → l.find? p = l.find? q
  | [], _ => rfl
  | a :: l, h => by
    have e := h a List.mem_cons_self
    rw [List.find?_cons, List.find?_cons, e, find_congr fun b hb => h b (List.mem_cons_of_mem _ hb)]
/-- the meet, as the law looks for it -/
theorem meet_find {up : List (List Nat)} {x y : Nat} (hx : x < up.length) (hy : y < up.length) : joinM (blwM up) x y = ((List.range up.length).filter fun z => (up.getD z []).contains x && (up.getD z []).contains y).find? fun z => ((List.range up.length).filter fun z => (up.getD z []).contains x && (up.getD z []).contains y).all fun w => (up.getD w []).contains z := by
  have e : (((blwM up).getD x []).filter fun k => ((blwM up).getD y []).contains k) = (List.range up.length).filter fun z => (up.getD z []).contains x && (up.getD z []).contains y := by
    rw [blw_mem (z := 0) hx, blw_mem (z := 0) hy, List.filter_filter]
    refine List.filter_congr fun z hz => ?_
    have : ((List.range up.length).filter fun other => (up.getD other []).contains y).contains z = (up.getD z []).contains y := by
      rw [Bool.eq_iff_iff, List.contains_iff_mem, List.mem_filter]
      exact ⟨fun q => q.2, fun q => ⟨hz, q⟩⟩
    rw [this, Bool.and_comm]
  unfold joinM
  rw [e, least_find]
  refine find_congr fun z hz => ?_
  have hzl : z < up.length := List.mem_range.mp (List.mem_filter.mp hz).1
  unfold bestP isPart
  rw [blw_mem (z := 0) hzl, Bool.eq_iff_iff, List.all_eq_true, List.all_eq_true]
  refine forall_congr' fun w => forall_congr' fun hw => ?_
  rw [List.contains_iff_mem, List.mem_filter]
  exact ⟨fun q => q.2, fun q => ⟨(List.mem_filter.mp hw).1, q⟩⟩
def X_law_meet : XS := (sSeq (sAsg (xNew (xaOf (mComp (iRng (mOp fIx (mVar 0) (mC (.int 1)))) (tgN 3) (bAnd (bV (mOp fIn (mVar 1) (mOp fIx (mOp fIx (mVar 0) (mC (.int 2))) (mVar 3)))) (bV (mOp fIn (mVar 2) (mOp fIx (mOp fIx (mVar 0) (mC (.int 2))) (mVar 3))))) (mVar 3) [3]))) (tgN 4)) (sSeq (sFor (xiOf (iSeq (mVar 4))) (tgN 3) (sIf (xbOf (bV (mOp fEq (mLenL (mComp (iSeq (mVar 4)) (tgN 5) (bV (mOp fNotIn (mVar 3) (mOp fIx (mOp fIx (mVar 0) (mC (.int 2))) (mVar 5)))) (mVar 5) [5])) (mC (.int 0))))) (sRet (xOf (mVar 3))) sNext)) (sRet (xOf (mC .non)))))
def Y_law_meet : XT := fnT' 6 3 X_law_meet
abbrev T_law_meet : XT := meetT
theorem law_meet_ok (ds : List D) (st : SS) (R : D → SS → Prop) (h : meetT ds st R) : Y_law_meet ds st R := by
  obtain ⟨k, up, x, y, rfl, hl, hx, hy, hR⟩ := h
  refine ⟨rfl, ?_⟩
  show X_law_meet _ [some (ordD k up), some (nI x), some (nI y), none, none, none] st
  rw [meet_find hx hy] at hR
  refine ⟨((List.range up.length).filter fun z => (up.getD z []).contains x && (up.getD z []).contains y).map nI, comp_fi (f := nI) (g := nI) (p := fun z => (up.getD z []).contains x && (up.getD z []).contains y) (iRng_nat (n := up.length) rfl hl) fun z hz => ⟨_, rfl, bAnd_e (bV_e ((mOp_e rfl ((mOp_e (x := .tup (up.map dN)) rfl rfl).trans (getI (List.mem_range.mp hz)))).trans (fIn_nI _ _ _))) fun _ => bV_e ((mOp_e rfl ((mOp_e (x := .tup (up.map dN)) rfl rfl).trans (getI (List.mem_range.mp hz)))).trans (fIn_nI _ _ _)), fun _ => rfl⟩, _, rfl, ?_⟩
  have hm : ∀ z ∈ (List.range up.length).filter (fun z => (up.getD z []).contains x && (up.getD z []).contains y), z < up.length := fun z hz => List.mem_range.mp (List.mem_filter.mp hz).1
  generalize (List.range up.length).filter (fun z => (up.getD z []).contains x && (up.getD z []).contains y) = found at hR hm ⊢
  have c := getApp st (.lst (found.map nI))
  have hu : Up st (st ++ [Cell.lst (found.map nI)]) := Up.app _ _
  refine ⟨found.map nI, some st.length, iSeq_lst rfl c, ?_⟩
  generalize st ++ [Cell.lst (found.map nI)] = s at c hu ⊢
  refine for_ls (ro := some st.length) (f := nI) (items := found) (fun done env s' => s' = s ∧ (∀ z ∈ done, (found.all fun w => (up.getD w []).contains z) = false) ∧ ∃ a3, env = [some (ordD k up), some (nI x), some (nI y), a3, some (.ref st.length), none]) ?_ ?_ ?_ ⟨rfl, (fun _ z => nomatch z), none, rfl⟩
  · rintro done env s' ⟨rfl, _⟩
    exact Hold.refl
  · rintro done a todo env s' he ⟨rfl, hd, a3, rfl⟩
    have ha : a ∈ found := by rw [he]; exact List.mem_append_right _ List.mem_cons_self
    refine ⟨[some (ordD k up), some (nI x), some (nI y), some (nI a), some (.ref st.length), none], rfl, fun K k1 k2 k3 k4 => ?_⟩
    refine ⟨found.all fun w => (up.getD w []).contains a, bV_e ((mOp_e (mLenL_e (comp_fi (f := nI) (p := fun w => !(up.getD w []).contains a) (g := nI) (iSeq_lst rfl c) fun w hw => ⟨_, rfl, bV_e ((mOp_e rfl ((mOp_e (x := .tup (up.map dN)) rfl rfl).trans (getI (hm w hw)))).trans (fNotIn_nI _ _ _)), fun _ => rfl⟩)) rfl).trans ?_), ?_⟩
    · rw [eqI, List.length_map, none_left]
    · cases hb : found.all fun w => (up.getD w []).contains a with
      | true =>
        refine iteT ⟨nI a, rfl, ?_⟩
        rw [k3]
        have := hR s' hu
        have e : found.find? (fun z => found.all fun w => (up.getD w []).contains z) = some a := by
          have : ∀ (l : List Nat), (∀ z ∈ l, (found.all fun w => (up.getD w []).contains z) = false) → (l ++ a :: todo).find? (fun z => found.all fun w => (up.getD w []).contains z) = some a := by
            intro l hl'
            induction l with
            | nil => exact List.find?_cons_of_pos hb
            | cons b l ih =>
              rw [List.cons_append, List.find?_cons_of_neg (by rw [hl' b List.mem_cons_self]; decide)]
              exact ih fun z hz => hl' z (List.mem_cons_of_mem _ hz)
          have t := this done hd
          rw [← he] at t
          exact t
        rw [e] at this
        exact this
      | false =>
        refine iteF (k1 _ _ ⟨rfl, fun z hz => ?_, _, rfl⟩)
        rcases List.mem_append.mp hz with q | q
        · exact hd z q
        · rw [List.mem_singleton.mp q]; exact hb
  · rintro env s' ⟨rfl, hd, a3, rfl⟩
    have := hR s' hu
    rw [List.find?_eq_none.mpr fun z hz => by rw [hd z hz]; decide] at this
    exact ⟨_, rfl, this⟩
end GF

set_option Elab.async false
set_option linter.all false
set_option maxRecDepth 100000
set_option maxHeartbeats 4000000
namespace GF
open PySem PySem.Spec PyProof.Rows L2 GX GD
/-! ## 50. orders and lattices, plainly -/
def leU (up : List (List Nat)) (x y : Nat) : Prop := y ∈ up.getD x []
structure OrdU (up : List (List Nat)) : Prop where
  inU : InUp up
  srt : ∀ r ∈ up, r.Pairwise (· < ·)
  refl : ∀ x, x < up.length → leU up x x
  anti : ∀ x y, leU up x y → leU up y x → x = y
  trans : ∀ x y z, leU up x y → leU up y z → leU up x z
section
variable {up : List (List Nat)} {x y z j w : Nat} {ms : List Nat}
theorem leU_lt (O : OrdU up) (h : leU up x y) : x < up.length ∧ y < up.length := by
  refine ⟨Classical.byContradiction fun hx => ?_, O.inU.at y h⟩
  unfold leU at h
  rw [List.getD_eq_getElem?_getD, List.getElem?_eq_none (by omega)] at h
  cases h
theorem leU_con : (up.getD x []).contains y = true ↔ leU up x y := List.contains_iff_mem
theorem row_srt (O : OrdU up) (x : Nat) : (up.getD x []).Pairwise (· < ·) := by
  by_cases hx : x < up.length
  · exact O.srt _ (List.mem_of_getElem? (rowD up hx))
  · rw [List.getD_eq_getElem?_getD, List.getElem?_eq_none (by omega)]
    exact List.Pairwise.nil
theorem least_some (h : leastM up ms = some z) : z ∈ ms ∧ ∀ w ∈ ms, leU up z w := by
  unfold leastM at h
  have := List.mem_of_mem_head? (Option.mem_def.mpr h)
  rw [List.mem_filter, isPart_iff] at this
  exact this
theorem least_eq (O : OrdU up) (h1 : z ∈ ms) (h2 : ∀ w ∈ ms, leU up z w) : leastM up ms = some z := by
  cases h : leastM up ms with
  | none =>
    unfold leastM at h
    rw [List.head?_eq_none_iff, List.filter_eq_nil_iff] at h
    exact absurd (isPart_iff.mpr h2) (h z h1)
  | some y =>
    obtain ⟨k1, k2⟩ := least_some h
    rw [O.anti y z (k2 z h1) (h2 y k1)]
theorem least_iff (O : OrdU up) : leastM up ms = some z ↔ z ∈ ms ∧ ∀ w ∈ ms, leU up z w := ⟨least_some, fun h => least_eq O h.1 h.2⟩
theorem mem_up2 : w ∈ ((up.getD x []).filter fun k => (up.getD y []).contains k) ↔ leU up x w ∧ leU up y w := by
  rw [List.mem_filter, List.contains_iff_mem]
  rfl
theorem join_iff (O : OrdU up) : joinM up x y = some j ↔ (leU up x j ∧ leU up y j) ∧ ∀ w, leU up x w → leU up y w → leU up j w := by
  unfold joinM
  rw [least_iff O, mem_up2]
  exact and_congr_right fun _ => ⟨fun h w h1 h2 => h w (mem_up2.mpr ⟨h1, h2⟩), fun h w hw => h w (mem_up2.mp hw).1 (mem_up2.mp hw).2⟩
theorem blw_le : leU (blwM up) x y ↔ x < up.length ∧ y < up.length ∧ leU up y x := by
  by_cases hx : x < up.length
  · unfold leU
    rw [blw_mem (z := 0) hx, List.mem_filter, List.mem_range, List.contains_iff_mem]
    exact ⟨fun h => ⟨hx, h⟩, fun h => h.2⟩
  · refine ⟨fun h => ?_, fun h => absurd h.1 hx⟩
    unfold leU at h
    rw [List.getD_eq_getElem?_getD, List.getElem?_eq_none (by rw [blw_len]; omega)] at h
    cases h
theorem blw_le' (O : OrdU up) : leU (blwM up) x y ↔ leU up y x := ⟨fun h => (blw_le.mp h).2.2, fun h => blw_le.mpr ⟨(leU_lt O h).2, (leU_lt O h).1, h⟩⟩
theorem OrdU.dual (O : OrdU up) : OrdU (blwM up) := by
  refine ⟨inUp_below up, fun r hr => ?_, fun x hx => ?_, fun x y h1 h2 => ?_, fun x y z h1 h2 => ?_⟩
  · unfold blwM at hr
    obtain ⟨own, _, rfl⟩ := List.mem_map.mp hr
    exact sorted_filter _ _
  · rw [blw_len] at hx
    exact (blw_le' O).mpr (O.refl x hx)
  · rw [blw_le' O] at h1 h2
    exact O.anti x y h2 h1
  · rw [blw_le' O] at h1 h2 ⊢
    exact O.trans _ _ _ h2 h1
theorem blw_blw (O : OrdU up) : blwM (blwM up) = up := by
  apply List.ext_getElem?
  intro i
  by_cases hi : i < up.length
  · rw [rowD up hi, rowD (blwM (blwM up)) (by rw [blw_len, blw_len]; exact hi)]
    congr 1
    refine sorted_ext (row_srt O.dual.dual i) (row_srt O i) fun k => ?_
    show leU (blwM (blwM up)) i k ↔ leU up i k
    rw [blw_le' O.dual, blw_le' O]
  · rw [List.getElem?_eq_none (by rw [blw_len, blw_len]; omega), List.getElem?_eq_none (by omega)]
/-! ### lattices -/
structure LatU (up : List (List Nat)) : Prop where
  o : OrdU up
  j : ∀ x y, x < up.length → y < up.length → ∃ j, joinM up x y = some j
  m : ∀ x y, x < up.length → y < up.length → ∃ j, joinM (blwM up) x y = some j
theorem LatU.dual (L : LatU up) : LatU (blwM up) := ⟨L.o.dual, fun x y hx hy => L.m x y (by rw [blw_len] at hx; exact hx) (by rw [blw_len] at hy; exact hy), fun x y hx hy => by
  rw [blw_blw L.o]
  exact L.j x y (by rw [blw_len] at hx; exact hx) (by rw [blw_len] at hy; exact hy)⟩
def jn (up : List (List Nat)) (x y : Nat) : Nat := (joinM up x y).getD 0
def mt (up : List (List Nat)) (x y : Nat) : Nat := jn (blwM up) x y
theorem jn_some (L : LatU up) (hx : x < up.length) (hy : y < up.length) : joinM up x y = some (jn up x y) := by
  obtain ⟨j, h⟩ := L.j x y hx hy
  unfold jn
  rw [h]
  rfl
theorem mt_some (L : LatU up) (hx : x < up.length) (hy : y < up.length) : joinM (blwM up) x y = some (mt up x y) := jn_some L.dual (by rw [blw_len]; exact hx) (by rw [blw_len]; exact hy)
theorem le_jl (L : LatU up) (hx : x < up.length) (hy : y < up.length) : leU up x (jn up x y) := ((join_iff L.o).mp (jn_some L hx hy)).1.1
theorem le_jr (L : LatU up) (hx : x < up.length) (hy : y < up.length) : leU up y (jn up x y) := ((join_iff L.o).mp (jn_some L hx hy)).1.2
theorem jn_le (L : LatU up) (h1 : leU up x w) (h2 : leU up y w) : leU up (jn up x y) w := ((join_iff L.o).mp (jn_some L (leU_lt L.o h1).1 (leU_lt L.o h2).1)).2 w h1 h2
theorem jn_lt (L : LatU up) (hx : x < up.length) (hy : y < up.length) : jn up x y < up.length := (leU_lt L.o (le_jl L hx hy)).2
theorem mt_lt (L : LatU up) (hx : x < up.length) (hy : y < up.length) : mt up x y < up.length := by
  have := jn_lt L.dual (x := x) (y := y) (by rw [blw_len]; exact hx) (by rw [blw_len]; exact hy)
  rw [blw_len] at this
  exact this
theorem mt_lel (L : LatU up) (hx : x < up.length) (hy : y < up.length) : leU up (mt up x y) x := (blw_le' L.o).mp (le_jl L.dual (by rw [blw_len]; exact hx) (by rw [blw_len]; exact hy))
theorem mt_ler (L : LatU up) (hx : x < up.length) (hy : y < up.length) : leU up (mt up x y) y := (blw_le' L.o).mp (le_jr L.dual (by rw [blw_len]; exact hx) (by rw [blw_len]; exact hy))
theorem le_mt (L : LatU up) (h1 : leU up w x) (h2 : leU up w y) : leU up w (mt up x y) := (blw_le' L.o).mp (jn_le L.dual ((blw_le' L.o).mpr h1) ((blw_le' L.o).mpr h2))
end
/-! ### the lattice of closed sets -/
section
variable {many : Nat} {rows : List (List Nat)} {ord : List Nat}
theorem closed_of (s : List Nat) : closureM many rows s ∈ closedM many rows := by
  unfold closedM
  rw [List.mem_filter, mem_lecS, decide_eq_true_iff]
  exact ⟨⟨common_sorted _ _ _, fun x hx => ⟨Nat.zero_le _, by rw [Nat.zero_add]; exact closure_lt x hx⟩⟩, closure_twice⟩
theorem closed_at {s : List Nat} (h : s ∈ closedM many rows) : s.Pairwise (· < ·) ∧ (∀ x ∈ s, x < many) ∧ closureM many rows s = s := by
  unfold closedM at h
  rw [List.mem_filter, mem_lecS, decide_eq_true_iff] at h
  exact ⟨h.1.1, fun x hx => by have := (h.1.2 x hx).2; omega, h.2⟩
def setAt (many : Nat) (rows : List (List Nat)) (ord : List Nat) (x : Nat) : List Nat := (closedM many rows).getD (ord.getD x 0) []
theorem setAt_mem (p : ord.Perm (List.range (closedM many rows).length)) {x : Nat} (hx : x < (closedM many rows).length) : setAt many rows ord x ∈ closedM many rows := List.mem_of_getElem? (rowD _ (perm_get p hx).2)
theorem setAt_inj (p : ord.Perm (List.range (closedM many rows).length)) {x y : Nat} (hx : x < (closedM many rows).length) (hy : y < (closedM many rows).length) (h : setAt many rows ord x = setAt many rows ord y) : x = y := by
  obtain ⟨a1, a2⟩ := perm_get p hx
  obtain ⟨b1, b2⟩ := perm_get p hy
  have e1 := rowD (closedM many rows) a2
  have e2 := rowD (closedM many rows) b2
  unfold setAt at h
  rw [h] at e1
  have e3 : ord.getD x 0 = ord.getD y 0 := by
    have n := closed_nodup (many := many) (rows := rows)
    exact (List.getElem?_inj a2 n).mp (e1.trans e2.symm)
  have nd : ord.Nodup := p.nodup_iff.mpr List.nodup_range
  rw [e3] at a1
  have hl : ord.length = (closedM many rows).length := by rw [p.length_eq, List.length_range]
  exact (List.getElem?_inj (by omega) nd).mp (a1.trans b1.symm)
theorem setAt_onto (p : ord.Perm (List.range (closedM many rows).length)) {s : List Nat} (h : s ∈ closedM many rows) : ∃ x, x < (closedM many rows).length ∧ setAt many rows ord x = s := by
  obtain ⟨i, hi, e⟩ := List.getElem_of_mem h
  have : i ∈ ord := p.mem_iff.mpr (List.mem_range.mpr hi)
  obtain ⟨x, hx, ex⟩ := List.getElem_of_mem this
  have hl : ord.length = (closedM many rows).length := by rw [p.length_eq, List.length_range]
  refine ⟨x, by omega, ?_⟩
  unfold setAt
  rw [List.getD_eq_getElem?_getD (l := ord), List.getElem?_eq_getElem hx, ex, List.getD_eq_getElem?_getD]
  show ((closedM many rows)[i]?).getD [] = s
  rw [List.getElem?_eq_getElem hi, e]
  rfl
theorem ordOf_len (cs : List (List Nat)) : (ordOf cs ord).length = cs.length := by unfold ordOf; rw [List.length_map, List.length_range]
theorem ordOf_le {x y : Nat} : leU (ordOf (closedM many rows) ord) x y ↔ x < (closedM many rows).length ∧ y < (closedM many rows).length ∧ ∀ k ∈ setAt many rows ord x, k ∈ setAt many rows ord y := by
  unfold leU ordOf
  by_cases hx : x < (closedM many rows).length
  · rw [List.getD_eq_getElem?_getD, List.getElem?_map, List.getElem?_range hx]
    rw [Option.map_some, Option.getD_some, List.mem_filter, List.mem_range, isPart_iff]
    exact ⟨fun h => ⟨hx, h⟩, fun h => h.2⟩
  · rw [List.getD_eq_getElem?_getD, List.getElem?_eq_none (by rw [List.length_map, List.length_range]; omega)]
    exact ⟨fun h => (nomatch h), fun h => absurd h.1 hx⟩
theorem ordOf_ord (p : ord.Perm (List.range (closedM many rows).length)) : OrdU (ordOf (closedM many rows) ord) := by
  refine ⟨fun r hr x hx => ?_, fun r hr => ?_, fun x hx => ?_, fun x y h1 h2 => ?_, fun x y z h1 h2 => ?_⟩
  · rw [ordOf_len]
    unfold ordOf at hr
    obtain ⟨own, _, rfl⟩ := List.mem_map.mp hr
    exact List.mem_range.mp (List.mem_filter.mp hx).1
  · unfold ordOf at hr
    obtain ⟨own, _, rfl⟩ := List.mem_map.mp hr
    exact sorted_filter _ _
  · rw [ordOf_len] at hx
    exact ordOf_le.mpr ⟨hx, hx, fun _ h => h⟩
  · obtain ⟨a1, a2, a3⟩ := ordOf_le.mp h1
    obtain ⟨b1, b2, b3⟩ := ordOf_le.mp h2
    exact setAt_inj p a1 a2 (sorted_ext (closed_at (setAt_mem p a1)).1 (closed_at (setAt_mem p a2)).1 fun k => ⟨a3 k, b3 k⟩)
  · obtain ⟨a1, a2, a3⟩ := ordOf_le.mp h1
    obtain ⟨b1, b2, b3⟩ := ordOf_le.mp h2
    exact ordOf_le.mpr ⟨a1, b2, fun k hk => b3 k (a3 k hk)⟩
theorem ordOf_lat (p : ord.Perm (List.range (closedM many rows).length)) : LatU (ordOf (closedM many rows) ord) := by
  have O := ordOf_ord p
  refine ⟨O, fun x y hx hy => ?_, fun x y hx hy => ?_⟩
  all_goals
    rw [ordOf_len] at hx hy
    obtain ⟨sx, lx, cx⟩ := closed_at (setAt_mem p hx)
    obtain ⟨sy, ly, cy⟩ := closed_at (setAt_mem p hy)
  · obtain ⟨j, hj, ej⟩ := setAt_onto p (closed_of (many := many) (rows := rows) (setAt many rows ord x ++ setAt many rows ord y))
    have g : ∀ k ∈ setAt many rows ord x ++ setAt many rows ord y, k ∈ setAt many rows ord j := fun k hk => by
      rw [ej]
      refine closure_grows (fun k hk => ?_) k hk
      rcases List.mem_append.mp hk with h | h
      · exact lx k h
      · exact ly k h
    refine ⟨j, (join_iff O).mpr ⟨⟨ordOf_le.mpr ⟨hx, hj, fun k hk => g k (List.mem_append_left _ hk)⟩, ordOf_le.mpr ⟨hy, hj, fun k hk => g k (List.mem_append_right _ hk)⟩⟩, fun w h1 h2 => ?_⟩⟩
    obtain ⟨_, hw, a⟩ := ordOf_le.mp h1
    obtain ⟨_, _, b⟩ := ordOf_le.mp h2
    refine ordOf_le.mpr ⟨hj, hw, fun k hk => ?_⟩
    rw [ej] at hk
    rw [← (closed_at (setAt_mem p hw)).2.2]
    refine closure_mono (fun k hk => ?_) k hk
    rcases List.mem_append.mp hk with h | h
    · exact a k h
    · exact b k h
  · obtain ⟨j, hj, ej⟩ := setAt_onto p (closed_of (many := many) (rows := rows) ((setAt many rows ord x).filter fun k => (setAt many rows ord y).contains k))
    have e : ∀ k, k ∈ setAt many rows ord j ↔ k ∈ setAt many rows ord x ∧ k ∈ setAt many rows ord y := fun k => by
      rw [ej]
      constructor
      · intro hk
        refine ⟨?_, ?_⟩
        · rw [← cx]
          exact closure_mono (fun k hk => (List.mem_filter.mp hk).1) k hk
        · rw [← cy]
          exact closure_mono (fun k hk => List.contains_iff_mem.mp (List.mem_filter.mp hk).2) k hk
      · rintro ⟨h1, h2⟩
        exact closure_grows (fun k hk => lx k (List.mem_filter.mp hk).1) k (List.mem_filter.mpr ⟨h1, List.contains_iff_mem.mpr h2⟩)
    refine ⟨j, (join_iff O.dual).mpr ⟨⟨(blw_le' O).mpr (ordOf_le.mpr ⟨hj, hx, fun k hk => ((e k).mp hk).1⟩), (blw_le' O).mpr (ordOf_le.mpr ⟨hj, hy, fun k hk => ((e k).mp hk).2⟩)⟩, fun w h1 h2 => ?_⟩⟩
    rw [blw_le' O] at h1 h2 ⊢
    obtain ⟨hw, _, a⟩ := ordOf_le.mp h1
    obtain ⟨_, _, b⟩ := ordOf_le.mp h2
    exact ordOf_le.mpr ⟨hw, hj, fun k hk => (e k).mpr ⟨a k hk, b k hk⟩⟩
theorem closed_pos : 0 < (closedM many rows).length := List.length_pos_of_mem (closed_of (many := many) (rows := rows) [])
end
end GF

set_option Elab.async false
set_option linter.all false
set_option maxRecDepth 100000
set_option maxHeartbeats 4000000
namespace GF
open PySem PySem.Spec PyProof.Rows L2 GX GD
/-! ## 51. congruences, plainly -/
/-- classes, told by the least element of each -/
structure Nf (n : Nat) (c : List Nat) : Prop where
  len : c.length = n
  le : ∀ i, i < n → c.getD i 0 ≤ i
  fix : ∀ i, i < n → c.getD (c.getD i 0) 0 = c.getD i 0
theorem Nf.lt {n : Nat} {c : List Nat} (h : Nf n c) {i : Nat} (hi : i < n) : c.getD i 0 < n := Nat.lt_of_le_of_lt (h.le i hi) hi
/-- the classes of the one lie within those of the other -/
def Wi (n : Nat) (c d : List Nat) : Prop := ∀ x y, x < n → y < n → c.getD x 0 = c.getD y 0 → d.getD x 0 = d.getD y 0
section
variable {n : Nat} {c d e : List Nat}
theorem Wi.refl : Wi n c c := fun _ _ _ _ h => h
theorem Wi.trans (h : Wi n c d) (k : Wi n d e) : Wi n c e := fun x y hx hy z => k x y hx hy (h x y hx hy z)
theorem wi_iff (h : Nf n c) : Wi n c d ↔ ∀ i, i < n → d.getD i 0 = d.getD (c.getD i 0) 0 := by
  constructor
  · intro w i hi
    exact (w _ _ (h.lt hi) hi (h.fix i hi)).symm
  · intro k x y hx hy z
    rw [k x hx, k y hy, z]
theorem Wi.anti (h : Nf n c) (k : Nf n d) (a : Wi n c d) (b : Wi n d c) : c = d := by
  refine List.ext_getElem (h.len.trans k.len.symm) fun i h1 h2 => ?_
  have hi : i < n := by rw [← h.len]; exact h1
  have e1 := (wi_iff h).mp a i hi
  have e2 := (wi_iff k).mp b i hi
  have l1 := k.le _ (h.lt hi)
  have l2 := h.le _ (k.lt hi)
  have f1 := k.fix i hi
  have f2 := h.fix i hi
  have : c.getD i 0 = d.getD i 0 := by omega
  rw [List.getD_eq_getElem?_getD, List.getD_eq_getElem?_getD, List.getElem?_eq_getElem h1, List.getElem?_eq_getElem h2] at this
  exact this
end
/-- an equivalence, by least elements -/
structure Eqv (n : Nat) (R : Nat → Nat → Prop) : Prop where
  refl : ∀ x, x < n → R x x
  symm : ∀ x y, R x y → R y x
  trans : ∀ x y z, R x y → R y z → R x z
open Classical in
noncomputable def nfOf (n : Nat) (R : Nat → Nat → Prop) : List Nat := (List.range n).map fun x => ((List.range n).find? fun y => decide (R x y)).getD 0
section
variable {n : Nat} {R : Nat → Nat → Prop}
end
/-! ### congruences -/
structure Con (up : List (List Nat)) (c : List Nat) : Prop where
  nf : Nf up.length c
  j : ∀ x y z, x < up.length → y < up.length → z < up.length → c.getD x 0 = c.getD y 0 → c.getD (jn up x z) 0 = c.getD (jn up y z) 0
  m : ∀ x y z, x < up.length → y < up.length → z < up.length → c.getD x 0 = c.getD y 0 → c.getD (mt up x z) 0 = c.getD (mt up y z) 0
/-- the least of the congruences with a property -/
noncomputable def leastC (up : List (List Nat)) (S : List Nat → Prop) : List Nat := nfOf up.length fun x y => ∀ c, Con up c → S c → c.getD x 0 = c.getD y 0
section
variable {up : List (List Nat)} {S T : List Nat → Prop} {c d : List Nat}
/-- the pairs stand in one class -/
def Has (pairs : List (Nat × Nat)) (c : List Nat) : Prop := ∀ p ∈ pairs, c.getD p.1 0 = c.getD p.2 0
noncomputable def genC (up : List (List Nat)) (pairs : List (Nat × Nat)) : List Nat := leastC up (Has pairs)
def PairsIn (n : Nat) (pairs : List (Nat × Nat)) : Prop := ∀ p ∈ pairs, p.1 < n ∧ p.2 < n
/-! ### pairs one directly above the other -/
theorem filter_ltx {α : Type} {p q : α → Bool} : ∀ {l : List α}, (∀ a ∈ l, p a = true → q a = true) → (∃ a ∈ l, p a = false ∧ q a = true) → (l.filter p).length < (l.filter q).length
  | [], _, h => by obtain ⟨a, h, _⟩ := h; cases h
  | b :: l, h, k => by
    have hl : ∀ a ∈ l, p a = true → q a = true := fun a ha => h a (List.mem_cons_of_mem _ ha)
    have mono : (l.filter p).length ≤ (l.filter q).length := by
      clear k h
      induction l with
      | nil => exact Nat.le_refl _
      | cons c l ih =>
        have := ih fun a ha => hl a (List.mem_cons_of_mem _ ha)
        cases hp : p c with
        | false =>
          rw [List.filter_cons_of_neg (by rw [hp]; decide)]
          cases hq : q c with
          | false => rw [List.filter_cons_of_neg (by rw [hq]; decide)]; exact this
          | true => rw [List.filter_cons_of_pos hq, List.length_cons]; omega
        | true =>
          rw [List.filter_cons_of_pos hp, List.filter_cons_of_pos (hl c List.mem_cons_self hp), List.length_cons, List.length_cons]
          omega
    obtain ⟨a, ha, h1, h2⟩ := k
    rcases List.mem_cons.mp ha with rfl | ha
    · rw [List.filter_cons_of_neg (by rw [h1]; decide), List.filter_cons_of_pos h2, List.length_cons]
      omega
    · have ih := filter_ltx hl ⟨a, ha, h1, h2⟩
      cases hp : p b with
      | false =>
        rw [List.filter_cons_of_neg (by rw [hp]; decide)]
        cases hq : q b with
        | false => rw [List.filter_cons_of_neg (by rw [hq]; decide)]; exact ih
        | true => rw [List.filter_cons_of_pos hq, List.length_cons]; omega
      | true =>
        rw [List.filter_cons_of_pos hp, List.filter_cons_of_pos (h b List.mem_cons_self hp), List.length_cons, List.length_cons]
        omega
end
end GF

set_option Elab.async false
set_option linter.all false
set_option maxRecDepth 100000
set_option maxHeartbeats 4000000
namespace GF
open PySem PySem.Spec PyProof.Rows L2 GX GD
/-! ## 52. all congruences are joined from a few -/
section
variable {up : List (List Nat)} {c d : List Nat}
/-- those that are made by some below it -/
def GenBy (up : List (List Nat)) (done : List (List Nat)) (t : List Nat) : Prop := ∀ c, Con up c → (∀ o ∈ done, Wi up.length o t → Wi up.length o c) → Wi up.length t c
structure Found (up : List (List Nat)) (done found : List (List Nat)) : Prop where
  con : ∀ t ∈ found, Con up t
  has : ∀ t, Con up t → GenBy up done t → t ∈ found
  len : found.length ≤ 2 ^ done.length
end
end GF

set_option Elab.async false
set_option linter.all false
set_option maxRecDepth 100000
set_option maxHeartbeats 2000000
namespace GD
open PySem PySem.Spec PyProof.Rows L2 GX
/-! ## 35. texts -/
section
variable {X : Cx} {w : Wd} {pos p kp apos : Pos} {a b c e o : Expr} {ma mb m : MP}
/-! ### over a text's signs -/
/-! ### a text cut at a text -/
/-! ### a text of the module; what is not reached; a value dropped -/
end
end GD

set_option Elab.async false
set_option linter.all false
set_option maxRecDepth 100000
set_option maxHeartbeats 2000000
namespace GD
open PySem PySem.Spec PyProof.Rows L2 GX
section
variable {X : Cx} {w : Wd} {pos p tpos : Pos} {e : Expr}
end
end GD

set_option Elab.async false
set_option linter.all false
set_option maxRecDepth 100000
set_option maxHeartbeats 2000000
namespace GD
open PySem PySem.Spec PyProof.Rows L2 GX
/-! ## 48. sorted(set(list of tuples of ints)) -/
section
variable {X : Cx} {w : Wd} {pos p : Pos}
end
end GD

set_option Elab.async false
set_option linter.all false
set_option maxRecDepth 100000
set_option maxHeartbeats 2000000
namespace GD
open PySem PySem.Spec PyProof.Rows L2 GX
/-! ## 49. len(set(tuple of ints)) -/
section
variable {X : Cx} {w : Wd} {p p2 q pos : Pos} {a : Expr} {m : MP}
end
end GD

set_option Elab.async false
set_option linter.all false
set_option maxRecDepth 100000
set_option maxHeartbeats 2000000
namespace GD
open PySem PySem.Spec PyProof.Rows L2 GX
/-! ## 58. list comprehensions of two clauses: the new list stands in the store from the start -/
section
variable {X : Cx} {w : Wd} {pos : Pos} {tg iter elt c tg1 iter1 : Expr} {ifs ifs1 : List Expr}
end
end GD

set_option Elab.async false
set_option linter.all false
set_option maxRecDepth 100000
set_option maxHeartbeats 2000000
namespace GD
open PySem PySem.Spec PyProof.Rows L2 GX
/-! ## 61. generator expressions of two clauses -/
def allGo2 (t : MT) (b : MB) (mi1 : MI) (t1 : MT) (b1 : MB) (m : MP) (own1 : List Nat) (env : EV) (st : SS) (sa : Bool) : List D → Option Bool
  | [] => some (!sa)
  | d :: ds => match t d env with
    | some env1 => (match b env1 st with
      | some true => (match mi1 env1 st with
        | some (ds1, _) => if ds1.length ≤ 1000 then (match allGo t1 b1 m (ewipe env1 own1) st sa ds1 with
          | some x => if x = sa then some sa else allGo2 t b mi1 t1 b1 m own1 env st sa ds
          | none => none) else none
        | none => none)
      | some false => allGo2 t b mi1 t1 b1 m own1 env st sa ds
      | none => none)
    | none => none
def mAll2 (sa : Bool) (mi : MI) (t : MT) (b : MB) (mi1 : MI) (t1 : MT) (b1 : MB) (m : MP) (own own1 : List Nat) : MP := fun env st => match mi env st with
  | some (ds, _) => if ds.length ≤ 1000 then (match allGo2 t b mi1 t1 b1 m own1 (ewipe env own) st sa ds with | some x => some (.bl x) | none => none) else none
  | none => none
theorem all2_cons {t : MT} {b : MB} {mi1 : MI} {t1 : MT} {b1 : MB} {m : MP} {own1 : List Nat} {env : EV} {st : SS} {sa : Bool} {d : D} {ds : List D} {r : Bool} (h : allGo2 t b mi1 t1 b1 m own1 env st sa (d :: ds) = some r) :
    ∃ env1, t d env = some env1 ∧ ((b env1 st = some false ∧ allGo2 t b mi1 t1 b1 m own1 env st sa ds = some r) ∨ (b env1 st = some true ∧ ∃ ds1 ro1 x, mi1 env1 st = some (ds1, ro1) ∧ ds1.length ≤ 1000 ∧ allGo t1 b1 m (ewipe env1 own1) st sa ds1 = some x ∧ ((x = sa ∧ r = sa) ∨ (x = (!sa) ∧ allGo2 t b mi1 t1 b1 m own1 env st sa ds = some r)))) := by
  unfold allGo2 at h
  split at h
  · rename_i env1 e1
    refine ⟨env1, e1, ?_⟩
    split at h
    · rename_i e2
      split at h
      · rename_i ds1 ro1 e3
        split at h
        · rename_i hl
          split at h
          · rename_i x e4
            refine .inr ⟨e2, ds1, ro1, x, e3, hl, e4, ?_⟩
            split at h
            · rename_i hx
              cases h
              exact .inl ⟨hx, rfl⟩
            · rename_i hx
              refine .inr ⟨?_, h⟩
              cases x <;> cases sa <;> simp_all
          · cases h
        · cases h
      · cases h
    · rename_i e2
      exact .inl ⟨e2, h⟩
    · cases h
  · cases h
section
variable {X : Cx} {w : Wd} {pos : Pos} {tg iter tg1 iter1 elt c : Expr} {ifs ifs1 : List Expr}
theorem all_read2 {sa : Bool} {mi : MI} {t : MT} {b : MB} {mi1 : MI} {t1 : MT} {b1 : MB} {m : MP} {own own1 : List Nat} {g g1 : TG} {B : Heap} {nm : Nat → Nat → Option Str} {c : Addr} (eB : B = w.s.base) (en : nm = w.s.nm) (ec : c = w.c) (hgn : w.gn = true) (hfx : ∀ v ∈ own, ∀ p ∈ w.fx, p.1 ≠ v) (hsub : ∀ v ∈ own1, v ∈ own) (hg : ∀ c', GT (w.at c') own g t) (hg1 : ∀ c', GT (w.at c') own1 g1 t1) (σ : L2.St) (H : Hp) (Q : VK) :
    tP w (mAll2 sa mi t b mi1 t1 b1 m own own1) σ H Q → tGen2 B nm c (tI w mi) g (fun c' => tBo (w.at c') b) (fun c' => tI (w.at c') mi1) g1 (fun c' => tBo (w.at c') b1) (fun c' => tP (w.at c') m) own own1 σ H fun G _ =>
      (∀ ys y i k H', G.alive ys → G.W (ys ++ [y]) i k H' → ∃ c : Bool, y = .bl c ∧ (c = (!sa) → G.alive (ys ++ [y])) ∧ (c = sa → Q (.bl sa) H')) ∧ ∀ ys H', G.alive ys → G.fin ys H' → Q (.bl (!sa)) H' := by
  subst eB en ec
  rintro ⟨ι, env, st, dres, he, hs, hm, q⟩
  unfold mAll2 at hm
  split at hm
  · rename_i ds ro hmi
    split at hm
    · rename_i hdl
      split at hm
      · rename_i r hgo0
        cases hm
        have szl : (1000000 : Nat) < sizeLine := by rw [sizeLine_eq]; decide
        refine ⟨ι, env, st, ds, ro, he, hs, hmi, fun J H1 k1 s1 hJ => ⟨(he.kp k1).cod hgn, s1.tabs, fun H2 c' P' g2 T2 hc' hp' => ?_⟩⟩
        have kg : Kp ι H1 H2 := Kp.grown g2
        have s2 := s1.grown' g2 T2
        have he2 : EnvR (w.at c') ι env σ H2 := ((he.kp k1).kp kg).code hc' hp'
        refine ⟨fun ys i mm H' => mm = ds.length - i ∧ i ≤ ds.length ∧ ys.length ≤ i * 1000 ∧ Kp ι H2 H' ∧ SR w.s ι st H' ∧ allGo2 t b mi1 t1 b1 m own1 (ewipe env own) st sa (ds.drop i) = some r,
          ⟨fun ys _ _ H' => Kp ι H2 H' ∧ SR w.s ι st H' ∧ ∃ x, ys.getLast? = some (.bl x) ∧ (x = sa → r = sa), fun ys => ys.getLast? ≠ some (.bl sa), fun ys H' => Kp ι H2 H' ∧ SR w.s ι st H' ∧ r = (!sa)⟩,
          by simp, ⟨ds.length, rfl, Nat.zero_le _, by simp, Kp.refl _, s2, hgo0⟩, ?_, ?_, ?_⟩
        · rintro ys i mm H' hal ⟨rfl, hi, hyl, k2, s2', hgo⟩
          obtain ⟨j1, j2, j3⟩ := hJ.run ι st H' (kg.trans k2) (List.prefix_refl _) Hold.refl s2'
          by_cases hlt : i < ds.length
          · refine .inr ⟨j1 i hlt, fun ys' H'' => i + 1 ≤ ds.length ∧ ys'.length ≤ (i + 1) * 1000 ∧ Kp ι H2 H'' ∧ SR w.s ι st H'' ∧ allGo2 t b mi1 t1 b1 m own1 (ewipe env own) st sa (ds.drop (i + 1)) = some r,
              fun ys' H'' hn => ⟨_, by omega, rfl, hn⟩, fun x H3 hy => ?_⟩
            obtain ⟨d, hd, rd, kk, s3⟩ := j2 i x H3 hlt hy
            obtain ⟨d', hd', hdr⟩ := drop_cons' hlt
            rw [hd] at hd'
            cases hd'
            rw [hdr] at hgo
            obtain ⟨env1, ht, hcase⟩ := all2_cons hgo
            have k3 : Kp ι H' H3 := .of kk
            refine hg c' ι st H3 _ _ x d env1 _ ((he2.kp (k2.trans k3)).wipe own hfx) s3 rd ht fun σ2 he3 hw2 => ⟨hw2.trans (wipe_idem fun _ h => h), ?_⟩
            rcases hcase with ⟨hb, hrest⟩ | ⟨hb, ds1, ro1, xr, hmi1, hl1, hys, hxr⟩
            · exact ⟨ι, env1, st, false, he3, s3, hb, fun H4 k4 s4 => iteF ⟨hlt, by omega, (k2.trans k3).trans k4, s4, hrest⟩⟩
            · refine ⟨ι, env1, st, true, he3, s3, hb, fun H4 k4 s4 => iteT ⟨ι, env1, st, ds1, ro1, he3.kp k4, s4, hmi1, fun J1 H5 k5 s5 hJ1 => ?_⟩⟩
              have kA : Kp ι H2 H5 := ((k2.trans k3).trans k4).trans k5
              refine ⟨fun ys1 j kn H' => kn = ds1.length - j ∧ j ≤ ds1.length ∧ ys1.length ≤ i * 1000 + j ∧ Kp ι H5 H' ∧ SR w.s ι st H' ∧ ((ys1.getLast? = some (.bl sa)) ∨ allGo t1 b1 m (ewipe env1 own1) st sa (ds1.drop j) = some xr),
                ⟨ds1.length, rfl, Nat.zero_le _, by omega, .refl _, s5, .inr hys⟩, ?_⟩
              rintro ys1 j kn H6 hal1 ⟨rfl, hj, hyl1, k6, s6, hgo1⟩
              have hgo1 := hgo1.resolve_left hal1
              obtain ⟨i1, i2, i3⟩ := hJ1.run ι st H6 k6 (List.prefix_refl _) Hold.refl s6
              by_cases hjl : j < ds1.length
              · refine .inr ⟨i1 j hjl, fun H'' => j + 1 ≤ ds1.length ∧ ys1.length ≤ i * 1000 + (j + 1) ∧ Kp ι H5 H'' ∧ SR w.s ι st H'' ∧ allGo t1 b1 m (ewipe env1 own1) st sa (ds1.drop (j + 1)) = some xr,
                  fun y H'' => j + 1 ≤ ds1.length ∧ (ys1 ++ [y]).length ≤ i * 1000 + (j + 1) ∧ Kp ι H5 H'' ∧ SR w.s ι st H'' ∧ ∃ x, y = .bl x ∧ ((x = sa ∧ r = sa) ∨ (x = (!sa) ∧ allGo t1 b1 m (ewipe env1 own1) st sa (ds1.drop (j + 1)) = some xr)),
                  fun H'' hn => ⟨_, by omega, rfl, hn.1, hn.2.1, hn.2.2.1, hn.2.2.2.1, .inr hn.2.2.2.2⟩, fun y H'' hn => ?_, fun x1 H7 hy1 => ?_⟩
                · obtain ⟨n1, n2, n3, n4, x, rfl, hx⟩ := hn
                  refine ⟨⟨0, 0, kA.trans n3, n4, x, by simp, fun hxs => ?_⟩, _, by omega, rfl, n1, n2, n3, n4, ?_⟩
                  · rcases hx with ⟨_, hr⟩ | ⟨hx, _⟩
                    · exact hr
                    · rw [hxs] at hx; cases sa <;> cases hx
                  · rcases hx with ⟨rfl, _⟩ | ⟨_, hx⟩
                    · exact .inl (by simp)
                    · exact .inr hx
                · obtain ⟨d1, hd1, rd1, kk1, s7⟩ := i2 j x1 H7 hjl hy1
                  obtain ⟨d1', hd1', hdr1⟩ := drop_cons' hjl
                  rw [hd1] at hd1'
                  cases hd1'
                  rw [hdr1] at hgo1
                  obtain ⟨env2, ht1, hcase1⟩ := all_cons hgo1
                  have k7 : Kp ι H5 H7 := k6.trans (.of kk1)
                  refine hg1 c' ι st H7 _ _ x1 d1 env2 _ ((((he3.kp k4).kp k5).kp k7).wipe own1 fun v hv => hfx v (hsub v hv)) s7 rd1 ht1 fun σ3 he4 hw3 => ⟨hw3.trans (wipe_idem fun _ h => h), ?_⟩
                  have lim : ys1.length < sizeLine := by
                    have : i * 1000 ≤ 999 * 1000 := Nat.mul_le_mul_right _ (by omega)
                    omega
                  rcases hcase1 with ⟨hb1, hrest1⟩ | ⟨hb1, hy2⟩
                  · exact ⟨ι, env2, st, false, he4, s7, hb1, fun H8 k8 s8 => iteF ⟨hjl, by omega, k7.trans k8, s8, hrest1⟩⟩
                  · have fin : ∀ (y : Bool), m env2 st = some (.bl y) → ((y = sa ∧ r = sa) ∨ (y = (!sa) ∧ allGo t1 b1 m (ewipe env1 own1) st sa (ds1.drop (j + 1)) = some xr)) → _ := fun y hy3 hy4 =>
                      (⟨ι, env2, st, true, he4, s7, hb1, fun H8 k8 s8 => iteT ⟨ι, env2, st, .bl y, he4.kp k8, s8, hy3, fun v H9 k9 r9 s9 => by
                        cases r9
                        exact ⟨lim, hjl, by rw [List.length_append, List.length_singleton]; omega, (k7.trans k8).trans k9, s9, y, rfl, hy4⟩⟩⟩ : tBo (w.at c') b1 σ3 H7 fun b' H8 => if b' = true then tP (w.at c') m σ3 H8 fun y H9 => ys1.length < sizeLine ∧ (j + 1 ≤ ds1.length ∧ (ys1 ++ [y]).length ≤ i * 1000 + (j + 1) ∧ Kp ι H5 H9 ∧ SR w.s ι st H9 ∧ ∃ x, y = .bl x ∧ ((x = sa ∧ r = sa) ∨ (x = (!sa) ∧ allGo t1 b1 m (ewipe env1 own1) st sa (ds1.drop (j + 1)) = some xr))) else (j + 1 ≤ ds1.length ∧ ys1.length ≤ i * 1000 + (j + 1) ∧ Kp ι H5 H8 ∧ SR w.s ι st H8 ∧ allGo t1 b1 m (ewipe env1 own1) st sa (ds1.drop (j + 1)) = some xr))
                    rcases hy2 with ⟨hy3, hr⟩ | ⟨hy3, hr⟩
                    · refine fin _ hy3 (.inl ⟨rfl, ?_⟩)
                      rcases hxr with ⟨_, hx⟩ | ⟨hx, _⟩
                      · exact hx
                      · rw [hr] at hx; cases sa <;> cases hx
                    · exact fin _ hy3 (.inr ⟨rfl, hr⟩)
              · have e : j = ds1.length := by omega
                subst e
                rw [List.drop_length] at hgo1
                cases hgo1
                refine .inl ⟨i3 _ (Nat.le_refl _), hlt, by omega, kA.trans k6, s6, ?_⟩
                rcases hxr with ⟨hx, _⟩ | ⟨_, hx⟩
                · cases sa <;> cases hx
                · exact hx
          · have e : i = ds.length := by omega
            subst e
            rw [List.drop_length] at hgo
            cases hgo
            exact .inl ⟨j3 _ (Nat.le_refl _), k2, s2', rfl⟩
        · rintro ys y i k H' hal ⟨k2, s2', x, hx, hr⟩
          have hx : y = .bl x := by simpa using hx
          subst hx
          refine ⟨x, rfl, fun hx => by subst hx; simp, fun hx => ?_⟩
          have hr := hr hx
          subst hr
          exact q _ H' ((k1.trans kg).trans k2) (.bl _) s2'
        · rintro ys H' hal ⟨k2, s2', rfl⟩
          exact q _ H' ((k1.trans kg).trans k2) (.bl _) s2'
      · cases hm
    · cases hm
  · cases hm
structure GenA2 (X : Cx) (w : Wd) (mi : MI) (t : MT) (b : MB) (mi1 : MI) (t1 : MT) (b1 : MB) (m : MP) (own own1 : List Nat) (k : Nat) (e : Expr) : Prop where
  ex : ∃ (g g1 : TG), PGx X k e (tGen2 X.base w.s.nm w.c (tI w mi) g (fun c' => tBo (w.at c') b) (fun c' => tI (w.at c') mi1) g1 (fun c' => tBo (w.at c') b1) (fun c' => tP (w.at c') m) own own1) ∧ (∀ c', GT (w.at c') own g t) ∧ (∀ c', GT (w.at c') own1 g1 t1) ∧ (∀ v ∈ own1, v ∈ own) ∧ ∀ v ∈ own, ∀ p ∈ w.fx, p.1 ≠ v
  gn : w.gn = true
theorem dg_gen2 {scope : Scope} {own : List (Str × Nat)} {own1 : List Nat} {mi : MI} {t : MT} {b : MB} {mi1 : MI} {t1 : MT} {b1 : MB} {m : MP} {g g1 : TG} {k : Nat}
    (hc : X.calm = true) (hN : X.N.Nodup) (hr : Room 0 X.A) (hf : Fit X w) (hbm : Bm X.base X.mg) (hn : w.s.nm pos.line pos.col = none) (hi : PI X tg iter (tI w mi)) (ok : GenOk X.N X.env.scope scope own) (ht : ∀ c', GT (w.at c') (own.map (·.2)) g t) (hv : ∀ i ∈ own1, i ∈ own.map (·.2)) (ht1 : ∀ c', GT (w.at c') own1 g1 t1)
    (hg : ∀ (s : Shared) (H : Hp) (cells : List (Str × Addr)) (L c' : Addr) (fp : List Addr) (A : Around) (pn : List (Addr × Obj)), PG (gcx X s H (genv X scope cells L (.ref c')) fp A pn) tg g)
    (hb : ∀ (s : Shared) (H : Hp) (cells : List (Str × Addr)) (L c' : Addr) (fp : List Addr) (A : Around) (pn : List (Addr × Obj)), Room k (A.deeper (genv X scope cells L (.ref c'))) → Fit (gcx X s H (genv X scope cells L (.ref c')) fp A pn) (w.at c') → PTs (gcx X s H (genv X scope cells L (.ref c')) fp A pn) ifs (tBo (w.at c') b))
    (hi1 : ∀ (s : Shared) (H : Hp) (cells : List (Str × Addr)) (L c' : Addr) (fp : List Addr) (A : Around) (pn : List (Addr × Obj)), Room k (A.deeper (genv X scope cells L (.ref c'))) → Fit (gcx X s H (genv X scope cells L (.ref c')) fp A pn) (w.at c') → PI (gcx X s H (genv X scope cells L (.ref c')) fp A pn) tg1 iter1 (tI (w.at c') mi1))
    (hg1 : ∀ (s : Shared) (H : Hp) (cells : List (Str × Addr)) (L c' : Addr) (fp : List Addr) (A : Around) (pn : List (Addr × Obj)), PG (gcx X s H (genv X scope cells L (.ref c')) fp A pn) tg1 g1)
    (hb1 : ∀ (s : Shared) (H : Hp) (cells : List (Str × Addr)) (L c' : Addr) (fp : List Addr) (A : Around) (pn : List (Addr × Obj)), Room k (A.deeper (genv X scope cells L (.ref c'))) → Fit (gcx X s H (genv X scope cells L (.ref c')) fp A pn) (w.at c') → PTs (gcx X s H (genv X scope cells L (.ref c')) fp A pn) ifs1 (tBo (w.at c') b1))
    (he : ∀ (s : Shared) (H : Hp) (cells : List (Str × Addr)) (L c' : Addr) (fp : List Addr) (A : Around) (pn : List (Addr × Obj)), Room k (A.deeper (genv X scope cells L (.ref c'))) → Fit (gcx X s H (genv X scope cells L (.ref c')) fp A pn) (w.at c') → PE (gcx X s H (genv X scope cells L (.ref c')) fp A pn) elt (tP (w.at c') m))
    (hs : ∀ x, genFold iter X.env x = pure x := by intro _; rfl) (hs1 : ∀ env x, foldedSetIterable iter1 env x = pure x := by intro _ _; rfl) (hfx : ∀ v ∈ own.map (·.2), ∀ p ∈ w.fx, p.1 ≠ v := by intro _ _ _ h; cases h) (hgn : w.gn = true := by rfl) : GenA2 X w mi t b mi1 t1 b1 m (own.map (·.2)) own1 k (.GeneratorExp elt [⟨tg, iter, ifs, 0⟩, ⟨tg1, iter1, ifs1, 0⟩] scope pos) :=
  ⟨⟨g, g1, pgx_gen2 hc hN hr hf.c hbm hn hi ok hg (fun s H cells L c' fp A pn hr => hb s H cells L c' fp A pn hr ⟨hf.k, hf.b, rfl⟩) (fun s H cells L c' fp A pn hr => hi1 s H cells L c' fp A pn hr ⟨hf.k, hf.b, rfl⟩) hg1 (fun s H cells L c' fp A pn hr => hb1 s H cells L c' fp A pn hr ⟨hf.k, hf.b, rfl⟩) (fun s H cells L c' fp A pn hr => he s H cells L c' fp A pn hr ⟨hf.k, hf.b, rfl⟩) hv hs hs1, ht, ht1, hv, hfx⟩, hgn⟩
section
variable {mi : MI} {t : MT} {b : MB} {mi1 : MI} {t1 : MT} {b1 : MB} {m : MP} {own own1 : List Nat} {k : Nat} {e : Expr} {p : Pos}
theorem dp_allG2 (hf : Fit X w) (hG : GenA2 X w mi t b mi1 t1 b1 m own own1 k e) (hr : Room (k + 3) X.A) (hg : Gl X "all") (hm : X.mg "all" = none) (he : starEach [e] X.env = (false, eval e X.env) :: starEach [] X.env := by rfl) : PE X (.Call (.Name "all" p) [e] [] pos) (tP w (mAll2 false mi t b mi1 t1 b1 m own own1)) := by
  obtain ⟨g, g1, hp, ht, ht1, hv, hfx⟩ := hG.ex
  exact PE.mo (pe_allX hp hr hg hm (he := he)) fun σ H Q h => all_read2 (sa := false) hf.b rfl rfl hG.gn hfx hv ht ht1 σ H Q h
end
end
end GD

set_option Elab.async false
set_option linter.all false
set_option maxRecDepth 100000
set_option maxHeartbeats 2000000
namespace GD
open PySem PySem.Spec PyProof.Rows L2 GX
/-! ## 60. comprehensions of any number of clauses: what they make of the new cell -/
theorem szl : (1000000 : Nat) < sizeLine := by rw [sizeLine_eq]; decide
section
variable {X : Cx} {w : Wd} {pos : Pos} {tg iter e kx vx : Expr} {ifs : List Expr}
end
end GD

set_option Elab.async false
set_option linter.all false
set_option maxRecDepth 100000
set_option maxHeartbeats 2000000
namespace GD
open PySem PySem.Spec PyProof.Rows L2 GX
/-! ## 61. == and != of lists of data -/
section
variable {X : Cx} {w : Wd} {pos : Pos} {a b : Expr} {ma mb : XP} {pa pb : MP}
end
end GD

set_option Elab.async false
set_option linter.all false
set_option maxRecDepth 100000
set_option maxHeartbeats 2000000
namespace GD
open PySem PySem.Spec PyProof.Rows L2 GX
/-! ## 62. names stored from a list -/
section
variable {X : Cx} {w : Wd} {pos : Pos} {e tg : Expr}
end
end GD

set_option Elab.async false
set_option linter.all false
set_option maxRecDepth 100000
set_option maxHeartbeats 2000000
namespace GD
open PySem PySem.Spec PyProof.Rows L2 GX
/-! ## 63. own classes: objects, their attributes, their methods -/
/-- a class of the text, and names that no class of it has -/
structure ClsD (w : Ws) (cn : Str) (fs : List Str) : Prop where
  ex : ∃ C, w.cls cn = some C ∧ Cls w.K C ∧ ∀ f ∈ fs, NoAttr w.K C f
section
variable {ι : List Addr} {H : Hp} {f : Str}
end
section
variable {X : Cx} {w : Wd} {pos : Pos} {e o v : Expr} {cn f : Str} {fl : List Str}
end
/-! ### methods -/
structure FunM (K : PySem.W.Frag) (x q : Str) (st : Stmt) (f c : Addr) (fd : FuncData) : Prop where
  ex : ∃ (oc : Value) (od : Option Addr) (kV doc pm : Value) (an : Option Addr) (ct : Value) (osl : Array (Option Value)),
    fd = PySem.W.fnOf x q (defArgs st) (defBody st) (defScope st) .none kV doc pm an (.ref c) ct ∧ K.lookup f = some ⟨oc, od, .func fd, osl⟩ ∧ PySem.W.codeIn K (.ref c) q = true
/-- a method of the text, by its class's name -/
structure DefM (w : Ws) (cn x q : Str) (st : Stmt) (gn : Bool) : Prop where
  ex : ∃ (C f c : Addr) (fd : FuncData), FunM w.K x q st f c fd ∧ w.cls cn = some C ∧ Cls w.K C ∧ Meth w.K C x f ∧ (gn = true → ∃ P, (c, P) ∈ w.tabs ∧ PySem.W.CodeHd w.base c P)
/-- what a method promises -/
structure MethX (P : Program) (wl : World) (w : Ws) (mg : Str → Option Value) (k : Nat) (cn x : Str) (T : XT) : Prop where
  ex : ∃ (C f : Addr) (fd : FuncData) (ps : List Str), FnOk P wl w.K mg w.base CX0 k f fd ps (spX w T) ∧ w.cls cn = some C ∧ Cls w.K C ∧ Meth w.K C x f ∧ Binds w.K fd ps []
structure MethP (P : Program) (wl : World) (w : Ws) (mg : Str → Option Value) (k : Nat) (cn x : Str) (F : List D → SS → Option D) : Prop where
  ex : ∃ (C f : Addr) (fd : FuncData) (ps : List Str), FnOk P wl w.K mg w.base CX0 k f fd ps (spP w F) ∧ w.cls cn = some C ∧ Cls w.K C ∧ Meth w.K C x f ∧ Binds w.K fd ps []
theorem DefM.x {P : Program} {wl : World} {w : Ws} {mg : Str → Option Value} {cn x q : Str} {st : Stmt} {N ps : List Str} {k : Nat} {t : XS} {gn : Bool} (F : DefM w cn x q st gn) (S : FnScope N ps (defScope st))
    (hb : ∀ (kV doc pm : Value) (an : Option Addr) (cdv ct : Value) (us : List Value), us.length = ps.length → bindArgs (PySem.W.fnOf x q (defArgs st) (defBody st) (defScope st) .none kV doc pm an cdv ct) ⟨us, []⟩ = pure (ps.zip us))
    (hbody : ∀ (f c : Addr) (A : Around) (outer : List Env) (s : Shared) (H : Hp) (E : XK), Room k (A.deeper (envOfC q (defScope st) s.heap.objs.size f (.ref c))) → Fit (cxOf CX0 P wl w.K mg w.base N q (defScope st) f (.ref c) A outer s H E).nox ⟨w, c, [], [], [], gn⟩ →
      PSs (cxOf CX0 P wl w.K mg w.base N q (defScope st) f (.ref c) A outer s H E).nox (defBody st) (tS ⟨w, c, [], [], [], gn⟩ t)) : MethX P wl w mg (k + 1) cn x (fnT N ps.length t) := by
  obtain ⟨C, f, c, fd, ⟨oc, od, kV, doc, pm, an, ct, osl, rfl, lk, hcd⟩, hC, hcl, hM, hT⟩ := F.ex
  refine ⟨C, f, _, ps, fn_of lk hcd S (fun vs H Q E ⟨ι, st, ds, R, r, s, h, q⟩ => by rw [r.length]; exact h.1) fun A outer s H vs Q E hr ⟨ι, st, ds, R, r, s', h, q⟩ => ⟨_, (hbody f c A outer s H E hr ⟨rfl, rfl, rfl⟩).nox, ?_⟩, hC, hcl, hM, .all (hb kV doc pm an (.ref c) ct)⟩
  refine ⟨ι, startE N ds, st, _, start_env r N (fun hg => let ⟨Pt, ht, hh⟩ := hT hg; ⟨Pt, .inl hh, s'.tab _ ht⟩), s', h.2, fun env st' ι' σ H' h g r s => q .non st' ι' .non H' h g .non s, fun d st' ι' v H' h g r s => q d st' ι' v H' h g r s, fun _ _ _ _ _ h _ _ _ => h.elim, fun _ _ _ _ _ h _ _ _ => h.elim⟩
theorem MethX.imp {P : Program} {wl : World} {w : Ws} {mg : Str → Option Value} {k : Nat} {cn x : Str} {T T' : XT} (c : MethX P wl w mg k cn x T) (h : ∀ ds st R, T' ds st R → T ds st R) : MethX P wl w mg k cn x T' := by
  obtain ⟨C, f, fd, ps, hF, h1, h2, h3, h4⟩ := c.ex
  exact ⟨C, f, fd, ps, hF.imp fun vs H Q E ⟨ι, st, ds, R, r, s, ht, q⟩ => ⟨ι, st, ds, R, r, s, h _ _ _ ht, q⟩, h1, h2, h3, h4⟩
section
variable {X : Cx} {w : Wd} {pos apos p : Pos} {e o : Expr} {es : List Expr} {cn m : Str} {k : Nat} {mo : MP}
/-- the making of an object: __init__ is the method's promise -/
structure MakeX (P : Program) (wl : World) (w : Ws) (mg : Str → Option Value) (k : Nat) (cn : Str) (T : XT) : Prop where
  ex : ∃ (C f : Addr) (fd : FuncData) (ps : List Str), FnOk P wl w.K mg w.base CX0 k f fd ps (spX w T) ∧ w.cls cn = some C ∧ mg cn = some (.ref C) ∧ Mk w.K C f ∧ Binds w.K fd ps []
end
end GD

set_option Elab.async false
set_option linter.all false
set_option maxRecDepth 100000
set_option maxHeartbeats 2000000
namespace GD
open PySem PySem.Spec PyProof.Rows L2 GX
/-! ## 64. methods without effects; the making; what the text must have -/
theorem MethX.toP {P : Program} {wl : World} {w : Ws} {mg : Str → Option Value} {k : Nat} {cn x : Str} {T : XT} {F : List D → SS → Option D} (c : MethX P wl w mg k cn x T)
    (h : ∀ ds st d, F ds st = some d → D.loAll st.length ds = true → D.lo st.length d = true ∧ T ds st fun d' st' => d' = d ∧ st'.take st.length = st) : MethP P wl w mg k cn x F := by
  obtain ⟨C, f, fd, ps, hF, m1, m2, m3, m4⟩ := c.ex
  refine ⟨C, f, fd, ps, hF.imp fun vs H Q E ⟨ι, st, ds, d, r, s, hd, q⟩ => ?_, m1, m2, m3, m4⟩
  obtain ⟨hlo, hT⟩ := h ds st d hd (s.len ▸ r.low)
  refine ⟨ι, st, ds, _, r, s, hT, fun d' st' ι' v H' ⟨e1, e2⟩ g r' s' => ?_⟩
  subst e1
  refine q v H' g.kp (r'.cut g.pre (by rw [s.len]; exact hlo)) ⟨s.len, s.nd, fun n a cl h1 h2 => ?_, s'.tabs, s'.tab⟩
  have hn : n < st.length := (List.getElem?_eq_some_iff.mp h2).1
  have h2' : st'[n]? = some cl := by
    rw [← e2, List.getElem?_take, if_pos hn] at h2
    exact h2
  have q1 := s'.cell n a cl (pre_get g.pre h1) h2'
  have q0 := s.cell n a cl h1 h2
  cases cl with
  | lst ds =>
    obtain ⟨vs0, _, _, r0⟩ := q0
    obtain ⟨vs1, e1, l1, r1⟩ := q1
    exact ⟨vs1, e1, l1, r1.cut g.pre r0.low⟩
  | frz ds =>
    obtain ⟨_, vs0, _, _, r0⟩ := q0
    obtain ⟨o1, vs1, e1, l1, r1⟩ := q1
    exact ⟨o1, vs1, e1, l1, r1.cut g.pre r0.low⟩
  | dic ds =>
    obtain ⟨vs0, _, _, r0⟩ := q0
    obtain ⟨vs1, e1, l1, r1⟩ := q1
    exact ⟨vs1, e1, l1, r1.keys, r1.vals.cut g.pre r0.vals.low⟩
  | obj x ds =>
    obtain ⟨_, _, vs0, _, _, r0⟩ := q0
    obtain ⟨C1, dx1, vs1, e1, l1, r1⟩ := q1
    exact ⟨C1, dx1, vs1, e1, l1, r1.keys, r1.vals.cut g.pre r0.vals.low⟩
  | dicN ds =>
    obtain ⟨vs0, _, _, r0⟩ := q0
    obtain ⟨vs1, e1, l1, r1⟩ := q1
    exact ⟨vs1, e1, l1, r1.keys, r1.vals.cut g.pre r0.vals.low⟩
theorem DefM.p {P : Program} {wl : World} {w : Ws} {mg : Str → Option Value} {cn x q : Str} {st : Stmt} {N ps : List Str} {k : Nat} {r : RS} {gn : Bool} (F : DefM w cn x q st gn) (S : FnScope N ps (defScope st))
    (hb : ∀ (kV doc pm : Value) (an : Option Addr) (cdv ct : Value) (us : List Value), us.length = ps.length → bindArgs (PySem.W.fnOf x q (defArgs st) (defBody st) (defScope st) .none kV doc pm an cdv ct) ⟨us, []⟩ = pure (ps.zip us))
    (hbody : ∀ (f c : Addr) (A : Around) (outer : List Env) (s : Shared) (H : Hp) (E : XK), Room k (A.deeper (envOfC q (defScope st) s.heap.objs.size f (.ref c))) → Fit (cxOf CX0 P wl w.K mg w.base N q (defScope st) f (.ref c) A outer s H E).nox ⟨w, c, [], [], [], gn⟩ →
      PSs (cxOf CX0 P wl w.K mg w.base N q (defScope st) f (.ref c) A outer s H E).nox (defBody st) (tS ⟨w, c, [], [], [], gn⟩ (xs r))) : MethP P wl w mg (k + 1) cn x (fnR N ps.length r) := by
  refine (DefM.x (mg := mg) F S hb hbody).toP fun ds st d h _ => ?_
  unfold fnR at h
  split at h
  · rename_i hl
    split at h
    · rename_i d' hr
      split at h
      · rename_i hlo
        cases h
        refine ⟨hlo, hl, ?_⟩
        unfold xs
        rw [hr]
        exact ⟨rfl, List.take_length⟩
      · cases h
    · rename_i e hr
      cases h
      refine ⟨rfl, hl, ?_⟩
      unfold xs
      rw [hr]
      exact ⟨rfl, List.take_length⟩
    · cases h
  · cases h
/-- what of the text the making must have -/
structure ClsM (w : Ws) (mg : Str → Option Value) (cn : Str) : Prop where
  ex : ∃ C f, w.cls cn = some C ∧ mg cn = some (.ref C) ∧ Mk w.K C f
theorem MethX.make {P : Program} {wl : World} {w : Ws} {mg : Str → Option Value} {k : Nat} {cn : Str} {T : XT} (c : MethX P wl w mg k cn "__init__" T) (m : ClsM w mg cn) : MakeX P wl w mg k cn T := by
  obtain ⟨C, f, fd, ps, hF, h1, h2, h3, h4⟩ := c.ex
  obtain ⟨C', f', g1, g2, g3⟩ := m.ex
  rw [h1] at g1
  cases g1
  have e : f = f' := by
    have a := h3.at_
    rw [g3.init] at a
    injection a with a
    injection a with a
    injection a with a
    exact a.symm
  subst e
  exact ⟨C, f, fd, ps, hF, h1, g2, g3, h4⟩
theorem MakeX.imp {P : Program} {wl : World} {w : Ws} {mg : Str → Option Value} {k : Nat} {cn : Str} {T T' : XT} (c : MakeX P wl w mg k cn T) (h : ∀ ds st R, T' ds st R → T ds st R) : MakeX P wl w mg k cn T' := by
  obtain ⟨C, f, fd, ps, hF, h1, h2, h3, h4⟩ := c.ex
  exact ⟨C, f, fd, ps, hF.imp fun vs H Q E ⟨ι, st, ds, R, r, s, ht, q⟩ => ⟨ι, st, ds, R, r, s, h _ _ _ ht, q⟩, h1, h2, h3, h4⟩
/-! ### the end's facts -/
/-- a method of the text: its place, its code object, its table -/
structure DKM (K : PySem.W.Frag) (mg : Str → Option Value) (h : Heap) (cn x q : Str) (st : Stmt) (c P : Addr) : Prop where
  code : PySem.W.CodeHd h c P
  tab : h.get? P = some tblO
  free : K.lookup P = none
  dc : ∀ base nm tabs, (c, P) ∈ tabs → PySem.W.CodeHd base c P → DefM ⟨K, base, nm, tabs, clsOf mg⟩ cn x q st true
theorem DKM.of {K : PySem.W.Frag} {mg : Str → Option Value} {h : Heap} {cn x q : Str} {st : Stmt} {C f c P : Addr} {oc kV dc pm ct : Value} {od an : Option Addr} {sl : Array (Option Value)} (KX : K.In h) (hC : clsOf mg cn = some C) (hcl : Cls K C)
    (a1 : PySem.W.findIn K (.ref C) x = some (some (.ref f))) (i1 : PySem.W.isFn K (.ref f) = true) (k1 : PySem.W.keepIn K (.ref f) = true)
    (l1 : K.lookup f = some ⟨oc, od, .func (PySem.W.fnOf x q (defArgs st) (defBody st) (defScope st) .none kV dc pm an (.ref c) ct), sl⟩) (c1 : PySem.W.codeIn K (.ref c) q = true)
    (hd : PySem.W.codeHdIn K c P = true) (tP : h.get? P = some (PySem.W.tabObj #[])) (n1 : K.lookup P = none) : DKM K mg h cn x q st c P :=
  ⟨PySem.W.codeHd_of_K KX hd, tP, n1, fun base nm tabs ht hh => ⟨C, f, c, _, ⟨oc, od, kV, dc, pm, an, ct, sl, rfl, l1, c1⟩, hC, hcl, ⟨a1, i1, k1⟩, fun _ => ⟨P, ht, hh⟩⟩⟩
end GD

set_option Elab.async false
set_option linter.all false
set_option maxRecDepth 100000
set_option maxHeartbeats 2000000
namespace GD
open PySem PySem.Spec PyProof.Rows L2 GX HT
/-! ## 65. o.f += a tuple -/
section
variable {prog : Program} {w : World} {A : Around} {E : Value → Shared → Prop} {s : Shared}
end
section
variable {X : Cx} {w : Wd} {pos tpos : Pos} {o v : Expr} {cn f : Str} {fl : List Str}
end
end GD

set_option Elab.async false
set_option linter.all false
set_option maxRecDepth 100000
set_option maxHeartbeats 2000000
namespace GD
open PySem PySem.Spec PyProof.Rows L2 GX PySem.W
/-! ## 66. min of a list of tuples of ints -/
section
variable {X : Cx} {w : Wd} {pos p : Pos} {a : Expr}
end
/-! ## 67. the size of a displayed set -/
def cntM : List MP → EV → SS → Option (List Int)
  | [], _, _ => some []
  | m :: ms, env, st => (match m env st, cntM ms env st with | some (.int i), some l => some (i :: l) | _, _ => none)
inductive PEsP (X : Cx) (w : Wd) : List Expr → List MP → Prop
  | nil : PEsP X w [] []
  | cons {e : Expr} {m : MP} {es : List Expr} {ms : List MP} : PE X e (tP w m) → PEsP X w es ms → PEsP X w (e :: es) (m :: ms)
section
variable {X : Cx} {w : Wd} {pos p q : Pos} {a : Expr}
theorem PEsP.to : ∀ {es : List Expr} {ms : List MP}, PEsP X w es ms → PEsI X es (ms.map (tP w))
  | _, _, .nil => .nil
  | _, _, .cons h t => .cons h t.to
end
/-! ## 68. methods whose text displays a set -/
/-! ## 69. a method of an object that was just made -/
section
variable {X : Cx} {w : Wd} {pos apos : Pos} {o : Expr} {cn m : Str} {k : Nat}
end
end GD

set_option Elab.async false
set_option linter.all false
set_option maxRecDepth 100000
set_option maxHeartbeats 4000000
namespace GF
open PySem PySem.Spec PyProof.Rows L2 GX GD
/-! ## 53. the least congruence, as the program finds it -/
section
variable {n : Nat} {c : List Nat} {x y : Nat}
end
/-! ### what waits -/
structure WaitI (up : List (List Nat)) (pairs : List (Nat × Nat)) (c : List Nat) (ws : List (Nat × Nat)) : Prop where
  nf : Nf up.length c
  inn : PairsIn up.length ws
  le : ∀ d, Con up d → Has pairs d → Wi up.length c d ∧ Has ws d
  ge : ∀ d, Nf up.length d → Wi up.length c d → Has ws d → Has pairs d
  cl : ∀ d, Nf up.length d → Wi up.length c d → Has ws d → ∀ x y z, x < up.length → y < up.length → z < up.length → c.getD x 0 = c.getD y 0 → d.getD (jn up x z) 0 = d.getD (jn up y z) 0 ∧ d.getD (mt up x z) 0 = d.getD (mt up y z) 0
section
variable {up : List (List Nat)} {pairs ws : List (Nat × Nat)} {c : List Nat} {p : Nat × Nat}
end
/-! ### walked -/
theorem natD (c : List Nat) {i : Nat} (h : i < c.length) : c[i]? = some (c.getD i 0) := by rw [List.getD_eq_getElem?_getD, List.getElem?_eq_getElem h]; rfl
theorem getN {st : SS} {c : List Nat} {i : Nat} (h : i < c.length) : fIx st (dN c) (nI i) = some (nI (c.getD i 0)) := fIx_map st nI c i (natD c h)
theorem fEq_nI (st : SS) (a b : Nat) : fEq st (nI a) (nI b) = some (.bl (decide (a = b))) := by
  show some (D.bl (PyData.eqv (.int (a : Int)) (.int (b : Int)))) = _
  congr 2
  show ((a : Int) == (b : Int)) = decide (a = b)
  rw [Bool.eq_iff_iff, beq_iff_eq, decide_eq_true_iff]
  omega
theorem fNe_nI (st : SS) (a b : Nat) : fNe st (nI a) (nI b) = some (.bl (!decide (a = b))) := by
  show some (D.bl (!PyData.eqv (.int (a : Int)) (.int (b : Int)))) = _
  congr 3
  show ((a : Int) == (b : Int)) = decide (a = b)
  rw [Bool.eq_iff_iff, beq_iff_eq, decide_eq_true_iff]
  omega
end GF

set_option Elab.async false
set_option linter.all false
set_option maxRecDepth 100000
set_option maxHeartbeats 4000000
namespace GF
open PySem PySem.Spec PyProof.Rows L2 GX GD PySem.W
/-! ## 54. rows of one length, sorted -/
/-- each one once, in order -/
structure RowsS (n : Nat) (P : List Nat → Prop) (l : List (List Nat)) : Prop where
  nd : l.Nodup
  mem : ∀ t, t ∈ l ↔ P t
  pw : l.Pairwise fun a b => leD (dN a) (dN b) = true
/-! ### walked -/
theorem iEnum_rows {m : MP} {env : EV} {st : SS} {rows : List (List Nat)} (h : m env st = some (.tup (rows.map dN))) : iEnum m env st = some ((List.range rows.length).map (fun i => D.tup [nI i, dN (rows.getD i [])]), none) := by
  unfold GD.iEnum
  rw [h, ← enumD_rows]
  rfl
end GF

set_option Elab.async false
set_option linter.all false
set_option maxRecDepth 100000
set_option maxHeartbeats 4000000
namespace GF
open PySem PySem.Spec PyProof.Rows L2 GX GD
/-! ## 55. all congruences, as the program finds them -/
theorem up_rows {up : List (List Nat)} (O : OrdU up) : ∀ r ∈ up, r.length ≤ up.length := fun r hr => sorted_len (O.srt r hr) (O.inU r hr)
theorem tupT {st : SS} {q : Nat} {l : List D} {m : MP} {env : EV} (h : m env st = some (.ref q)) (c : st[q]? = some (.lst l)) : mF1 fTup m env st = some (.tup l) := by
  unfold mF1
  rw [h]
  show (match seqOf st (.ref q) with | some ds => some (D.tup ds) | none => none) = _
  rw [seqOf_lst c]
theorem mLst_ok {r : ML} {env : EV} {st : SS} {ds : List D} (h : r env st = some ds) (hl : ds.length ≤ 1000) : mLst r env st = some ds := by
  unfold mLst
  rw [h]
  exact if_pos hl
end GF

set_option Elab.async false
set_option linter.all false
set_option maxRecDepth 100000
set_option maxHeartbeats 4000000
namespace GF
open PySem PySem.Spec PyProof.Rows L2 GX GD
/-! ## 56. the law's words on congruences -/
theorem latD_ord {many : Nat} {rows : List (List Nat)} {ord : List Nat} : latD (closedM many rows).length (ordOf (closedM many rows) ord) = ordD "lattice" (ordOf (closedM many rows) ord) := by
  unfold ordD
  rw [ordOf_len]
  rfl
/-- a square of numbers, as a list of lists -/
structure Sq (lo : Nat) (st : SS) (p n : Nat) (f : Nat → Nat → Nat) (qs : List Nat) : Prop where
  lo : lo ≤ p ∧ ∀ q ∈ qs, lo ≤ q
  len : qs.length = n
  at0 : st[p]? = some (.lst (qs.map D.ref))
  row : ∀ i, i < n → st[qs.getD i 0]? = some (.lst ((List.range n).map fun y => nI (f i y)))
def SqT (lo : Nat) (st : SS) (p n : Nat) (f : Nat → Nat → Nat) : Prop := ∃ qs, Sq lo st p n f qs
theorem SqT.up {lo : Nat} {st st1 : SS} {p n : Nat} {f : Nat → Nat → Nat} (h : SqT lo st p n f) (u : Up st st1) : SqT lo st1 p n f := by
  obtain ⟨qs, h⟩ := h
  exact ⟨qs, h.lo, h.len, u.get h.at0, fun i hi => u.get (h.row i hi)⟩
theorem SqT.ub {lo b : Nat} {st st1 : SS} {p n : Nat} {f : Nat → Nat → Nat} (h : SqT lo st p n f) (u : Ub b st st1) (hb : b < lo) : SqT lo st1 p n f := by
  obtain ⟨qs, h⟩ := h
  have e1 := h.lo.1
  refine ⟨qs, h.lo, h.len, u.get h.at0 (by omega), fun i hi => u.get (h.row i hi) ?_⟩
  have := h.lo.2 (qs.getD i 0) (List.mem_of_getElem? (natD qs (by rw [h.len]; exact hi)))
  omega
theorem fIx_ref {α : Type} {f : α → D} {st : SS} {q i : Nat} {l : List α} {a : α} (c : st[q]? = some (.lst (l.map f))) (h : l[i]? = some a) : fIx st (.ref q) (nI i) = some (f a) := getR c h
theorem SqT.get {lo : Nat} {st : SS} {p n : Nat} {f : Nat → Nat → Nat} (h : SqT lo st p n f) {i j : Nat} (hi : i < n) (hj : j < n) : ∃ v, fIx st (.ref p) (nI i) = some v ∧ fIx st v (nI j) = some (nI (f i j)) := by
  obtain ⟨qs, h⟩ := h
  exact ⟨.ref (qs.getD i 0), getR h.at0 (natD qs (by rw [h.len]; exact hi)), getR (f := fun y => nI (f i y)) (h.row i hi) (List.getElem?_range hj)⟩
/-! ### all ways to part -/
/-- what the rows so far give -/
structure Longer (n : Nat) (done l : List (List Nat)) : Prop where
  nd : l.Nodup
  mem : ∀ c, c ∈ l ↔ ∃ r low, c = r ++ [low] ∧ r ∈ done ∧ (low ∈ r ∨ low = n)
  len : l.length ≤ 7 * done.length
end GF

set_option Elab.async false
set_option linter.all false
set_option maxRecDepth 100000
set_option maxHeartbeats 4000000
namespace GF
open PySem PySem.Spec PyProof.Rows L2 GX GD
/-! ## 57. the law tells congruences -/
/-- a loop that ends at the first that is told -/
theorem rfor_any {α : Type} {f : α → D} {t : MT} {r : RS} {st : SS} {d : D} {p : α → Bool} (E : EV → Prop) : ∀ (l : List α) (env : EV), E env → (∀ env, E env → ∀ a ∈ l, ∃ env1, t (f a) env = some env1 ∧ ((p a = true ∧ r env1 st = some (.rt d)) ∨ (p a = false ∧ ∃ env2, E env2 ∧ r env1 st = some (.nx env2)))) →
    (l.any p = true ∧ rForGo t r st (l.map f) env = some (.rt d)) ∨ (l.any p = false ∧ ∃ env', E env' ∧ rForGo t r st (l.map f) env = some (.nx env'))
  | [], env, h, _ => .inr ⟨rfl, env, h, rfl⟩
  | a :: l, env, h, k => by
    obtain ⟨env1, h1, h2⟩ := k env h a List.mem_cons_self
    have step : rForGo t r st (f a :: l.map f) env = (match r env1 st with | some (.nx e) => rForGo t r st (l.map f) e | some (.ct e) => rForGo t r st (l.map f) e | some (.bk e) => some (.nx e) | some (.rt d) => some (.rt d) | none => none) := by
      rw [rForGo, h1] <;> rfl
    rw [List.map_cons, List.any_cons, step]
    rcases h2 with ⟨hp, h2⟩ | ⟨hp, e2, h3, h2⟩
    · rw [hp, h2]
      exact .inl ⟨rfl, rfl⟩
    · rw [hp, h2, Bool.false_or]
      exact rfor_any E l e2 h3 fun env q b hb => k env q b (List.mem_cons_of_mem _ hb)
theorem rFor_e {mi : MI} {t : MT} {r : RS} {env : EV} {st : SS} {ds : List D} {ro : Option Nat} (h : mi env st = some (ds, ro)) : rFor mi t r env st = rForGo t r st ds env := by
  unfold rFor
  rw [h]
theorem bOr_t {a b : MB} {env : EV} {st : SS} (h : a env st = some true) : bOr a b env st = some true := by unfold bOr; rw [h]
/-! ### all of them -/
end GF

set_option Elab.async false
set_option linter.all false
set_option maxRecDepth 100000
set_option maxHeartbeats 4000000
namespace GF
open PySem PySem.Spec PyProof.Rows L2 GX GD
/-! ## 59. quotients, plainly -/
section
variable {up : List (List Nat)} {x y z w : Nat}
end
section
variable {n : Nat} {c : List Nat} {x y : Nat}
end
section
variable {up : List (List Nat)} {c : List Nat} {x y z k j : Nat}
end
end GF

set_option Elab.async false
set_option linter.all false
set_option maxRecDepth 100000
set_option maxHeartbeats 4000000
namespace GF
open PySem PySem.Spec PyProof.Rows L2 GX GD
/-! ## 60. the law tells lattices -/
theorem rfor_pass {α : Type} {f : α → D} {t : MT} {r : RS} {st : SS} (E : EV → Prop) (l : List α) (env : EV) (h : E env) (k : ∀ env, E env → ∀ a ∈ l, ∃ env1, t (f a) env = some env1 ∧ ∃ env2, E env2 ∧ r env1 st = some (.nx env2)) : ∃ env', E env' ∧ rForGo t r st (l.map f) env = some (.nx env') := by
  rcases rfor_any (d := .non) (p := fun _ => false) E l env h (fun env he a ha => let ⟨e1, h1, h2⟩ := k env he a ha; ⟨e1, h1, .inr ⟨rfl, h2⟩⟩) with ⟨q, _⟩ | ⟨_, q⟩
  · rw [List.any_eq_true] at q
    obtain ⟨_, _, z⟩ := q
    cases z
  · exact q
theorem rFor_pass {α : Type} {f : α → D} {mi : MI} {t : MT} {r : RS} {st : SS} {ro : Option Nat} (E : EV → Prop) (l : List α) (env : EV) (hm : mi env st = some (l.map f, ro)) (h : E env) (k : ∀ env, E env → ∀ a ∈ l, ∃ env1, t (f a) env = some env1 ∧ ∃ env2, E env2 ∧ r env1 st = some (.nx env2)) : ∃ env', E env' ∧ rFor mi t r env st = some (.nx env') := by
  rw [rFor_e hm]
  exact rfor_pass E l env h k
theorem fGt0 (st : SS) (k : Nat) : fGt st (nI k) (.int 0) = some (.bl (decide (0 < k))) := by
  show some (D.bl (decide ((k : Int) > 0))) = _
  congr 2
  rw [decide_eq_decide]
  omega
theorem fLe_nI (st : SS) (a b : Nat) : fLe st (nI a) (nI b) = some (.bl (decide (a ≤ b))) := by
  show some (D.bl (decide ((a : Int) ≤ (b : Int)))) = _
  congr 2
  rw [decide_eq_decide]
  omega
theorem fLt_nI (st : SS) (a b : Nat) : fLt st (nI a) (nI b) = some (.bl (decide (a < b))) := by
  show some (D.bl (decide ((a : Int) < (b : Int)))) = _
  congr 2
  rw [decide_eq_decide]
  omega
theorem mChain_lt {a b c : MP} {env : EV} {st : SS} {x y z : Nat} (h1 : a env st = some (nI x)) (h2 : b env st = some (nI y)) (h3 : c env st = some (nI z)) : mChain fLe fLt a b c env st = some (.bl (decide (x ≤ y) && decide (y < z))) := by
  unfold mChain
  rw [h1, h2]
  simp only [fLe_nI st x y]
  cases decide (x ≤ y) with
  | false => rfl
  | true => simp only [h3, fLt_nI st y z]; rfl
theorem sorted_adj {l : List Nat} (h : l.Pairwise (· < ·)) {i : Nat} (h0 : 0 < i) (hi : i < l.length) : l.getD (i - 1) 0 < l.getD i 0 := by
  have := List.pairwise_iff_getElem.mp h (i - 1) i (by omega) hi (by omega)
  rw [List.getD_eq_getElem?_getD, List.getD_eq_getElem?_getD, List.getElem?_eq_getElem (show i - 1 < l.length by omega), List.getElem?_eq_getElem hi]
  exact this
def R_law_is_order : RS := (rSeq (rIf (bOr (bNot (bV (mF1 (fIs "tuple") (mVar 0)))) (bOr (bV (mOp fNe (mF1 fLen (mVar 0)) (mC (.int 3)))) (bOr (bV (mOp fNe (mOp fIx (mVar 0) (mC (.int 0))) (mVar 1))) (bNot (bV (mF1 (fIs "int") (mOp fIx (mVar 0) (mC (.int 1))))))))) (rRet (mC (.bl false))) rNext) (rSeq (rIf (bOr (bV (mF1 (fIs "bool") (mOp fIx (mVar 0) (mC (.int 1))))) (bOr (bNot (bV (mF1 (fIs "tuple") (mOp fIx (mVar 0) (mC (.int 2)))))) (bV (mOp fNe (mF1 fLen (mOp fIx (mVar 0) (mC (.int 2)))) (mOp fIx (mVar 0) (mC (.int 1))))))) (rRet (mC (.bl false))) rNext) (rSeq (rFor (iRng (mOp fIx (mVar 0) (mC (.int 1)))) (tgN 2) (rSeq (rAsg (mOp fIx (mOp fIx (mVar 0) (mC (.int 2))) (mVar 2)) (tgN 3)) (rSeq (rIf (bOr (bNot (bV (mF1 (fIs "tuple") (mVar 3)))) (bV (mOp fNotIn (mVar 2) (mVar 3)))) (rRet (mC (.bl false))) rNext) (rFor (iRng (mF1 fLen (mVar 3))) (tgN 4) (rSeq (rIf (bOr (bNot (bV (mF1 (fIs "int") (mOp fIx (mVar 3) (mVar 4))))) (bOr (bV (mF1 (fIs "bool") (mOp fIx (mVar 3) (mVar 4)))) (bNot (bV (mChain fLe fLt (mC (.int 0)) (mOp fIx (mVar 3) (mVar 4)) (mOp fIx (mVar 0) (mC (.int 1)))))))) (rRet (mC (.bl false))) rNext) (rIf (bAnd (bV (mOp fGt (mVar 4) (mC (.int 0)))) (bV (mOp fLe (mOp fIx (mVar 3) (mVar 4)) (mOp fIx (mVar 3) (mOp fSub (mVar 4) (mC (.int 1))))))) (rRet (mC (.bl false))) rNext)))))) (rSeq (rFor (iRng (mOp fIx (mVar 0) (mC (.int 1)))) (tgN 2) (rFor (iSeq (mOp fIx (mOp fIx (mVar 0) (mC (.int 2))) (mVar 2))) (tgN 5) (rIf (bOr (bNot (bV (mCall F_law_inside (mCons (mOp fIx (mOp fIx (mVar 0) (mC (.int 2))) (mVar 5)) (mCons (mOp fIx (mOp fIx (mVar 0) (mC (.int 2))) (mVar 2)) mNil))))) (bAnd (bV (mOp fNe (mVar 2) (mVar 5))) (bV (mOp fIn (mVar 2) (mOp fIx (mOp fIx (mVar 0) (mC (.int 2))) (mVar 5)))))) (rRet (mC (.bl false))) rNext))) (rRet (mC (.bl true)))))))
def F_law_is_order : List D → SS → Option D := fnR' 6 2 R_law_is_order
theorem atUp {k : Str} {up : List (List Nat)} {m i : MP} {env : EV} {st : SS} {x : Nat} (h : m env st = some (ordD k up)) (hi : i env st = some (nI x)) (hx : x < up.length) : mOp fIx (mOp fIx m (mC (.int 2))) i env st = some (dN (up.getD x [])) := (mOp_e ((mOp_e (y := .int 2) h rfl).trans (show fIx st (ordD k up) (.int 2) = some (.tup (up.map dN)) from rfl)) hi).trans (getI hx)
theorem atMany {k : Str} {up : List (List Nat)} {m : MP} {env : EV} {st : SS} (h : m env st = some (ordD k up)) : mOp fIx m (mC (.int 1)) env st = some (nI up.length) := (mOp_e (y := .int 1) h rfl).trans (show fIx st (ordD k up) (.int 1) = some (nI up.length) from rfl)
theorem law_order_true {k : Str} {up : List (List Nat)} {st : SS} (O : OrdU up) (hn : up.length ≤ 1000) (hk : D.good (.str k) = true) : F_law_is_order [ordD k up, .str k] st = some (.bl true) := by
  refine fnR'_rt rfl ?_ rfl
  have hrl := up_rows O
  have e0 : bOr (bNot (bV (mF1 (fIs "tuple") (mVar 0)))) (bOr (bV (mOp fNe (mF1 fLen (mVar 0)) (mC (.int 3)))) (bOr (bV (mOp fNe (mOp fIx (mVar 0) (mC (.int 0))) (mVar 1))) (bNot (bV (mF1 (fIs "int") (mOp fIx (mVar 0) (mC (.int 1)))))))) [some (ordD k up), some (.str k), none, none, none, none] st = some false := by
    have en : fNe st (.str k) (.str k) = some (.bl false) := by
      show (if D.good (.str k) = true ∧ D.good (.str k) = true then some (D.bl (!PyData.eqv (.str k) (.str k))) else none) = _
      rw [if_pos ⟨hk, hk⟩]
      unfold PyData.eqv
      rw [beq_self_eq_true]
      rfl
    rw [bOr_f (bNot_e (b := true) (bV_e ((mF1_e rfl).trans (q_tupt st _)))), bOr_f (bV_e ((mOp_e (x := .int 3) rfl rfl).trans rfl)), bOr_f (bV_e ((mOp_e (x := .str k) rfl rfl).trans en))]
    exact bNot_e (b := true) (bV_e ((mF1_e (x := nI up.length) rfl).trans (q_int st _)))
  refine (rSeq_nx ((rIf_f e0).trans rfl)).trans ?_
  have e1 : bOr (bV (mF1 (fIs "bool") (mOp fIx (mVar 0) (mC (.int 1))))) (bOr (bNot (bV (mF1 (fIs "tuple") (mOp fIx (mVar 0) (mC (.int 2)))))) (bV (mOp fNe (mF1 fLen (mOp fIx (mVar 0) (mC (.int 2)))) (mOp fIx (mVar 0) (mC (.int 1)))))) [some (ordD k up), some (.str k), none, none, none, none] st = some false := by
    rw [bOr_f (bV_e ((mF1_e (x := nI up.length) rfl).trans (q_bool st _))), bOr_f (bNot_e (b := true) (bV_e ((mF1_e (x := .tup (up.map dN)) rfl).trans (q_tupt st _))))]
    refine bV_e ((mOp_e (lenE (f := dN) (l := up) rfl) (atMany rfl)).trans ((fNe_nI _ _ _).trans ?_))
    rw [decide_eq_true rfl]
    rfl
  refine (rSeq_nx ((rIf_f e1).trans rfl)).trans ?_
  obtain ⟨env1, ⟨x2, x3, x4, rfl⟩, l1⟩ := rFor_pass (f := nI) (mi := iRng (mOp fIx (mVar 0) (mC (.int 1)))) (t := tgN 2) (r := (rSeq (rAsg (mOp fIx (mOp fIx (mVar 0) (mC (.int 2))) (mVar 2)) (tgN 3)) (rSeq (rIf (bOr (bNot (bV (mF1 (fIs "tuple") (mVar 3)))) (bV (mOp fNotIn (mVar 2) (mVar 3)))) (rRet (mC (.bl false))) rNext) (rFor (iRng (mF1 fLen (mVar 3))) (tgN 4) (rSeq (rIf (bOr (bNot (bV (mF1 (fIs "int") (mOp fIx (mVar 3) (mVar 4))))) (bOr (bV (mF1 (fIs "bool") (mOp fIx (mVar 3) (mVar 4)))) (bNot (bV (mChain fLe fLt (mC (.int 0)) (mOp fIx (mVar 3) (mVar 4)) (mOp fIx (mVar 0) (mC (.int 1)))))))) (rRet (mC (.bl false))) rNext) (rIf (bAnd (bV (mOp fGt (mVar 4) (mC (.int 0)))) (bV (mOp fLe (mOp fIx (mVar 3) (mVar 4)) (mOp fIx (mVar 3) (mOp fSub (mVar 4) (mC (.int 1))))))) (rRet (mC (.bl false))) rNext)))))) (st := st) (fun env => ∃ x2 x3 x4, env = [some (ordD k up), some (.str k), x2, x3, x4, none]) (List.range up.length) [some (ordD k up), some (.str k), none, none, none, none] (iRng_nat (atMany rfl) (by omega)) ⟨_, _, _, rfl⟩ (by
    rintro env ⟨x2, x3, x4, rfl⟩ x hx
    have hx := List.mem_range.mp hx
    refine ⟨_, rfl, ?_⟩
    have s1 := rAsg_e (m := mOp fIx (mOp fIx (mVar 0) (mC (.int 2))) (mVar 2)) (t := tgN 3) (st := st) (env := [some (ordD k up), some (.str k), some (nI x), x3, x4, none]) (e1 := [some (ordD k up), some (.str k), some (nI x), some (dN (up.getD x [])), x4, none]) (atUp rfl rfl hx) rfl
    have t1 : bOr (bNot (bV (mF1 (fIs "tuple") (mVar 3)))) (bV (mOp fNotIn (mVar 2) (mVar 3))) [some (ordD k up), some (.str k), some (nI x), some (dN (up.getD x [])), x4, none] st = some false := by
      rw [bOr_f (bNot_e (b := true) (bV_e ((mF1_e rfl).trans (q_tupt st _))))]
      refine bV_e ((mOp_e rfl rfl).trans ((fNotIn_nI _ _ _).trans ?_))
      rw [List.contains_iff_mem.mpr (O.refl x hx)]
      rfl
    have hr := row_srt O x
    have hin := O.inU.at (x := x)
    have hlx : (up.getD x []).length ≤ 1000 := by
      have := hrl _ (List.mem_of_getElem? (rowD up hx))
      omega
    obtain ⟨env2, ⟨y4, rfl⟩, l2⟩ := rFor_pass (f := nI) (mi := iRng (mF1 fLen (mVar 3))) (t := tgN 4) (r := (rSeq (rIf (bOr (bNot (bV (mF1 (fIs "int") (mOp fIx (mVar 3) (mVar 4))))) (bOr (bV (mF1 (fIs "bool") (mOp fIx (mVar 3) (mVar 4)))) (bNot (bV (mChain fLe fLt (mC (.int 0)) (mOp fIx (mVar 3) (mVar 4)) (mOp fIx (mVar 0) (mC (.int 1)))))))) (rRet (mC (.bl false))) rNext) (rIf (bAnd (bV (mOp fGt (mVar 4) (mC (.int 0)))) (bV (mOp fLe (mOp fIx (mVar 3) (mVar 4)) (mOp fIx (mVar 3) (mOp fSub (mVar 4) (mC (.int 1))))))) (rRet (mC (.bl false))) rNext))) (st := st) (fun env => ∃ y4, env = [some (ordD k up), some (.str k), some (nI x), some (dN (up.getD x [])), y4, none]) (List.range (up.getD x []).length) [some (ordD k up), some (.str k), some (nI x), some (dN (up.getD x [])), x4, none] (iRng_nat (n := (up.getD x []).length) (lenE (f := nI) rfl) (by omega)) ⟨_, rfl⟩ (by
      rintro env ⟨y4, rfl⟩ i hi
      have hi := List.mem_range.mp hi
      have el : ∀ (env : EV), env = [some (ordD k up), some (.str k), some (nI x), some (dN (up.getD x [])), some (nI i), none] → mOp fIx (mVar 3) (mVar 4) env st = some (nI ((up.getD x []).getD i 0)) := fun env he => by
        subst he
        exact (mOp_e rfl rfl).trans (getN hi)
      have inn : (up.getD x []).getD i 0 < up.length := hin _ (List.mem_of_getElem? (natD _ hi))
      have t2 : bOr (bNot (bV (mF1 (fIs "int") (mOp fIx (mVar 3) (mVar 4))))) (bOr (bV (mF1 (fIs "bool") (mOp fIx (mVar 3) (mVar 4)))) (bNot (bV (mChain fLe fLt (mC (.int 0)) (mOp fIx (mVar 3) (mVar 4)) (mOp fIx (mVar 0) (mC (.int 1))))))) [some (ordD k up), some (.str k), some (nI x), some (dN (up.getD x [])), some (nI i), none] st = some false := by
        rw [bOr_f (bNot_e (b := true) (bV_e ((mF1_e (el _ rfl)).trans (q_int st _)))), bOr_f (bV_e ((mF1_e (el _ rfl)).trans (q_bool st _)))]
        refine (bNot_e (bV_e (mChain_lt (x := 0) rfl (el _ rfl) (atMany rfl)))).trans ?_
        rw [decide_eq_true (Nat.zero_le _), decide_eq_true inn]
        rfl
      have t3 : bAnd (bV (mOp fGt (mVar 4) (mC (.int 0)))) (bV (mOp fLe (mOp fIx (mVar 3) (mVar 4)) (mOp fIx (mVar 3) (mOp fSub (mVar 4) (mC (.int 1)))))) [some (ordD k up), some (.str k), some (nI x), some (dN (up.getD x [])), some (nI i), none] st = some false := by
        by_cases h0 : 0 < i
        · have c := bV_e ((mOp_e (a := mVar 4) (b := mC (.int 0)) (env := [some (ordD k up), some (.str k), some (nI x), some (dN (up.getD x [])), some (nI i), none]) (st := st) rfl rfl).trans (fGt0 st i))
          rw [decide_eq_true h0] at c
          rw [bAnd_t c]
          have sb : mOp fSub (mVar 4) (mC (.int 1)) [some (ordD k up), some (.str k), some (nI x), some (dN (up.getD x [])), some (nI i), none] st = some (nI (i - 1)) := by
            show some (D.int ((i : Int) - 1)) = some (D.int ((i - 1 : Nat) : Int))
            congr 2
            omega
          refine (bV_e ((mOp_e (el _ rfl) ((mOp_e rfl sb).trans (getN (by omega)))).trans (fLe_nI _ _ _))).trans ?_
          have := sorted_adj hr h0 hi
          rw [decide_eq_false (by omega)]
        · have c := bV_e ((mOp_e (a := mVar 4) (b := mC (.int 0)) (env := [some (ordD k up), some (.str k), some (nI x), some (dN (up.getD x [])), some (nI i), none]) (st := st) rfl rfl).trans (fGt0 st i))
          rw [decide_eq_false h0] at c
          exact bAnd_f c
      exact ⟨_, rfl, _, ⟨_, rfl⟩, (rSeq_nx ((rIf_f t2).trans rfl)).trans ((rIf_f t3).trans rfl)⟩)
    exact ⟨_, ⟨_, _, _, rfl⟩, (rSeq_nx s1).trans ((rSeq_nx ((rIf_f t1).trans rfl)).trans l2)⟩)
  refine (rSeq_nx l1).trans ?_
  obtain ⟨env2, ⟨z2, z5, rfl⟩, l2⟩ := rFor_pass (f := nI) (mi := iRng (mOp fIx (mVar 0) (mC (.int 1)))) (t := tgN 2) (r := (rFor (iSeq (mOp fIx (mOp fIx (mVar 0) (mC (.int 2))) (mVar 2))) (tgN 5) (rIf (bOr (bNot (bV (mCall F_law_inside (mCons (mOp fIx (mOp fIx (mVar 0) (mC (.int 2))) (mVar 5)) (mCons (mOp fIx (mOp fIx (mVar 0) (mC (.int 2))) (mVar 2)) mNil))))) (bAnd (bV (mOp fNe (mVar 2) (mVar 5))) (bV (mOp fIn (mVar 2) (mOp fIx (mOp fIx (mVar 0) (mC (.int 2))) (mVar 5)))))) (rRet (mC (.bl false))) rNext))) (st := st) (fun env => ∃ z2 z5, env = [some (ordD k up), some (.str k), z2, x3, x4, z5]) (List.range up.length) [some (ordD k up), some (.str k), x2, x3, x4, none] (iRng_nat (atMany rfl) (by omega)) ⟨_, _, rfl⟩ (by
    rintro env ⟨z2, z5, rfl⟩ x hx
    have hx := List.mem_range.mp hx
    refine ⟨[some (ordD k up), some (.str k), some (nI x), x3, x4, z5], rfl, ?_⟩
    obtain ⟨env3, ⟨w5, rfl⟩, l3⟩ := rFor_pass (f := nI) (mi := iSeq (mOp fIx (mOp fIx (mVar 0) (mC (.int 2))) (mVar 2))) (t := tgN 5) (r := (rIf (bOr (bNot (bV (mCall F_law_inside (mCons (mOp fIx (mOp fIx (mVar 0) (mC (.int 2))) (mVar 5)) (mCons (mOp fIx (mOp fIx (mVar 0) (mC (.int 2))) (mVar 2)) mNil))))) (bAnd (bV (mOp fNe (mVar 2) (mVar 5))) (bV (mOp fIn (mVar 2) (mOp fIx (mOp fIx (mVar 0) (mC (.int 2))) (mVar 5)))))) (rRet (mC (.bl false))) rNext)) (st := st) (fun env => ∃ w5, env = [some (ordD k up), some (.str k), some (nI x), x3, x4, w5]) (up.getD x []) [some (ordD k up), some (.str k), some (nI x), x3, x4, z5] (iSeq_dN (atUp rfl rfl hx)) ⟨_, rfl⟩ (by
      rintro env ⟨w5, rfl⟩ y hy
      have hyl := O.inU.at y hy
      have hxy : leU up x y := hy
      refine ⟨[some (ordD k up), some (.str k), some (nI x), x3, x4, some (nI y)], rfl, _, ⟨_, rfl⟩, (rIf_f ?_).trans rfl⟩
      have c1 := bNot_e (bV_e ((mCall2 (F := F_law_inside) (env := [some (ordD k up), some (.str k), some (nI x), x3, x4, some (nI y)]) (st := st) (atUp (m := mVar 0) (i := mVar 5) rfl rfl hyl) (atUp (m := mVar 0) (i := mVar 2) rfl rfl hx)).trans (inside_eval st _ _)))
      rw [isPart_iff.mpr fun z hz => O.trans x y z hxy hz] at c1
      rw [bOr_f c1]
      have c2 := bV_e ((mOp_e (f := fNe) (a := mVar 2) (b := mVar 5) (env := [some (ordD k up), some (.str k), some (nI x), x3, x4, some (nI y)]) (st := st) rfl rfl).trans (fNe_nI st x y))
      by_cases e : x = y
      · rw [decide_eq_true e] at c2
        exact bAnd_f c2
      · rw [decide_eq_false e] at c2
        rw [bAnd_t c2]
        refine (bV_e ((mOp_e rfl (atUp rfl rfl hyl)).trans (fIn_nI _ _ _))).trans ?_
        have : (up.getD y []).contains x = false := Bool.eq_false_iff.mpr fun z => e (O.anti x y hxy (leU_con.mp z))
        rw [this])
    exact ⟨_, ⟨_, _, rfl⟩, l3⟩)
  exact (rSeq_nx l2).trans rfl
def lawLatT : XT := fun ds st R => ∃ up : List (List Nat), ds = [ordD "lattice" up] ∧ LatU up ∧ 0 < up.length ∧ up.length ≤ 300 ∧ ∀ st1, Up st st1 → R (.bl true) st1
abbrev T_law_is_lattice : XT := lawLatT
def X_law_is_lattice : XS := (sSeq (sIf (xbOf (bOr (bNot (bV (mCall F_law_is_order (mCons (mVar 0) (mCons (mC (.str ("lattice" : Str))) mNil))))) (bV (mOp fEq (mOp fIx (mVar 0) (mC (.int 1))) (mC (.int 0)))))) (sRet (xOf (mC (.bl false)))) sNext) (sSeq (sFor (xiOf (iRng (mOp fIx (mVar 0) (mC (.int 1))))) (tgN 1) (sFor (xiOf (iRng (mVar 1))) (tgN 2) (sIf (xOr (xV (xOp fIsN (xCall T_law_join (xCons (xOf (mVar 0)) (xCons (xOf (mVar 1)) (xCons (xOf (mVar 2)) xNil)))) (xOf (mC .non)))) (xV (xOp fIsN (xCall T_law_meet (xCons (xOf (mVar 0)) (xCons (xOf (mVar 1)) (xCons (xOf (mVar 2)) xNil)))) (xOf (mC .non))))) (sRet (xOf (mC (.bl false)))) sNext))) (sRet (xOf (mC (.bl true))))))
def Y_law_is_lattice : XT := fnT' 3 1 X_law_is_lattice
theorem law_lat_ok (ds : List D) (st : SS) (R : D → SS → Prop) (h : lawLatT ds st R) : Y_law_is_lattice ds st R := by
  obtain ⟨up, rfl, L, h0, hn, hR⟩ := h
  refine ⟨rfl, ?_⟩
  show X_law_is_lattice _ [some (ordD "lattice" up), none, none] st
  refine ⟨false, ?_, iteF ?_⟩
  · rw [bOr_f (bNot_e (b := true) (bV_e ((mCall2 (x := ordD "lattice" up) (y := .str "lattice") rfl rfl).trans (law_order_true L.o (by omega) (by decide +kernel)))))]
    refine (bV_e ((mOp_e (atMany rfl) (y := nI 0) rfl).trans (fEq_nI _ _ _))).trans ?_
    rw [decide_eq_false (by omega)]
  refine ⟨_, none, iRng_nat (atMany rfl) (by omega), ?_⟩
  refine for_rg (fun i env s => ∃ x1 x2, env = [some (ordD "lattice" up), x1, x2] ∧ Up st s) ?_ ?_ ⟨_, _, rfl, Up.refl _⟩
  · rintro x env s hx ⟨x1, x2, rfl, U⟩
    refine ⟨_, rfl, fun K k1 k2 k3 k4 => ?_⟩
    refine ⟨_, none, iRng_nat (n := x) rfl (by omega), ?_⟩
    refine for_rg (fun i env s => ∃ x2, env = [some (ordD "lattice" up), some (nI x), x2] ∧ Up st s) ?_ ?_ ⟨_, rfl, U⟩
    · rintro y env s1 hy ⟨x2, rfl, U1⟩
      refine ⟨_, rfl, fun K2 i1 i2 i3 i4 => ?_⟩
      refine ⟨_, rfl, _, rfl, _, rfl, "lattice", up, x, y, rfl, L.o.inU, hx, by omega, fun s2 u2 => ?_⟩
      rw [jn_some L hx (by omega)]
      refine ⟨_, rfl, _, rfl, false, rfl, iteF ?_⟩
      refine ⟨_, rfl, _, rfl, _, rfl, "lattice", up, x, y, rfl, by omega, hx, by omega, fun s3 u3 => ?_⟩
      rw [mt_some L hx (by omega)]
      exact ⟨_, rfl, _, rfl, false, rfl, iteF (i1 _ _ ⟨_, rfl, (U1.trans u2).trans u3⟩)⟩
    · rintro env s1 ⟨x2, rfl, U1⟩
      exact k1 _ _ ⟨_, _, rfl, U1⟩
  · rintro env s ⟨x1, x2, rfl, U⟩
    exact ⟨_, rfl, hR s U⟩
end GF

set_option Elab.async false
set_option linter.all false
set_option maxRecDepth 100000
set_option maxHeartbeats 4000000
namespace GF
open PySem PySem.Spec PyProof.Rows L2 GX GD
/-! ## 62. products, sums, what elements make -/
section
variable {many wide : Nat} {rows more : List (List Nat)} {s a b : List Nat}
end
/-! ### what elements make -/
section
variable {up : List (List Nat)} {some l : List Nat} {x y : Nat}
end
end GF

set_option Elab.async false
set_option linter.all false
set_option maxRecDepth 100000
set_option maxHeartbeats 4000000
namespace GF
open PySem PySem.Spec PyProof.Rows L2 GX GD
/-! ## 61. irreducible elements, and the standard table, plainly -/
def lessM (up : List (List Nat)) (x : Nat) : List Nat := ((blwM up).getD x []).filter fun y => !decide (y = x)
def jiB (up : List (List Nat)) (x : Nat) : Bool := (leastM (blwM up) (lessM up x)).isSome
def jiM (up : List (List Nat)) : List Nat := (List.range up.length).filter (jiB up)
section
variable {up : List (List Nat)} {x y z : Nat}
theorem mem_less (O : OrdU up) : y ∈ lessM up x ↔ leU up y x ∧ y ≠ x := by
  unfold lessM
  rw [List.mem_filter]
  refine ⟨fun h => ⟨(blw_le' O).mp h.1, by simpa using h.2⟩, fun h => ⟨(blw_le' O).mpr h.1, by simpa using h.2⟩⟩
theorem greatest_iff (O : OrdU up) {ms : List Nat} : leastM (blwM up) ms = some z ↔ z ∈ ms ∧ ∀ w ∈ ms, leU up w z := by
  rw [least_iff O.dual]
  exact ⟨fun h => ⟨h.1, fun w hw => (blw_le' O).mp (h.2 w hw)⟩, fun h => ⟨h.1, fun w hw => (blw_le' O).mpr (h.2 w hw)⟩⟩
theorem jiB_iff (O : OrdU up) : jiB up x = true ↔ ∃ g, (leU up g x ∧ g ≠ x) ∧ ∀ w, leU up w x → w ≠ x → leU up w g := by
  unfold jiB
  rw [Option.isSome_iff_exists]
  refine ⟨fun ⟨g, h⟩ => ?_, fun ⟨g, h1, h2⟩ => ⟨g, (greatest_iff O).mpr ⟨(mem_less O).mpr h1, fun w hw => h2 w ((mem_less O).mp hw).1 ((mem_less O).mp hw).2⟩⟩⟩
  obtain ⟨h1, h2⟩ := (greatest_iff O).mp h
  exact ⟨g, (mem_less O).mp h1, fun w a b => h2 w ((mem_less O).mpr ⟨a, b⟩)⟩
theorem mem_ji (O : OrdU up) : x ∈ jiM up ↔ x < up.length ∧ ∃ g, (leU up g x ∧ g ≠ x) ∧ ∀ w, leU up w x → w ≠ x → leU up w g := by
  unfold jiM
  rw [List.mem_filter, List.mem_range, jiB_iff O]
def gapL (up : List (List Nat)) (x : Nat) : Nat := ((List.range up.length).filter fun v => (up.getD v []).contains x).length
theorem gapL_lt (O : OrdU up) {w x : Nat} (h1 : leU up w x) (h2 : w ≠ x) : gapL up w < gapL up x := by
  unfold gapL
  refine filter_ltx (fun v _ hv => leU_con.mpr (O.trans _ _ _ (leU_con.mp hv) h1)) ⟨x, List.mem_range.mpr (leU_lt O h1).2, ?_, leU_con.mpr (O.refl _ (leU_lt O h1).2)⟩
  exact Bool.eq_false_iff.mpr fun hx => h2 (O.anti _ _ h1 (leU_con.mp hx))
/-- what is below the one and not below the other, least so -/
theorem min_apart (O : OrdU up) : ∀ (k x : Nat), gapL up x ≤ k → leU up x x → ¬ leU up x y → ∃ z, leU up z x ∧ ¬ leU up z y ∧ ∀ w, leU up w z → w ≠ z → leU up w y
  | k, x, hk, hr, h => by
    by_cases c : ∃ w, leU up w x ∧ w ≠ x ∧ ¬ leU up w y
    · obtain ⟨w, h1, h2, h3⟩ := c
      have lt := gapL_lt O h1 h2
      match k, hk with
      | 0, hk => omega
      | k + 1, hk =>
        obtain ⟨z, z1, z2, z3⟩ := min_apart O k w (by omega) (O.refl _ (leU_lt O h1).1) h3
        exact ⟨z, O.trans _ _ _ z1 h1, z2, z3⟩
    · exact ⟨x, hr, h, fun w h1 h2 => Classical.byContradiction fun h3 => c ⟨w, h1, h2, h3⟩⟩
/-- two elements are told apart by a join irreducible one -/
theorem sep (L : LatU up) (hx : x < up.length) (hy : y < up.length) (h : ¬ leU up x y) : ∃ j ∈ jiM up, leU up j x ∧ ¬ leU up j y := by
  obtain ⟨z, z1, z2, z3⟩ := min_apart L.o _ x (Nat.le_refl _) (L.o.refl _ hx) h
  have hz := (leU_lt L.o z1).1
  refine ⟨z, (mem_ji L.o).mpr ⟨hz, mt up z y, ⟨mt_lel L hz hy, fun e => z2 (e ▸ mt_ler L hz hy)⟩, fun w w1 w2 => le_mt L w1 (z3 w w1 w2)⟩, z1, z2⟩
/-- joins one after another -/
theorem fold_jn (L : LatU up) : ∀ (l : List Nat) (a : Nat), a < up.length → (∀ b ∈ l, b < up.length) → l.foldl (jn up) a < up.length ∧ ∀ w, leU up (l.foldl (jn up) a) w ↔ leU up a w ∧ ∀ b ∈ l, leU up b w
  | [], a, ha, _ => ⟨ha, fun w => ⟨fun h => ⟨h, fun _ z => (nomatch z)⟩, fun h => h.1⟩⟩
  | b :: l, a, ha, h => by
    have hb := h b List.mem_cons_self
    obtain ⟨h1, h2⟩ := fold_jn L l (jn up a b) (jn_lt L ha hb) fun c hc => h c (List.mem_cons_of_mem _ hc)
    refine ⟨h1, fun w => (h2 w).trans ⟨fun z => ⟨L.o.trans _ _ _ (le_jl L ha hb) z.1, fun c hc => ?_⟩, fun z => ⟨jn_le L z.1 (z.2 b List.mem_cons_self), fun c hc => z.2 c (List.mem_cons_of_mem _ hc)⟩⟩⟩
    rcases List.mem_cons.mp hc with rfl | hc
    · exact L.o.trans _ _ _ (le_jr L ha hb) z.1
    · exact z.2 c hc
def foldJ (up : List (List Nat)) (l : List Nat) : Nat := l.foldl (jn up) (l.getD 0 0)
/-- the plain walk's sentence: what is strictly below does not join to x -/
theorem fold_ji (L : LatU up) (hx : x < up.length) (hne : lessM up x ≠ []) : foldJ up (lessM up x) ≠ x ↔ jiB up x = true := by
  have hl : ∀ b ∈ lessM up x, b < up.length := fun b hb => (leU_lt L.o ((mem_less L.o).mp hb).1).1
  have h0 : (lessM up x).getD 0 0 ∈ lessM up x := by
    cases e : lessM up x with
    | nil => exact absurd e hne
    | cons a l => exact List.mem_cons_self
  obtain ⟨f1, f2⟩ := fold_jn L (lessM up x) _ (hl _ h0) hl
  have f2 : ∀ w, leU up (foldJ up (lessM up x)) w ↔ ∀ b ∈ lessM up x, leU up b w := fun w => (f2 w).trans ⟨fun h => h.2, fun h => ⟨h _ h0, h⟩⟩
  have ub := (f2 _).mp (L.o.refl _ f1)
  have le : leU up (foldJ up (lessM up x)) x := (f2 x).mpr fun b hb => ((mem_less L.o).mp hb).1
  rw [jiB_iff L.o]
  refine ⟨fun h => ⟨_, ⟨le, h⟩, fun w w1 w2 => ub w ((mem_less L.o).mpr ⟨w1, w2⟩)⟩, fun ⟨g, g1, g2⟩ e => ?_⟩
  have := (f2 g).mpr fun b hb => g2 b ((mem_less L.o).mp hb).1 ((mem_less L.o).mp hb).2
  rw [e] at this
  exact g1.2 (L.o.anti _ _ g1.1 this)
end
/-! ### the standard table -/
section
variable {up : List (List Nat)} {x y z k : Nat}
end
end GF

set_option Elab.async false
set_option linter.all false
set_option maxRecDepth 100000
set_option maxHeartbeats 4000000
namespace GF
open PySem PySem.Spec PyProof.Rows L2 GX GD
/-! ## 62. irreducible elements and the standard table, walked -/
theorem for_rgf {n : Nat} {f : Nat → D} {t : MT} {body : XS} {st0 : SS} {D0 : DE} (Iv : Nat → EV → SS → Prop)
    (hs : ∀ i env st, i < n → Iv i env st → ∃ env1, t (f i) env = some env1 ∧ ∀ K : DE, (∀ env st, Iv (i + 1) env st → K.nx env st) → (∀ env st, Iv (i + 1) env st → K.ct env st) → K.rt = D0.rt → K.bk = D0.nx → body K env1 st)
    (he : ∀ env st, Iv n env st → D0.nx env st) {env : EV} {st : SS} (h0 : Iv 0 env st) : sForGo t body st0 none D0 ((List.range n).map f) env st := by
  refine for_ls (ro := none) (fun done env st => Iv done.length env st) (fun _ _ _ _ => trivial) (fun done a todo env st e h => ?_) (fun env st h => he env st (by rw [List.length_range] at h; exact h)) h0
  obtain ⟨e1, e2⟩ := range_split e
  have el : done.length = a := by rw [e1, List.length_range]
  rw [el] at h
  obtain ⟨env1, h1, h2⟩ := hs a env st e2 h
  refine ⟨env1, h1, fun K k1 k2 k3 k4 => h2 K (fun env st q => k1 env st ?_) (fun env st q => k2 env st ?_) k3 k4⟩ <;> (rw [List.length_append, el]; exact q)
theorem genT_e {mi : MI} {t : MT} {b : MB} {m : MP} {own : List Nat} {env : EV} {st : SS} {l : List Nat} (h : mComp mi t b m own env st = some (l.map nI)) : mGenT mi t b m own env st = some (dN l) := mGenT_e h
theorem fNotN_opt (st : SS) (o : Option Nat) : fNotN st (optN o) .non = some (.bl o.isSome) := by cases o <;> rfl
theorem filter_succ (p : Nat → Bool) (i : Nat) : (List.range (i + 1)).filter p = if p i = true then (List.range i).filter p ++ [i] else (List.range i).filter p := by
  rw [List.range_succ, List.filter_append, List.filter_cons, List.filter_nil]
  split
  · rfl
  · rw [List.append_nil]
def jirrT : XT := fun ds st R => ∃ (k : Str) (up : List (List Nat)), ds = [ordD k up] ∧ up.length ≤ 100000 ∧ ∀ st1, Up st st1 → R (dN (jiM up)) st1
abbrev T_join_irreducible : XT := jirrT
def X_join_irreducible : XS := (sSeq (sAsg (xNew (xaOf (mLst mNil))) (tgN 1)) (sSeq (sFor (xiOf (iEnum (mCall F_below_of (mCons (mVar 0) mNil)))) (tgTup 2 (tgCons (tgN 2) (tgCons (tgN 3) tgNil))) (sSeq (sAsg (xOf (mGenT (iSeq (mVar 3)) (tgN 4) (bV (mOp fNe (mVar 4) (mVar 2))) (mVar 4) [4])) (tgN 5)) (sIf (xAnd (xbOf (bT (mVar 5))) (xV (xOp fNotN (xCall T_greatest_of (xCons (xOf (mVar 0)) (xCons (xOf (mVar 5)) xNil))) (xOf (mC .non))))) (sAppP (mVar 1) (xOf (mVar 2))) sNext))) (sRet (xOf (mF1 fTup (mVar 1))))))
def Y_join_irreducible : XT := fnT' 6 1 X_join_irreducible
theorem less_mem {up : List (List Nat)} {x y : Nat} (h : y ∈ lessM up x) : y < up.length := by
  have := (inUp_below up).at y (List.mem_filter.mp h).1
  rw [blw_len] at this
  exact this
theorem jirr_ok (ds : List D) (st : SS) (R : D → SS → Prop) (h : jirrT ds st R) : Y_join_irreducible ds st R := by
  obtain ⟨k, up, rfl, hn, hR⟩ := h
  refine ⟨rfl, ?_⟩
  show X_join_irreducible _ [some (ordD k up), none, none, none, none, none] st
  refine ⟨[], rfl, _, rfl, ?_⟩
  refine ⟨_, none, iEnum_rows ((mCall1 rfl).trans (blw_eval _ (by omega))), ?_⟩
  refine for_rgf (fun i env s => ∃ x2 x3 x4 x5, env = [some (ordD k up), some (.ref st.length), x2, x3, x4, x5] ∧ Up st s ∧ s[st.length]? = some (.lst (((List.range i).filter (jiB up)).map nI))) ?_ ?_ ⟨none, none, none, none, rfl, Up.app _ _, getApp _ _⟩
  · rintro i env s hi ⟨x2, x3, x4, x5, rfl, U, hc⟩
    rw [blw_len] at hi
    have hp : st.length < s.length := (List.getElem?_eq_some_iff.mp hc).1
    refine ⟨_, rfl, fun K k1 k2 _ _ => ?_⟩
    refine ⟨dN (lessM up i), genT_e (comp_fi (f := nI) (g := nI) (p := fun y => !decide (y = i)) (iSeq_dN rfl) fun y _ => ⟨_, rfl, bV_e ((mOp_e rfl rfl).trans (fNe_nI _ _ _)), fun _ => rfl⟩), _, rfl, ?_⟩
    have done : ∀ s1, Up s s1 → s1[st.length]? = some (.lst (((List.range i).filter (jiB up)).map nI)) := fun s1 u => u.get hc
    refine ⟨_, (bT_e rfl).trans (truD_dN _ _), ?_⟩
    by_cases hl : lessM up i = []
    · have jb : jiB up i = false := by unfold jiB; rw [hl]; rfl
      rw [hl]
      refine iteF (iteF (k1 _ _ ⟨_, _, _, _, rfl, U, ?_⟩))
      rw [filter_succ, jb]
      exact hc
    · have e0 : (!(lessM up i).isEmpty) = true := by cases e : lessM up i <;> first | exact absurd e hl | rfl
      rw [e0]
      refine iteT ?_
      refine ⟨_, rfl, _, rfl, k, up, lessM up i, rfl, by omega, fun y hy => less_mem hy, fun s1 u => ⟨_, rfl, _, fNotN_opt _ _, _, rfl, ?_⟩⟩
      show if jiB up i = true then _ else _
      by_cases jb : jiB up i = true
      · rw [if_pos jb]
        refine ⟨_, _, rfl, done s1 u, _, rfl, _, done s1 u, ?_, k1 _ _ ⟨_, _, _, _, rfl, (U.trans u).set (Nat.le_refl _) _, ?_⟩⟩
        · rw [List.length_map]
          have := List.length_filter_le (jiB up) (List.range i)
          rw [List.length_range] at this
          omega
        · rw [List.getElem?_set_self (Nat.lt_of_lt_of_le hp u.len), filter_succ, if_pos jb, List.map_append]
          rfl
      · rw [if_neg jb]
        refine k1 _ _ ⟨_, _, _, _, rfl, U.trans u, ?_⟩
        rw [filter_succ, if_neg jb]
        exact done s1 u
  · rintro env s ⟨x2, x3, x4, x5, rfl, U, hc⟩
    rw [blw_len] at hc
    exact ⟨_, tupT rfl hc, hR s U⟩
def mirrT : XT := fun ds st R => ∃ (k : Str) (up : List (List Nat)), ds = [ordD k up] ∧ up.length ≤ 100000 ∧ ∀ st1, Up st st1 → R (dN (jiM (blwM up))) st1
abbrev T_meet_irreducible : XT := mirrT
def X_meet_irreducible : XS := (sRet (xCall T_join_irreducible (xCons (xOf (mCall F_turned_over (mCons (mVar 0) mNil))) xNil)))
def Y_meet_irreducible : XT := fnT' 1 1 X_meet_irreducible
theorem mirr_ok (ds : List D) (st : SS) (R : D → SS → Prop) (h : mirrT ds st R) : Y_meet_irreducible ds st R := by
  obtain ⟨k, up, rfl, hn, hR⟩ := h
  refine ⟨rfl, ?_⟩
  show X_meet_irreducible _ [some (ordD k up)] st
  exact ⟨_, (mCall1 rfl).trans (flip_eval _ (by omega)), k, blwM up, rfl, by rw [blw_len]; exact hn, fun s1 u => hR s1 u⟩
theorem ji_len (up : List (List Nat)) : (jiM up).length ≤ up.length := by
  unfold jiM
  have := List.length_filter_le (jiB up) (List.range up.length)
  rw [List.length_range] at this
  exact this
def lawIrrT : XT := fun ds st R => ∃ (k : Str) (up : List (List Nat)), ds = [ordD k up] ∧ LatU up ∧ up.length ≤ 1000 ∧ NewL st [dN (jiM up), dN (jiM (blwM up))] R
abbrev T_law_irreducible : XT := lawIrrT
def X_law_irreducible : XS := (sSeq (sAsg (xNew (xaOf (mLst mNil))) (tgN 1)) (sSeq (sAsg (xNew (xaOf (mLst mNil))) (tgN 2)) (sSeq (sFor (xiOf (iRng (mOp fIx (mVar 0) (mC (.int 1))))) (tgN 3) (sSeq (sAsg (xNew (xaOf (mComp (iRng (mOp fIx (mVar 0) (mC (.int 1)))) (tgN 4) (bAnd (bV (mOp fIn (mVar 3) (mOp fIx (mOp fIx (mVar 0) (mC (.int 2))) (mVar 4)))) (bV (mOp fNe (mVar 4) (mVar 3)))) (mVar 4) [4]))) (tgN 5)) (sSeq (sAsg (xNew (xaOf (mComp (iSeq (mOp fIx (mOp fIx (mVar 0) (mC (.int 2))) (mVar 3))) (tgN 4) (bV (mOp fNe (mVar 4) (mVar 3))) (mVar 4) [4]))) (tgN 6)) (sSeq (sIf (xbOf (bV (mOp fGt (mF1 fLen (mVar 5)) (mC (.int 0))))) (sSeq (sAsg (xOf (mOp fIx (mVar 5) (mC (.int 0)))) (tgN 7)) (sSeq (sFor (xiOf (iSeq (mVar 5))) (tgN 4) (sAsg (xCall T_law_join (xCons (xOf (mVar 0)) (xCons (xOf (mVar 7)) (xCons (xOf (mVar 4)) xNil)))) (tgN 7))) (sIf (xbOf (bV (mOp fNe (mVar 7) (mVar 3)))) (sAppP (mVar 1) (xOf (mVar 3))) sNext))) sNext) (sIf (xbOf (bV (mOp fGt (mF1 fLen (mVar 6)) (mC (.int 0))))) (sSeq (sAsg (xOf (mOp fIx (mVar 6) (mC (.int 0)))) (tgN 8)) (sSeq (sFor (xiOf (iSeq (mVar 6))) (tgN 4) (sAsg (xCall T_law_meet (xCons (xOf (mVar 0)) (xCons (xOf (mVar 8)) (xCons (xOf (mVar 4)) xNil)))) (tgN 8))) (sIf (xbOf (bV (mOp fNe (mVar 8) (mVar 3)))) (sAppP (mVar 2) (xOf (mVar 3))) sNext))) sNext))))) (sRet (xNew (xaOf (mLst (mCons (mF1 fTup (mVar 1)) (mCons (mF1 fTup (mVar 2)) mNil)))))))))
def Y_law_irreducible : XT := fnT' 9 1 X_law_irreducible
theorem less_range {up : List (List Nat)} {x : Nat} (hx : x < up.length) : ((List.range up.length).filter fun y => (up.getD y []).contains x && !decide (y = x)) = lessM up x := by
  unfold lessM
  rw [blw_mem (z := 0) hx, List.filter_filter]
  exact filter_congr' fun a _ => Bool.and_comm _ _
theorem less_dual {up : List (List Nat)} (O : OrdU up) (x : Nat) : (up.getD x []).filter (fun y => !decide (y = x)) = lessM (blwM up) x := by
  unfold lessM
  rw [blw_blw O]
theorem foldl_lt {n : Nat} {f : Nat → Nat → Nat} (hf : ∀ x y, x < n → y < n → f x y < n) : ∀ (l : List Nat) (a : Nat), a < n → (∀ b ∈ l, b < n) → l.foldl f a < n
  | [], _, ha, _ => ha
  | b :: l, a, ha, h => foldl_lt hf l (f a b) (hf a b ha (h b List.mem_cons_self)) fun c hc => h c (List.mem_cons_of_mem _ hc)
def ifApp (c : Bool) (l : List Nat) (x : Nat) : List Nat := if c = true then l ++ [x] else l
theorem ji_if (up : List (List Nat)) (i : Nat) : (List.range (i + 1)).filter (jiB up) = ifApp (jiB up i) ((List.range i).filter (jiB up)) i := filter_succ _ _
theorem ji_fold (L : LatU up) {i : Nat} (hi : i < up.length) : jiB up i = (decide (lessM up i ≠ []) && !decide (foldJ up (lessM up i) = i)) := by
  by_cases h : lessM up i = []
  · have : jiB up i = false := by unfold jiB; rw [h]; rfl
    rw [this, h]
    rfl
  · have := fold_ji L hi h
    rw [decide_eq_true h, Bool.true_and]
    by_cases e : foldJ up (lessM up i) = i
    · rw [decide_eq_true e]
      exact Bool.eq_false_iff.mpr fun z => this.mpr z e
    · rw [decide_eq_false e]
      exact this.mp e
theorem len_pos {l : List Nat} : decide (0 < l.length) = decide (l ≠ []) := by cases l <;> simp
theorem ix0_lst {st : SS} {q : Nat} {l : List Nat} (c : st[q]? = some (.lst (l.map nI))) (h : l ≠ []) : fIx st (.ref q) (.int 0) = some (nI (l.getD 0 0)) := by
  cases l with
  | nil => exact absurd rfl h
  | cons a l => exact fIx_ref (i := 0) (a := a) c rfl
theorem law_irr_ok (ds : List D) (st : SS) (R : D → SS → Prop) (h : lawIrrT ds st R) : Y_law_irreducible ds st R := by
  obtain ⟨k, up, rfl, L, hn, hR⟩ := h
  refine ⟨rfl, ?_⟩
  show X_law_irreducible _ [some (ordD k up), none, none, none, none, none, none, none, none] st
  refine ⟨[], rfl, _, rfl, [], rfl, _, rfl, ?_⟩
  refine ⟨_, none, iRng_nat (n := up.length) rfl (by omega), ?_⟩
  have hlen : ∀ (l : List Nat) (i : Nat) (q : Nat → Bool), i < 100000 → ((List.range i).filter q).length < 1000000 := fun l i q hi => by
    have := List.length_filter_le q (List.range i)
    rw [List.length_range] at this
    omega
  refine for_rg (fun i env s => ∃ x3 x4 x5 x6 x7 x8, env = [some (ordD k up), some (.ref st.length), some (.ref (st.length + 1)), x3, x4, x5, x6, x7, x8] ∧ Up st s ∧ s[st.length]? = some (.lst (((List.range i).filter (jiB up)).map nI)) ∧ s[st.length + 1]? = some (.lst (((List.range i).filter (jiB (blwM up))).map nI))) ?_ ?_ ⟨none, none, none, none, none, none, ?_, ?_, ?_, ?_⟩
  · rintro i env s hi ⟨x3, x4, x5, x6, x7, x8, rfl, U, hj, hm⟩
    have hp : st.length + 1 < s.length := (List.getElem?_eq_some_iff.mp hm).1
    refine ⟨_, rfl, fun K k1 k2 _ _ => ?_⟩
    refine ⟨(lessM up i).map nI, ?_, _, rfl, ?_⟩
    · rw [← less_range hi]
      exact comp_fi (f := nI) (g := nI) (p := fun y => (up.getD y []).contains i && !decide (y = i)) (iRng_nat rfl (by omega)) fun y hy => ⟨_, rfl, bAnd_e (bV_e ((mOp_e rfl (atUp rfl rfl (List.mem_range.mp hy))).trans (fIn_nI _ _ _))) fun _ => bV_e ((mOp_e rfl rfl).trans (fNe_nI _ _ _)), fun _ => rfl⟩
    refine ⟨(lessM (blwM up) i).map nI, ?_, _, rfl, ?_⟩
    · rw [← less_dual L.o]
      exact comp_fi (f := nI) (g := nI) (p := fun y => !decide (y = i)) (iSeq_dN (atUp rfl rfl hi)) fun y hy => ⟨_, rfl, bV_e ((mOp_e rfl rfl).trans (fNe_nI _ _ _)), fun _ => rfl⟩
    -- both halves, one after another
    generalize hs2 : (s ++ [Cell.lst ((lessM up i).map nI)]) ++ [Cell.lst ((lessM (blwM up) i).map nI)] = s2
    have a1 : (s ++ [Cell.lst ((lessM up i).map nI)]).length = s.length + 1 := by simp
    have U2 : Up s s2 := by rw [← hs2]; exact (Up.app _ _).trans (Up.app _ _)
    have c5 : s2[s.length]? = some (.lst ((lessM up i).map nI)) := by rw [← hs2]; exact (Up.app _ _).get (getApp _ _)
    have c6 : s2[s.length + 1]? = some (.lst ((lessM (blwM up) i).map nI)) := by rw [← hs2, ← a1]; exact getApp _ _
    rw [a1]
    have nlt : ∀ b ∈ lessM up i, b < up.length := fun b hb => less_mem hb
    have nlt2 : ∀ b ∈ lessM (blwM up) i, b < up.length := fun b hb => by have := less_mem hb; rw [blw_len] at this; exact this
    -- the second half, from any store that has grown
    have second : ∀ (s3 : SS) (y4 y7 y8 : Option D), Up s s3 ∨ True → s3[s.length + 1]? = some (.lst ((lessM (blwM up) i).map nI)) → s.length + 1 < s3.length → Up st s3 → s3[st.length]? = some (.lst (((List.range (i + 1)).filter (jiB up)).map nI)) → s3[st.length + 1]? = some (.lst (((List.range i).filter (jiB (blwM up))).map nI)) →
        (sIf (xbOf (bV (mOp fGt (mF1 fLen (mVar 6)) (mC (.int 0))))) (sSeq (sAsg (xOf (mOp fIx (mVar 6) (mC (.int 0)))) (tgN 8)) (sSeq (sFor (xiOf (iSeq (mVar 6))) (tgN 4) (sAsg (xCall T_law_meet (xCons (xOf (mVar 0)) (xCons (xOf (mVar 8)) (xCons (xOf (mVar 4)) xNil)))) (tgN 8))) (sIf (xbOf (bV (mOp fNe (mVar 8) (mVar 3)))) (sAppP (mVar 2) (xOf (mVar 3))) sNext))) sNext) K
          [some (ordD k up), some (.ref st.length), some (.ref (st.length + 1)), some (nI i), y4, some (.ref s.length), some (.ref (s.length + 1)), y7, y8] s3 := by
      intro s3 y4 y7 y8 _ c6 hl3 U3 hj3 hm3
      refine ⟨decide (lessM (blwM up) i ≠ []), bV_e ((mOp_e (lenR (f := nI) rfl c6) rfl).trans ((fGt0 _ _).trans (by rw [len_pos]))), ?_⟩
      by_cases he : lessM (blwM up) i = []
      · rw [decide_eq_false (not_not_intro he)]
        refine iteF (k1 _ _ ⟨_, _, _, _, _, _, rfl, U3, hj3, ?_⟩)
        rw [ji_if, ji_fold L.dual (by rw [blw_len]; exact hi), decide_eq_false (not_not_intro he)]
        exact hm3
      · rw [decide_eq_true he]
        refine iteT ⟨nI ((lessM (blwM up) i).getD 0 0), ?_, _, rfl, ?_⟩
        · refine (mOp_e (y := .int 0) rfl rfl).trans (ix0_lst c6 he)
        refine ⟨(lessM (blwM up) i).map nI, some (s.length + 1), iSeq_lst rfl c6, ?_⟩
        have h0 : (lessM (blwM up) i).getD 0 0 < up.length := by
          cases e : lessM (blwM up) i with
          | nil => exact absurd e he
          | cons a l => exact nlt2 a (by rw [e]; exact List.mem_cons_self)
        refine for_ls (st0 := s3) (ro := some (s.length + 1)) (fun done env s' => ∃ z4 : Option D, env = [some (ordD k up), some (.ref st.length), some (.ref (st.length + 1)), some (nI i), z4, some (.ref s.length), some (.ref (s.length + 1)), y7, some (nI (done.foldl (mt up) ((lessM (blwM up) i).getD 0 0)))] ∧ Up s3 s') (fun done env s' ⟨z4, e, u⟩ => u _ hl3) ?_ ?_ ⟨y4, rfl, Up.refl _⟩
        · rintro done a todo env s' e ⟨z4, rfl, u⟩
          refine ⟨_, rfl, fun K2 i1 i2 _ _ => ?_⟩
          have hd : ∀ b ∈ done, b < up.length := fun b hb => nlt2 b (by rw [e]; exact List.mem_append_left _ hb)
          have ha : a < up.length := nlt2 a (by rw [e]; exact List.mem_append_right _ List.mem_cons_self)
          have hf := foldl_lt (f := mt up) (fun x y hx hy => mt_lt L hx hy) done _ h0 hd
          refine ⟨_, rfl, _, rfl, _, rfl, k, up, _, a, rfl, by omega, hf, ha, fun s4 u4 => ?_⟩
          rw [mt_some L hf ha]
          exact ⟨_, rfl, i1 _ _ ⟨some (nI a), by rw [List.foldl_append]; rfl, u.trans u4⟩⟩
        · rintro env s' ⟨z4, rfl, u⟩
          refine ⟨!decide (foldJ (blwM up) (lessM (blwM up) i) = i), bV_e ((mOp_e rfl rfl).trans (fNe_nI _ _ _)), ?_⟩
          have eb : jiB (blwM up) i = !decide (foldJ (blwM up) (lessM (blwM up) i) = i) := by rw [ji_fold L.dual (by rw [blw_len]; exact hi), decide_eq_true he, Bool.true_and]
          rw [← eb]
          cases hb : jiB (blwM up) i with
          | true =>
            refine iteT ⟨_, _, rfl, u.get hm3, _, rfl, _, u.get hm3, by rw [List.length_map]; exact hlen [] _ _ (by omega), k1 _ _ ⟨_, _, _, _, _, _, rfl, (U3.trans u).set (by omega) _, ?_, ?_⟩⟩
            · rw [List.getElem?_set_ne (by omega)]
              exact u.get hj3
            · rw [List.getElem?_set_self (by have := u.len; omega), ji_if, hb, show ifApp true _ i = _ ++ [i] from rfl, List.map_append]
              rfl
          | false =>
            refine iteF (k1 _ _ ⟨_, _, _, _, _, _, rfl, U3.trans u, u.get hj3, ?_⟩)
            rw [ji_if, hb]
            exact u.get hm3
    refine ⟨decide (lessM up i ≠ []), bV_e ((mOp_e (lenR (f := nI) rfl c5) rfl).trans ((fGt0 _ _).trans (by rw [len_pos]))), ?_⟩
    have hs2l : s.length + 1 < s2.length := (List.getElem?_eq_some_iff.mp c6).1
    by_cases he : lessM up i = []
    · rw [decide_eq_false (not_not_intro he)]
      refine iteF (second s2 _ _ _ (.inr trivial) c6 hs2l (U.trans U2) ?_ (U2.get hm))
      rw [ji_if, ji_fold L hi, decide_eq_false (not_not_intro he)]
      exact U2.get hj
    · rw [decide_eq_true he]
      refine iteT ⟨nI ((lessM up i).getD 0 0), ?_, _, rfl, ?_⟩
      · exact (mOp_e (y := .int 0) rfl rfl).trans (ix0_lst c5 he)
      refine ⟨(lessM up i).map nI, some s.length, iSeq_lst rfl c5, ?_⟩
      have h0 : (lessM up i).getD 0 0 < up.length := by
        cases e : lessM up i with
        | nil => exact absurd e he
        | cons a l => exact nlt a (by rw [e]; exact List.mem_cons_self)
      refine for_ls (st0 := s2) (ro := some s.length) (fun done env s' => ∃ z4 : Option D, env = [some (ordD k up), some (.ref st.length), some (.ref (st.length + 1)), some (nI i), z4, some (.ref s.length), some (.ref (s.length + 1)), some (nI (done.foldl (jn up) ((lessM up i).getD 0 0))), x8] ∧ Up s2 s') (fun done env s' ⟨z4, e, u⟩ => u _ (by omega)) ?_ ?_ ⟨_, rfl, Up.refl _⟩
      · rintro done a todo env s' e ⟨z4, rfl, u⟩
        refine ⟨_, rfl, fun K2 i1 i2 _ _ => ?_⟩
        have hd : ∀ b ∈ done, b < up.length := fun b hb => nlt b (by rw [e]; exact List.mem_append_left _ hb)
        have ha : a < up.length := nlt a (by rw [e]; exact List.mem_append_right _ List.mem_cons_self)
        have hf := foldl_lt (f := jn up) (fun x y hx hy => jn_lt L hx hy) done _ h0 hd
        refine ⟨_, rfl, _, rfl, _, rfl, k, up, _, a, rfl, L.o.inU, hf, ha, fun s4 u4 => ?_⟩
        rw [jn_some L hf ha]
        exact ⟨_, rfl, i1 _ _ ⟨some (nI a), by rw [List.foldl_append]; rfl, u.trans u4⟩⟩
      · rintro env s' ⟨z4, rfl, u⟩
        refine ⟨!decide (foldJ up (lessM up i) = i), bV_e ((mOp_e rfl rfl).trans (fNe_nI _ _ _)), ?_⟩
        have eb : jiB up i = !decide (foldJ up (lessM up i) = i) := by rw [ji_fold L hi, decide_eq_true he, Bool.true_and]
        rw [← eb]
        have ul := u.len
        cases hb : jiB up i with
        | true =>
          refine iteT ⟨_, _, rfl, u.get (U2.get hj), _, rfl, _, u.get (U2.get hj), by rw [List.length_map]; exact hlen [] _ _ (by omega), ?_⟩
          refine second _ _ _ _ (.inr trivial) ?_ (by rw [List.length_set]; omega) (((U.trans U2).trans u).set (Nat.le_refl _) _) ?_ ?_
          · rw [List.getElem?_set_ne (by omega)]
            exact u.get c6
          · rw [List.getElem?_set_self (by omega), ji_if, hb, show ifApp true _ i = _ ++ [i] from rfl, List.map_append]
            rfl
          · rw [List.getElem?_set_ne (by omega)]
            exact u.get (U2.get hm)
        | false =>
          refine iteF (second _ _ _ _ (.inr trivial) (u.get c6) (by omega) ((U.trans U2).trans u) ?_ (u.get (U2.get hm)))
          rw [ji_if, hb]
          exact u.get (U2.get hj)
  · rintro env s ⟨x3, x4, x5, x6, x7, x8, rfl, U, hj, hm⟩
    exact ⟨[dN (jiM up), dN (jiM (blwM up))], mLst_ok (mCons_e (tupT rfl hj) (mCons1 (tupT rfl (hm.trans (by unfold jiM; rw [blw_len]))))) (by show 2 ≤ 1000; omega), hR _ _ U.len (U.trans (Up.app _ _)) (getApp _ _)⟩
  · rw [show (st ++ [Cell.lst []]).length = st.length + 1 by simp]
    rfl
  · exact (Up.app _ _).trans (Up.app _ _)
  · exact (Up.app _ _).get (getApp _ _)
  · rw [show st.length + 1 = (st ++ [Cell.lst []]).length by simp]
    exact getApp _ _
end GF

set_option Elab.async false
set_option linter.all false
set_option maxRecDepth 100000
set_option maxHeartbeats 4000000
namespace GF
open PySem PySem.Spec PyProof.Rows L2 GX GD
/-! ## join_of without effects -/
def joinP : List D → SS → D → Prop := fun ds _ d => ∃ (k : Str) (up : List (List Nat)) (x y : Nat), ds = [ordD k up, nI x, nI y] ∧ InUp up ∧ x < up.length ∧ y < up.length ∧ d = optN (joinM up x y)
noncomputable def joinF : List D → SS → Option D := relF joinP
theorem joinF_eval {st : SS} {k : Str} {up : List (List Nat)} {x y : Nat} (hU : InUp up) (hx : x < up.length) (hy : y < up.length) : joinF [ordD k up, nI x, nI y] st = some (optN (joinM up x y)) := by
  refine relF_eq (fun d' h => ?_) ⟨k, up, x, y, rfl, hU, hx, hy, rfl⟩
  obtain ⟨k', up', x', y', e, _, _, _, rfl⟩ := h
  injection e with e1 e2
  injection e2 with e2 e3
  injection e3 with e3 _
  unfold ordD at e1
  injection e1 with e1
  injection e1 with e0 e1
  injection e1 with _ e1
  injection e1 with e1 _
  injection e1 with e1
  have hu := mapf_inj (fun a b h => dN_inj a b h) e1
  unfold nI at e2 e3
  injection e2 with e2
  injection e3 with e3
  have q2 : x = x' := by omega
  have q3 : y = y' := by omega
  rw [hu, q2, q3]
theorem joinF_ok (ds : List D) (st : SS) (d : D) (h : joinF ds st = some d) (_ : D.loAll st.length ds = true) : D.lo st.length d = true ∧ Y_join_of ds st fun d' st' => d' = d ∧ st'.take st.length = st := by
  obtain ⟨k, up, x, y, rfl, hU, hx, hy, rfl⟩ := relF_of h
  exact ⟨lo_optN _ _, join_ok _ _ _ ⟨k, up, x, y, rfl, hU, hx, hy, fun st1 u => ⟨rfl, up_take u⟩⟩⟩
end GF

set_option Elab.async false
set_option linter.all false
set_option maxRecDepth 100000
set_option maxHeartbeats 4000000
namespace GF
open PySem PySem.Spec PyProof.Rows L2 GX GD
/-! ## pentagons and diamonds -/
structure Latt {α : Type} (le : α → α → Prop) (J M : α → α → α) : Prop where
  refl : ∀ x, le x x
  anti : ∀ x y, le x y → le y x → x = y
  trans : ∀ x y z, le x y → le y z → le x z
  jl : ∀ x y, le x (J x y)
  jr : ∀ x y, le y (J x y)
  jle : ∀ x y z, le x z → le y z → le (J x y) z
  ml : ∀ x y, le (M x y) x
  mr : ∀ x y, le (M x y) y
  lem : ∀ x y z, le z x → le z y → le z (M x y)
section
variable {α : Type} {le : α → α → Prop} {J M : α → α → α}
theorem Latt.dual (L : Latt le J M) : Latt (fun x y => le y x) M J where
  refl := L.refl
  anti := fun x y h k => L.anti x y k h
  trans := fun x y z h k => L.trans z y x k h
  jl := L.ml
  jr := L.mr
  jle := fun x y z h k => L.lem x y z h k
  ml := L.jl
  mr := L.jr
  lem := fun x y z h k => L.jle x y z h k
theorem Latt.ml' (L : Latt le J M) {x y z : α} (h : le x z) : le (M x y) z := L.trans _ _ _ (L.ml x y) h
theorem Latt.mr' (L : Latt le J M) {x y z : α} (h : le y z) : le (M x y) z := L.trans _ _ _ (L.mr x y) h
theorem Latt.jl' (L : Latt le J M) {x y z : α} (h : le z x) : le z (J x y) := L.trans _ _ _ h (L.jl x y)
theorem Latt.jr' (L : Latt le J M) {x y z : α} (h : le z y) : le z (J x y) := L.trans _ _ _ h (L.jr x y)
/-- the modular law -/
def ModL (le : α → α → Prop) (J M : α → α → α) : Prop := ∀ x y z, le z x → M x (J y z) = J (M x y) z
theorem ModL.dual (L : Latt le J M) (h : ModL le J M) : ModL (fun x y => le y x) M J := fun x y z k => by
  have e := h z y x k
  have c1 : J x (M y z) = J (M z y) x := L.anti _ _ (L.jle _ _ _ (L.jr _ _) (L.jl' (L.lem _ _ _ (L.mr _ _) (L.ml _ _)))) (L.jle _ _ _ (L.jr' (L.lem _ _ _ (L.mr _ _) (L.ml _ _))) (L.jl _ _))
  have c2 : M (J x y) z = M z (J y x) := L.anti _ _ (L.lem _ _ _ (L.mr _ _) (L.ml' (L.jle _ _ _ (L.jr _ _) (L.jl _ _)))) (L.lem _ _ _ (L.mr' (L.jle _ _ _ (L.jr _ _) (L.jl _ _))) (L.ml _ _))
  rw [c1, c2, e]
end
end GF

set_option Elab.async false
set_option linter.all false
set_option maxRecDepth 100000
set_option maxHeartbeats 4000000
namespace GF
open PySem PySem.Spec PyProof.Rows L2 GX GD
section
variable {up : List (List Nat)}
/-! ### the lists -/
end
end GF

set_option Elab.async false
set_option linter.all false
set_option maxRecDepth 100000
set_option maxHeartbeats 2000000
/-! sorted() of tuples the first of which is empty -/
namespace GS
open PySem PySem.Spec PyProof.Rows L2 HT PySem.W PySem.SeqAt
/-- all are tuples, the first is empty -/
def EmpF (ds : List PyData) : Prop := (∀ d, d ∈ ds → ∃ xs, d = .tuple xs) ∧ ds[0]? = some (.tuple [])
section
variable {prog : Program} {w : World} {A : Around} {s : Shared}
/-- what sorted() can put in order -/
def SortableE (ds : List PyData) : Prop := Sortable ds ∨ EmpF ds
end
section
variable {prog : Program} {w : World} {A : Around} {E : Value → Shared → Prop} {s : Shared} {β : Type} {R : Value → β → Prop} {enc : β → PyData} {vs : List Value} {bs : List β}
end
section
variable {X : Cx}
end
end GS
namespace GD
open PySem PySem.Spec PyProof.Rows L2 GX PySem.W
structure SortOkU (es : List D) : Prop where
  al : AllAlike (es.map D.py)
  so : GS.SortableE (es.map D.py)
  imm : D.imms es = true
  dep : ∀ d ∈ es, (D.py d).depth ≤ 64
section
variable {X : Cx} {w : Wd} {pos : Pos} {p : Pos}
end
end GD

set_option Elab.async false
set_option linter.all false
set_option maxRecDepth 100000
set_option maxHeartbeats 2000000
namespace GD
open PySem PySem.Spec PyProof.Rows L2 GX GL PySem.W
/-! ## 60. sorted(range(n), key=lambda) -/
section
variable {X : Cx} {a : Expr} {ta : TE} {p pos : Pos}
end
section
variable {X : Cx} {w : Ws} {pins : List (Addr × Obj)} {σ : L2.St} {H : Hp} {s : Shared}
end
section
variable {X : Cx} {w : Wd} {pos p kpos lp p1 p2 : Pos} {a : Expr} {params : Arguments} {body : Expr} {scope : Scope}
end
end GD

set_option Elab.async false
set_option linter.all false
set_option maxRecDepth 100000
set_option maxHeartbeats 2000000
namespace GS
open PySem PySem.Spec PyProof.Rows L2 GX GenW HT PySem.W
/-! sorted(generator expression) -/
section
variable {X : Cx} {k : Nat} {e : Expr} {tg : TGx} {p pos : Pos}
end
end GS
namespace GD
open PySem PySem.Spec PyProof.Rows L2 GX GL PySem.W
/-! ## 61. sorted(generator expression) -/
section
variable {X : Cx} {w : Wd} {pos : Pos}
end
section
variable {X : Cx} {w : Wd} {p pos : Pos} {mi : MI} {t : MT} {b : MB} {m : MP} {own : List Nat} {k : Nat} {e : Expr}
end
end GD

set_option Elab.async false
set_option linter.all false
set_option maxRecDepth 100000
set_option maxHeartbeats 4000000
namespace GF
open PySem PySem.Spec PyProof.Rows L2 GX GD PySem.W
/-! ## 65. rows of any length, in order -/
/-! ## 66. down sets -/
structure Down (up : List (List Nat)) (s : List Nat) : Prop where
  srt : s.Pairwise (· < ·)
  lt : ∀ x ∈ s, x < up.length
  dn : ∀ y ∈ s, ∀ x, leU up x y → x ∈ s
section
variable {up : List (List Nat)} {s : List Nat} {x y : Nat}
end
/-! ## 67. the down sets as the program finds them -/
/-- what is below comes before -/
structure LinU (up : List (List Nat)) (p : List Nat) : Prop where
  nd : p.Nodup
  pw : p.Pairwise fun a b => ¬ leU up b a
section
variable {up : List (List Nat)}
theorem LinU.init {p : List Nat} {a : Nat} (h : LinU up (p ++ [a])) : LinU up p ∧ a ∉ p ∧ ∀ x ∈ p, ¬ leU up a x := by
  obtain ⟨n1, n2, n3⟩ := List.nodup_append.mp h.nd
  obtain ⟨p1, p2, p3⟩ := List.pairwise_append.mp h.pw
  exact ⟨⟨n1, p1⟩, fun z => n3 a z a List.mem_cons_self rfl, fun x hx => p3 x hx a List.mem_cons_self⟩
end
end GF

set_option Elab.async false
set_option linter.all false
set_option maxRecDepth 100000
set_option maxHeartbeats 4000000
namespace GF
open PySem PySem.Spec PyProof.Rows L2 GX GD
/-! ## 71. drawn orders -/
structure OI (ord : List Nat) (many k : Nat) (up : List (List Nat)) : Prop where
  len : up.length = many
  srt : ∀ r ∈ up, r.Pairwise (· < ·)
  refl : ∀ x, x < many → leU up x x
  pos : ∀ a, a < many → ∀ y, leU up (ord.getD a 0) y → ∃ b, a ≤ b ∧ b < many ∧ y = ord.getD b 0
  tr : ∀ x y z, leU up x y → leU up y z → leU up x z
  one : ∀ a, a + k + 1 < many → ∀ y, leU up (ord.getD a 0) y → y = ord.getD a 0
theorem leU_set {up : List (List Nat)} {x : Nat} (hx : x < up.length) (row : List Nat) (u v : Nat) : leU (up.set x row) u v ↔ (u = x ∧ v ∈ row) ∨ (u ≠ x ∧ leU up u v) := by
  unfold leU
  by_cases e : u = x
  · subst e
    rw [List.getD_eq_getElem?_getD, List.getElem?_set_self hx]
    exact ⟨fun h => .inl ⟨rfl, h⟩, fun h => h.elim (fun z => z.2) fun z => absurd rfl z.1⟩
  · rw [List.getD_eq_getElem?_getD, List.getElem?_set_ne (Ne.symm e), ← List.getD_eq_getElem?_getD]
    exact ⟨fun h => .inr ⟨e, h⟩, fun h => h.elim (fun z => absurd z.1 e) fun z => z.2⟩
theorem leU_lt' {up : List (List Nat)} {x y : Nat} (h : leU up x y) : x < up.length := by
  refine Classical.byContradiction fun hx => ?_
  unfold leU at h
  rw [List.getD_eq_getElem?_getD, List.getElem?_eq_none (by omega)] at h
  cases h
section
variable {ord : List Nat} {many k j : Nat} {up : List (List Nat)} {row : List Nat}
theorem perm_inj (p : ord.Perm (List.range many)) {a b : Nat} (ha : a < many) (hb : b < many) (h : ord.getD a 0 = ord.getD b 0) : a = b := by
  have nd : ord.Nodup := p.nodup_iff.mpr List.nodup_range
  obtain ⟨g1, _⟩ := perm_get p ha
  obtain ⟨g2, _⟩ := perm_get p hb
  rw [h] at g1
  exact (List.getElem?_inj (List.getElem?_eq_some_iff.mp g1).1 nd).mp (g1.trans g2.symm)
theorem perm_ix (p : ord.Perm (List.range many)) {x : Nat} (hx : x < many) : ∃ a, a < many ∧ ord.getD a 0 = x := by
  obtain ⟨a, ha, e⟩ := List.getElem_of_mem (p.mem_iff.mpr (List.mem_range.mpr hx))
  exact ⟨a, by rw [p.length_eq, List.length_range] at ha; exact ha, by rw [List.getD_eq_getElem?_getD, List.getElem?_eq_getElem ha, e]; rfl⟩
theorem OI.start (p : ord.Perm (List.range many)) : OI ord many 0 ((List.range many).map fun x => [x]) := by
  have L : ∀ x y, leU ((List.range many).map fun x => [x]) x y ↔ x < many ∧ y = x := fun x y => by
    unfold leU
    by_cases hx : x < many
    · rw [List.getD_eq_getElem?_getD, List.getElem?_map, List.getElem?_range hx]
      show y ∈ [x] ↔ _
      rw [List.mem_singleton]
      exact ⟨fun h => ⟨hx, h⟩, fun h => h.2⟩
    · rw [List.getD_eq_getElem?_getD, List.getElem?_eq_none (by rw [List.length_map, List.length_range]; omega)]
      exact ⟨fun h => (nomatch h), fun h => absurd h.1 hx⟩
  refine ⟨by rw [List.length_map, List.length_range], fun r hr => ?_, fun x hx => (L x x).mpr ⟨hx, rfl⟩, fun a ha y h => ⟨a, Nat.le_refl _, ha, ((L _ _).mp h).2⟩, fun x y z h1 h2 => ?_, fun a _ y h => ((L _ _).mp h).2⟩
  · obtain ⟨x, _, rfl⟩ := List.mem_map.mp hr
    exact List.pairwise_singleton _ _
  · obtain ⟨a1, a2⟩ := (L _ _).mp h1
    obtain ⟨b1, b2⟩ := (L _ _).mp h2
    exact (L _ _).mpr ⟨a1, b2.trans a2⟩
theorem OI.next (h : OI ord many k up) : OI ord many (k + 1) up := ⟨h.len, h.srt, h.refl, h.pos, h.tr, fun a ha => h.one a (by omega)⟩
theorem OI.step (p : ord.Perm (List.range many)) (h : OI ord many k up) (hk : k < many) (h1 : many - k ≤ j) (h2 : j < many) (hs : row.Pairwise (· < ·)) (hr : ∀ y, y ∈ row ↔ leU up (ord.getD (many - 1 - k) 0) y ∨ leU up (ord.getD j 0) y) : OI ord many k (up.set (ord.getD (many - 1 - k) 0) row) := by
  have hx := (perm_get p (i := many - 1 - k) (by omega)).2
  have hxl : ord.getD (many - 1 - k) 0 < up.length := by rw [h.len]; exact hx
  have S := leU_set hxl row
  have self : leU up (ord.getD (many - 1 - k) 0) (ord.getD (many - 1 - k) 0) := h.refl _ hx
  refine ⟨by rw [List.length_set]; exact h.len, fun r hr' => ?_, fun x hx' => ?_, fun a ha y hy => ?_, fun x y z q1 q2 => ?_, fun a ha y hy => ?_⟩
  · rcases List.mem_or_eq_of_mem_set hr' with z | z
    · exact h.srt r z
    · rw [z]; exact hs
  · by_cases e : x = ord.getD (many - 1 - k) 0
    · exact (S _ _).mpr (.inl ⟨e, (hr x).mpr (.inl (by rw [e]; exact self))⟩)
    · exact (S _ _).mpr (.inr ⟨e, h.refl x hx'⟩)
  · rcases (S _ _).mp hy with ⟨e, hy⟩ | ⟨_, hy⟩
    · have ea := perm_inj p ha (by omega) e
      rcases (hr y).mp hy with z | z
      · obtain ⟨b, b1, b2, b3⟩ := h.pos _ (by omega) y z
        exact ⟨b, by omega, b2, b3⟩
      · obtain ⟨b, b1, b2, b3⟩ := h.pos _ h2 y z
        exact ⟨b, by omega, b2, b3⟩
    · exact h.pos a ha y hy
  · have back : ∀ u, leU up u (ord.getD (many - 1 - k) 0) → u = ord.getD (many - 1 - k) 0 := fun u hu => by
      have hul := leU_lt' hu
      rw [h.len] at hul
      obtain ⟨a, ha, rfl⟩ := perm_ix p hul
      obtain ⟨b, b1, b2, b3⟩ := h.pos a ha _ hu
      have eb := perm_inj p (by omega) b2 b3
      by_cases e : a = many - 1 - k
      · rw [e]
      · have := h.one a (by omega) _ hu
        exact this.symm
    have mono : ∀ {u v}, leU up u v → u ≠ ord.getD (many - 1 - k) 0 → v ≠ ord.getD (many - 1 - k) 0 := fun {u v} huv hu e => hu (back u (e ▸ huv))
    rcases (S _ _).mp q1 with ⟨e, hy⟩ | ⟨e, hy⟩
    · rcases (S _ _).mp q2 with ⟨e2, hz⟩ | ⟨e2, hz⟩
      · exact (S _ _).mpr (.inl ⟨e, hz⟩)
      · refine (S _ _).mpr (.inl ⟨e, (hr z).mpr ?_⟩)
        rcases (hr y).mp hy with q | q
        · exact .inl (h.tr _ _ _ q hz)
        · exact .inr (h.tr _ _ _ q hz)
    · have e2 := mono hy e
      rcases (S _ _).mp q2 with ⟨e3, _⟩ | ⟨_, hz⟩
      · exact absurd e3 e2
      · exact (S _ _).mpr (.inr ⟨e, h.tr _ _ _ hy hz⟩)
  · rcases (S _ _).mp hy with ⟨e, _⟩ | ⟨_, hy⟩
    · have := perm_inj p (by omega) (by omega) e
      omega
    · exact h.one a ha y hy
theorem OI.isOrd (p : ord.Perm (List.range many)) (h : OI ord many k up) : OrdU up := by
  refine ⟨fun r hr y hy => ?_, h.srt, fun x hx => h.refl x (by rw [h.len] at hx; exact hx), fun x y h1 h2 => ?_, h.tr⟩
  · obtain ⟨x, hx, e⟩ := List.getElem_of_mem hr
    have : leU up x y := by
      unfold leU
      rw [List.getD_eq_getElem?_getD, List.getElem?_eq_getElem hx, e]
      exact hy
    rw [h.len] at hx ⊢
    obtain ⟨a, ha, rfl⟩ := perm_ix p hx
    obtain ⟨b, _, b2, rfl⟩ := h.pos a ha y this
    exact (perm_get p b2).2
  · have l1 := leU_lt' h1
    have l2 := leU_lt' h2
    rw [h.len] at l1 l2
    obtain ⟨a, ha, rfl⟩ := perm_ix p l1
    obtain ⟨c, hc, rfl⟩ := perm_ix p l2
    obtain ⟨b, b1, b2, b3⟩ := h.pos a ha _ h1
    obtain ⟨d, d1, d2, d3⟩ := h.pos c hc _ h2
    have := perm_inj p hc b2 b3
    have := perm_inj p ha d2 d3
    have : a = c := by omega
    rw [this]
end
/-- a list of lists that stand for rows -/
structure RowsQ (s : SS) (a : Nat) (up : List (List Nat)) (qs : List Nat) : Prop where
  at_ : s[a]? = some (.lst (qs.map D.ref))
  len : qs.length = up.length
  row : ∀ i, i < up.length → a < qs.getD i 0 ∧ s[qs.getD i 0]? = some (.lst ((up.getD i []).map nI))
section
variable {s s1 : SS} {a n : Nat} {up : List (List Nat)} {qs : List Nat} {row : List Nat}
theorem RowsQ.mon (h : RowsQ s a up qs) (u : Up s s1) : RowsQ s1 a up qs := ⟨u.get h.at_, h.len, fun i hi => ⟨(h.row i hi).1, u.get (h.row i hi).2⟩⟩
theorem RowsQ.ev (h : RowsQ s a up qs) (hn : n < a) (u : Ev n s s1) : RowsQ s1 a up qs := ⟨u.keep h.at_ (by omega), h.len, fun i hi => ⟨(h.row i hi).1, u.keep (h.row i hi).2 (by have := (h.row i hi).1; omega)⟩⟩
theorem RowsQ.push (h : RowsQ s a up qs) (row : List Nat) : RowsQ ((s ++ [Cell.lst (row.map nI)]).set a (Cell.lst (qs.map D.ref ++ [D.ref s.length]))) a (up ++ [row]) (qs ++ [s.length]) := by
  have ha : a < s.length := (List.getElem?_eq_some_iff.mp h.at_).1
  refine ⟨?_, by rw [List.length_append, List.length_append, h.len]; rfl, fun i hi => ?_⟩
  · rw [getSet ((Up.app _ _).get h.at_), List.map_append]
    rfl
  · rw [List.length_append] at hi
    by_cases e : i < up.length
    · obtain ⟨h1, h2⟩ := h.row i e
      have e1 : (qs ++ [s.length]).getD i 0 = qs.getD i 0 := by rw [List.getD_eq_getElem?_getD, List.getElem?_append_left (by rw [h.len]; exact e), List.getD_eq_getElem?_getD]
      have e2 : (up ++ [row]).getD i [] = up.getD i [] := by rw [List.getD_eq_getElem?_getD, List.getElem?_append_left e, List.getD_eq_getElem?_getD]
      rw [e1, e2, List.getElem?_set_ne (by omega)]
      exact ⟨h1, (Up.app _ _).get h2⟩
    · have e0 : i = up.length := by
        simp at hi
        omega
      subst e0
      have e1 : (qs ++ [s.length]).getD up.length 0 = s.length := by rw [← h.len, List.getD_eq_getElem?_getD, List.getElem?_append_right (Nat.le_refl _), Nat.sub_self]; rfl
      have e2 : (up ++ [row]).getD up.length [] = row := by rw [List.getD_eq_getElem?_getD, List.getElem?_append_right (Nat.le_refl _), Nat.sub_self]; rfl
      rw [e1, e2, List.getElem?_set_ne (by omega)]
      exact ⟨ha, getApp _ _⟩
theorem RowsQ.put (h : RowsQ s a up qs) {x : Nat} (hx : x < up.length) (row : List Nat) : RowsQ ((s ++ [Cell.lst (row.map nI)]).set a (Cell.lst ((qs.map D.ref).set x (D.ref s.length)))) a (up.set x row) (qs.set x s.length) := by
  have ha : a < s.length := (List.getElem?_eq_some_iff.mp h.at_).1
  refine ⟨?_, by rw [List.length_set, List.length_set, h.len], fun i hi => ?_⟩
  · rw [getSet ((Up.app _ _).get h.at_), List.map_set]
  · rw [List.length_set] at hi
    by_cases e : i = x
    · subst e
      have e1 : (qs.set i s.length).getD i 0 = s.length := by rw [List.getD_eq_getElem?_getD, List.getElem?_set_self (by rw [h.len]; exact hx)]; rfl
      have e2 : (up.set i row).getD i [] = row := by rw [List.getD_eq_getElem?_getD, List.getElem?_set_self hx]; rfl
      rw [e1, e2, List.getElem?_set_ne (by omega)]
      exact ⟨ha, getApp _ _⟩
    · obtain ⟨h1, h2⟩ := h.row i hi
      have e1 : (qs.set x s.length).getD i 0 = qs.getD i 0 := by rw [List.getD_eq_getElem?_getD, List.getElem?_set_ne (Ne.symm e), List.getD_eq_getElem?_getD]
      have e2 : (up.set x row).getD i [] = up.getD i [] := by rw [List.getD_eq_getElem?_getD, List.getElem?_set_ne (Ne.symm e), List.getD_eq_getElem?_getD]
      rw [e1, e2, List.getElem?_set_ne (by omega)]
      exact ⟨h1, (Up.app _ _).get h2⟩
end
theorem map_ix {α β : Type} (f : α → β) (z : α) (l : List α) : l.map f = (List.range l.length).map fun i => f (l.getD i z) := by
  apply List.ext_getElem?
  intro i
  by_cases hi : i < l.length
  · rw [List.getElem?_map, List.getElem?_map, List.getElem?_range hi, List.getElem?_eq_getElem hi]
    show some (f l[i]) = some (f (l.getD i z))
    rw [List.getD_eq_getElem?_getD, List.getElem?_eq_getElem hi]
    rfl
  · rw [List.getElem?_eq_none (by rw [List.length_map]; omega), List.getElem?_eq_none (by rw [List.length_map, List.length_range]; omega)]
theorem fSub_nI (st : SS) {a b : Nat} (h : b ≤ a) : fSub st (nI a) (nI b) = some (nI (a - b)) := by
  show some (D.int ((a : Int) - (b : Int))) = some (D.int ((a - b : Nat) : Int))
  congr 2
  omega
theorem iRng2_nat' {a b : MP} {env : EV} {st : SS} {i n : Nat} (h1 : a env st = some (nI i)) (h2 : b env st = some (nI n)) (hi : i ≤ n) (hn : n ≤ 1000000) : GD.iRng2 a b env st = some ((List.range (n - i)).map (fun t => nI (i + t)), none) := by
  unfold GD.iRng2
  rw [h1, h2]
  show (if ((n : Int) ≤ 1000000 ∧ (-1000000 : Int) ≤ n) ∧ (i : Int) ≤ 1000000 ∧ (0 : Int) ≤ i then some (intsD (i : Int) ((n : Int) - (i : Int)).toNat, (none : Option Nat)) else none) = _
  rw [if_pos ⟨⟨by omega, by omega⟩, by omega, by omega⟩]
  have e : ((n : Int) - (i : Int)).toNat = n - i := by omega
  rw [e]
  unfold intsD
  congr 2
theorem row_len {ord up : List (List Nat)} {many : Nat} {o : List Nat} {k : Nat} (p : o.Perm (List.range many)) (h : OI o many k up) (x : Nat) : (up.getD x []).length ≤ many := by
  have := (h.isOrd p).inU
  have s := row_srt (h.isOrd p) x
  rw [← h.len]
  exact sorted_len s fun y hy => this.at y hy
def lawOrdT : XT := fun ds st R => ∃ (n most : Nat), ds = [.ref n, nI most] ∧ most ≤ 20 ∧ Boxed st n ∧ ∀ (up : List (List Nat)) st1, OrdU up → up.length ≤ most → Boxed st1 n → Ub n st st1 → R (ordD "order" up) st1
abbrev T_law_order : XT := lawOrdT
def X_law_order : XS := (sSeq (sAsg (xCall drawT (xCons (xOf (mVar 0)) (xCons (xOf (mOp fAdd (mVar 1) (mC (.int 1)))) xNil))) (tgN 2)) (sSeq (sAsg (xCall T_law_mixed_order (xCons (xOf (mVar 0)) (xCons (xOf (mVar 2)) xNil))) (tgN 3)) (sSeq (sAsg (xNew (xaOf (mLst mNil))) (tgN 4)) (sSeq (sFor (xiOf (iRng (mVar 2))) (tgN 5) (sAppP (mVar 4) (xNew (xaOf (mLst (mCons (mVar 5) mNil)))))) (sSeq (sFor (xiOf (iRng (mVar 2))) (tgN 6) (sSeq (sAsg (xOf (mOp fIx (mVar 3) (mOp fSub (mOp fSub (mVar 2) (mC (.int 1))) (mVar 6)))) (tgN 5)) (sFor (xiOf (iRng2 (mOp fSub (mVar 2) (mVar 6)) (mVar 2))) (tgN 7) (sIf (xV (xOp fEq (xCall drawT (xCons (xOf (mVar 0)) (xCons (xOf (mC (.int 3))) xNil))) (xOf (mC (.int 0))))) (sSub (xNew (xSortSetQ (xNew (xCat (xOf (mOp fIx (mVar 4) (mVar 5))) (xOf (mOp fIx (mVar 4) (mOp fIx (mVar 3) (mVar 7)))))))) (mVar 4) (mVar 5)) sNext)))) (sRet (xOf (mTup (mCons (mC (.str ("order" : Str))) (mCons (mVar 2) (mCons (mTupL (mComp (iSeq (mVar 4)) (tgN 8) bYes (mF1 fTup (mVar 8)) [8])) mNil)))))))))))
def Y_law_order : XT := fnT' 9 2 X_law_order
theorem law_ord_ok (ds : List D) (st : SS) (R : D → SS → Prop) (h : lawOrdT ds st R) : Y_law_order ds st R := by
  obtain ⟨n, most, rfl, hm, hB, hR⟩ := h
  refine ⟨rfl, ?_⟩
  show X_law_order _ [some (.ref n), some (nI most), none, none, none, none, none, none, none] st
  refine ⟨.ref n, rfl, .int ((most : Int) + 1), rfl, n, (most : Int) + 1, rfl, by omega, hB, fun r s1 hr B1 E1 => ⟨_, rfl, ?_⟩⟩
  refine ⟨.ref n, rfl, nI r, rfl, n, r, rfl, by omega, B1, fun ord p s2 hp B2 U2 hp2 c2 => ⟨_, rfl, ?_⟩⟩
  have hnl := hB.lt
  have e1l := E1.ub.len
  have u2l := U2.len
  have hpl : p < s2.length := (List.getElem?_eq_some_iff.mp c2).1
  have U02 : Ub n st s2 := E1.ub.trans U2
  refine ⟨[], rfl, _, rfl, ?_⟩
  refine ⟨(List.range r).map nI, none, iRng_nat rfl (by omega), ?_⟩
  refine for_rg (fun i env s => ∃ x5 qs, env = [some (.ref n), some (nI most), some (nI r), some (.ref p), some (.ref s2.length), x5, none, none, none] ∧ Boxed s n ∧ Ub n st s ∧ s[p]? = some (.lst (ord.map nI)) ∧ RowsQ s s2.length ((List.range i).map fun x => [x]) qs) ?_ ?_ ⟨none, [], rfl, B2.up (Up.app _ _), U02.trans ((Up.app _ _).ub n), (Up.app _ _).get c2, getApp _ _, rfl, fun i hi => by simp at hi⟩
  · rintro i env s hi ⟨x5, qs, rfl, B, U, cp, Q⟩
    have hal : s2.length < s.length := (List.getElem?_eq_some_iff.mp Q.at_).1
    refine ⟨_, rfl, fun K k1 k2 _ _ => ?_⟩
    refine ⟨s2.length, _, rfl, Q.at_, [nI i], rfl, _, (Up.app _ _).get Q.at_, ?_, k1 _ _ ⟨_, qs ++ [s.length], rfl, (B.up (Up.app _ _)).hi (by omega) _, (U.trans ((Up.app _ _).ub n)).set (by omega) _, ?_, ?_⟩⟩
    · rw [List.length_map, Q.len, List.length_map, List.length_range]
      omega
    · rw [List.getElem?_set_ne (by omega)]
      exact (Up.app _ _).get cp
    · have := Q.push [i]
      rw [List.range_succ, List.map_append]
      exact this
  rintro env s ⟨x5, qs, rfl, B, U, cp, Q⟩
  refine ⟨(List.range r).map nI, none, iRng_nat rfl (by omega), ?_⟩
  refine for_rg (fun k env s => ∃ x5 x6 x7 up qs, env = [some (.ref n), some (nI most), some (nI r), some (.ref p), some (.ref s2.length), x5, x6, x7, none] ∧ Boxed s n ∧ Ub n st s ∧ s[p]? = some (.lst (ord.map nI)) ∧ RowsQ s s2.length up qs ∧ OI ord r k up) ?_ ?_ ⟨_, none, none, _, qs, rfl, B, U, cp, Q, OI.start hp⟩
  · rintro k env s hk ⟨x5, x6, x7, up, qs, rfl, B, U, cp, Q, I⟩
    refine ⟨_, rfl, fun K k1 k2 _ _ => ?_⟩
    refine ⟨nI (ord.getD (r - 1 - k) 0), ?_, _, rfl, ?_⟩
    · refine (mOp_e rfl ((mOp_e ((mOp_e rfl rfl).trans (fSub_nI s (a := r) (b := 1) (by omega))) rfl).trans (fSub_nI s (a := r - 1) (b := k) (by omega)))).trans (getR cp (perm_get hp (by omega)).1)
    refine ⟨_, none, iRng2_nat' (i := r - k) (n := r) ((mOp_e rfl rfl).trans (fSub_nI s (a := r) (b := k) (by omega))) rfl (by omega) (by omega), ?_⟩
    refine for_rgf (fun t env s => ∃ x7 up qs, env = [some (.ref n), some (nI most), some (nI r), some (.ref p), some (.ref s2.length), some (nI (ord.getD (r - 1 - k) 0)), some (nI k), x7, none] ∧ Boxed s n ∧ Ub n st s ∧ s[p]? = some (.lst (ord.map nI)) ∧ RowsQ s s2.length up qs ∧ OI ord r k up) ?_ ?_ ⟨_, up, qs, rfl, B, U, cp, Q, I⟩
    · rintro t env s ht ⟨x7, up, qs, rfl, B, U, cp, Q, I⟩
      refine ⟨_, rfl, fun K k1 k2 _ _ => ?_⟩
      have hj : r - k + t < r := by omega
      obtain ⟨gj, lj⟩ := perm_get hp hj
      obtain ⟨_, lx⟩ := perm_get hp (i := r - 1 - k) (by omega)
      refine ⟨.ref n, rfl, .int 3, rfl, n, 3, rfl, by decide, B, fun r' s4 hr' B4 E4 => ⟨.int 0, rfl, _, fEq_nI s4 r' 0, _, rfl, ?_⟩⟩
      have cp4 := E4.keep cp (by omega)
      have Q4 := Q.ev (by omega) E4
      have hal : s2.length < s4.length := (List.getElem?_eq_some_iff.mp Q4.at_).1
      by_cases e : r' = 0
      · rw [decide_eq_true e]
        refine iteT ?_
        have lxu : ord.getD (r - 1 - k) 0 < up.length := by rw [I.len]; exact lx
        have lju : ord.getD (r - k + t) 0 < up.length := by rw [I.len]; exact lj
        obtain ⟨ax, cx⟩ := Q4.row _ lxu
        obtain ⟨aw, cw⟩ := Q4.row _ lju
        have gq : ∀ i, i < up.length → qs[i]? = some (qs.getD i 0) := fun i hi => atD qs (by rw [Q4.len]; exact hi)
        refine ⟨.ref (qs.getD (ord.getD (r - 1 - k) 0) 0), (mOp_e rfl rfl).trans (getR Q4.at_ (gq _ lxu)), .ref (qs.getD (ord.getD (r - k + t) 0) 0), (mOp_e rfl ((mOp_e rfl rfl).trans (getR cp4 gj))).trans (getR Q4.at_ (gq _ lju)), _, _, _, _, rfl, rfl, cx, cw, ?_, ?_⟩
        · rw [List.length_map, List.length_map]
          have := row_len (ord := []) hp I (ord.getD (r - 1 - k) 0)
          have := row_len (ord := []) hp I (ord.getD (r - k + t) 0)
          omega
        · refine ⟨(up.getD (ord.getD (r - 1 - k) 0) [] ++ up.getD (ord.getD (r - k + t) 0) []).map fun (k : Nat) => (k : Int), ?_, ?_, fun ms h1 h2 => ?_⟩
          · rw [seqOf_lst (getApp _ _), List.map_map, List.map_append]
            rfl
          · rw [List.length_map, List.length_append]
            have := row_len (ord := []) hp I (ord.getD (r - 1 - k) 0)
            have := row_len (ord := []) hp I (ord.getD (r - k + t) 0)
            omega
          · obtain ⟨more, e2, h3, h4⟩ := nats_of h1 h2
            rw [e2]
            have Q5 := Q4.mon (Up.app s4 [Cell.lst ((up.getD (ord.getD (r - 1 - k) 0) []).map nI ++ (up.getD (ord.getD (r - k + t) 0) []).map nI)])
            refine ⟨s2.length, _, _, ord.getD (r - 1 - k) 0, rfl, rfl, (Up.app _ _).get Q5.at_, ixN_nat (by rw [List.length_map, Q4.len]; exact lxu), k1 _ _ ⟨_, up.set (ord.getD (r - 1 - k) 0) more, qs.set (ord.getD (r - 1 - k) 0) (s4 ++ [Cell.lst ((up.getD (ord.getD (r - 1 - k) 0) []).map nI ++ (up.getD (ord.getD (r - k + t) 0) []).map nI)]).length, rfl, ((B4.up (Up.app _ _)).up (Up.app _ _)).hi (by omega) _, ((((U.trans E4.ub).trans ((Up.app _ _).ub n)).trans ((Up.app _ _).ub n)).set (by omega) _), ?_, Q5.put lxu more, I.step hp hk (by omega) hj h3 fun y => ?_⟩⟩
            · rw [List.getElem?_set_ne (by omega)]
              exact (Up.app _ _).get ((Up.app _ _).get cp4)
            · rw [h4, List.mem_append]
              rfl
      · rw [decide_eq_false e]
        exact iteF (k1 _ _ ⟨_, _, _, rfl, B4, U.trans E4.ub, cp4, Q4, I⟩)
    · rintro env s ⟨x7, up, qs, rfl, B, U, cp, Q, I⟩
      exact k1 _ _ ⟨_, _, _, _, _, rfl, B, U, cp, Q, I.next⟩
  · rintro env s ⟨x5, x6, x7, up, qs, rfl, B, U, cp, Q, I⟩
    refine ⟨ordD "order" up, ?_, hR up s (I.isOrd hp) (by rw [I.len]; omega) B U⟩
    have ul : up.length = r := I.len
    show mTup _ _ _ = some (.tup [.str "order", nI up.length, .tup (up.map dN)])
    rw [ul]
    refine mTup_e (mCons_e rfl (mCons_e rfl (mCons1 (mTupL_e ?_)))) (by show 3 ≤ 1000; decide)
    rw [map_ix dN [] up]
    refine comp_id (f := fun i => D.ref (qs.getD i 0)) (g := fun i => dN (up.getD i [])) (ro := some s2.length) ?_ fun i hi => ⟨_, rfl, rfl, tupR rfl (Q.row i (List.mem_range.mp hi)).2⟩
    rw [iSeq_lst rfl Q.at_, map_ix D.ref 0 qs, Q.len]
end GF

set_option Elab.async false
set_option linter.all false
set_option maxRecDepth 100000
set_option maxHeartbeats 4000000
namespace GF
open PySem PySem.Spec PyProof.Rows L2 GX GD PySem.W
/-! ## 72. renamings, plainly -/
abbrev Fit1 := List Nat → Nat → Bool
section
variable {m : Nat} {fit fit' : Fit1}
/-- a way that fits at each step -/
def Goes (m : Nat) (fit : Fit1) (u : List Nat) : List Nat → Prop
  | [] => True
  | y :: v => (y < m ∧ fit u y = true) ∧ Goes m fit (u ++ [y]) v
end
/-! ## 73. what fits -/
def eqB (a b : Bool) : Bool := decide (a = b)
structure Dig (up : List (List Nat)) : Prop where
  inU : InUp up
  srt : ∀ r ∈ up, r.Pairwise (· < ·)
  refl : ∀ x, x < up.length → leU up x x
section
variable {up vp : List (List Nat)} {v : List Nat}
/-- a way that fits everywhere keeps the order both ways -/
structure IsoW (up vp : List (List Nat)) (v : List Nat) : Prop where
  len : v.length = up.length
  le : vp.length = up.length
  nd : v.Nodup
  lt : ∀ x ∈ v, x < vp.length
  iff : ∀ i j, i < up.length → j < up.length → (leU up i j ↔ leU vp (v.getD i 0) (v.getD j 0))
/-! ### kinds -/
theorem IsoW.inj (I : IsoW up vp v) {i j : Nat} (hi : i < up.length) (hj : j < up.length) (h : v.getD i 0 = v.getD j 0) : i = j := by
  have ei := atD v (i := i) (by rw [I.len]; exact hi)
  have ej := atD v (i := j) (by rw [I.len]; exact hj)
  rw [h] at ei
  exact (List.getElem?_inj (by rw [I.len]; exact hi) I.nd).mp (ei.trans ej.symm)
theorem IsoW.onto (I : IsoW up vp v) {y : Nat} (hy : y < vp.length) : ∃ i, i < up.length ∧ v.getD i 0 = y := by
  have hm : y ∈ v := Classical.byContradiction fun hn => by
    have := nodup_sub (l := y :: v) (m := List.range vp.length) (List.nodup_cons.mpr ⟨hn, I.nd⟩) fun x hx => by
      rcases List.mem_cons.mp hx with rfl | hx
      · exact List.mem_range.mpr hy
      · exact List.mem_range.mpr (I.lt x hx)
    rw [List.length_cons, List.length_range, I.len, I.le] at this
    omega
  obtain ⟨i, hi, e⟩ := List.getElem_of_mem hm
  exact ⟨i, by rw [← I.len]; exact hi, by rw [List.getD_eq_getElem?_getD, List.getElem?_eq_getElem hi, e]; rfl⟩
theorem IsoW.lt' (I : IsoW up vp v) {i : Nat} (hi : i < up.length) : v.getD i 0 < vp.length := I.lt _ (List.mem_of_getElem? (atD v (by rw [I.len]; exact hi)))
/-! ### how many -/
structure WaysIn (m k : Nat) (ws : List (List Nat)) : Prop where
  len : ∀ w ∈ ws, w.length = k
  nd : ∀ w ∈ ws, w.Nodup
  lt : ∀ w ∈ ws, ∀ x ∈ w, x < m
end
end GF

set_option Elab.async false
set_option linter.all false
set_option maxRecDepth 100000
set_option maxHeartbeats 1000000
namespace GF
open PySem PySem.Spec PyProof.Rows L2 GX GD PySem.W
/-! ## 74. completions, plainly -/
section
variable {many : Nat} {rows : List (List Nat)} {x y z w : Nat}
end
section
variable {up : List (List Nat)} {x y z w : Nat}
/-! ### the least and the greatest element -/
/-! ### folds over places -/
/-! ### cuts -/
end
end GF

set_option Elab.async false
set_option linter.all false
set_option maxRecDepth 100000
set_option maxHeartbeats 1000000
namespace GF
open PySem PySem.Spec PyProof.Rows L2 GX GD PySem.W
/-! ## 75. lattices that are alike -/
section
variable {up vp : List (List Nat)} {v : List Nat} {x y : Nat}
/-- elements of the second stand for those of the first -/
structure Emb (up vp : List (List Nat)) (g : Nat → Nat) : Prop where
  len : up.length = vp.length
  lt : ∀ y, y < vp.length → g y < up.length
  onto : ∀ x, x < up.length → ∃ y, y < vp.length ∧ g y = x
  le : ∀ y z, y < vp.length → z < vp.length → (leU vp y z ↔ leU up (g y) (g z))
end
/-! ### by closed sets -/
section
variable {many wide : Nat} {rows more : List (List Nat)}
end
/-! ### the standard table -/
section
variable {up : List (List Nat)} {x y : Nat}
/-! ### the completion of a lattice -/
end
end GF

set_option Elab.async false
set_option linter.all false
set_option maxRecDepth 100000
set_option maxHeartbeats 1000000
namespace GD
open PySem PySem.Spec PyProof.Rows L2 GX GF
/-! ## 76. the reduced table's closed sets -/
section
variable {I : Nat → Nat → Bool} {a b : Nat}
end
section
variable {many : Nat} {rows : List (List Nat)}
end
end GD
namespace GF
open PySem PySem.Spec PyProof.Rows L2 GX GD PySem.W
/-! ### the turned table -/
section
variable {many : Nat} {rows : List (List Nat)} {x y z w : Nat}
/-! ### joins and meets of concepts -/
/-! ### how many are irreducible -/
end
end GF

set_option Elab.async false
set_option linter.all false
set_option maxRecDepth 100000
set_option maxHeartbeats 4000000
namespace GD
open PySem PySem.Spec PyProof.Rows L2 GX
/-! ## numbers and truth values, mixed: sorted(set(t)), z < k, xs[b] -/
def SetGO (P : Program) (w : World) (a : Addr) (L : List Value) (n : Nat) : HO := .ext fun h => SetG (mixK P w) h a L n
theorem setGO_new {w : World} {P : Program} {H : Hp} {h : Heap} {a : Addr} {L : List Value} {n : Nat} (R : SetG (mixK P w) h a L n) : ObjOk P w H h a (SetGO P w a L n) := by
  have ⟨o, _, _, _, ho, _⟩ := R
  exact ⟨R, ⟨o, ho⟩, fun h1 h2 p k => SetG.at p k⟩
def toVm : Value → V
  | .int n _ => .int n
  | .bool b => .bl b
  | _ => .non
def scV : V → Bool
  | .int _ => true
  | .bl _ => true
  | _ => false
def scD : D → Bool
  | .int _ => true
  | .bl _ => true
  | _ => false
def toDm : V → D
  | .int n => .int n
  | .bl b => .bl b
  | _ => .non
theorem scV_rel {v : V} {u : Value} (h : scV v = true) (r : RelV v u) : scM u = true ∧ toVm u = v := by
  cases v <;> first
    | exact absurd h Bool.false_ne_true
    | (obtain ⟨t, rfl⟩ := (show ∃ t, u = Value.int _ t from r); exact ⟨rfl, rfl⟩)
    | (cases (show u = Value.bool _ from r); exact ⟨rfl, rfl⟩)
theorem rel_toVm {u : Value} (h : scM u = true) : RelV (toVm u) u ∧ scV (toVm u) = true := by
  rcases scM_shape h with ⟨n, t, rfl⟩ | ⟨b, rfl⟩
  · exact ⟨⟨t, rfl⟩, rfl⟩
  · exact ⟨rfl, rfl⟩
theorem vals_toVm : ∀ {us : List Value}, (∀ u ∈ us, scM u = true) → Vals (us.map toVm) us
  | [], _ => .nil
  | u :: us, h => .cons (rel_toVm (h u List.mem_cons_self)).1 (vals_toVm fun x hx => h x (List.mem_cons_of_mem _ hx))
theorem vals_sc : ∀ {vs : List V} {us : List Value}, Vals vs us → (∀ v ∈ vs, scV v = true) → ∀ u ∈ us, scM u = true ∧ toVm u ∈ vs
  | _, _, .nil, _, u, hu => absurd hu (by simp)
  | _, _, .cons r rr, h, u, hu => by
    rcases List.mem_cons.mp hu with rfl | hu
    · obtain ⟨a, b⟩ := scV_rel (h _ List.mem_cons_self) r
      exact ⟨a, by rw [b]; exact List.mem_cons_self⟩
    · obtain ⟨a, b⟩ := vals_sc rr (fun v hv => h v (List.mem_cons_of_mem _ hv)) u hu
      exact ⟨a, List.mem_cons_of_mem _ b⟩
theorem mixK_is {P : Program} {w : World} {u : Value} (h : scM u = true) : u.scannable = true ∧ ∃ k, (mixK P w).is k u = true := by
  rcases scM_shape h with ⟨n, t, rfl⟩ | ⟨b, rfl⟩
  · exact ⟨rfl, n, beq_self_eq_true n⟩
  · exact ⟨rfl, PpSet.b2 b, beq_self_eq_true _⟩
section
variable {X : Cx} {w : Wd} {pos p : Pos} {a b : Expr} {ma mb : MP} {xa xb : XP}
theorem cr_setG (hc : X.calm = true) : CallR X (.type "set") (fun xs H Q => ∃ (p : Addr) (vs : List V), xs = [.ref p] ∧ SqT X.K H p vs ∧ (∀ v ∈ vs, scV v = true) ∧ vs.length ≤ 60 ∧ ∀ q L, H q = none → (∀ u ∈ L, scM u = true ∧ toVm u ∈ vs) → Q (.ref q) (upd H q (SetGO X.prog X.w q L vs.length))) := by
  intro pins s σ H xs us Q I r h
  obtain ⟨p0, vs, rfl, hq, hsc, hl, q⟩ := h
  cases r with
  | cons r rr =>
    cases rr
    cases r
    obtain ⟨its, rv, pt, hz⟩ := I.tuple hq
    have hd := I.ok.hd hc
    have all := vals_sc rv hsc
    have ln := rv.length
    have e2 : its.toArray.toList = its := by simp
    refine call_set_tupG (knd := mixK X.prog X.w) hd (show s.heap.IsTuple p0 its.toArray from pt) (by rw [List.size_toArray, ← ln]; unfold scanBound; omega) (fun v hv => mixK_is (all v (by rw [e2] at hv; exact hv)).1) fun h' tk R1 k => ?_
    have e3 : its.toArray.size = vs.length := by rw [List.size_toArray]; exact ln.symm
    have R2 : SetG (mixK X.prog X.w) h' s.heap.objs.size its vs.length := by rw [e2, e3] at R1; exact R1
    exact ⟨.ref s.heap.objs.size, upd H s.heap.objs.size (SetGO X.prog X.w s.heap.objs.size its vs.length), I.laid (t' := tk) k (Nat.le_refl _) (setGO_new R2), rfl, q _ its (I.hok.fresh (Nat.le_refl _)) all⟩
theorem cr_sortedG (hc : X.calm = true) : CallR X (.builtin "sorted") (fun xs H Q => ∃ (a : Addr) (L : List Value) (n : Nat), xs = [.ref a] ∧ H a = some (SetGO X.prog X.w a L n) ∧ (∀ u ∈ L, scM u = true) ∧ n ≤ 1000 ∧ ∀ (ws : List V) (p : Addr), ws.length ≤ n → (∀ v ∈ ws, ∃ u ∈ L, toVm u = v) → H p = none → Q (.ref p) (upd H p (.lst ws))) := by
  intro pins s σ H vs us Q I r h
  obtain ⟨a, L, n, rfl, ha, hL, h64, q⟩ := h
  have R : SetG (mixK X.prog X.w) s.heap a L n := (I.hok a _ ha).1
  rw [Vals.ref1 r]
  refine sorted_setG R hL (I.ok.hd hc) fun s' p out c k g o hp hg hn hm => ?_
  have hlen : (out.map toVm).length ≤ sizeLine := by rw [List.length_map, sizeLine_eq]; omega
  have hnone : H p = none := I.hok.fresh hp
  have J : Inv X pins σ (upd H p (.lst (out.map toVm))) { s with heap := s'.heap, gens := s'.gens, drawn := s'.drawn, toks := s'.toks } :=
    I.call (ch := []) (Un.laid k hp hnone) (I.hok.laid k hp ⟨hlen, out, c, vals_toVm fun u hu => hL u (hm u hu), hg⟩) (by rw [g]; exact I.bare) (fun _ z => nomatch z)
  have e : s' = { s with heap := s'.heap, gens := s'.gens, drawn := s'.drawn, toks := s'.toks } := by cases s'; cases s; cases o; rfl
  rw [e]
  exact ⟨.ref p, _, J, rfl, q _ p (by rw [List.length_map]; exact hn) (fun v hv => by obtain ⟨u, hu, e⟩ := List.mem_map.mp hv; exact ⟨u, hm u hu, e⟩) hnone⟩
theorem reps_sc {ι : List Addr} {H : Hp} : ∀ {vs : List V} {ds : List D}, Reps ι H vs ds → (∀ x ∈ ds, scD x = true) → ds = vs.map toDm ∧ ∀ v ∈ vs, scV v = true
  | _, _, .nil, _ => ⟨rfl, fun _ h => absurd h (by simp)⟩
  | _, _, .cons r rr, h => by
    obtain ⟨e, k⟩ := reps_sc rr fun x hx => h x (List.mem_cons_of_mem _ hx)
    have h0 := h _ List.mem_cons_self
    cases r <;> first
      | exact absurd h0 Bool.false_ne_true
      | exact ⟨by rw [e]; rfl, fun v hv => by rcases List.mem_cons.mp hv with rfl | hv <;> first | rfl | exact k v hv⟩
theorem reps_of_sc {ι : List Addr} {H : Hp} : ∀ (vs : List V), (∀ v ∈ vs, scV v = true) → Reps ι H vs (vs.map toDm)
  | [], _ => .nil
  | v :: vs, h => by
    have t := reps_of_sc (ι := ι) (H := H) vs fun x hx => h x (List.mem_cons_of_mem _ hx)
    have h0 := h v List.mem_cons_self
    cases v <;> first
      | exact absurd h0 Bool.false_ne_true
      | exact .cons (.int _) t
      | exact .cons (.bl _) t
def xSortSetM (m : XP) : XA := fun env st R => m env st fun d st1 => ∃ ds : List D, d = .tup ds ∧ ds.length ≤ 60 ∧ (∀ x ∈ ds, scD x = true) ∧ ∀ es : List D, es.length ≤ ds.length → (∀ x ∈ es, x ∈ ds) → R es st1
theorem dxl_sortSetM {e : Expr} {m : XP} {p1 p2 : Pos} (hc : X.calm = true) (hg : Gl X "sorted") (hm : X.mg "sorted" = none) (hg2 : Gl X "set") (hm2 : X.mg "set" = none) (ha : PE X e (tX w m)) (hs : starEach [e] X.env = (false, eval e X.env) :: starEach [] X.env := by rfl)
    (hs2 : starEach [.Call (.Name "set" p1) [e] [] p2] X.env = (false, eval (.Call (.Name "set" p1) [e] [] p2) X.env) :: starEach [] X.env := by rfl) :
    PE X (.Call (.Name "sorted" p) [.Call (.Name "set" p1) [e] [] p2] [] pos) (tXL w (xSortSetM m)) := by
  refine PE.mo (pe_callB (cr_sortedG hc) hg hm (by decide +kernel) (pa_cons (pe_callTy (cr_setG hc) hg2 hm2 (by decide +kernel) (pa_cons ha pa_nil hs) (he := hs)) pa_nil hs2) (he := hs2)) fun σ H Q ⟨ι, env, st, R, he, hst, hmm, q⟩ => ?_
  refine ⟨ι, env, st, _, he, hst, hmm, fun d st1 ι1 v H1 h1 g1 r1 s1 => ?_⟩
  obtain ⟨ds, rfl, hl, hsc, hR⟩ := h1
  cases r1 with
  | tup h2 l2 r2 =>
    rename_i pa vs
    obtain ⟨ed, hv⟩ := reps_sc r2 hsc
    subst ed
    rw [List.length_map] at hl
    refine ⟨_, _, rfl, sqt_of h2, hv, hl, fun qa L hq hL => ⟨qa, L, _, rfl, upd_same, fun u hu => (hL u hu).1, by omega, fun ws pp hwl hw hp4 => ?_⟩⟩
    have kp1 : Kp ι1 H1 (upd H1 qa (SetGO X.prog X.w qa L vs.length)) := Kp.new hq
    have s2 : SR w.s ι1 st1 (upd H1 qa (SetGO X.prog X.w qa L vs.length)) := s1.new hq (fun _ z => by unfold SetGO at z; cases z) (nin_of s1 hq)
    have gg : Gr ι H ι1 (upd (upd H1 qa (SetGO X.prog X.w qa L vs.length)) pp (.lst ws)) := g1.trans (.of (kp1.trans (Kp.new hp4)))
    have inv : ∀ v ∈ ws, v ∈ vs := fun v hv' => by obtain ⟨u, hu, e⟩ := hw v hv'; rw [← e]; exact (hL u hu).2
    refine q (ws.map toDm) st1 ι1 pp ws _ (hR _ (by rw [List.length_map, List.length_map]; exact hwl) fun x hx => ?_) gg upd_same ((g1.trans (.of kp1)).fresh s2 hp4) (nin_of s2 hp4) ?_ (reps_of_sc ws fun v hv' => hv v (inv v hv')) (s2.new hp4 (fun _ z => by cases z) (nin_of s2 hp4))
    · obtain ⟨v, hv', e⟩ := List.mem_map.mp hx
      exact List.mem_map.mpr ⟨v, inv v hv', e⟩
    · exact small_size (by rw [List.length_map]; omega)
/-! ### z < k -/
def fLtB : F2 := fun st x y => match x, y with
  | .bl b, .int j => some (.bl (decide (tvI b < j)))
  | _, _ => fLt st x y
def rLtB : R2 := fun x y H Q => ∃ b j, x = .bl b ∧ y = .int j ∧ Q (.bl (decide (tvI b < j))) H
theorem op_ltB : OpR X (compareOp .Lt) rLtB := by
  intro pins s σ H x y v u Q I rx ry h
  obtain ⟨b, j, rfl, rfl, q⟩ := h
  cases rx
  obtain ⟨t, rfl⟩ := ry
  exact rclt_bi b j t X.prog X.w _ _ ⟨.bl _, H, I, rfl, q⟩
theorem qLtB : OpP w fLtB (fun x y H Q => rI0 (fun i j => .bl (decide (i < j))) x y H Q ∨ rLtB x y H Q) := by
  intro ι st H x y dx dy d Q s rx ry hf q
  cases dx with
  | bl b =>
    cases dy with
    | int j =>
      cases rx; cases ry
      have e : some (D.bl (decide (tvI b < j))) = some d := hf
      cases e
      exact .inr ⟨b, j, rfl, rfl, q _ H (Kp.refl H) (.bl _) s⟩
    | _ => exact .inl (qLt ι st H x y _ _ d Q s rx ry hf q)
  | _ => exact .inl (qLt ι st H x y _ _ d Q s rx ry (by cases dy <;> exact hf) q)
theorem dt_ltB (ha : PE X a (tP w ma)) (hb : PE X b (tP w mb)) : PT X (.Compare a [.Lt] [b] pos) (tBo w (bV (mOp fLtB ma mb))) := dt_cmp (OpR.or2 op_lt op_ltB) qLtB ha hb (nomark _)
end
/-! ### xs[b] -/
section
variable {P : Program} {w : World} {A : Around} {E : Value → Shared → Prop} {s : Shared}
theorem subB {b : Bool} {Q : Option Int → Shared → Prop} (h : Q (some (tvI b)) s) : wpAny (model P w) A (Builtin.List.listSubscript? (.bool b)) Q E s := by
  unfold Builtin.List.listSubscript?; refine wpAny_bind (wpAny_specialOf (T := "bool") (typeIs_bool' s b) F.slot_bool_index.lookup ?_); show wpAny _ A (asIndex (.bool b) >>= _) _ _ _
  refine wpAny_bind (wpAny_of_eq (a := tvI b) rfl ?_); show wpAny _ _ (if (!Builtin.List.listFitsIndex (tvI b)) = true then _ else _) _ _ _
  rw [if_neg (by cases b <;> decide)]; exact wpAny_pure h
theorem getB {l : Addr} {items : Array Value} {b : Bool} {x : Value} {Q : Value → Shared → Prop} (hl : s.heap.IsList l items) (hx : items[(tvI b).toNat]? = some x) (h : Q x s) : wpAny (model P w) A (getItem (.ref l) (.bool b)) Q E s := by
  have hl2 := hl; obtain ⟨o, at1, cls1, ne, data1⟩ := hl2; unfold getItem; (try with_reducible refine wpAny_holding ?_); (first | refine wpAny_bind (wpAny_pure ?_) | skip)
  refine wpAny_bind (wpAny_sequenceKey hl.typeIs (by decide) (wpAny_bind (wpAny_callSpecial?_slot (name := Str.ofString "__getitem__") hl.typeIs slot_list_getitem (wpAny_call_entry slot_list_getitem hl.typeIs entry_list_getitem ?_ (args_list_getitem _ _)))))
  show wpAny _ _ (Builtin.List.listSubscript? (.bool b) >>= fun k => _) _ _ _; refine wpAny_bind (subB ?_)
  cases b
  · have hx0 : items[0]? = some x := hx
    show wpAny _ _ ((seqItemAt l 0 >>= fun r => pure (r.map (0, ·))) >>= _) _ _ _; refine wpAny_bind (wpAny_bind (wpAny_seqItemAt at1 data1 (wpAny_pure ?_))); rw [hx0]; first | exact wpAny_bind (wpAny_pure (wpAny_pure ⟨x, rfl, wpAny_pure h⟩)) | exact wpAny_pure ⟨x, rfl, wpAny_pure h⟩
  · have hx1 : items[1]? = some x := hx
    show wpAny _ _ ((seqItemAt l 1 >>= fun r => pure (r.map (1, ·))) >>= _) _ _ _; refine wpAny_bind (wpAny_bind (wpAny_seqItemAt at1 data1 (wpAny_pure ?_))); rw [hx1]; first | exact wpAny_bind (wpAny_pure (wpAny_pure ⟨x, rfl, wpAny_pure h⟩)) | exact wpAny_pure ⟨x, rfl, wpAny_pure h⟩
end
section
variable {X : Cx} {w : Wd} {pos p : Pos} {a b : Expr} {ma mb : MP} {xa xb : XP}
def rIxB (K : PySem.W.Frag) : R2 := fun x y H Q => ∃ (p : Addr) (xs : List V) (b : Bool) (v : V), x = .ref p ∧ y = .bl b ∧ SqL K H p xs ∧ xs[(tvI b).toNat]? = some v ∧ Q v H
theorem ix_listB : IxR X (rIxB X.K) := by
  intro value slice pins s σ H x y v u Q I rx ry h hs
  obtain ⟨p, xs, b, z, rfl, rfl, hq, he, q⟩ := h
  cases rx; cases ry
  obtain ⟨its, r, pl, hz⟩ := I.list hq
  obtain ⟨w, ew, rw'⟩ := r.get he
  exact subscriptTail_builtinR (x := w) pl.isList.typeIs slot_list_getitem.lookup (getB (Q := fun r s' => r = w ∧ EP X pins σ Q r s') pl.isList (by simpa using ew) ⟨rfl, z, H, I, rw', q⟩) hs
def fIxB : F2 := fun st x y => match y with
  | .bl b => (match x with | .ref n => (match st[n]? with | some (.lst ds) => ds[(tvI b).toNat]? | _ => none) | _ => none)
  | _ => fIx st x y
theorem qIxB {K : PySem.W.Frag} : OpP w fIxB (fun x y H Q => rIx K x y H Q ∨ rIxB K x y H Q) := by
  intro ι st H x y dx dy d Q s rx ry hf q
  cases dy with
  | bl b =>
    cases dx with
    | ref n =>
      have hf : (match st[n]? with | some (.lst ds) => ds[(tvI b).toNat]? | _ => none) = some d := hf
      cases e : st[n]? with
      | none => rw [e] at hf; cases hf
      | some c =>
        rw [e] at hf
        cases c with
        | lst ds =>
          have hf : ds[(tvI b).toNat]? = some d := hf
          cases rx with
          | ref hn =>
            rename_i pa
            obtain ⟨vs, hv, hlv, rs⟩ := s.cell n pa _ hn e
            obtain ⟨v, e1, r1⟩ := rs.get' hf
            cases ry
            exact .inr ⟨pa, vs, b, v, rfl, rfl, sql_of hv, e1, q _ H (Kp.refl H) r1 s⟩
        | _ => cases hf
    | _ => cases hf
  | _ => exact .inl (qIx ι st H x y _ _ d Q s rx ry hf q)
theorem dx_ixB (ha : PE X a (tX w xa)) (hb : PE X b (tX w xb)) (hs : PlainIx b := by intro _ _; rfl) : PE X (.Subscript a b pos) (tX w (xOp fIxB xa xb)) := PE.mo (pe_ix (ix_seq.or ix_listB) ha hb hs) (xop_read qIxB)
end
end GD

set_option Elab.async false
set_option linter.all false
set_option maxRecDepth 100000
set_option maxHeartbeats 4000000
namespace GF
open PySem PySem.Spec PyProof.Rows L2 GX GD
/-! ## 70. spoilt orders: what the law's question for orders tells of any of them -/
/-- what may stand in a row -/
def sc1 : D → Bool
  | .bl _ => true
  | .int i => decide (-1 ≤ i)
  | _ => false
theorem sc1_shape {d : D} (h : sc1 d = true) : (∃ b, d = .bl b) ∨ ∃ i : Int, d = .int i ∧ -1 ≤ i := by
  cases d <;> first | exact .inl ⟨_, rfl⟩ | exact .inr ⟨_, rfl, of_decide_eq_true h⟩ | exact absurd h Bool.false_ne_true
theorem sc1_atom {d : D} (h : sc1 d = true) : isAtom d = true := by
  rcases sc1_shape h with ⟨b, rfl⟩ | ⟨i, rfl, _⟩ <;> rfl
/-- a row: a tuple, or a list that is not the box b -/
def RowOk (n b : Nat) (st : SS) (r : D) : Prop := ∃ es : List D, es.length ≤ n ∧ (∀ e ∈ es, sc1 e = true) ∧ (r = .tup es ∨ ∃ k, r = .ref k ∧ k ≠ b ∧ st[k]? = some (.lst es))
def oddVals : List D := [.non, .tup [], .tup [.str ("order" : Str), .int 1, .tup []], .int 7]
def ValOk (n b : Nat) (st : SS) (d : D) : Prop := d ∈ oddVals ∨ ∃ (k : Str) (rows : List D), (k = ("order" : Str) ∨ k = ("lattice" : Str)) ∧ d = .tup [.str k, nI rows.length, .tup rows] ∧ rows.length ≤ n ∧ ∀ r ∈ rows, RowOk n b st r
open Classical in
noncomputable def isoB (k : Str) (d : D) : Bool := decide (∃ up, d = ordD k up ∧ OrdU up)
theorem isoB_of {k : Str} {up : List (List Nat)} (O : OrdU up) : isoB k (ordD k up) = true := by classical exact decide_eq_true ⟨up, rfl, O⟩
theorem isoB_f {k : Str} {d : D} (h : ¬ ∃ up, d = ordD k up ∧ OrdU up) : isoB k d = false := by classical exact decide_eq_false h
def ModelSet (n : Nat) (es : List D) : Prop := ∃ ks : List Nat, es = ks.map nI ∧ ks.Pairwise (· < ·) ∧ ∀ x ∈ ks, x < n
theorem nI_injE {a b : Nat} (h : nI a = nI b) : a = b := by
  unfold nI at h
  injection h with h
  omega
theorem mapN_inj : ∀ {a b : List Nat}, a.map nI = b.map nI → a = b
  | [], [], _ => rfl
  | [], _ :: _, h => by simp at h
  | _ :: _, [], h => by simp at h
  | x :: a, y :: b, h => by
    rw [List.map_cons, List.map_cons] at h
    injection h with h1 h2
    rw [nI_injE h1, mapN_inj h2]
theorem rgo_nx {t : MT} {r : RS} {st : SS} {a : D} {l : List D} {env e1 e2 : EV} (h1 : t a env = some e1) (h2 : r e1 st = some (.nx e2)) : rForGo t r st (a :: l) env = rForGo t r st l e2 := by
  have step : rForGo t r st (a :: l) env = (match r e1 st with | some (.nx e) => rForGo t r st l e | some (.ct e) => rForGo t r st l e | some (.bk e) => some (.nx e) | some (.rt d) => some (.rt d) | none => none) := by
    rw [rForGo, h1] <;> rfl
  rw [step, h2]
theorem rgo_rt {t : MT} {r : RS} {st : SS} {a d : D} {l : List D} {env e1 : EV} (h1 : t a env = some e1) (h2 : r e1 st = some (.rt d)) : rForGo t r st (a :: l) env = some (.rt d) := by
  have step : rForGo t r st (a :: l) env = (match r e1 st with | some (.nx e) => rForGo t r st l e | some (.ct e) => rForGo t r st l e | some (.bk e) => some (.nx e) | some (.rt d) => some (.rt d) | none => none) := by
    rw [rForGo, h1] <;> rfl
  rw [step, h2]
theorem num_cond {st : SS} {e : D} {n : Nat} {m ml : MP} {env : EV} (h : isAtom e = true) (v4 : m env st = some e) (hl : ml env st = some (nI n)) :
    bOr (bNot (bV (mF1 (fIs "int") m))) (bOr (bV (mF1 (fIs "bool") m)) (bNot (bV (mChain fLe fLt (mC (.int 0)) m ml)))) env st = some (!(numOf n e).isSome) := by
  cases e with
  | int i =>
    refine (bOr_e (x := false) (y := !decide (0 ≤ i ∧ i < (n : Int))) (bNot_e (b := true) (bV_e ((mF1_e v4).trans (q_int st i)))) (bOr_e (x := false) (bV_e ((mF1_e v4).trans (q_bool st i))) (bNot_e (bV_e (chain_e v4 hl))))).trans ?_
    show some (false || (false || !decide (0 ≤ i ∧ i < (n : Int)))) = some (!(if 0 ≤ i ∧ i < (n : Int) then some i.toNat else none).isSome)
    by_cases h : 0 ≤ i ∧ i < (n : Int)
    · rw [if_pos h, decide_eq_true h]; rfl
    · rw [if_neg h, decide_eq_false h]; rfl
  | bl b =>
    unfold bOr
    rw [bNot_e (b := true) (bV_e ((mF1_e v4).trans (q_intb st b)))]
    show (match bV (mF1 (fIs "bool") m) env st with | some true => some true | some false => _ | none => none) = _
    rw [bV_e ((mF1_e v4).trans (q_boolb st b))]
    rfl
  | str x =>
    unfold bOr
    rw [bNot_e (b := false) (bV_e ((mF1_e v4).trans (q_ints st x)))]
    rfl
  | non =>
    unfold bOr
    rw [bNot_e (b := false) (bV_e ((mF1_e v4).trans (q_intn st)))]
    rfl
  | tup l => cases h
  | ref n => cases h
theorem get_id {st : SS} {es : List D} {i : Nat} {e : D} (h : es[i]? = some e) : fIx st (.tup es) (nI i) = some e := by
  have := fIx_map st (fun d : D => d) es i h
  rw [List.map_id'] at this
  exact this
abbrev loBody : RS := (rSeq (rIf (bOr (bNot (bV (mF1 (fIs "int") (mOp fIx (mVar 3) (mVar 4))))) (bOr (bV (mF1 (fIs "bool") (mOp fIx (mVar 3) (mVar 4)))) (bNot (bV (mChain fLe fLt (mC (.int 0)) (mOp fIx (mVar 3) (mVar 4)) (mOp fIx (mVar 0) (mC (.int 1)))))))) (rRet (mC (.bl false))) rNext) (rIf (bAnd (bV (mOp fGt (mVar 4) (mC (.int 0)))) (bV (mOp fLe (mOp fIx (mVar 3) (mVar 4)) (mOp fIx (mVar 3) (mOp fSub (mVar 4) (mC (.int 1))))))) (rRet (mC (.bl false))) rNext))
theorem model_take {n i a : Nat} {es : List D} (h : ModelSet n es) (h1 : es[i]? = some (nI a)) : a < n ∧ ∀ b, 0 < i → es[i - 1]? = some (nI b) → b < a := by
  obtain ⟨ks, rfl, p, l⟩ := h
  rw [List.getElem?_map] at h1
  cases e1 : ks[i]? with
  | none => rw [e1] at h1; cases h1
  | some c =>
    rw [e1] at h1
    have h1 : some (nI c) = some (nI a) := h1
    injection h1 with h1
    have ec := nI_injE h1
    subst ec
    obtain ⟨hi, e2⟩ := List.getElem?_eq_some_iff.mp e1
    refine ⟨by rw [← e2]; exact l _ (List.getElem_mem hi), fun b h0 hb => ?_⟩
    rw [List.getElem?_map] at hb
    cases e3 : ks[i - 1]? with
    | none => rw [e3] at hb; cases hb
    | some c' =>
      rw [e3] at hb
      have hb : some (nI c') = some (nI b) := hb
      injection hb with hb
      have ec := nI_injE hb
      subst ec
      obtain ⟨hi', e4⟩ := List.getElem?_eq_some_iff.mp e3
      have := List.pairwise_iff_getElem.mp p (i - 1) i hi' hi (by omega)
      rw [e2, e4] at this
      exact this
theorem inner_go {d w : D} {x n : Nat} {es : List D} {st : SS} (hd : ∀ y : Option D, mOp fIx (mVar 0) (mC (.int 1)) [some d, some w, some (nI x), some (.tup es), y, none] st = some (nI n)) (hsc : ∀ e ∈ es, sc1 e = true) :
    ∀ (m i : Nat) (x4 : Option D), i + m = es.length → (∃ ks : List Nat, es.take i = ks.map nI ∧ ks.Pairwise (· < ·) ∧ ∀ x ∈ ks, x < n) →
      ((∃ y4, rForGo (tgN 4) loBody st ((List.range' i m).map nI) [some d, some w, some (nI x), some (.tup es), x4, none] = some (.nx [some d, some w, some (nI x), some (.tup es), y4, none])) ∧ ModelSet n es) ∨
      (rForGo (tgN 4) loBody st ((List.range' i m).map nI) [some d, some w, some (nI x), some (.tup es), x4, none] = some (.rt (.bl false)) ∧ ¬ ModelSet n es)
  | 0, i, x4, h, ⟨ks, e1, e2, e3⟩ => .inl ⟨⟨x4, rfl⟩, ks, by rw [← e1, List.take_of_length_le (by omega)], e2, e3⟩
  | m + 1, i, x4, h, ⟨ks, e1, e2, e3⟩ => by
    have hi : i < es.length := by omega
    have el : es[i]? = some es[i] := List.getElem?_eq_getElem hi
    have sc := hsc _ (List.getElem_mem hi)
    have g3 : mOp fIx (mVar 3) (mVar 4) [some d, some w, some (nI x), some (.tup es), some (nI i), none] st = some es[i] := (mOp_e rfl rfl).trans (get_id el)
    have c1 := num_cond (sc1_atom sc) g3 (hd (some (nI i)))
    have lk : ks.length = i := by
      have := congrArg List.length e1
      rw [List.length_take, List.length_map] at this
      omega
    rw [List.range'_succ, List.map_cons]
    cases hn : numOf n es[i] with
    | none =>
      rw [hn] at c1
      refine .inr ⟨rgo_rt rfl (rSeq_rt ((rIf_t c1).trans (rRet_e rfl))), fun ⟨ks', q1, q2, q3⟩ => ?_⟩
      have q4 : es[i]? = (ks'[i]?).map nI := by rw [q1, List.getElem?_map]
      rw [el] at q4
      cases e5 : ks'[i]? with
      | none => rw [e5] at q4; cases q4
      | some c =>
        rw [e5] at q4
        have q4 : some es[i] = some (nI c) := q4
        injection q4 with q4
        obtain ⟨hc, e6⟩ := List.getElem?_eq_some_iff.mp e5
        have := q3 c (by rw [← e6]; exact List.getElem_mem hc)
        have z := numOf_nat n c
        rw [← q4, hn, decide_eq_true this] at z
        cases z
    | some a =>
      rw [hn] at c1
      obtain ⟨ea, la⟩ := numOf_some hn
      have ela : es[i]? = some (nI a) := by rw [el, ea]
      have g3 : mOp fIx (mVar 3) (mVar 4) [some d, some w, some (nI x), some (.tup es), some (nI i), none] st = some (nI a) := g3.trans (by rw [ea])
      have cg := bV_e ((mOp_e (a := mVar 4) (b := mC (.int 0)) (env := [some d, some w, some (nI x), some (.tup es), some (nI i), none]) (st := st) rfl rfl).trans (fGt0 st i))
      have next : (∀ b, ks.getLast? = some b → b < a) → ∃ ks' : List Nat, es.take (i + 1) = ks'.map nI ∧ ks'.Pairwise (· < ·) ∧ ∀ x ∈ ks', x < n := by
        intro hb
        refine ⟨ks ++ [a], by rw [List.take_add_one, ela, e1, List.map_append]; rfl, List.pairwise_append.mpr ⟨e2, List.pairwise_singleton _ _, fun u hu v hv => ?_⟩, fun u hu => ?_⟩
        · rw [List.mem_singleton.mp hv]
          cases q : ks.getLast? with
          | none => rw [List.getLast?_eq_none_iff.mp q] at hu; cases hu
          | some b =>
            have hba := hb b q
            obtain ⟨ks0, rfl⟩ := List.getLast?_eq_some_iff.mp q
            rcases List.mem_append.mp hu with hu | hu
            · exact Nat.lt_trans ((List.pairwise_append.mp e2).2.2 u hu b (List.mem_singleton.mpr rfl)) hba
            · rw [List.mem_singleton.mp hu]; exact hba
        · rcases List.mem_append.mp hu with hu | hu
          · exact e3 u hu
          · rw [List.mem_singleton.mp hu]; exact la
      have pass : ∀ (c2 : bAnd (bV (mOp fGt (mVar 4) (mC (.int 0)))) (bV (mOp fLe (mOp fIx (mVar 3) (mVar 4)) (mOp fIx (mVar 3) (mOp fSub (mVar 4) (mC (.int 1)))))) [some d, some w, some (nI x), some (.tup es), some (nI i), none] st = some false), loBody [some d, some w, some (nI x), some (.tup es), some (nI i), none] st = some (.nx [some d, some w, some (nI x), some (.tup es), some (nI i), none]) := fun c2 => (rSeq_nx ((rIf_f c1).trans rfl)).trans ((rIf_f c2).trans rfl)
      by_cases h0 : 0 < i
      · rw [decide_eq_true h0] at cg
        have sb : mOp fSub (mVar 4) (mC (.int 1)) [some d, some w, some (nI x), some (.tup es), some (nI i), none] st = some (nI (i - 1)) := by
          show some (D.int ((i : Int) - 1)) = some (D.int ((i - 1 : Nat) : Int))
          congr 2
          omega
        obtain ⟨b, hb⟩ : ∃ b, ks[i - 1]? = some b := ⟨_, List.getElem?_eq_getElem (by omega)⟩
        have eb : es[i - 1]? = some (nI b) := by
          have q : (es.take i)[i - 1]? = (ks[i - 1]?).map nI := by rw [e1, List.getElem?_map]
          rw [List.getElem?_take_of_lt (by omega), hb] at q
          exact q
        have c2 : bAnd (bV (mOp fGt (mVar 4) (mC (.int 0)))) (bV (mOp fLe (mOp fIx (mVar 3) (mVar 4)) (mOp fIx (mVar 3) (mOp fSub (mVar 4) (mC (.int 1)))))) [some d, some w, some (nI x), some (.tup es), some (nI i), none] st = some (decide (a ≤ b)) := by
          rw [bAnd_t cg]
          exact bV_e ((mOp_e g3 ((mOp_e rfl sb).trans (get_id eb))).trans (fLe_nI _ _ _))
        by_cases hab : a ≤ b
        · rw [decide_eq_true hab] at c2
          refine .inr ⟨rgo_rt rfl ((rSeq_nx ((rIf_f c1).trans rfl)).trans ((rIf_t c2).trans (rRet_e rfl))), fun M => ?_⟩
          have := (model_take M ela).2 b h0 eb
          omega
        · rw [decide_eq_false hab] at c2
          have lst : ks.getLast? = some b := by rw [List.getLast?_eq_getElem?, lk]; exact hb
          have := inner_go hd hsc m (i + 1) (some (nI i)) (by omega) (next fun b' hb' => by rw [lst] at hb'; injection hb' with e; omega)
          rw [rgo_nx (t := tgN 4) (r := loBody) (st := st) (a := nI i) (env := [some d, some w, some (nI x), some (.tup es), x4, none]) rfl (pass c2)]
          exact this
      · rw [decide_eq_false h0] at cg
        have this := inner_go hd hsc m (i + 1) (some (nI i)) (by omega) (next fun b hb => by
          have : ks = [] := List.eq_nil_of_length_eq_zero (by omega)
          rw [this] at hb; cases hb)
        rw [rgo_nx (t := tgN 4) (r := loBody) (st := st) (a := nI i) (env := [some d, some w, some (nI x), some (.tup es), x4, none]) rfl (pass (bAnd_f cg))]
        exact this
end GF

set_option Elab.async false
set_option linter.all false
set_option maxRecDepth 100000
set_option maxHeartbeats 4000000
namespace GF
open PySem PySem.Spec PyProof.Rows L2 GX GD
/-! ## 71. the law's question for orders, asked of any value -/
section
variable {st : SS} {env : EV} {k k0 : Str} {d a b : D} {rest : MB}
abbrev hd1 : MB := bNot (bV (mF1 (fIs "tuple") (mVar 0)))
abbrev hd2 : MB := bV (mOp fNe (mF1 fLen (mVar 0)) (mC (.int 3)))
abbrev hd3 : MB := bV (mOp fNe (mOp fIx (mVar 0) (mC (.int 0))) (mVar 1))
theorem fNe_str (hk : D.good (.str k) = true) (hk0 : D.good (.str k0) = true) : fNe st (.str k) (.str k0) = some (.bl (!(k == k0))) := by
  show (if D.good (.str k) = true ∧ D.good (.str k0) = true then some (D.bl (!PyData.eqv (.str k) (.str k0))) else none) = _
  rw [if_pos ⟨hk, hk0⟩]
  unfold PyData.eqv
  rfl
theorem head3 (h0 : mVar 0 env st = some (.tup [.str k, a, b])) (h1 : mVar 1 env st = some (.str k0)) (hk : D.good (.str k) = true) (hk0 : D.good (.str k0) = true) (e : k = k0) : bOr hd1 (bOr hd2 (bOr hd3 rest)) env st = rest env st := by
  rw [bOr_f (bNot_e (b := true) (bV_e ((mF1_e h0).trans (q_tupt st _)))), bOr_f (bV_e ((mOp_e (x := .int 3) ((mF1_e h0).trans rfl) rfl).trans rfl)), bOr_f]
  refine (bV_e ((mOp_e (x := .str k) ((mOp_e h0 rfl).trans rfl) h1).trans (fNe_str hk hk0))).trans ?_
  rw [e, beq_self_eq_true]
  rfl
theorem head3n (h0 : mVar 0 env st = some (.tup [.str k, a, b])) (h1 : mVar 1 env st = some (.str k0)) (hk : D.good (.str k) = true) (hk0 : D.good (.str k0) = true) (e : k ≠ k0) : bOr hd1 (bOr hd2 (bOr hd3 rest)) env st = some true := by
  rw [bOr_f (bNot_e (b := true) (bV_e ((mF1_e h0).trans (q_tupt st _)))), bOr_f (bV_e ((mOp_e (x := .int 3) ((mF1_e h0).trans rfl) rfl).trans rfl)), bOr_t]
  refine (bV_e ((mOp_e (x := .str k) ((mOp_e h0 rfl).trans rfl) h1).trans (fNe_str hk hk0))).trans ?_
  rw [beq_eq_false_iff_ne.mpr e]
  rfl
theorem head_not (h0 : mVar 0 env st = some d) (q : fIs "tuple" st d = some (.bl false)) : bOr hd1 rest env st = some true := bOr_t (bNot_e (b := false) (bV_e ((mF1_e h0).trans q)))
theorem head_len (h0 : mVar 0 env st = some (.tup [])) : bOr hd1 (bOr hd2 rest) env st = some true := by
  rw [bOr_f (bNot_e (b := true) (bV_e ((mF1_e h0).trans (q_tupt st _))))]
  exact bOr_t (bV_e ((mOp_e (x := .int 0) ((mF1_e h0).trans rfl) rfl).trans rfl))
end
theorem good_ord : D.good (.str ("order" : Str)) = true := by decide +kernel
theorem good_lat : D.good (.str ("lattice" : Str)) = true := by decide +kernel
theorem good_word {k : Str} (h : k = ("order" : Str) ∨ k = ("lattice" : Str)) : D.good (.str k) = true := by rcases h with rfl | rfl; exact good_ord; exact good_lat
theorem lay_sc : ∀ {es : List D}, (∀ e ∈ es, sc1 e = true) → D.imms es = true ∧ PyData.canLayAll0 (D.pys es) = true ∧ PyData.depthAll (D.pys es) ≤ 1
  | [], _ => by
    refine ⟨rfl, rfl, ?_⟩
    unfold D.pys PyData.depthAll
    decide
  | e :: es, h => by
    obtain ⟨q1, q2, q3⟩ := lay_sc fun x hx => h x (List.mem_cons_of_mem _ hx)
    rcases sc1_shape (h e List.mem_cons_self) with ⟨b, rfl⟩ | ⟨i, rfl, _⟩
    · refine ⟨by rw [D.imms, q1]; rfl, by rw [D.pys, PyData.canLayAll0, q2]; rfl, ?_⟩
      rw [D.pys, PyData.depthAll]
      have e : PyData.depth (D.py (.bl b)) ≤ 1 := by unfold D.py PyData.depth; decide
      omega
    · refine ⟨by rw [D.imms, q1]; rfl, by rw [D.pys, PyData.canLayAll0, q2]; rfl, ?_⟩
      rw [D.pys, PyData.depthAll]
      have e : PyData.depth (D.py (.int i)) ≤ 1 := by unfold D.py PyData.depth; decide
      omega
theorem good_sc {es : List D} (h : ∀ e ∈ es, sc1 e = true) : D.good (.tup es) = true := by
  obtain ⟨q1, q2, q3⟩ := lay_sc h
  unfold D.good D.imm D.py SeqAt.shaped
  rw [q1, Bool.true_and, Bool.and_eq_true]
  refine ⟨?_, decide_eq_true ?_⟩
  · unfold PyData.canLay0; exact q2
  · unfold PyData.depth
    omega
theorem fNotIn_sc {st : SS} {x : Nat} {es : List D} (h : ∀ e ∈ es, sc1 e = true) : fNotIn st (nI x) (.tup es) = some (.bl (!inD (nI x) es)) := by
  show (if D.good (nI x) = true ∧ D.good (.tup es) = true then some (D.bl (!inD (nI x) es)) else none) = _
  rw [if_pos ⟨good_nI x, good_sc h⟩]
theorem model_dN {n : Nat} {es : List D} (h : ModelSet n es) : ∃ ks : List Nat, D.tup es = dN ks ∧ ks.Pairwise (· < ·) ∧ ∀ x ∈ ks, x < n := by
  obtain ⟨ks, e, h1, h2⟩ := h
  exact ⟨ks, by rw [e]; rfl, h1, h2⟩
theorem rows_model {n : Nat} : ∀ {rows : List D}, (∀ r ∈ rows, ∃ es, r = .tup es ∧ ModelSet n es) → ∃ up : List (List Nat), rows = up.map dN ∧ ∀ r ∈ up, r.Pairwise (· < ·) ∧ ∀ x ∈ r, x < n
  | [], _ => ⟨[], rfl, fun _ h => by cases h⟩
  | r :: rows, h => by
    obtain ⟨up, e, q⟩ := rows_model fun x hx => h x (List.mem_cons_of_mem _ hx)
    obtain ⟨es, rfl, M⟩ := h r List.mem_cons_self
    obtain ⟨ks, e1, h1, h2⟩ := model_dN M
    refine ⟨ks :: up, by rw [List.map_cons, ← e, e1], fun r hr => ?_⟩
    rcases List.mem_cons.mp hr with rfl | hr
    · exact ⟨h1, h2⟩
    · exact q r hr
theorem ordU_of {up : List (List Nat)} (h1 : ∀ r ∈ up, r.Pairwise (· < ·) ∧ ∀ x ∈ r, x < up.length) (h2 : ∀ x, x < up.length → x ∈ up.getD x []) (h3 : ∀ x, x < up.length → ∀ y ∈ up.getD x [], isPart (up.getD y []) (up.getD x []) = true ∧ (x ≠ y → x ∉ up.getD y [])) : OrdU up := by
  have lt : ∀ {x y : Nat}, y ∈ up.getD x [] → x < up.length := fun {x y} h => by
    rcases Nat.lt_or_ge x up.length with q | q
    · exact q
    · rw [List.getD_eq_getElem?_getD, List.getElem?_eq_none q] at h; cases h
  refine ⟨fun r hr => (h1 r hr).2, fun r hr => (h1 r hr).1, h2, fun x y a b => ?_, fun x y z a b => isPart_iff.mp (h3 x (lt a) y a).1 z b⟩
  rcases Classical.em (x = y) with e | e
  · exact e
  · exact absurd b ((h3 x (lt a) y a).2 e)
theorem val_len {n b : Nat} {st : SS} {k : Str} {up : List (List Nat)} (V : ValOk n b st (ordD k up)) (hn : 1 ≤ n) : up.length ≤ n := by
  unfold ordD at V
  rcases V with V | ⟨k', rows, _, e, hl, _⟩
  · rcases List.mem_cons.mp V with e | V
    · cases e
    rcases List.mem_cons.mp V with e | V
    · cases e
    rcases List.mem_cons.mp V with e | V
    · injection e with e; injection e with _ e; injection e with e _
      have : up.length = 1 := nI_injE (b := 1) e
      omega
    · rcases List.mem_cons.mp V with e | V
      · cases e
      · cases V
  · injection e with e; injection e with _ e; injection e with e e2; injection e2 with e2 _; injection e2 with e2
    rw [← e2, List.length_map] at hl
    exact hl
end GF

set_option Elab.async false
set_option linter.all false
set_option maxRecDepth 100000
set_option maxHeartbeats 4000000
namespace GF
open PySem PySem.Spec PyProof.Rows L2 GX GD
/-! ## 72. the law's question for orders, asked of any value (2) -/
section
variable {st : SS} {env : EV} {k k0 : Str} {d a b : D}
def GoodAt (rows : List D) (x : Nat) : Prop := ∃ es, rows[x]? = some (.tup es) ∧ ModelSet rows.length es ∧ nI x ∈ es
theorem in_model {n x : Nat} {es : List D} (h : ModelSet n es) : inD (nI x) es = true ↔ nI x ∈ es := by
  obtain ⟨ks, rfl, _⟩ := h
  rw [inD_nI, List.contains_iff_mem]
  exact ⟨fun h => List.mem_map.mpr ⟨x, h, rfl⟩, fun h => by obtain ⟨y, hy, e⟩ := List.mem_map.mp h; rw [← nI_injE e]; exact hy⟩
abbrev loRow : RS := (rSeq (rAsg (mOp fIx (mOp fIx (mVar 0) (mC (.int 2))) (mVar 2)) (tgN 3)) (rSeq (rIf (bOr (bNot (bV (mF1 (fIs "tuple") (mVar 3)))) (bV (mOp fNotIn (mVar 2) (mVar 3)))) (rRet (mC (.bl false))) rNext) (rFor (iRng (mF1 fLen (mVar 3))) (tgN 4) loBody)))
theorem lo_row {n bx x : Nat} {rows : List D} {w : D} {x3 x4 : Option D} (hn : n ≤ 1000) (hr : ∀ r ∈ rows, RowOk n bx st r) (hx : x < rows.length) (e : d = .tup [a, nI rows.length, .tup rows]) :
    (GoodAt rows x ∧ ∃ y3 y4, loRow [some d, some w, some (nI x), x3, x4, none] st = some (.nx [some d, some w, some (nI x), y3, y4, none])) ∨ (¬ GoodAt rows x ∧ loRow [some d, some w, some (nI x), x3, x4, none] st = some (.rt (.bl false))) := by
  subst e
  have ex : rows[x]? = some rows[x] := List.getElem?_eq_getElem hx
  obtain ⟨es, hl, hsc, h⟩ := hr _ (List.getElem_mem hx)
  have s1 := rAsg_e (m := mOp fIx (mOp fIx (mVar 0) (mC (.int 2))) (mVar 2)) (t := tgN 3) (st := st) (env := [some (.tup [a, nI rows.length, .tup rows]), some w, some (nI x), x3, x4, none]) (e1 := [some (.tup [a, nI rows.length, .tup rows]), some w, some (nI x), some rows[x], x4, none]) ((mOp_e ((mOp_e (y := .int 2) rfl rfl).trans (show fIx st (D.tup [a, nI rows.length, .tup rows]) (.int 2) = some (.tup rows) from rfl)) rfl).trans (get_id ex)) rfl
  rcases h with h | ⟨k, h, _, hc⟩
  · rw [h] at s1 ex
    have t0 := bNot_e (b := true) (bV_e ((mF1_e (m := mVar 3) (env := [some (.tup [a, nI rows.length, .tup rows]), some w, some (nI x), some (.tup es), x4, none]) (st := st) rfl).trans (q_tupt st es)))
    have t1 := bV_e ((mOp_e (a := mVar 2) (b := mVar 3) (env := [some (.tup [a, nI rows.length, .tup rows]), some w, some (nI x), some (.tup es), x4, none]) (st := st) rfl rfl).trans (fNotIn_sc (x := x) hsc))
    cases hin : inD (nI x) es with
    | false =>
      rw [hin] at t1
      refine .inr ⟨fun ⟨es', e1, M, hm⟩ => ?_, (rSeq_nx s1).trans (rSeq_rt ((rIf_t ((bOr_f t0).trans t1)).trans (rRet_e rfl)))⟩
      rw [ex] at e1
      injection e1 with e1; injection e1 with e1
      subst e1
      rw [(in_model M).mpr hm] at hin
      cases hin
    | true =>
      rw [hin] at t1
      have r1 : iRng (mF1 fLen (mVar 3)) [some (.tup [a, nI rows.length, .tup rows]), some w, some (nI x), some (.tup es), x4, none] st = some ((List.range es.length).map nI, none) := iRng_nat (n := es.length) ((mF1_e rfl).trans rfl) (by omega)
      have g := inner_go (d := .tup [a, nI rows.length, .tup rows]) (w := w) (x := x) (n := rows.length) (es := es) (st := st) (fun y => (mOp_e (y := .int 1) rfl rfl).trans rfl) hsc es.length 0 x4 (by omega) ⟨[], by simp, List.Pairwise.nil, fun _ h => by cases h⟩
      rw [← List.range_eq_range'] at g
      rcases g with ⟨⟨y4, g⟩, M⟩ | ⟨g, M⟩
      · exact .inl ⟨⟨es, ex, M, (in_model M).mp hin⟩, _, y4, (rSeq_nx s1).trans ((rSeq_nx ((rIf_f ((bOr_f t0).trans t1)).trans rfl)).trans ((rFor_e r1).trans g))⟩
      · refine .inr ⟨fun ⟨es', e1, M', hm⟩ => ?_, (rSeq_nx s1).trans ((rSeq_nx ((rIf_f ((bOr_f t0).trans t1)).trans rfl)).trans ((rFor_e r1).trans g))⟩
        rw [ex] at e1
        injection e1 with e1; injection e1 with e1
        subst e1
        exact M M'
  · rw [h] at s1 ex
    refine .inr ⟨fun ⟨es', e1, _⟩ => ?_, (rSeq_nx s1).trans (rSeq_rt ((rIf_t (bOr_t (bNot_e (b := false) (bV_e ((mF1_e rfl).trans (q_tupl hc)))))).trans (rRet_e rfl)))⟩
    rw [ex] at e1
    injection e1 with e1
    cases e1
abbrev loPair : RS := (rFor (iSeq (mOp fIx (mOp fIx (mVar 0) (mC (.int 2))) (mVar 2))) (tgN 5) (rIf (bOr (bNot (bV (mCall F_law_inside (mCons (mOp fIx (mOp fIx (mVar 0) (mC (.int 2))) (mVar 5)) (mCons (mOp fIx (mOp fIx (mVar 0) (mC (.int 2))) (mVar 2)) mNil))))) (bAnd (bV (mOp fNe (mVar 2) (mVar 5))) (bV (mOp fIn (mVar 2) (mOp fIx (mOp fIx (mVar 0) (mC (.int 2))) (mVar 5)))))) (rRet (mC (.bl false))) rNext))
def offP (up : List (List Nat)) (x y : Nat) : Bool := !isPart (up.getD y []) (up.getD x []) || (!decide (x = y) && (up.getD y []).contains x)
theorem lo_pair {up : List (List Nat)} {x : Nat} {w : D} {x3 x4 x5 : Option D} (hU : InUp up) (hx : x < up.length) :
    ((up.getD x []).any (offP up x) = true ∧ loPair [some (ordD k up), some w, some (nI x), x3, x4, x5] st = some (.rt (.bl false))) ∨ ((up.getD x []).any (offP up x) = false ∧ ∃ y5, loPair [some (ordD k up), some w, some (nI x), x3, x4, x5] st = some (.nx [some (ordD k up), some w, some (nI x), x3, x4, y5])) := by
  have R := rfor_any (f := nI) (t := tgN 5) (st := st) (d := .bl false) (p := offP up x) (r := (rIf (bOr (bNot (bV (mCall F_law_inside (mCons (mOp fIx (mOp fIx (mVar 0) (mC (.int 2))) (mVar 5)) (mCons (mOp fIx (mOp fIx (mVar 0) (mC (.int 2))) (mVar 2)) mNil))))) (bAnd (bV (mOp fNe (mVar 2) (mVar 5))) (bV (mOp fIn (mVar 2) (mOp fIx (mOp fIx (mVar 0) (mC (.int 2))) (mVar 5)))))) (rRet (mC (.bl false))) rNext)) (fun env => ∃ w5, env = [some (ordD k up), some w, some (nI x), x3, x4, w5]) (up.getD x []) [some (ordD k up), some w, some (nI x), x3, x4, x5] ⟨_, rfl⟩ (by
    rintro env ⟨w5, rfl⟩ y hy
    have hyl := hU.at y hy
    refine ⟨[some (ordD k up), some w, some (nI x), x3, x4, some (nI y)], rfl, ?_⟩
    have c1 := bNot_e (bV_e ((mCall2 (F := F_law_inside) (env := [some (ordD k up), some w, some (nI x), x3, x4, some (nI y)]) (st := st) (atUp (m := mVar 0) (i := mVar 5) rfl rfl hyl) (atUp (m := mVar 0) (i := mVar 2) rfl rfl hx)).trans (inside_eval st _ _)))
    have c2 := bAnd_e (bV_e ((mOp_e (f := fNe) (a := mVar 2) (b := mVar 5) (env := [some (ordD k up), some w, some (nI x), x3, x4, some (nI y)]) (st := st) rfl rfl).trans (fNe_nI st x y))) fun _ => bV_e ((mOp_e (f := fIn) (a := mVar 2) rfl (atUp (m := mVar 0) (i := mVar 5) rfl rfl hyl)).trans (fIn_nI st x _))
    have c := bOr_e c1 c2
    show ((offP up x y = true ∧ _) ∨ (offP up x y = false ∧ _))
    have eb : offP up x y = (!isPart (up.getD y []) (up.getD x []) || (!decide (x = y) && (up.getD y []).contains x)) := rfl
    rw [← eb] at c
    cases hb : offP up x y with
    | true => rw [hb] at c; exact .inl ⟨rfl, (rIf_t c).trans (rRet_e rfl)⟩
    | false => rw [hb] at c; exact .inr ⟨rfl, _, ⟨_, rfl⟩, (rIf_f c).trans rfl⟩)
  have it : iSeq (mOp fIx (mOp fIx (mVar 0) (mC (.int 2))) (mVar 2)) [some (ordD k up), some w, some (nI x), x3, x4, x5] st = some ((up.getD x []).map nI, none) := iSeq_dN (atUp rfl rfl hx)
  rcases R with ⟨q, R⟩ | ⟨q, _, ⟨y5, rfl⟩, R⟩
  · exact .inl ⟨q, (rFor_e it).trans R⟩
  · exact .inr ⟨q, y5, (rFor_e it).trans R⟩
theorem law_order_any {n bx : Nat} (V : ValOk n bx st d) (h1 : 1 ≤ n) (hn : n ≤ 1000) (h0 : k0 = ("order" : Str) ∨ k0 = ("lattice" : Str)) : F_law_is_order [d, .str k0] st = some (.bl (isoB k0 d)) := by
  classical
  have hk0 := good_word h0
  by_cases h : ∃ up, d = ordD k0 up ∧ OrdU up
  · obtain ⟨up, rfl, O⟩ := h
    rw [isoB_of O]
    exact law_order_true O (Nat.le_trans (val_len V h1) hn) hk0
  rw [isoB_f h]
  refine fnR'_rt rfl ?_ rfl
  show R_law_is_order [some d, some (.str k0), none, none, none, none] st = _
  rcases V with V | ⟨k, rows, hk, rfl, hl, hr⟩
  · rcases List.mem_cons.mp V with rfl | V
    · exact rSeq_rt ((rIf_t (head_not rfl (q_tupn st))).trans (rRet_e rfl))
    rcases List.mem_cons.mp V with rfl | V
    · exact rSeq_rt ((rIf_t (head_len rfl)).trans (rRet_e rfl))
    rcases List.mem_cons.mp V with rfl | V
    · by_cases e : (("order" : Str)) = k0
      · refine (rSeq_nx ((rIf_f ((head3 rfl rfl good_ord hk0 e).trans (bNot_e (b := true) (bV_e ((mF1_e (x := .int 1) rfl).trans (q_int st _)))))).trans rfl)).trans (rSeq_rt ((rIf_t ?_).trans (rRet_e rfl)))
        rw [bOr_f (bV_e ((mF1_e (x := .int 1) rfl).trans (q_bool st _))), bOr_f (bNot_e (b := true) (bV_e ((mF1_e (x := .tup []) rfl).trans (q_tupt st _))))]
        exact bV_e ((mOp_e (x := nI 0) (y := nI 1) ((mF1_e (x := .tup []) rfl).trans rfl) rfl).trans (fNe_nI st 0 1))
      · exact rSeq_rt ((rIf_t (head3n rfl rfl good_ord hk0 e)).trans (rRet_e rfl))
    · rw [List.mem_singleton.mp V]
      exact rSeq_rt ((rIf_t (head_not rfl (q_tupi st 7))).trans (rRet_e rfl))
  by_cases e : k = k0
  · subst e
    have e1 : bOr (bV (mF1 (fIs "bool") (mOp fIx (mVar 0) (mC (.int 1))))) (bOr (bNot (bV (mF1 (fIs "tuple") (mOp fIx (mVar 0) (mC (.int 2)))))) (bV (mOp fNe (mF1 fLen (mOp fIx (mVar 0) (mC (.int 2)))) (mOp fIx (mVar 0) (mC (.int 1)))))) [some (.tup [.str k, nI rows.length, .tup rows]), some (.str k), none, none, none, none] st = some false := by
      rw [bOr_f (bV_e ((mF1_e (x := nI rows.length) rfl).trans (q_bool st _))), bOr_f (bNot_e (b := true) (bV_e ((mF1_e (x := .tup rows) rfl).trans (q_tupt st _))))]
      refine bV_e ((mOp_e (x := nI rows.length) (y := nI rows.length) ((mF1_e (x := .tup rows) rfl).trans rfl) rfl).trans ((fNe_nI st _ _).trans ?_))
      rw [decide_eq_true rfl]
      rfl
    refine (rSeq_nx ((rIf_f ((head3 rfl rfl hk0 hk0 rfl).trans (bNot_e (b := true) (bV_e ((mF1_e (x := nI rows.length) rfl).trans (q_int st _)))))).trans rfl)).trans ((rSeq_nx ((rIf_f e1).trans rfl)).trans ?_)
    have it : ∀ x2 x3 x4, iRng (mOp fIx (mVar 0) (mC (.int 1))) [some (.tup [.str k, nI rows.length, .tup rows]), some (.str k), x2, x3, x4, none] st = some ((List.range rows.length).map nI, none) := fun _ _ _ => iRng_nat (n := rows.length) ((mOp_e (y := .int 1) rfl rfl).trans rfl) (by omega)
    have R := rfor_any (f := nI) (t := tgN 2) (st := st) (d := .bl false) (p := fun x => decide (¬ GoodAt rows x)) (r := loRow) (fun env => ∃ x2 x3 x4, env = [some (.tup [.str k, nI rows.length, .tup rows]), some (.str k), x2, x3, x4, none]) (List.range rows.length) [some (.tup [.str k, nI rows.length, .tup rows]), some (.str k), none, none, none, none] ⟨_, _, _, rfl⟩ (by
      rintro env ⟨x2, x3, x4, rfl⟩ x hx
      refine ⟨_, rfl, ?_⟩
      rcases lo_row (w := .str k) (x3 := x3) (x4 := x4) hn hr (List.mem_range.mp hx) rfl with ⟨g, y3, y4, q⟩ | ⟨g, q⟩
      · exact .inr ⟨decide_eq_false fun z => z g, _, ⟨_, y3, y4, rfl⟩, q⟩
      · exact .inl ⟨decide_eq_true g, q⟩)
    rcases R with ⟨_, R⟩ | ⟨q, _, ⟨x2, x3, x4, rfl⟩, R⟩
    · exact rSeq_rt ((rFor_e (it _ _ _)).trans R)
    refine (rSeq_nx ((rFor_e (it _ _ _)).trans R)).trans ?_
    have all : ∀ x, x < rows.length → GoodAt rows x := fun x hx => by
      have := List.any_eq_false.mp q x (List.mem_range.mpr hx)
      rcases Classical.em (GoodAt rows x) with z | z
      · exact z
      · exact absurd (decide_eq_true z) this
    obtain ⟨up, eu, hup⟩ := rows_model (rows := rows) (n := rows.length) fun r hr => by
      obtain ⟨i, hi, ei⟩ := List.getElem_of_mem hr
      obtain ⟨es, e1, M, _⟩ := all i hi
      rw [List.getElem?_eq_getElem hi, ei] at e1
      injection e1 with e1
      exact ⟨es, e1, M⟩
    subst eu
    rw [List.length_map] at hup all hl
    have eo : D.tup [.str k, nI (up.map dN).length, .tup (up.map dN)] = ordD k up := by unfold ordD; rw [List.length_map]
    rw [eo] at h ⊢
    have hU : InUp up := fun r hr x hx => (hup r hr).2 x hx
    have R2 := rfor_any (f := nI) (t := tgN 2) (st := st) (d := .bl false) (p := fun x => (up.getD x []).any (offP up x)) (r := loPair) (fun env => ∃ z2 z5, env = [some (ordD k up), some (.str k), z2, x3, x4, z5]) (List.range up.length) [some (ordD k up), some (.str k), x2, x3, x4, none] ⟨_, _, rfl⟩ (by
      rintro env ⟨z2, z5, rfl⟩ x hx
      refine ⟨_, rfl, ?_⟩
      rcases lo_pair (k := k) (st := st) (w := .str k) (x3 := x3) (x4 := x4) (x5 := z5) hU (List.mem_range.mp hx) with ⟨g, q⟩ | ⟨g, y5, q⟩
      · exact .inl ⟨g, q⟩
      · exact .inr ⟨g, _, ⟨_, y5, rfl⟩, q⟩)
    have it2 : iRng (mOp fIx (mVar 0) (mC (.int 1))) [some (ordD k up), some (.str k), x2, x3, x4, none] st = some ((List.range up.length).map nI, none) := iRng_nat (atMany rfl) (by omega)
    rcases R2 with ⟨_, R2⟩ | ⟨q2, _⟩
    · exact rSeq_rt ((rFor_e it2).trans R2)
    · refine absurd ⟨up, rfl, ordU_of hup (fun x hx => ?_) fun x hx y hy => ?_⟩ h
      · obtain ⟨es, e1, M, hm⟩ := all x hx
        rw [List.getElem?_map, rowD up hx] at e1
        have e1 : some (dN (up.getD x [])) = some (.tup es) := e1
        injection e1 with e1
        unfold dN at e1
        injection e1 with e1
        rw [← e1] at hm
        obtain ⟨y, hy, ey⟩ := List.mem_map.mp hm
        obtain rfl := nI_injE ey
        exact hy
      · have z := List.any_eq_false.mp q2 x (List.mem_range.mpr hx)
        have z2 := List.any_eq_false.mp (Bool.not_eq_true _ ▸ z) y hy
        unfold offP at z2
        rw [Bool.or_eq_true, Bool.and_eq_true, Bool.not_eq_true', Bool.not_eq_true', decide_eq_false_iff_not, List.contains_iff_mem] at z2
        refine ⟨?_, fun hxy hm => z2 (.inr ⟨hxy, hm⟩)⟩
        cases e : isPart (up.getD y []) (up.getD x []) with
        | true => rfl
        | false => exact absurd (.inl e) z2
  · exact rSeq_rt ((rIf_t (head3n rfl rfl (good_word hk) hk0 e)).trans (rRet_e rfl))
end
end GF

set_option Elab.async false
set_option linter.all false
set_option maxRecDepth 100000
set_option maxHeartbeats 4000000
namespace GF
open PySem PySem.Spec PyProof.Rows L2 GX GD
/-! ## 73. the law's question for lattices, asked of any value -/
section
variable {st : SS} {d : D} {up : List (List Nat)} {k : Str}
open Classical in
noncomputable def latB (d : D) : Bool := decide (∃ up, d = ordD ("lattice" : Str) up ∧ LatU up ∧ 0 < up.length)
theorem latB_of (L : LatU up) (h0 : 0 < up.length) : latB (ordD ("lattice" : Str) up) = true := by classical exact decide_eq_true ⟨up, rfl, L, h0⟩
theorem latB_f {d : D} (h : ¬ ∃ up, d = ordD ("lattice" : Str) up ∧ LatU up ∧ 0 < up.length) : latB d = false := by classical exact decide_eq_false h
theorem mapdN_inj : ∀ {a b : List (List Nat)}, a.map dN = b.map dN → a = b
  | [], [], _ => rfl
  | [], _ :: _, h => by simp at h
  | _ :: _, [], h => by simp at h
  | x :: a, y :: b, h => by
    rw [List.map_cons, List.map_cons] at h
    injection h with h1 h2
    rw [dN_inj _ _ h1, mapdN_inj h2]
theorem ordD_inj {k k' : Str} {a b : List (List Nat)} (h : ordD k a = ordD k' b) : a = b := by
  unfold ordD at h
  injection h with h; injection h with _ h; injection h with _ h; injection h with h _; injection h with h
  exact mapdN_inj h
/-- joins and meets of pairs, the second below the first, are enough -/
theorem latU_of (O : OrdU up) (h : ∀ x y, x < up.length → y < x → (joinM up x y).isSome = true ∧ (joinM (blwM up) x y).isSome = true) : LatU up := by
  have self : ∀ {up : List (List Nat)}, OrdU up → ∀ x, x < up.length → joinM up x x = some x := fun O x hx => (join_iff O).mpr ⟨⟨O.refl x hx, O.refl x hx⟩, fun w a _ => a⟩
  have flip : ∀ {up : List (List Nat)}, OrdU up → ∀ x y j, joinM up x y = some j → joinM up y x = some j := fun O x y j e => by
    obtain ⟨⟨a, b⟩, c⟩ := (join_iff O).mp e
    exact (join_iff O).mpr ⟨⟨b, a⟩, fun w p q => c w q p⟩
  have both : ∀ {up : List (List Nat)}, OrdU up → (∀ x y, x < up.length → y < x → (joinM up x y).isSome = true) → ∀ x y, x < up.length → y < up.length → ∃ j, joinM up x y = some j := fun O h x y hx hy => by
    rcases Nat.lt_trichotomy x y with q | q | q
    · obtain ⟨j, e⟩ := Option.isSome_iff_exists.mp (h y x hy q)
      exact ⟨j, flip O _ _ _ e⟩
    · subst q; exact ⟨x, self O x hx⟩
    · exact Option.isSome_iff_exists.mp (h x y hx q)
  exact ⟨O, both O fun x y hx hy => (h x y hx hy).1, fun x y hx hy => both O.dual (fun x y hx hy => (h x y (by rw [blw_len] at hx; exact hx) hy).2) x y (by rw [blw_len]; exact hx) (by rw [blw_len]; exact hy)⟩
def lawLatB : XT := fun ds st R => ∃ (n b : Nat) (d : D), ds = [d] ∧ 1 ≤ n ∧ n ≤ 300 ∧ ValOk n b st d ∧ ∀ st1, Up st st1 → R (.bl (latB d)) st1
theorem fIsN_optN (st : SS) (o : Option Nat) : fIsN st (optN o) .non = some (.bl (!o.isSome)) := by cases o <;> rfl
theorem lawLatB_ok (ds : List D) (st : SS) (R : D → SS → Prop) (h : lawLatB ds st R) : Y_law_is_lattice ds st R := by
  classical
  obtain ⟨n, b, d, rfl, h1, hn, V, hR⟩ := h
  have lo := law_order_any (k0 := ("lattice" : Str)) V h1 (by omega) (.inr rfl)
  by_cases hl : ∃ up, d = ordD ("lattice" : Str) up ∧ LatU up ∧ 0 < up.length
  · obtain ⟨up, rfl, L, h0⟩ := hl
    refine law_lat_ok _ _ _ ⟨up, rfl, L, h0, Nat.le_trans (val_len V h1) hn, fun st1 U => ?_⟩
    have := hR st1 U
    rw [latB_of L h0] at this
    exact this
  rw [latB_f hl] at hR
  refine ⟨rfl, ?_⟩
  show X_law_is_lattice _ [some d, none, none] st
  have c1 := bNot_e (bV_e ((mCall2 (F := F_law_is_order) (m := mVar 0) (m2 := mC (.str ("lattice" : Str))) (env := [some d, none, none]) (st := st) rfl rfl).trans lo))
  by_cases ho : ∃ up, d = ordD ("lattice" : Str) up ∧ OrdU up
  · obtain ⟨up, rfl, O⟩ := ho
    rw [isoB_of O] at c1
    have hu : up.length ≤ 300 := Nat.le_trans (val_len V h1) hn
    have c2 := bV_e ((mOp_e (atMany rfl) (y := nI 0) rfl).trans (fEq_nI st up.length 0) : mOp fEq (mOp fIx (mVar 0) (mC (.int 1))) (mC (.int 0)) [some (ordD ("lattice" : Str) up), none, none] st = _)
    by_cases h0 : up.length = 0
    · rw [decide_eq_true h0] at c2
      exact ⟨true, (bOr_f c1).trans c2, iteT ⟨_, rfl, hR st (Up.refl _)⟩⟩
    rw [decide_eq_false h0] at c2
    refine ⟨false, (bOr_f c1).trans c2, iteF ?_⟩
    refine ⟨_, none, iRng_nat (atMany rfl) (by omega), ?_⟩
    refine for_rg (fun i env s => (∃ x1 x2, env = [some (ordD ("lattice" : Str) up), x1, x2] ∧ Up st s) ∧ ∀ x y, x < i → y < x → (joinM up x y).isSome = true ∧ (joinM (blwM up) x y).isSome = true) ?_ ?_ ⟨⟨_, _, rfl, Up.refl _⟩, fun _ _ z => by omega⟩
    · rintro x env s hx ⟨⟨x1, x2, rfl, U⟩, had⟩
      refine ⟨_, rfl, fun K k1 k2 k3 k4 => ?_⟩
      refine ⟨_, none, iRng_nat (n := x) rfl (by omega), ?_⟩
      refine for_rg (fun i env s => (∃ x2, env = [some (ordD ("lattice" : Str) up), some (nI x), x2] ∧ Up st s) ∧ ∀ y, y < i → (joinM up x y).isSome = true ∧ (joinM (blwM up) x y).isSome = true) ?_ ?_ ⟨⟨_, rfl, U⟩, fun _ z => by omega⟩
      · rintro y env s1 hy ⟨⟨x2, rfl, U1⟩, had2⟩
        refine ⟨_, rfl, fun K2 i1 i2 i3 i4 => ?_⟩
        have rt : ∀ s2, Up st s2 → K2.rt (.bl false) s2 := fun s2 u => by rw [i3]; show K.rt (.bl false) s2; rw [k3]; exact hR s2 u
        refine ⟨_, rfl, _, rfl, _, rfl, ("lattice" : Str), up, x, y, rfl, O.inU, hx, by omega, fun s2 u2 => ?_⟩
        refine ⟨_, rfl, _, fIsN_optN s2 _, _, rfl, ?_⟩
        cases ej : (joinM up x y).isSome with
        | false => exact iteT ⟨_, rfl, rt s2 (U1.trans u2)⟩
        | true =>
          refine iteF ?_
          refine ⟨_, rfl, _, rfl, _, rfl, ("lattice" : Str), up, x, y, rfl, by omega, hx, by omega, fun s3 u3 => ?_⟩
          refine ⟨_, rfl, _, fIsN_optN s3 _, _, rfl, ?_⟩
          cases em : (joinM (blwM up) x y).isSome with
          | false => exact iteT ⟨_, rfl, rt s3 ((U1.trans u2).trans u3)⟩
          | true => exact iteF (i1 _ _ ⟨⟨_, rfl, (U1.trans u2).trans u3⟩, fun y' hy' => by
              rcases Nat.lt_or_ge y' y with q | q
              · exact had2 y' q
              · have : y' = y := by omega
                subst this
                exact ⟨ej, em⟩⟩)
      · rintro env s1 ⟨⟨x2, rfl, U1⟩, had2⟩
        exact k1 _ _ ⟨⟨_, _, rfl, U1⟩, fun x' y' hx' hy' => by
          rcases Nat.lt_or_ge x' x with q | q
          · exact had x' y' q hy'
          · have : x' = x := by omega
            subst this
            exact had2 y' hy'⟩
    · rintro env s ⟨_, had⟩
      exact absurd ⟨up, rfl, latU_of O had, by omega⟩ hl
  · rw [isoB_f ho] at c1
    exact ⟨true, bOr_t c1, iteT ⟨_, rfl, hR st (Up.refl _)⟩⟩
end
end GF

set_option Elab.async false
set_option linter.all false
set_option maxRecDepth 100000
set_option maxHeartbeats 4000000
namespace Lk30
open PySem PySem.Spec PyProof.Rows L2 GX GD GF
noncomputable section
/-! the text by places; each def, walked -/
def top (i : Nat) : Stmt := PySem.Challenge.pw_formalconcepts_k30_orders_and_lattices.main.body.getD i (.Pass ⟨0, 0, 0, 0⟩)
/-- the built-ins that no name of the module hides -/
structure Blt (mg : Str → Option Value) : Prop where
  all_ : mg "all" = none
  any_ : mg "any" = none
  bool : mg "bool" = none
  enumerate : mg "enumerate" = none
  int : mg "int" = none
  isinstance : mg "isinstance" = none
  len : mg "len" = none
  list : mg "list" = none
  range : mg "range" = none
  set : mg "set" = none
  sorted : mg "sorted" = none
  str : mg "str" = none
  tuple : mg "tuple" = none
  zip : mg "zip" = none
/-- the lambdas of the text, by their places -/
def NM (l c : Nat) : Option Str := none
structure Gnd (w : Ws) (mg : Str → Option Value) : Prop where
  bm : Bm w.base mg
  nm : ∀ l c, w.nm l c = NM l c
def N_is_number : List Str := [("value" : Str), ("many" : Str)]
theorem sc_is_number : FnScope N_is_number [("value" : Str), ("many" : Str)] (defScope (top 1)) := ⟨rfl, rfl, rfl, by decide +kernel, rfl, by decide +kernel, by decide +kernel⟩
theorem wk_is_number {P : Program} {wl : World} {w : Ws} {mg : Str → Option Value} (M : Blt mg) (G : Gnd w mg) (D : DefC w mg "is_number" (top 1)) : DefP P wl w mg 1 "is_number" GF.F_is_number :=
  have S := sc_is_number
  DefP.n (D.p (k := 0) S (fun _ _ _ _ _ _ us hl => match us, hl with | [_, _], _ => rfl) fun f c A outer s H E hr hf => (dr_one (dr_ret (dp_and (dp_isi (by rfl) M.isinstance (by rfl) M.int (by decide +kernel) (dp_var 0)) (dp_and (dp_not (dp_isi (by rfl) M.isinstance (by rfl) M.bool (by decide +kernel) (dp_var 0))) (dp_one (dp_chain (op_le) qLe (op_lt) qLt dp_int (dp_var 0) (dp_var 1)))))))) rfl

def N_is_set : List Str := [("value" : Str), ("many" : Str), ("one" : Str), ("other" : Str)]
theorem sc_is_set : FnScope N_is_set [("value" : Str), ("many" : Str)] (defScope (top 2)) := ⟨rfl, rfl, rfl, by decide +kernel, rfl, by decide +kernel, by decide +kernel⟩
theorem wk_is_set {P : Program} {wl : World} {w : Ws} {mg : Str → Option Value} (M : Blt mg) (G : Gnd w mg) (c_is_number : DefP P wl w mg 1 "is_number" F_is_number) (D : DefC w mg "is_set" (top 2)) : DefP P wl w mg 5 "is_set" GF.F_is_set :=
  have S := sc_is_set
  DefP.n (D.p (k := 4) S (fun _ _ _ _ _ _ us hl => match us, hl with | [_, _], _ => rfl) fun f c A outer s H E hr hf => (dr_cons (dr_if ((db_or (db_not (db_val (dp_isi (by rfl) M.isinstance (by rfl) M.tuple (by decide +kernel) (dp_var 0)))) (db_or1 (db_not (db_val (dp_allG hf (dg_gen (k := 1) (own := [(("one" : Str), 2)]) rfl S.nd (hr.mono (by decide)) hf G.bm ((G.nm _ _).trans (by rfl)) (di_seq (dp_var 0)) (genOk_by (by rfl)) (fun _ => (gt_name (i := 2) (by decide))) (fun _ _ _ _ _ _ _ _ => (pg_name S.nd rfl (by first | exact Or.inl rfl | exact Or.inr rfl))) (fun _ _ _ _ _ _ _ _ hr1 hf1 => dts_nil) (fun _ _ _ _ _ _ _ _ hr1 hf1 => (dp_call hf1 c_is_number (hr1.mono (by decide)) (by rfl) (da_cons (dp_var 2) (da_cons (dp_var 1) da_nil))))) (hr.mono (by decide)) (by rfl) M.all_))))).pt) (dr_one (dr_ret dp_bl)) dr_nil) (dr_one (dr_ret (dp_allG hf (dg_gen (k := 0) (own := [(("one" : Str), 2), (("other" : Str), 3)]) rfl S.nd (hr.mono (by decide)) hf G.bm ((G.nm _ _).trans (by rfl)) (di_zip (by rfl) M.zip (dp_var 0) (dp_sl (dp_var 0) (po_some dp_int) po_none pod_some pod_none)) (genOk_by (by rfl)) (fun _ => (gt_tup (gts_cons (gt_name (i := 2) (by decide)) (gts_cons (gt_name (i := 3) (by decide)) gts_nil)))) (fun _ _ _ _ _ _ _ _ => (pg_tup rfl (pgs_cons (pg_name S.nd rfl (by first | exact Or.inl rfl | exact Or.inr rfl)) (pgs_cons (pg_name S.nd rfl (by first | exact Or.inl rfl | exact Or.inr rfl)) pgs_nil)))) (fun _ _ _ _ _ _ _ _ hr1 hf1 => dts_nil) (fun _ _ _ _ _ _ _ _ hr1 hf1 => (dp_lt (dp_var 2) (dp_var 3)))) (hr.mono (by decide)) (by rfl) M.all_))))) rfl

def N_is_part : List Str := [("part" : Str), ("whole" : Str), ("one" : Str)]
theorem sc_is_part : FnScope N_is_part [("part" : Str), ("whole" : Str)] (defScope (top 3)) := ⟨rfl, rfl, rfl, by decide +kernel, rfl, by decide +kernel, by decide +kernel⟩
theorem wk_is_part {P : Program} {wl : World} {w : Ws} {mg : Str → Option Value} (M : Blt mg) (G : Gnd w mg) (D : DefC w mg "is_part" (top 3)) : DefP P wl w mg 4 "is_part" GF.F_is_part :=
  have S := sc_is_part
  DefP.n (D.p (k := 3) S (fun _ _ _ _ _ _ us hl => match us, hl with | [_, _], _ => rfl) fun f c A outer s H E hr hf => (dr_one (dr_ret (dp_allG hf (dg_gen (k := 0) (own := [(("one" : Str), 2)]) rfl S.nd (hr.mono (by decide)) hf G.bm ((G.nm _ _).trans (by rfl)) (di_seq (dp_var 0)) (genOk_by (by rfl)) (fun _ => (gt_name (i := 2) (by decide))) (fun _ _ _ _ _ _ _ _ => (pg_name S.nd rfl (by first | exact Or.inl rfl | exact Or.inr rfl))) (fun _ _ _ _ _ _ _ _ hr1 hf1 => dts_nil) (fun _ _ _ _ _ _ _ _ hr1 hf1 => (dp_in (hr1.mono (by decide)) (dp_var 2) (dp_var 1)))) (hr.mono (by decide)) (by rfl) M.all_)))) rfl

def N_shared : List Str := [("one" : Str), ("other" : Str), ("number" : Str)]
theorem sc_shared : FnScope N_shared [("one" : Str), ("other" : Str)] (defScope (top 4)) := ⟨rfl, rfl, rfl, by decide +kernel, rfl, by decide +kernel, by decide +kernel⟩
theorem wk_shared {P : Program} {wl : World} {w : Ws} {mg : Str → Option Value} (M : Blt mg) (G : Gnd w mg) (D : DefC w mg "shared" (top 4)) : DefP P wl w mg 6 "shared" GF.F_shared :=
  have S := sc_shared
  DefP.n (D.p (k := 5) S (fun _ _ _ _ _ _ us hl => match us, hl with | [_, _], _ => rfl) fun f c A outer s H E hr hf => (dr_one (dr_ret (dp_tupG hf (dg_gen (k := 0) (own := [(("number" : Str), 2)]) rfl S.nd (hr.mono (by decide)) hf G.bm ((G.nm _ _).trans (by rfl)) (di_seq (dp_var 0)) (genOk_by (by rfl)) (fun _ => (gt_name (i := 2) (by decide))) (fun _ _ _ _ _ _ _ _ => (pg_name S.nd rfl (by first | exact Or.inl rfl | exact Or.inr rfl))) (fun _ _ _ _ _ _ _ _ hr1 hf1 => (dts_one (dt_in (hr1.mono (by decide)) (dp_var 2) (dp_var 1)))) (fun _ _ _ _ _ _ _ _ hr1 hf1 => (dp_var 2))) (hr.mono (by decide)) (by rfl) M.tuple)))) rfl

def N_is_order_of : List Str := [("value" : Str), ("kind" : Str), ("_" : Str), ("many" : Str), ("above" : Str), ("row" : Str), ("own" : Str), ("other" : Str)]
theorem sc_is_order_of : FnScope N_is_order_of [("value" : Str), ("kind" : Str)] (defScope (top 6)) := ⟨rfl, rfl, rfl, by decide +kernel, rfl, by decide +kernel, by decide +kernel⟩
def R_is_order_of : RS := (rSeq (rIf (bOr (bNot (bV (mF1 (fIs "tuple") (mVar 0)))) (bOr (bV (mOp fNe (mF1 fLen (mVar 0)) (mC (.int 3)))) (bOr (bV (mOp fNe (mOp fIx (mVar 0) (mC (.int 0))) (mVar 1))) (bNot (bV (mF1 (fIs "tuple") (mOp fIx (mVar 0) (mC (.int 2))))))))) (rRet (mC (.bl false))) rNext) (rSeq (rAsg (mVar 0) (tgTup 3 (tgCons (tgN 2) (tgCons (tgN 3) (tgCons (tgN 4) tgNil))))) (rSeq (rIf (bOr (bNot (bV (mCall F_is_number (mCons (mVar 3) (mCons (mOp fAdd (mF1 fLen (mVar 4)) (mC (.int 1))) mNil))))) (bOr (bV (mOp fNe (mVar 3) (mF1 fLen (mVar 4)))) (bNot (bV (mAll false (iSeq (mVar 4)) (tgN 5) bYes (mCall F_is_set (mCons (mVar 5) (mCons (mVar 3) mNil))) [5]))))) (rRet (mC (.bl false))) rNext) (rSeq (rFor (iEnum (mVar 4)) (tgTup 2 (tgCons (tgN 6) (tgCons (tgN 5) tgNil))) (rSeq (rIf (bOr (bV (mOp fNotIn (mVar 6) (mVar 5))) (bV (mAll true (iSeq (mVar 5)) (tgN 7) bYes (mAnd (mOp fNe (mVar 7) (mVar 6)) (mOp fIn (mVar 6) (mOp fIx (mVar 4) (mVar 7)))) [7]))) (rRet (mC (.bl false))) rNext) (rIf (bNot (bV (mAll false (iSeq (mVar 5)) (tgN 7) bYes (mCall F_is_part (mCons (mOp fIx (mVar 4) (mVar 7)) (mCons (mVar 5) mNil))) [7]))) (rRet (mC (.bl false))) rNext))) (rRet (mC (.bl true)))))))
def F_is_order_of : List D → SS → Option D := fnR N_is_order_of 2 R_is_order_of
theorem wk_is_order_of {P : Program} {wl : World} {w : Ws} {mg : Str → Option Value} (M : Blt mg) (G : Gnd w mg) (c_is_number : DefP P wl w mg 1 "is_number" F_is_number) (c_is_part : DefP P wl w mg 4 "is_part" F_is_part) (c_is_set : DefP P wl w mg 5 "is_set" F_is_set) (D : DefC w mg "is_order_of" (top 6)) : DefP P wl w mg 9 "is_order_of" F_is_order_of :=
  have S := sc_is_order_of
  D.p (k := 8) S (fun _ _ _ _ _ _ us hl => match us, hl with | [_, _], _ => rfl) fun f c A outer s H E hr hf => (dr_cons (dr_if ((db_or (db_not (db_val (dp_isi (by rfl) M.isinstance (by rfl) M.tuple (by decide +kernel) (dp_var 0)))) (db_or (dt_ne (hr.mono (by decide)) (dp_len (by rfl) M.len (dp_var 0)) dp_int) (db_or (dt_ne (hr.mono (by decide)) (dp_ix (dp_var 0) dp_int) (dp_var 1)) (db_or1 (db_not (db_val (dp_isi (by rfl) M.isinstance (by rfl) M.tuple (by decide +kernel) (dp_ix (dp_var 0) dp_int)))))))).pt) (dr_one (dr_ret dp_bl)) dr_nil) (dr_cons (dr_asg (own := [2, 3, 4]) (gt_tup (gts_cons (gt_name (i := 2) (by decide)) (gts_cons (gt_name (i := 3) (by decide)) (gts_cons (gt_name (i := 4) (by decide)) gts_nil)))) (dp_var 0) (pg_tup rfl (pgs_cons (pg_name S.nd rfl (by first | exact Or.inl rfl | exact Or.inr rfl)) (pgs_cons (pg_name S.nd rfl (by first | exact Or.inl rfl | exact Or.inr rfl)) (pgs_cons (pg_name S.nd rfl (by first | exact Or.inl rfl | exact Or.inr rfl)) pgs_nil))))) (dr_cons (dr_if ((db_or (db_not (db_val (dp_call hf c_is_number (hr.mono (by decide)) (by rfl) (da_cons (dp_var 3) (da_cons (dp_add (dp_len (by rfl) M.len (dp_var 4)) dp_int) da_nil))))) (db_or (dt_ne (hr.mono (by decide)) (dp_var 3) (dp_len (by rfl) M.len (dp_var 4))) (db_or1 (db_not (db_val (dp_allG hf (dg_gen (k := 5) (own := [(("row" : Str), 5)]) rfl S.nd (hr.mono (by decide)) hf G.bm ((G.nm _ _).trans (by rfl)) (di_seq (dp_var 4)) (genOk_by (by rfl)) (fun _ => (gt_name (i := 5) (by decide))) (fun _ _ _ _ _ _ _ _ => (pg_name S.nd rfl (by first | exact Or.inl rfl | exact Or.inr rfl))) (fun _ _ _ _ _ _ _ _ hr1 hf1 => dts_nil) (fun _ _ _ _ _ _ _ _ hr1 hf1 => (dp_call hf1 c_is_set (hr1.mono (by decide)) (by rfl) (da_cons (dp_var 5) (da_cons (dp_var 3) da_nil))))) (hr.mono (by decide)) (by rfl) M.all_)))))).pt) (dr_one (dr_ret dp_bl)) dr_nil) (dr_cons (dr_for PassesOwn.never rfl (own := [6, 5]) (gt_tup (gts_cons (gt_name (i := 6) (by decide)) (gts_cons (gt_name (i := 5) (by decide)) gts_nil))) (di_enum (by rfl) M.enumerate (dp_var 4)) (pg_tup rfl (pgs_cons (pg_name S.nd rfl (by first | exact Or.inl rfl | exact Or.inr rfl)) (pgs_cons (pg_name S.nd rfl (by first | exact Or.inl rfl | exact Or.inr rfl)) pgs_nil))) (dr_cons (dr_if ((db_or (dt_nin (hr.mono (by decide)) (dp_var 6) (dp_var 5)) (db_or1 (db_val (dp_anyG hf (dg_gen (k := 0) (own := [(("other" : Str), 7)]) rfl S.nd (hr.mono (by decide)) hf G.bm ((G.nm _ _).trans (by rfl)) (di_seq (dp_var 5)) (genOk_by (by rfl)) (fun _ => (gt_name (i := 7) (by decide))) (fun _ _ _ _ _ _ _ _ => (pg_name S.nd rfl (by first | exact Or.inl rfl | exact Or.inr rfl))) (fun _ _ _ _ _ _ _ _ hr1 hf1 => dts_nil) (fun _ _ _ _ _ _ _ _ hr1 hf1 => (dp_and (dp_ne (hr1.mono (by decide)) (dp_var 7) (dp_var 6)) (dp_one (dp_in (hr1.mono (by decide)) (dp_var 6) (dp_ix (dp_var 4) (dp_var 7))))))) (hr.mono (by decide)) (by rfl) M.any_)))).pt) (dr_one (dr_ret dp_bl)) dr_nil) (dr_one (dr_if (db_not (db_val (dp_allG hf (dg_gen (k := 4) (own := [(("other" : Str), 7)]) rfl S.nd (hr.mono (by decide)) hf G.bm ((G.nm _ _).trans (by rfl)) (di_seq (dp_var 5)) (genOk_by (by rfl)) (fun _ => (gt_name (i := 7) (by decide))) (fun _ _ _ _ _ _ _ _ => (pg_name S.nd rfl (by first | exact Or.inl rfl | exact Or.inr rfl))) (fun _ _ _ _ _ _ _ _ hr1 hf1 => dts_nil) (fun _ _ _ _ _ _ _ _ hr1 hf1 => (dp_call hf1 c_is_part (hr1.mono (by decide)) (by rfl) (da_cons (dp_ix (dp_var 4) (dp_var 7)) (da_cons (dp_var 5) da_nil))))) (hr.mono (by decide)) (by rfl) M.all_))) (dr_one (dr_ret dp_bl)) dr_nil)))) (dr_one (dr_ret dp_bl))))))

def N_is_order : List Str := [("order" : Str)]
theorem sc_is_order : FnScope N_is_order [("order" : Str)] (defScope (top 7)) := ⟨rfl, rfl, rfl, by decide +kernel, rfl, by decide +kernel, by decide +kernel⟩
def R_is_order : RS := (rRet (mCall F_is_order_of (mCons (mVar 0) (mCons (mC (.str ("order" : Str))) mNil))))
def F_is_order : List D → SS → Option D := fnR N_is_order 1 R_is_order
theorem wk_is_order {P : Program} {wl : World} {w : Ws} {mg : Str → Option Value} (M : Blt mg) (G : Gnd w mg) (c_is_order_of : DefP P wl w mg 9 "is_order_of" F_is_order_of) (D : DefC w mg "is_order" (top 7)) : DefP P wl w mg 10 "is_order" F_is_order :=
  have S := sc_is_order
  D.p (k := 9) S (fun _ _ _ _ _ _ us hl => match us, hl with | [_], _ => rfl) fun f c A outer s H E hr hf => (dr_one (dr_ret (dp_call hf c_is_order_of (hr.mono (by decide)) (by rfl) (da_cons (dp_var 0) (da_cons dp_str da_nil)))))

def N_below_of : List Str := [("lattice" : Str), ("_" : Str), ("many" : Str), ("above" : Str), ("own" : Str), ("other" : Str)]
theorem sc_below_of : FnScope N_below_of [("lattice" : Str)] (defScope (top 8)) := ⟨rfl, rfl, rfl, by decide +kernel, rfl, by decide +kernel, by decide +kernel⟩
theorem wk_below_of {P : Program} {wl : World} {w : Ws} {mg : Str → Option Value} (M : Blt mg) (G : Gnd w mg) (D : DefC w mg "below_of" (top 8)) : DefP P wl w mg 11 "below_of" GF.F_below_of :=
  have S := sc_below_of
  DefP.n (D.p (k := 10) S (fun _ _ _ _ _ _ us hl => match us, hl with | [_], _ => rfl) fun f c A outer s H E hr hf => (dr_cons (dr_asg (own := [1, 2, 3]) (gt_tup (gts_cons (gt_name (i := 1) (by decide)) (gts_cons (gt_name (i := 2) (by decide)) (gts_cons (gt_name (i := 3) (by decide)) gts_nil)))) (dp_var 0) (pg_tup rfl (pgs_cons (pg_name S.nd rfl (by first | exact Or.inl rfl | exact Or.inr rfl)) (pgs_cons (pg_name S.nd rfl (by first | exact Or.inl rfl | exact Or.inr rfl)) (pgs_cons (pg_name S.nd rfl (by first | exact Or.inl rfl | exact Or.inr rfl)) pgs_nil))))) (dr_one (dr_ret (dp_tupG hf (dg_gen (k := 5) (own := [(("own" : Str), 4)]) rfl S.nd (hr.mono (by decide)) hf G.bm ((G.nm _ _).trans (by rfl)) (di_rng (by rfl) M.range (dp_var 2)) (genOk_by (by rfl)) (fun _ => (gt_name (i := 4) (by decide))) (fun _ _ _ _ _ _ _ _ => (pg_name S.nd rfl (by first | exact Or.inl rfl | exact Or.inr rfl))) (fun _ _ _ _ _ _ _ _ hr1 hf1 => dts_nil) (fun _ _ _ _ _ _ _ _ hr1 hf1 => (dp_tupG hf1 (dg_gen (k := 0) (own := [(("other" : Str), 5)]) rfl S.nd (hr1.mono (by decide)) hf1 G.bm ((G.nm _ _).trans (by rfl)) (di_rng (by rfl) M.range (dp_var 2)) (genOk_by (by rfl)) (fun _ => (gt_name (i := 5) (by decide))) (fun _ _ _ _ _ _ _ _ => (pg_name S.nd rfl (by first | exact Or.inl rfl | exact Or.inr rfl))) (fun _ _ _ _ _ _ _ _ hr2 hf2 => (dts_one (dt_in (hr2.mono (by decide)) (dp_var 4) (dp_ix (dp_var 3) (dp_var 5))))) (fun _ _ _ _ _ _ _ _ hr2 hf2 => (dp_var 5))) (hr1.mono (by decide)) (by rfl) M.tuple))) (hr.mono (by decide)) (by rfl) M.tuple))))) rfl

def N_least_of : List Str := [("lattice" : Str), ("members" : Str), ("one" : Str), ("found" : Str)]
theorem sc_least_of : FnScope N_least_of [("lattice" : Str), ("members" : Str)] (defScope (top 9)) := ⟨rfl, rfl, rfl, by decide +kernel, rfl, by decide +kernel, by decide +kernel⟩
abbrev T_least_of : XT := leastT
theorem wk_least_of {P : Program} {wl : World} {w : Ws} {mg : Str → Option Value} (M : Blt mg) (G : Gnd w mg) (c_is_part : DefP P wl w mg 4 "is_part" F_is_part) (D : DefC w mg "least_of" (top 9)) : DefX P wl w mg 5 "least_of" GF.Y_least_of :=
  have S := sc_least_of
  DefX.n (D.x (k := 4) S (fun _ _ _ _ _ _ us hl => match us, hl with | [_, _], _ => rfl) fun f c A outer s H E hr hf => (ds_cons (ds_setLp (i := 3) (own := [(("one" : Str), 2)]) rfl S.nd rfl rfl rfl rfl (by rfl) (di_seq (dp_var 1)) (blkOk_by (by rfl)) (gt_name (i := 2) (by decide)) (fun _ _ _ _ _ => (pg_name S.nd rfl (by first | exact Or.inl rfl | exact Or.inr rfl))) (fun _ _ _ _ _ => (dts_one (db_val (dp_call hf.blk c_is_part (hr.mono (by decide)) (by rfl) (da_cons (dp_var 1) (da_cons (dp_ix (dp_ix (dp_var 0) dp_int) (dp_var 2)) da_nil)))))) (fun _ _ _ _ _ => (dp_var 2))) (ds_one (ds_ret (dx_of (dp_if (db_tru (dp_var 3)) (dp_ix (dp_var 3) dp_int) dp_non)))))) rfl

def N_join_of : List Str := [("lattice" : Str), ("x" : Str), ("y" : Str)]
theorem sc_join_of : FnScope N_join_of [("lattice" : Str), ("x" : Str), ("y" : Str)] (defScope (top 10)) := ⟨rfl, rfl, rfl, by decide +kernel, rfl, by decide +kernel, by decide +kernel⟩
abbrev F_join_of : List D → SS → Option D := joinF
theorem wk_join_of {P : Program} {wl : World} {w : Ws} {mg : Str → Option Value} (M : Blt mg) (G : Gnd w mg) (c_least_of : DefX P wl w mg 5 "least_of" T_least_of) (c_shared : DefP P wl w mg 6 "shared" F_shared) (D : DefC w mg "join_of" (top 10)) : DefX P wl w mg 7 "join_of" GF.Y_join_of :=
  have S := sc_join_of
  DefX.n (D.x (k := 6) S (fun _ _ _ _ _ _ us hl => match us, hl with | [_, _, _], _ => rfl) fun f c A outer s H E hr hf => (ds_one (ds_ret (dx_call hf c_least_of (hr.mono (by decide)) (by rfl) (dxa_cons (dx_of (dp_var 0)) (dxa_cons (dx_of (dp_call hf c_shared (hr.mono (by decide)) (by rfl) (da_cons (dp_ix (dp_ix (dp_var 0) dp_int) (dp_var 1)) (da_cons (dp_ix (dp_ix (dp_var 0) dp_int) (dp_var 2)) da_nil)))) dxa_nil)))))) rfl

def N_turned_over : List Str := [("lattice" : Str)]
theorem sc_turned_over : FnScope N_turned_over [("lattice" : Str)] (defScope (top 11)) := ⟨rfl, rfl, rfl, by decide +kernel, rfl, by decide +kernel, by decide +kernel⟩
theorem wk_turned_over {P : Program} {wl : World} {w : Ws} {mg : Str → Option Value} (M : Blt mg) (G : Gnd w mg) (c_below_of : DefP P wl w mg 11 "below_of" F_below_of) (D : DefC w mg "turned_over" (top 11)) : DefP P wl w mg 12 "turned_over" GF.F_turned_over :=
  have S := sc_turned_over
  DefP.n (D.p (k := 11) S (fun _ _ _ _ _ _ us hl => match us, hl with | [_], _ => rfl) fun f c A outer s H E hr hf => (dr_one (dr_ret (dp_tup (da_cons (dp_ix (dp_var 0) dp_int) (da_cons (dp_ix (dp_var 0) dp_int) (da_cons (dp_call hf c_below_of (hr.mono (by decide)) (by rfl) (da_cons (dp_var 0) da_nil)) da_nil))))))) rfl

def N_meet_of : List Str := [("lattice" : Str), ("x" : Str), ("y" : Str)]
theorem sc_meet_of : FnScope N_meet_of [("lattice" : Str), ("x" : Str), ("y" : Str)] (defScope (top 12)) := ⟨rfl, rfl, rfl, by decide +kernel, rfl, by decide +kernel, by decide +kernel⟩
def R_meet_of : RS := (rRet (mCall F_join_of (mCons (mCall F_turned_over (mCons (mVar 0) mNil)) (mCons (mVar 1) (mCons (mVar 2) mNil)))))
def F_meet_of : List D → SS → Option D := fnR N_meet_of 3 R_meet_of
theorem wk_meet_of {P : Program} {wl : World} {w : Ws} {mg : Str → Option Value} (M : Blt mg) (G : Gnd w mg) (c_join_of : DefP P wl w mg 7 "join_of" F_join_of) (c_turned_over : DefP P wl w mg 12 "turned_over" F_turned_over) (D : DefC w mg "meet_of" (top 12)) : DefP P wl w mg 13 "meet_of" F_meet_of :=
  have S := sc_meet_of
  D.p (k := 12) S (fun _ _ _ _ _ _ us hl => match us, hl with | [_, _, _], _ => rfl) fun f c A outer s H E hr hf => (dr_one (dr_ret (dp_call hf c_join_of (hr.mono (by decide)) (by rfl) (da_cons (dp_call hf c_turned_over (hr.mono (by decide)) (by rfl) (da_cons (dp_var 0) da_nil)) (da_cons (dp_var 1) (da_cons (dp_var 2) da_nil))))))

def N_has_joins : List Str := [("lattice" : Str), ("many" : Str), ("x" : Str), ("y" : Str)]
theorem sc_has_joins : FnScope N_has_joins [("lattice" : Str)] (defScope (top 13)) := ⟨rfl, rfl, rfl, by decide +kernel, rfl, by decide +kernel, by decide +kernel⟩
def R_has_joins : RS := (rSeq (rAsg (mOp fIx (mVar 0) (mC (.int 1))) (tgN 1)) (rRet (mAll2 false (iRng (mVar 1)) (tgN 2) bYes (iRng (mVar 2)) (tgN 3) bYes (mOp fNotN (mCall F_join_of (mCons (mVar 0) (mCons (mVar 2) (mCons (mVar 3) mNil)))) (mC .non)) [2, 3] [3])))
def F_has_joins : List D → SS → Option D := fnR N_has_joins 1 R_has_joins
theorem wk_has_joins {P : Program} {wl : World} {w : Ws} {mg : Str → Option Value} (M : Blt mg) (G : Gnd w mg) (c_join_of : DefP P wl w mg 7 "join_of" F_join_of) (D : DefC w mg "has_joins" (top 13)) : DefP P wl w mg 11 "has_joins" F_has_joins :=
  have S := sc_has_joins
  D.p (k := 10) S (fun _ _ _ _ _ _ us hl => match us, hl with | [_], _ => rfl) fun f c A outer s H E hr hf => (dr_cons (dr_set (i := 1) S.nd rfl (by first | exact Or.inl rfl | exact Or.inr rfl) (dp_ix (dp_var 0) dp_int)) (dr_one (dr_ret (dp_allG2 hf (dg_gen2 (k := 7) (own := [(("x" : Str), 2), (("y" : Str), 3)]) (own1 := [3]) rfl S.nd (hr.mono (by decide)) hf G.bm ((G.nm _ _).trans (by rfl)) (di_rng (by rfl) M.range (dp_var 1)) (genOk_by (by rfl)) (fun _ => (gt_name (i := 2) (by decide))) (by decide) (fun _ => (gt_name (i := 3) (by decide))) (fun _ _ _ _ _ _ _ _ => (pg_name S.nd rfl (by first | exact Or.inl rfl | exact Or.inr rfl))) (fun _ _ _ _ _ _ _ _ hr1 hf1 => dts_nil) (fun _ _ _ _ _ _ _ _ hr1 hf1 => (di_rng (by rfl) M.range (dp_var 2))) (fun _ _ _ _ _ _ _ _ => (pg_name S.nd rfl (by first | exact Or.inl rfl | exact Or.inr rfl))) (fun _ _ _ _ _ _ _ _ hr1 hf1 => dts_nil) (fun _ _ _ _ _ _ _ _ hr1 hf1 => (dp_notN (dp_call hf1 c_join_of (hr1.mono (by decide)) (by rfl) (da_cons (dp_var 0) (da_cons (dp_var 2) (da_cons (dp_var 3) da_nil)))) dp_non))) (hr.mono (by decide)) (by rfl) M.all_))))

def N_is_lattice : List Str := [("lattice" : Str)]
theorem sc_is_lattice : FnScope N_is_lattice [("lattice" : Str)] (defScope (top 14)) := ⟨rfl, rfl, rfl, by decide +kernel, rfl, by decide +kernel, by decide +kernel⟩
def R_is_lattice : RS := (rSeq (rIf (bOr (bNot (bV (mCall F_is_order_of (mCons (mVar 0) (mCons (mC (.str ("lattice" : Str))) mNil))))) (bV (mOp fEq (mOp fIx (mVar 0) (mC (.int 1))) (mC (.int 0))))) (rRet (mC (.bl false))) rNext) (rRet (mAnd (mCall F_has_joins (mCons (mVar 0) mNil)) (mCall F_has_joins (mCons (mCall F_turned_over (mCons (mVar 0) mNil)) mNil)))))
def F_is_lattice : List D → SS → Option D := fnR N_is_lattice 1 R_is_lattice
theorem wk_is_lattice {P : Program} {wl : World} {w : Ws} {mg : Str → Option Value} (M : Blt mg) (G : Gnd w mg) (c_has_joins : DefP P wl w mg 11 "has_joins" F_has_joins) (c_is_order_of : DefP P wl w mg 9 "is_order_of" F_is_order_of) (c_turned_over : DefP P wl w mg 12 "turned_over" F_turned_over) (D : DefC w mg "is_lattice" (top 14)) : DefP P wl w mg 13 "is_lattice" F_is_lattice :=
  have S := sc_is_lattice
  D.p (k := 12) S (fun _ _ _ _ _ _ us hl => match us, hl with | [_], _ => rfl) fun f c A outer s H E hr hf => (dr_cons (dr_if ((db_or (db_not (db_val (dp_call hf c_is_order_of (hr.mono (by decide)) (by rfl) (da_cons (dp_var 0) (da_cons dp_str da_nil))))) (db_or1 (dt_eq (hr.mono (by decide)) (dp_ix (dp_var 0) dp_int) dp_int))).pt) (dr_one (dr_ret dp_bl)) dr_nil) (dr_one (dr_ret (dp_and (dp_call hf c_has_joins (hr.mono (by decide)) (by rfl) (da_cons (dp_var 0) da_nil)) (dp_one (dp_call hf c_has_joins (hr.mono (by decide)) (by rfl) (da_cons (dp_call hf c_turned_over (hr.mono (by decide)) (by rfl) (da_cons (dp_var 0) da_nil)) da_nil)))))))

def N_greatest_of : List Str := [("lattice" : Str), ("members" : Str)]
theorem sc_greatest_of : FnScope N_greatest_of [("lattice" : Str), ("members" : Str)] (defScope (top 16)) := ⟨rfl, rfl, rfl, by decide +kernel, rfl, by decide +kernel, by decide +kernel⟩
abbrev T_greatest_of : XT := greatT
theorem wk_greatest_of {P : Program} {wl : World} {w : Ws} {mg : Str → Option Value} (M : Blt mg) (G : Gnd w mg) (c_least_of : DefX P wl w mg 5 "least_of" T_least_of) (c_turned_over : DefP P wl w mg 12 "turned_over" F_turned_over) (D : DefC w mg "greatest_of" (top 16)) : DefX P wl w mg 13 "greatest_of" GF.Y_greatest_of :=
  have S := sc_greatest_of
  DefX.n (D.x (k := 12) S (fun _ _ _ _ _ _ us hl => match us, hl with | [_, _], _ => rfl) fun f c A outer s H E hr hf => (ds_one (ds_ret (dx_call hf c_least_of (hr.mono (by decide)) (by rfl) (dxa_cons (dx_of (dp_call hf c_turned_over (hr.mono (by decide)) (by rfl) (da_cons (dp_var 0) da_nil))) (dxa_cons (dx_of (dp_var 1)) dxa_nil)))))) rfl

def N_join_irreducible : List Str := [("lattice" : Str), ("found" : Str), ("own" : Str), ("row" : Str), ("other" : Str), ("less" : Str)]
theorem sc_join_irreducible : FnScope N_join_irreducible [("lattice" : Str)] (defScope (top 15)) := ⟨rfl, rfl, rfl, by decide +kernel, rfl, by decide +kernel, by decide +kernel⟩
abbrev T_join_irreducible : XT := jirrT
theorem wk_join_irreducible {P : Program} {wl : World} {w : Ws} {mg : Str → Option Value} (M : Blt mg) (G : Gnd w mg) (c_below_of : DefP P wl w mg 11 "below_of" F_below_of) (c_greatest_of : DefX P wl w mg 13 "greatest_of" T_greatest_of) (D : DefC w mg "join_irreducible" (top 15)) : DefX P wl w mg 14 "join_irreducible" GF.Y_join_irreducible :=
  have S := sc_join_irreducible
  DefX.n (D.x (k := 13) S (fun _ _ _ _ _ _ us hl => match us, hl with | [_], _ => rfl) fun f c A outer s H E hr hf => (ds_cons (ds_set (i := 1) S.nd rfl (by first | exact Or.inl rfl | exact Or.inr rfl) (dx_new (dxl_of (dl_lst da_nil)))) (ds_cons (ds_for PassesOwn.never rfl (own := [2, 3]) (gt_tup (gts_cons (gt_name (i := 2) (by decide)) (gts_cons (gt_name (i := 3) (by decide)) gts_nil))) (dxi_of (di_enum (by rfl) M.enumerate (dp_call hf c_below_of (hr.mono (by decide)) (by rfl) (da_cons (dp_var 0) da_nil)))) (pg_tup rfl (pgs_cons (pg_name S.nd rfl (by first | exact Or.inl rfl | exact Or.inr rfl)) (pgs_cons (pg_name S.nd rfl (by first | exact Or.inl rfl | exact Or.inr rfl)) pgs_nil))) (ds_cons (ds_set (i := 5) S.nd rfl (by first | exact Or.inl rfl | exact Or.inr rfl) (dx_of (dp_tupG hf (dg_gen (k := 0) (own := [(("other" : Str), 4)]) rfl S.nd (hr.mono (by decide)) hf G.bm ((G.nm _ _).trans (by rfl)) (di_seq (dp_var 3)) (genOk_by (by rfl)) (fun _ => (gt_name (i := 4) (by decide))) (fun _ _ _ _ _ _ _ _ => (pg_name S.nd rfl (by first | exact Or.inl rfl | exact Or.inr rfl))) (fun _ _ _ _ _ _ _ _ hr1 hf1 => (dts_one (dt_ne (hr1.mono (by decide)) (dp_var 4) (dp_var 2)))) (fun _ _ _ _ _ _ _ _ hr1 hf1 => (dp_var 4))) (hr.mono (by decide)) (by rfl) M.tuple))) (ds_one (ds_if ((dxb_and (dxb_of (db_tru (dp_var 5))) (dxb_and1 (dxt_notN (dx_call hf c_greatest_of (hr.mono (by decide)) (by rfl) (dxa_cons (dx_of (dp_var 0)) (dxa_cons (dx_of (dp_var 5)) dxa_nil))) (dx_of dp_non)))).pt) (ds_one (ds_app (dp_var 1) (dx_of (dp_var 2)))) ds_nil)))) (ds_one (ds_ret (dx_of (dp_tupV (by rfl) M.tuple (dp_var 1)))))))) rfl

def N_meet_irreducible : List Str := [("lattice" : Str)]
theorem sc_meet_irreducible : FnScope N_meet_irreducible [("lattice" : Str)] (defScope (top 17)) := ⟨rfl, rfl, rfl, by decide +kernel, rfl, by decide +kernel, by decide +kernel⟩
abbrev T_meet_irreducible : XT := mirrT
theorem wk_meet_irreducible {P : Program} {wl : World} {w : Ws} {mg : Str → Option Value} (M : Blt mg) (G : Gnd w mg) (c_join_irreducible : DefX P wl w mg 14 "join_irreducible" T_join_irreducible) (c_turned_over : DefP P wl w mg 12 "turned_over" F_turned_over) (D : DefC w mg "meet_irreducible" (top 17)) : DefX P wl w mg 15 "meet_irreducible" GF.Y_meet_irreducible :=
  have S := sc_meet_irreducible
  DefX.n (D.x (k := 14) S (fun _ _ _ _ _ _ us hl => match us, hl with | [_], _ => rfl) fun f c A outer s H E hr hf => (ds_one (ds_ret (dx_call hf c_join_irreducible (hr.mono (by decide)) (by rfl) (dxa_cons (dx_of (dp_call hf c_turned_over (hr.mono (by decide)) (by rfl) (da_cons (dp_var 0) da_nil))) dxa_nil))))) rfl

def N_law_cell : List Str := [("_law_script" : Str), ("_law_k" : Str)]
theorem sc_law_cell : FnScope N_law_cell [("_law_script" : Str), ("_law_k" : Str)] (defScope (top 19)) := ⟨rfl, rfl, rfl, by decide +kernel, rfl, by decide +kernel, by decide +kernel⟩
def X_law_cell (ns : List Int) : XS := (sSeq (sIf (xbOf (bV (mOp fLt (mVar 1) (mLenS ns)))) (sRet (xOf (mIxS ns (mVar 1)))) sNext) (sRet (xOf (mC (.int 0)))))
abbrev T_law_cell : XTS := cellT
def Y_law_cell : XTS := fnS N_law_cell 2 X_law_cell
theorem wk_law_cell {P : Program} {wl : World} {w : Ws} {mg : Str → Option Value} (M : Blt mg) (G : Gnd w mg) (D : DefC w mg "_law_cell" (top 19)) : DefS P wl w mg 1 "_law_cell" Y_law_cell :=
  have S := sc_law_cell
  D.s (k := 0) S (fun _ _ _ _ _ _ us hl => match us, hl with | [_, _], _ => rfl) fun f c a ns A outer s H E hr hf => (ds_cons (ds_if (dxb_of (dt_lt (dp_var 1) (dp_lenS hf (by rfl) M.len pe_scr))) (ds_one (ds_ret (dx_of (dp_ixS hf pe_scr (dp_var 1))))) ds_nil) (ds_one (ds_ret (dx_of dp_int))))

def N_law_digits : List Str := [("_law_script" : Str), ("_law_first" : Str), ("_law_last" : Str), ("_law_digits_here" : Str), ("_law_k" : Str), ("_law_cell_here" : Str), ("_law_turn" : Str), ("_law_seed" : Str)]
theorem sc_law_digits : FnScope N_law_digits [("_law_script" : Str), ("_law_first" : Str), ("_law_last" : Str)] (defScope (top 20)) := ⟨rfl, rfl, rfl, by decide +kernel, rfl, by decide +kernel, by decide +kernel⟩
def X_law_digits (ns : List Int) : XS := (sSeq (sAsg (xNew (xaOf (mLst mNil))) (tgN 3)) (sSeq (sFor (xiOf (iRng2 (mVar 1) (mVar 2))) (tgN 4) (sSeq (sAsg (xCallS T_law_cell ns (xCons (xOf (mVar 4)) xNil)) (tgN 5)) (sSeq (sIf (xbOf (bV (mOp fLt (mVar 5) (mC (.int 0))))) (sAsg (xOf (mOp fSub (mC (.int 1)) (mOp fMul (mC (.int 2)) (mVar 5)))) (tgN 5)) sNext) (sIf (xbOf (bV (mOp fGe (mVar 5) (mOp fPow (mC (.int 10)) (mC (.int 18)))))) (sFor (xiOf (iRng (mC (.int 60)))) (tgN 6) (sIf (xbOf (bV (mOp fGt (mVar 5) (mC (.int 0))))) (sSeq (sAppP (mVar 3) (xOf (mOp fMod (mF1 fInt (mVar 5)) (mC (.int 1000))))) (sAsg (xOf (mOp fDiv (mVar 5) (mC (.int 1000)))) (tgN 5))) sNext)) (sSeq (sAsg (xOf (mOp fMod (mF1 fInt (mOp fAdd (mOp fAdd (mOp fMul (mVar 5) (mC (.int 48271))) (mOp fMul (mVar 4) (mC (.int 69621)))) (mC (.int 11)))) (mC (.int 2147483647)))) (tgN 7)) (sFor (xiOf (iRng (mC (.int 12)))) (tgN 6) (sSeq (sAsg (xOf (mOp fMod (mF1 fInt (mOp fAdd (mOp fAdd (mOp fMul (mVar 7) (mC (.int 16807))) (mOp fMul (mC (.int 7)) (mVar 6))) (mC (.int 1)))) (mC (.int 2147483647)))) (tgN 7)) (sAppP (mVar 3) (xOf (mOp fMod (mF1 fInt (mOp fDiv (mVar 7) (mC (.int 997)))) (mC (.int 1000)))))))))))) (sRet (xOf (mVar 3)))))
abbrev T_law_digits : XTS := digitsT
def Y_law_digits : XTS := fnS N_law_digits 3 X_law_digits
theorem wk_law_digits {P : Program} {wl : World} {w : Ws} {mg : Str → Option Value} (M : Blt mg) (G : Gnd w mg) (c_law_cell : DefS P wl w mg 1 "_law_cell" T_law_cell) (D : DefC w mg "_law_digits" (top 20)) : DefS P wl w mg 2 "_law_digits" Y_law_digits :=
  have S := sc_law_digits
  D.s (k := 1) S (fun _ _ _ _ _ _ us hl => match us, hl with | [_, _, _], _ => rfl) fun f c a ns A outer s H E hr hf => (ds_cons (ds_set (i := 3) S.nd rfl (by first | exact Or.inl rfl | exact Or.inr rfl) (dx_new (dxl_of (dl_lst da_nil))) (hfx := fxS (i := 3) (by decide))) (ds_cons (ds_for PassesOwn.never rfl (own := [4]) (gt_name (i := 4) (by decide) (hfx := fxS (i := 4) (by decide))) (dxi_of (di_rng2 (by rfl) M.range (dp_var 1) (dp_var 2))) (pg_name S.nd rfl (by first | exact Or.inl rfl | exact Or.inr rfl)) (ds_cons (ds_set (i := 5) S.nd rfl (by first | exact Or.inl rfl | exact Or.inr rfl) (dx_callS hf c_law_cell (hr.mono (by decide)) (by rfl) pe_scr (dxa_cons (dx_of (dp_var 4)) dxa_nil)) (hfx := fxS (i := 5) (by decide))) (ds_cons (ds_if (dxb_of (dt_lt (dp_var 5) dp_int)) (ds_one (ds_set (i := 5) S.nd rfl (by first | exact Or.inl rfl | exact Or.inr rfl) (dx_of (dp_sub dp_int (dp_mul dp_int (dp_var 5)))) (hfx := fxS (i := 5) (by decide)))) ds_nil) (ds_one (ds_if (dxb_of (dt_ge (dp_var 5) (dp_pow dp_int dp_int))) (ds_one (ds_for PassesOwn.never rfl (own := [6]) (gt_name (i := 6) (by decide) (hfx := fxS (i := 6) (by decide))) (dxi_of (di_rng (by rfl) M.range dp_int)) (pg_name S.nd rfl (by first | exact Or.inl rfl | exact Or.inr rfl)) (ds_one (ds_if (dxb_of (dt_gt (dp_var 5) dp_int)) (ds_cons (ds_app (dp_var 3) (dx_of (dp_mod (dp_intc (by rfl) M.int (dp_var 5)) dp_int))) (ds_one (ds_set (i := 5) S.nd rfl (by first | exact Or.inl rfl | exact Or.inr rfl) (dx_of (dp_div (dp_var 5) dp_int)) (hfx := fxS (i := 5) (by decide))))) ds_nil)))) (ds_cons (ds_set (i := 7) S.nd rfl (by first | exact Or.inl rfl | exact Or.inr rfl) (dx_of (dp_mod (dp_intc (by rfl) M.int (dp_add (dp_add (dp_mul (dp_var 5) dp_int) (dp_mul (dp_var 4) dp_int)) dp_int)) dp_int)) (hfx := fxS (i := 7) (by decide))) (ds_one (ds_for PassesOwn.never rfl (own := [6]) (gt_name (i := 6) (by decide) (hfx := fxS (i := 6) (by decide))) (dxi_of (di_rng (by rfl) M.range dp_int)) (pg_name S.nd rfl (by first | exact Or.inl rfl | exact Or.inr rfl)) (ds_cons (ds_set (i := 7) S.nd rfl (by first | exact Or.inl rfl | exact Or.inr rfl) (dx_of (dp_mod (dp_intc (by rfl) M.int (dp_add (dp_add (dp_mul (dp_var 7) dp_int) (dp_mul dp_int (dp_var 6))) dp_int)) dp_int)) (hfx := fxS (i := 7) (by decide))) (ds_one (ds_app (dp_var 3) (dx_of (dp_mod (dp_intc (by rfl) M.int (dp_div (dp_var 7) dp_int)) dp_int))))))))))))) (ds_one (ds_ret (dx_of (dp_var 3))))))

def N_law_draw : List Str := [("_law_box_here" : Str), ("_law_many" : Str), ("_law_at" : Str)]
theorem sc_law_draw : FnScope N_law_draw [("_law_box_here" : Str), ("_law_many" : Str)] (defScope (top 21)) := ⟨rfl, rfl, rfl, by decide +kernel, rfl, by decide +kernel, by decide +kernel⟩
def X_law_draw : XS := (sSeq (sAsg (xOf (mOp fIx (mVar 0) (mC (.int 1)))) (tgN 2)) (sSeq (sSub (xOf (mOp fAdd (mVar 2) (mC (.int 1)))) (mVar 0) (mC (.int 1))) (sSeq (sIf (xbOf (bV (mOp fLt (mVar 2) (mF1 fLen (mOp fIx (mVar 0) (mC (.int 0))))))) (sRet (xOf (mOp fMod (mF1 fInt (mOp fIx (mOp fIx (mVar 0) (mC (.int 0))) (mVar 2))) (mVar 1)))) sNext) (sRet (xOf (mC (.int 0)))))))
abbrev T_law_draw : XT := drawT
def Y_law_draw : XT := fnT N_law_draw 2 X_law_draw
theorem wk_law_draw {P : Program} {wl : World} {w : Ws} {mg : Str → Option Value} (M : Blt mg) (G : Gnd w mg) (D : DefC w mg "_law_draw" (top 21)) : DefX P wl w mg 1 "_law_draw" Y_law_draw :=
  have S := sc_law_draw
  D.x (k := 0) S (fun _ _ _ _ _ _ us hl => match us, hl with | [_, _], _ => rfl) fun f c A outer s H E hr hf => (ds_cons (ds_set (i := 2) S.nd rfl (by first | exact Or.inl rfl | exact Or.inr rfl) (dx_of (dp_ix (dp_var 0) dp_int))) (ds_cons (ds_sub (dx_of (dp_add (dp_var 2) dp_int)) (dp_var 0) dp_int) (ds_cons (ds_if (dxb_of (dt_lt (dp_var 2) (dp_len (by rfl) M.len (dp_ix (dp_var 0) dp_int)))) (ds_one (ds_ret (dx_of (dp_mod (dp_intc (by rfl) M.int (dp_ix (dp_ix (dp_var 0) dp_int) (dp_var 2))) (dp_var 1))))) ds_nil) (ds_one (ds_ret (dx_of dp_int))))))

def N_law_same : List Str := [("_law_actual" : Str), ("_law_expected" : Str), ("_law_k" : Str)]
theorem sc_law_same : FnScope N_law_same [("_law_actual" : Str), ("_law_expected" : Str)] (defScope (top 22)) := ⟨rfl, rfl, rfl, by decide +kernel, rfl, by decide +kernel, by decide +kernel⟩
def R_law_same (F_rec : List D → SS → Option D) : RS := (rSeq (rIf (bV (mF1 (fIs "tuple") (mVar 1))) (rSeq (rIf (bOr (bNot (bV (mF1 (fIs "tuple") (mVar 0)))) (bV (mOp fNe (mF1 fLen (mVar 0)) (mF1 fLen (mVar 1))))) (rRet (mC (.bl false))) rNext) (rSeq (rFor (iRng (mF1 fLen (mVar 1))) (tgN 2) (rIf (bNot (bV (mCall F_rec (mCons (mOp fIx (mVar 0) (mVar 2)) (mCons (mOp fIx (mVar 1) (mVar 2)) mNil))))) (rRet (mC (.bl false))) rNext)) (rRet (mC (.bl true))))) rNext) (rSeq (rIf (bV (mOp fIsN (mVar 1) (mC .non))) (rRet (mOp fIsN (mVar 0) (mC .non))) rNext) (rSeq (rIf (bV (mF1 (fIs "bool") (mVar 1))) (rRet (mAnd (mF1 (fIs "bool") (mVar 0)) (mOp fEq (mVar 0) (mVar 1)))) rNext) (rSeq (rIf (bV (mF1 (fIs "int") (mVar 1))) (rRet (mAnd (mF1 (fIs "int") (mVar 0)) (mAnd (mNot (mF1 (fIs "bool") (mVar 0))) (mOp fEq (mVar 0) (mVar 1))))) rNext) (rRet (mAnd (mF1 (fIs "str") (mVar 0)) (mOp fEq (mVar 0) (mVar 1))))))))
theorem wk_law_same {k : Nat} {F_rec : List D → SS → Option D} {P : Program} {wl : World} {w : Ws} {mg : Str → Option Value} (M : Blt mg) (G : Gnd w mg) (D : DefC w mg "_law_same" (top 22)) (c_rec : DefP P wl w mg (k + 1) "_law_same" F_rec) : DefP P wl w mg (k + 2) "_law_same" (fnR N_law_same 2 (R_law_same F_rec)) :=
  have S := sc_law_same
  D.p (k := k + 1) S (fun _ _ _ _ _ _ us hl => match us, hl with | [_, _], _ => rfl) fun f c A outer s H E hr hf => (dr_cons (dr_if (db_val (dp_isi (by rfl) M.isinstance (by rfl) M.tuple (by decide +kernel) (dp_var 1))) (dr_cons (dr_if ((db_or (db_not (db_val (dp_isi (by rfl) M.isinstance (by rfl) M.tuple (by decide +kernel) (dp_var 0)))) (db_or1 (dt_ne (hr.mono (by omega)) (dp_len (by rfl) M.len (dp_var 0)) (dp_len (by rfl) M.len (dp_var 1))))).pt) (dr_one (dr_ret dp_bl)) dr_nil) (dr_cons (dr_for PassesOwn.never rfl (own := [2]) (gt_name (i := 2) (by decide)) (di_rng (by rfl) M.range (dp_len (by rfl) M.len (dp_var 1))) (pg_name S.nd rfl (by first | exact Or.inl rfl | exact Or.inr rfl)) (dr_one (dr_if (db_not (db_val (dp_call hf c_rec hr (by rfl) (da_cons (dp_ix (dp_var 0) (dp_var 2)) (da_cons (dp_ix (dp_var 1) (dp_var 2)) da_nil))))) (dr_one (dr_ret dp_bl)) dr_nil))) (dr_one (dr_ret dp_bl)))) dr_nil) (dr_cons (dr_if (dt_isN (dp_var 1) dp_non) (dr_one (dr_ret (dp_isN (dp_var 0) dp_non))) dr_nil) (dr_cons (dr_if (db_val (dp_isi (by rfl) M.isinstance (by rfl) M.bool (by decide +kernel) (dp_var 1))) (dr_one (dr_ret (dp_and (dp_isi (by rfl) M.isinstance (by rfl) M.bool (by decide +kernel) (dp_var 0)) (dp_one (dp_eq (hr.mono (by omega)) (dp_var 0) (dp_var 1)))))) dr_nil) (dr_cons (dr_if (db_val (dp_isi (by rfl) M.isinstance (by rfl) M.int (by decide +kernel) (dp_var 1))) (dr_one (dr_ret (dp_and (dp_isi (by rfl) M.isinstance (by rfl) M.int (by decide +kernel) (dp_var 0)) (dp_and (dp_not (dp_isi (by rfl) M.isinstance (by rfl) M.bool (by decide +kernel) (dp_var 0))) (dp_one (dp_eq (hr.mono (by omega)) (dp_var 0) (dp_var 1))))))) dr_nil) (dr_one (dr_ret (dp_and (dp_isi (by rfl) M.isinstance (by rfl) M.str (by decide +kernel) (dp_var 0)) (dp_one (dp_eq (hr.mono (by omega)) (dp_var 0) (dp_var 1))))))))))

abbrev F_law_same : List D → SS → Option D := sameF
def N_law_box : List Str := [("_law_script" : Str), ("_law_first" : Str), ("_law_last" : Str)]
theorem sc_law_box : FnScope N_law_box [("_law_script" : Str), ("_law_first" : Str), ("_law_last" : Str)] (defScope (top 23)) := ⟨rfl, rfl, rfl, by decide +kernel, rfl, by decide +kernel, by decide +kernel⟩
def X_law_box (ns : List Int) : XS := (sRet (xNew (xLst (xCons (xCallS T_law_digits ns (xCons (xOf (mVar 1)) (xCons (xOf (mVar 2)) xNil))) (xCons (xOf (mC (.int 0))) xNil)))))
abbrev T_law_box : XTS := boxT
def Y_law_box : XTS := fnS N_law_box 3 X_law_box
theorem wk_law_box {P : Program} {wl : World} {w : Ws} {mg : Str → Option Value} (M : Blt mg) (G : Gnd w mg) (c_law_digits : DefS P wl w mg 2 "_law_digits" T_law_digits) (D : DefC w mg "_law_box" (top 23)) : DefS P wl w mg 3 "_law_box" Y_law_box :=
  have S := sc_law_box
  D.s (k := 2) S (fun _ _ _ _ _ _ us hl => match us, hl with | [_, _, _], _ => rfl) fun f c a ns A outer s H E hr hf => (ds_one (ds_ret (dx_new (dxl_lst (dxa_cons (dx_callS hf c_law_digits (hr.mono (by decide)) (by rfl) pe_scr (dxa_cons (dx_of (dp_var 1)) (dxa_cons (dx_of (dp_var 2)) dxa_nil))) (dxa_cons (dx_of dp_int) dxa_nil))))))

def N_law_some : List Str := [("_law_box_here" : Str), ("_law_many" : Str), ("_law_sparse" : Str), ("_law_k" : Str)]
theorem sc_law_some : FnScope N_law_some [("_law_box_here" : Str), ("_law_many" : Str), ("_law_sparse" : Str)] (defScope (top 24)) := ⟨rfl, rfl, rfl, by decide +kernel, rfl, by decide +kernel, by decide +kernel⟩
def X_law_some : XS := (sRet (xTupL (xComp (xiOf (iRng (mVar 1))) (tgN 3) (xV (xOp fLt (xCall T_law_draw (xCons (xOf (mVar 0)) (xCons (xOf (mC (.int 6))) xNil))) (xOf (mVar 2)))) (xOf (mVar 3)) [3])))
abbrev T_law_some : XT := someT
def Y_law_some : XT := fnT N_law_some 3 X_law_some
theorem wk_law_some {P : Program} {wl : World} {w : Ws} {mg : Str → Option Value} (M : Blt mg) (G : Gnd w mg) (c_law_draw : DefX P wl w mg 1 "_law_draw" T_law_draw) (D : DefC w mg "_law_some" (top 24)) : DefX P wl w mg 2 "_law_some" Y_law_some :=
  have S := sc_law_some
  D.x (k := 1) S (fun _ _ _ _ _ _ us hl => match us, hl with | [_, _, _], _ => rfl) fun f c A outer s H E hr hf => (ds_one (ds_ret (dx_tupL (by rfl) M.tuple (dxl_lc (own := [(("_law_k" : Str), 3)]) rfl S.nd (dxi_of (di_rng (by rfl) M.range (dp_var 1))) (blkOk_by (by rfl)) (gt_name (i := 3) (by decide)) (fun _ _ _ _ _ => (pg_name S.nd rfl (by first | exact Or.inl rfl | exact Or.inr rfl))) (fun _ _ _ _ _ => (dxts_one (dxt_lt (dx_call hf.blk c_law_draw (hr.mono (by decide)) (by rfl) (dxa_cons (dx_of (dp_var 0)) (dxa_cons (dx_of dp_int) dxa_nil))) (dx_of (dp_var 2))))) (fun _ _ _ _ _ => (dx_of (dp_var 3)))))))

def N_law_table : List Str := [("_law_box_here" : Str), ("_law_things" : Str), ("_law_marks" : Str), ("_law_many" : Str), ("_law_sparse" : Str), ("_law_k" : Str), ("_law_rows" : Str)]
theorem sc_law_table : FnScope N_law_table [("_law_box_here" : Str), ("_law_things" : Str), ("_law_marks" : Str)] (defScope (top 25)) := ⟨rfl, rfl, rfl, by decide +kernel, rfl, by decide +kernel, by decide +kernel⟩
def X_law_table : XS := (sSeq (sAsg (xCall T_law_draw (xCons (xOf (mVar 0)) (xCons (xOf (mOp fAdd (mVar 2) (mC (.int 1)))) xNil))) (tgN 3)) (sSeq (sAsg (xOp fAdd (xOf (mC (.int 2))) (xCall T_law_draw (xCons (xOf (mVar 0)) (xCons (xOf (mC (.int 3))) xNil)))) (tgN 4)) (sSeq (sAsg (xTupL (xComp (xRng (xCall T_law_draw (xCons (xOf (mVar 0)) (xCons (xOf (mOp fAdd (mVar 1) (mC (.int 1)))) xNil)))) (tgN 5) (xbOf bYes) (xCall T_law_some (xCons (xOf (mVar 0)) (xCons (xOf (mVar 3)) (xCons (xOf (mVar 4)) xNil)))) [5])) (tgN 6)) (sRet (xOf (mTup (mCons (mC (.str ("table" : Str))) (mCons (mVar 3) (mCons (mVar 6) mNil)))))))))
abbrev T_law_table : XT := tableT
def Y_law_table : XT := fnT N_law_table 3 X_law_table
theorem wk_law_table {P : Program} {wl : World} {w : Ws} {mg : Str → Option Value} (M : Blt mg) (G : Gnd w mg) (c_law_draw : DefX P wl w mg 1 "_law_draw" T_law_draw) (c_law_some : DefX P wl w mg 2 "_law_some" T_law_some) (D : DefC w mg "_law_table" (top 25)) : DefX P wl w mg 3 "_law_table" Y_law_table :=
  have S := sc_law_table
  D.x (k := 2) S (fun _ _ _ _ _ _ us hl => match us, hl with | [_, _, _], _ => rfl) fun f c A outer s H E hr hf => (ds_cons (ds_set (i := 3) S.nd rfl (by first | exact Or.inl rfl | exact Or.inr rfl) (dx_call hf c_law_draw (hr.mono (by decide)) (by rfl) (dxa_cons (dx_of (dp_var 0)) (dxa_cons (dx_of (dp_add (dp_var 2) dp_int)) dxa_nil)))) (ds_cons (ds_set (i := 4) S.nd rfl (by first | exact Or.inl rfl | exact Or.inr rfl) (dx_add (dx_of dp_int) (dx_call hf c_law_draw (hr.mono (by decide)) (by rfl) (dxa_cons (dx_of (dp_var 0)) (dxa_cons (dx_of dp_int) dxa_nil))))) (ds_cons (ds_set (i := 6) S.nd rfl (by first | exact Or.inl rfl | exact Or.inr rfl) (dx_tupL (by rfl) M.tuple (dxl_lc (own := [(("_law_k" : Str), 5)]) rfl S.nd (dxi_rng (by rfl) M.range (dx_call hf c_law_draw (hr.mono (by decide)) (by rfl) (dxa_cons (dx_of (dp_var 0)) (dxa_cons (dx_of (dp_add (dp_var 1) dp_int)) dxa_nil)))) (blkOk_by (by rfl)) (gt_name (i := 5) (by decide)) (fun _ _ _ _ _ => (pg_name S.nd rfl (by first | exact Or.inl rfl | exact Or.inr rfl))) (fun _ _ _ _ _ => dxts_nil) (fun _ _ _ _ _ => (dx_call hf.blk c_law_some (hr.mono (by decide)) (by rfl) (dxa_cons (dx_of (dp_var 0)) (dxa_cons (dx_of (dp_var 3)) (dxa_cons (dx_of (dp_var 4)) dxa_nil)))))))) (ds_one (ds_ret (dx_of (dp_tup (da_cons dp_str (da_cons (dp_var 3) (da_cons (dp_var 6) da_nil))))))))))

def N_law_inside : List Str := [("_law_one" : Str), ("_law_other" : Str), ("_law_k" : Str)]
theorem sc_law_inside : FnScope N_law_inside [("_law_one" : Str), ("_law_other" : Str)] (defScope (top 26)) := ⟨rfl, rfl, rfl, by decide +kernel, rfl, by decide +kernel, by decide +kernel⟩
theorem wk_law_inside {P : Program} {wl : World} {w : Ws} {mg : Str → Option Value} (M : Blt mg) (G : Gnd w mg) (D : DefC w mg "_law_inside" (top 26)) : DefP P wl w mg 1 "_law_inside" GF.F_law_inside :=
  have S := sc_law_inside
  DefP.n (D.p (k := 0) S (fun _ _ _ _ _ _ us hl => match us, hl with | [_, _], _ => rfl) fun f c A outer s H E hr hf => (dr_one (dr_ret (dp_eq (hr.mono (by decide)) (dp_lenL (by rfl) M.len (dl_lc (own := [(("_law_k" : Str), 2)]) rfl S.nd (di_seq (dp_var 0)) (blkOk_by (by rfl)) (gt_name (i := 2) (by decide)) (fun _ _ _ _ _ => (pg_name S.nd rfl (by first | exact Or.inl rfl | exact Or.inr rfl))) (fun _ _ _ _ _ => (dts_one (dt_nin (hr.mono (by decide)) (dp_var 2) (dp_var 1)))) (fun _ _ _ _ _ => (dp_var 2)))) dp_int)))) rfl

def N_law_common : List Str := [("_law_table_here" : Str), ("_law_things" : Str), ("_law_m" : Str), ("_law_g" : Str)]
theorem sc_law_common : FnScope N_law_common [("_law_table_here" : Str), ("_law_things" : Str)] (defScope (top 27)) := ⟨rfl, rfl, rfl, by decide +kernel, rfl, by decide +kernel, by decide +kernel⟩
theorem wk_law_common {P : Program} {wl : World} {w : Ws} {mg : Str → Option Value} (M : Blt mg) (G : Gnd w mg) (D : DefC w mg "_law_common" (top 27)) : DefP P wl w mg 1 "_law_common" GF.F_law_common :=
  have S := sc_law_common
  DefP.n (D.p (k := 0) S (fun _ _ _ _ _ _ us hl => match us, hl with | [_, _], _ => rfl) fun f c A outer s H E hr hf => (dr_one (dr_ret (dp_tupL (by rfl) M.tuple (dl_lc (own := [(("_law_m" : Str), 2)]) rfl S.nd (di_rng (by rfl) M.range (dp_ix (dp_var 0) dp_int)) (blkOk_by (by rfl)) (gt_name (i := 2) (by decide)) (fun _ _ _ _ _ => (pg_name S.nd rfl (by first | exact Or.inl rfl | exact Or.inr rfl))) (fun _ _ _ _ _ => (dts_one (dt_eq (hr.mono (by decide)) (dp_lenL (by rfl) M.len (dl_lc (own := [(("_law_g" : Str), 3)]) rfl S.nd (di_seq (dp_var 1)) (blkOk_by (by rfl)) (gt_name (i := 3) (by decide)) (fun _ _ _ _ _ => (pg_name S.nd rfl (by first | exact Or.inl rfl | exact Or.inr rfl))) (fun _ _ _ _ _ => (dts_one (dt_nin (hr.mono (by decide)) (dp_var 2) (dp_ix (dp_ix (dp_var 0) dp_int) (dp_var 3))))) (fun _ _ _ _ _ => (dp_var 3)))) dp_int))) (fun _ _ _ _ _ => (dp_var 2))))))) rfl

def N_law_having : List Str := [("_law_table_here" : Str), ("_law_marks" : Str), ("_law_g" : Str)]
theorem sc_law_having : FnScope N_law_having [("_law_table_here" : Str), ("_law_marks" : Str)] (defScope (top 28)) := ⟨rfl, rfl, rfl, by decide +kernel, rfl, by decide +kernel, by decide +kernel⟩
theorem wk_law_having {P : Program} {wl : World} {w : Ws} {mg : Str → Option Value} (M : Blt mg) (G : Gnd w mg) (c_law_inside : DefP P wl w mg 1 "_law_inside" F_law_inside) (D : DefC w mg "_law_having" (top 28)) : DefP P wl w mg 2 "_law_having" GF.F_law_having :=
  have S := sc_law_having
  DefP.n (D.p (k := 1) S (fun _ _ _ _ _ _ us hl => match us, hl with | [_, _], _ => rfl) fun f c A outer s H E hr hf => (dr_one (dr_ret (dp_tupL (by rfl) M.tuple (dl_lc (own := [(("_law_g" : Str), 2)]) rfl S.nd (di_rng (by rfl) M.range (dp_len (by rfl) M.len (dp_ix (dp_var 0) dp_int))) (blkOk_by (by rfl)) (gt_name (i := 2) (by decide)) (fun _ _ _ _ _ => (pg_name S.nd rfl (by first | exact Or.inl rfl | exact Or.inr rfl))) (fun _ _ _ _ _ => (dts_one (db_val (dp_call hf.blk c_law_inside (hr.mono (by decide)) (by rfl) (da_cons (dp_var 1) (da_cons (dp_ix (dp_ix (dp_var 0) dp_int) (dp_var 2)) da_nil)))))) (fun _ _ _ _ _ => (dp_var 2))))))) rfl

def N_law_closure : List Str := [("_law_table_here" : Str), ("_law_marks" : Str)]
theorem sc_law_closure : FnScope N_law_closure [("_law_table_here" : Str), ("_law_marks" : Str)] (defScope (top 29)) := ⟨rfl, rfl, rfl, by decide +kernel, rfl, by decide +kernel, by decide +kernel⟩
theorem wk_law_closure {P : Program} {wl : World} {w : Ws} {mg : Str → Option Value} (M : Blt mg) (G : Gnd w mg) (c_law_common : DefP P wl w mg 1 "_law_common" F_law_common) (c_law_having : DefP P wl w mg 2 "_law_having" F_law_having) (D : DefC w mg "_law_closure" (top 29)) : DefP P wl w mg 3 "_law_closure" GF.F_law_closure :=
  have S := sc_law_closure
  DefP.n (D.p (k := 2) S (fun _ _ _ _ _ _ us hl => match us, hl with | [_, _], _ => rfl) fun f c A outer s H E hr hf => (dr_one (dr_ret (dp_call hf c_law_common (hr.mono (by decide)) (by rfl) (da_cons (dp_var 0) (da_cons (dp_call hf c_law_having (hr.mono (by decide)) (by rfl) (da_cons (dp_var 0) (da_cons (dp_var 1) da_nil))) da_nil)))))) rfl

def N_law_lectic : List Str := [("_law_many" : Str), ("_law_sets" : Str), ("_law_rows" : Str), ("_law_row" : Str), ("_law_m" : Str), ("_law_pair" : Str)]
theorem sc_law_lectic : FnScope N_law_lectic [("_law_many" : Str), ("_law_sets" : Str)] (defScope (top 30)) := ⟨rfl, rfl, rfl, by decide +kernel, rfl, by decide +kernel, by decide +kernel⟩
abbrev T_law_lectic : XT := lecticT
theorem wk_law_lectic {P : Program} {wl : World} {w : Ws} {mg : Str → Option Value} (M : Blt mg) (G : Gnd w mg) (D : DefC w mg "_law_lectic" (top 30)) : DefX P wl w mg 1 "_law_lectic" GF.Y_law_lectic :=
  have S := sc_law_lectic
  DefX.n (D.x (k := 0) S (fun _ _ _ _ _ _ us hl => match us, hl with | [_, _], _ => rfl) fun f c A outer s H E hr hf => (ds_cons (ds_set (i := 2) S.nd rfl (by first | exact Or.inl rfl | exact Or.inr rfl) (dx_new (dxl_of (dl_lst da_nil)))) (ds_cons (ds_for PassesOwn.never rfl (own := [3]) (gt_name (i := 3) (by decide)) (dxi_of (di_seq (dp_var 1))) (pg_name S.nd rfl (by first | exact Or.inl rfl | exact Or.inr rfl)) (ds_one (ds_app (dp_var 2) (dx_of (dp_tup (da_cons (dp_tupL (by rfl) M.tuple (dl_lc (own := [(("_law_m" : Str), 4)]) rfl S.nd (di_rng (by rfl) M.range (dp_var 0)) (blkOk_by (by rfl)) (gt_name (i := 4) (by decide)) (fun _ _ _ _ _ => (pg_name S.nd rfl (by first | exact Or.inl rfl | exact Or.inr rfl))) (fun _ _ _ _ _ => dts_nil) (fun _ _ _ _ _ => (dp_intc (by rfl) M.int (dp_in (hr.mono (by decide)) (dp_var 4) (dp_var 3)))))) (da_cons (dp_var 3) da_nil))))))) (ds_one (ds_ret (dx_new (dxl_lc (own := [(("_law_pair" : Str), 5)]) rfl S.nd (dxi_seq (dx_new (dxl_sortK (hr.mono (by decide)) (by rfl) M.sorted (dx_of (dp_var 2))))) (blkOk_by (by rfl)) (gt_name (i := 5) (by decide)) (fun _ _ _ _ _ => (pg_name S.nd rfl (by first | exact Or.inl rfl | exact Or.inr rfl))) (fun _ _ _ _ _ => dxts_nil) (fun _ _ _ _ _ => (dx_of (dp_ix (dp_var 5) dp_int)))))))))) rfl

def N_law_subsets : List Str := [("_law_many" : Str), ("_law_rows" : Str), ("_law_k" : Str), ("_law_row" : Str)]
theorem sc_law_subsets : FnScope N_law_subsets [("_law_many" : Str)] (defScope (top 31)) := ⟨rfl, rfl, rfl, by decide +kernel, rfl, by decide +kernel, by decide +kernel⟩
abbrev T_law_subsets : XT := subsetsT
theorem wk_law_subsets {P : Program} {wl : World} {w : Ws} {mg : Str → Option Value} (M : Blt mg) (G : Gnd w mg) (c_law_lectic : DefX P wl w mg 1 "_law_lectic" T_law_lectic) (D : DefC w mg "_law_subsets" (top 31)) : DefX P wl w mg 2 "_law_subsets" GF.Y_law_subsets :=
  have S := sc_law_subsets
  DefX.n (D.x (k := 1) S (fun _ _ _ _ _ _ us hl => match us, hl with | [_], _ => rfl) fun f c A outer s H E hr hf => (ds_cons (ds_set (i := 1) S.nd rfl (by first | exact Or.inl rfl | exact Or.inr rfl) (dx_new (dxl_of (dl_lst (da_cons (dp_tup da_nil) da_nil))))) (ds_cons (ds_for PassesOwn.never rfl (own := [2]) (gt_name (i := 2) (by decide)) (dxi_of (di_rng (by rfl) M.range (dp_var 0))) (pg_name S.nd rfl (by first | exact Or.inl rfl | exact Or.inr rfl)) (ds_one (ds_set (i := 1) S.nd rfl (by first | exact Or.inl rfl | exact Or.inr rfl) (dx_new (dxl_cat (dx_of (dp_var 1)) (dx_new (dxl_of (dl_lc (own := [(("_law_row" : Str), 3)]) rfl S.nd (di_seq (dp_var 1)) (blkOk_by (by rfl)) (gt_name (i := 3) (by decide)) (fun _ _ _ _ _ => (pg_name S.nd rfl (by first | exact Or.inl rfl | exact Or.inr rfl))) (fun _ _ _ _ _ => dts_nil) (fun _ _ _ _ _ => (dp_add (dp_var 3) (dp_tup (da_cons (dp_var 2) da_nil)))))))))))) (ds_one (ds_ret (dx_call hf c_law_lectic (hr.mono (by decide)) (by rfl) (dxa_cons (dx_of (dp_var 0)) (dxa_cons (dx_of (dp_var 1)) dxa_nil)))))))) rfl

def N_law_closed : List Str := [("_law_table_here" : Str), ("_law_row" : Str)]
theorem sc_law_closed : FnScope N_law_closed [("_law_table_here" : Str)] (defScope (top 32)) := ⟨rfl, rfl, rfl, by decide +kernel, rfl, by decide +kernel, by decide +kernel⟩
abbrev T_law_closed : XT := closedT
theorem wk_law_closed {P : Program} {wl : World} {w : Ws} {mg : Str → Option Value} (M : Blt mg) (G : Gnd w mg) (c_law_closure : DefP P wl w mg 3 "_law_closure" F_law_closure) (c_law_subsets : DefX P wl w mg 2 "_law_subsets" T_law_subsets) (D : DefC w mg "_law_closed" (top 32)) : DefX P wl w mg 4 "_law_closed" GF.Y_law_closed :=
  have S := sc_law_closed
  DefX.n (D.x (k := 3) S (fun _ _ _ _ _ _ us hl => match us, hl with | [_], _ => rfl) fun f c A outer s H E hr hf => (ds_one (ds_ret (dx_new (dxl_lc (own := [(("_law_row" : Str), 1)]) rfl S.nd (dxi_seq (dx_call hf c_law_subsets (hr.mono (by decide)) (by rfl) (dxa_cons (dx_of (dp_ix (dp_var 0) dp_int)) dxa_nil))) (blkOk_by (by rfl)) (gt_name (i := 1) (by decide)) (fun _ _ _ _ _ => (pg_name S.nd rfl (by first | exact Or.inl rfl | exact Or.inr rfl))) (fun _ _ _ _ _ => (dxts_one (dxb_of (dt_eq (hr.mono (by decide)) (dp_call hf.blk c_law_closure (hr.mono (by decide)) (by rfl) (da_cons (dp_var 0) (da_cons (dp_var 1) da_nil))) (dp_var 1))))) (fun _ _ _ _ _ => (dx_of (dp_var 1)))))))) rfl

def N_law_mixed_order : List Str := [("_law_box_here" : Str), ("_law_many" : Str), ("_law_left" : Str), ("_law_order_here" : Str), ("_law_k" : Str)]
theorem sc_law_mixed_order : FnScope N_law_mixed_order [("_law_box_here" : Str), ("_law_many" : Str)] (defScope (top 33)) := ⟨rfl, rfl, rfl, by decide +kernel, rfl, by decide +kernel, by decide +kernel⟩
abbrev T_law_mixed_order : XT := mixT
theorem wk_law_mixed_order {P : Program} {wl : World} {w : Ws} {mg : Str → Option Value} (M : Blt mg) (G : Gnd w mg) (c_law_draw : DefX P wl w mg 1 "_law_draw" T_law_draw) (D : DefC w mg "_law_mixed_order" (top 33)) : DefX P wl w mg 2 "_law_mixed_order" GF.Y_law_mixed_order :=
  have S := sc_law_mixed_order
  DefX.n (D.x (k := 1) S (fun _ _ _ _ _ _ us hl => match us, hl with | [_, _], _ => rfl) fun f c A outer s H E hr hf => (ds_cons (ds_set (i := 2) S.nd rfl (by first | exact Or.inl rfl | exact Or.inr rfl) (dx_new (dxl_of (dl_listRng rfl (by rfl) M.list (by rfl) M.range (dp_var 1))))) (ds_cons (ds_set (i := 3) S.nd rfl (by first | exact Or.inl rfl | exact Or.inr rfl) (dx_new (dxl_of (dl_lst da_nil)))) (ds_cons (ds_for PassesOwn.never rfl (own := [4]) (gt_name (i := 4) (by decide)) (dxi_of (di_rng (by rfl) M.range (dp_var 1))) (pg_name S.nd rfl (by first | exact Or.inl rfl | exact Or.inr rfl)) (ds_one (ds_app (dp_var 3) (dx_popAt (dp_var 2) (dx_mod (dx_int (by rfl) M.int (dx_call hf c_law_draw (hr.mono (by decide)) (by rfl) (dxa_cons (dx_of (dp_var 0)) (dxa_cons (dx_of dp_int) dxa_nil)))) (dx_of (dp_len (by rfl) M.len (dp_var 2)))))))) (ds_one (ds_ret (dx_of (dp_var 3)))))))) rfl

def N_law_lattice : List Str := [("_law_box_here" : Str), ("_law_things" : Str), ("_law_marks" : Str), ("_law_closed_here" : Str), ("_law_order_here" : Str), ("_law_above" : Str), ("_law_x" : Str), ("_law_y" : Str)]
theorem sc_law_lattice : FnScope N_law_lattice [("_law_box_here" : Str), ("_law_things" : Str), ("_law_marks" : Str)] (defScope (top 34)) := ⟨rfl, rfl, rfl, by decide +kernel, rfl, by decide +kernel, by decide +kernel⟩
abbrev T_law_lattice : XT := latT
theorem wk_law_lattice {P : Program} {wl : World} {w : Ws} {mg : Str → Option Value} (M : Blt mg) (G : Gnd w mg) (c_law_closed : DefX P wl w mg 4 "_law_closed" T_law_closed) (c_law_inside : DefP P wl w mg 1 "_law_inside" F_law_inside) (c_law_mixed_order : DefX P wl w mg 2 "_law_mixed_order" T_law_mixed_order) (c_law_table : DefX P wl w mg 3 "_law_table" T_law_table) (D : DefC w mg "_law_lattice" (top 34)) : DefX P wl w mg 5 "_law_lattice" GF.Y_law_lattice :=
  have S := sc_law_lattice
  DefX.n (D.x (k := 4) S (fun _ _ _ _ _ _ us hl => match us, hl with | [_, _, _], _ => rfl) fun f c A outer s H E hr hf => (ds_cons (ds_set (i := 3) S.nd rfl (by first | exact Or.inl rfl | exact Or.inr rfl) (dx_call hf c_law_closed (hr.mono (by decide)) (by rfl) (dxa_cons (dx_call hf c_law_table (hr.mono (by decide)) (by rfl) (dxa_cons (dx_of (dp_var 0)) (dxa_cons (dx_of (dp_var 1)) (dxa_cons (dx_of (dp_var 2)) dxa_nil)))) dxa_nil))) (ds_cons (ds_set (i := 4) S.nd rfl (by first | exact Or.inl rfl | exact Or.inr rfl) (dx_call hf c_law_mixed_order (hr.mono (by decide)) (by rfl) (dxa_cons (dx_of (dp_var 0)) (dxa_cons (dx_of (dp_len (by rfl) M.len (dp_var 3))) dxa_nil)))) (ds_cons (ds_set (i := 5) S.nd rfl (by first | exact Or.inl rfl | exact Or.inr rfl) (dx_new (dxl_of (dl_lst da_nil)))) (ds_cons (ds_for PassesOwn.never rfl (own := [6]) (gt_name (i := 6) (by decide)) (dxi_of (di_rng (by rfl) M.range (dp_len (by rfl) M.len (dp_var 3)))) (pg_name S.nd rfl (by first | exact Or.inl rfl | exact Or.inr rfl)) (ds_one (ds_app (dp_var 5) (dx_of (dp_tupL (by rfl) M.tuple (dl_lc (own := [(("_law_y" : Str), 7)]) rfl S.nd (di_rng (by rfl) M.range (dp_len (by rfl) M.len (dp_var 3))) (blkOk_by (by rfl)) (gt_name (i := 7) (by decide)) (fun _ _ _ _ _ => (pg_name S.nd rfl (by first | exact Or.inl rfl | exact Or.inr rfl))) (fun _ _ _ _ _ => (dts_one (db_val (dp_call hf.blk c_law_inside (hr.mono (by decide)) (by rfl) (da_cons (dp_ix (dp_var 3) (dp_ix (dp_var 4) (dp_var 6))) (da_cons (dp_ix (dp_var 3) (dp_ix (dp_var 4) (dp_var 7))) da_nil)))))) (fun _ _ _ _ _ => (dp_var 7)))))))) (ds_one (ds_ret (dx_of (dp_tup (da_cons dp_str (da_cons (dp_len (by rfl) M.len (dp_var 3)) (da_cons (dp_tupV (by rfl) M.tuple (dp_var 5)) da_nil)))))))))))) rfl

def N_law_order : List Str := [("_law_box_here" : Str), ("_law_most" : Str), ("_law_many" : Str), ("_law_order_here" : Str), ("_law_above" : Str), ("_law_x" : Str), ("_law_k" : Str), ("_law_j" : Str), ("_law_row" : Str)]
theorem sc_law_order : FnScope N_law_order [("_law_box_here" : Str), ("_law_most" : Str)] (defScope (top 35)) := ⟨rfl, rfl, rfl, by decide +kernel, rfl, by decide +kernel, by decide +kernel⟩
abbrev T_law_order : XT := lawOrdT
theorem wk_law_order {P : Program} {wl : World} {w : Ws} {mg : Str → Option Value} (M : Blt mg) (G : Gnd w mg) (c_law_draw : DefX P wl w mg 1 "_law_draw" T_law_draw) (c_law_mixed_order : DefX P wl w mg 2 "_law_mixed_order" T_law_mixed_order) (D : DefC w mg "_law_order" (top 35)) : DefX P wl w mg 3 "_law_order" GF.Y_law_order :=
  have S := sc_law_order
  DefX.n (D.x (k := 2) S (fun _ _ _ _ _ _ us hl => match us, hl with | [_, _], _ => rfl) fun f c A outer s H E hr hf => (ds_cons (ds_set (i := 2) S.nd rfl (by first | exact Or.inl rfl | exact Or.inr rfl) (dx_call hf c_law_draw (hr.mono (by decide)) (by rfl) (dxa_cons (dx_of (dp_var 0)) (dxa_cons (dx_of (dp_add (dp_var 1) dp_int)) dxa_nil)))) (ds_cons (ds_set (i := 3) S.nd rfl (by first | exact Or.inl rfl | exact Or.inr rfl) (dx_call hf c_law_mixed_order (hr.mono (by decide)) (by rfl) (dxa_cons (dx_of (dp_var 0)) (dxa_cons (dx_of (dp_var 2)) dxa_nil)))) (ds_cons (ds_set (i := 4) S.nd rfl (by first | exact Or.inl rfl | exact Or.inr rfl) (dx_new (dxl_of (dl_lst da_nil)))) (ds_cons (ds_for PassesOwn.never rfl (own := [5]) (gt_name (i := 5) (by decide)) (dxi_of (di_rng (by rfl) M.range (dp_var 2))) (pg_name S.nd rfl (by first | exact Or.inl rfl | exact Or.inr rfl)) (ds_one (ds_app (dp_var 4) (dx_new (dxl_of (dl_lst (da_cons (dp_var 5) da_nil))))))) (ds_cons (ds_for PassesOwn.never rfl (own := [6]) (gt_name (i := 6) (by decide)) (dxi_of (di_rng (by rfl) M.range (dp_var 2))) (pg_name S.nd rfl (by first | exact Or.inl rfl | exact Or.inr rfl)) (ds_cons (ds_set (i := 5) S.nd rfl (by first | exact Or.inl rfl | exact Or.inr rfl) (dx_of (dp_ix (dp_var 3) (dp_sub (dp_sub (dp_var 2) dp_int) (dp_var 6))))) (ds_one (ds_for PassesOwn.never rfl (own := [7]) (gt_name (i := 7) (by decide)) (dxi_of (di_rng2 (by rfl) M.range (dp_sub (dp_var 2) (dp_var 6)) (dp_var 2))) (pg_name S.nd rfl (by first | exact Or.inl rfl | exact Or.inr rfl)) (ds_one (ds_if (dxt_eq (hr.mono (by decide)) (dx_call hf c_law_draw (hr.mono (by decide)) (by rfl) (dxa_cons (dx_of (dp_var 0)) (dxa_cons (dx_of dp_int) dxa_nil))) (dx_of dp_int)) (ds_one (ds_sub (dx_new (dxl_sortSetQ rfl (by rfl) M.sorted (by rfl) M.set (dx_new (dxl_cat (dx_of (dp_ix (dp_var 4) (dp_var 5))) (dx_of (dp_ix (dp_var 4) (dp_ix (dp_var 3) (dp_var 7)))))))) (dp_var 4) (dp_var 5))) ds_nil)))))) (ds_one (ds_ret (dx_of (dp_tup (da_cons dp_str (da_cons (dp_var 2) (da_cons (dp_tupL (by rfl) M.tuple (dl_lc (own := [(("_law_row" : Str), 8)]) rfl S.nd (di_seq (dp_var 4)) (blkOk_by (by rfl)) (gt_name (i := 8) (by decide)) (fun _ _ _ _ _ => (pg_name S.nd rfl (by first | exact Or.inl rfl | exact Or.inr rfl))) (fun _ _ _ _ _ => dts_nil) (fun _ _ _ _ _ => (dp_tupV (by rfl) M.tuple (dp_var 8))))) da_nil))))))))))))) rfl

def N_law_best : List Str := [("_law_found" : Str), ("_law_above" : Str), ("_law_x" : Str), ("_law_y" : Str)]
theorem sc_law_best : FnScope N_law_best [("_law_found" : Str), ("_law_above" : Str)] (defScope (top 36)) := ⟨rfl, rfl, rfl, by decide +kernel, rfl, by decide +kernel, by decide +kernel⟩
theorem wk_law_best {P : Program} {wl : World} {w : Ws} {mg : Str → Option Value} (M : Blt mg) (G : Gnd w mg) (D : DefC w mg "_law_best" (top 36)) : DefP P wl w mg 1 "_law_best" GF.F_law_best :=
  have S := sc_law_best
  DefP.n (D.p (k := 0) S (fun _ _ _ _ _ _ us hl => match us, hl with | [_, _], _ => rfl) fun f c A outer s H E hr hf => (dr_cons (dr_for PassesOwn.never rfl (own := [2]) (gt_name (i := 2) (by decide)) (di_seq (dp_var 0)) (pg_name S.nd rfl (by first | exact Or.inl rfl | exact Or.inr rfl)) (dr_one (dr_if (dt_eq (hr.mono (by decide)) (dp_lenL (by rfl) M.len (dl_lc (own := [(("_law_y" : Str), 3)]) rfl S.nd (di_seq (dp_var 0)) (blkOk_by (by rfl)) (gt_name (i := 3) (by decide)) (fun _ _ _ _ _ => (pg_name S.nd rfl (by first | exact Or.inl rfl | exact Or.inr rfl))) (fun _ _ _ _ _ => (dts_one (dt_nin (hr.mono (by decide)) (dp_var 3) (dp_ix (dp_var 1) (dp_var 2))))) (fun _ _ _ _ _ => (dp_var 3)))) dp_int) (dr_one (dr_ret (dp_var 2))) dr_nil))) (dr_one (dr_ret dp_non)))) rfl

def N_law_join : List Str := [("_law_lattice_here" : Str), ("_law_x" : Str), ("_law_y" : Str), ("_law_z" : Str)]
theorem sc_law_join : FnScope N_law_join [("_law_lattice_here" : Str), ("_law_x" : Str), ("_law_y" : Str)] (defScope (top 37)) := ⟨rfl, rfl, rfl, by decide +kernel, rfl, by decide +kernel, by decide +kernel⟩
abbrev T_law_join : XT := joinT
theorem wk_law_join {P : Program} {wl : World} {w : Ws} {mg : Str → Option Value} (M : Blt mg) (G : Gnd w mg) (c_law_best : DefP P wl w mg 1 "_law_best" F_law_best) (D : DefC w mg "_law_join" (top 37)) : DefX P wl w mg 2 "_law_join" GF.Y_law_join :=
  have S := sc_law_join
  DefX.n (D.x (k := 1) S (fun _ _ _ _ _ _ us hl => match us, hl with | [_, _, _], _ => rfl) fun f c A outer s H E hr hf => (ds_one (ds_ret (dx_call hf c_law_best.x (hr.mono (by decide)) (by rfl) (dxa_cons (dx_new (dxl_of (dl_lc (own := [(("_law_z" : Str), 3)]) rfl S.nd (di_seq (dp_ix (dp_ix (dp_var 0) dp_int) (dp_var 1))) (blkOk_by (by rfl)) (gt_name (i := 3) (by decide)) (fun _ _ _ _ _ => (pg_name S.nd rfl (by first | exact Or.inl rfl | exact Or.inr rfl))) (fun _ _ _ _ _ => (dts_one (dt_in (hr.mono (by decide)) (dp_var 3) (dp_ix (dp_ix (dp_var 0) dp_int) (dp_var 2))))) (fun _ _ _ _ _ => (dp_var 3))))) (dxa_cons (dx_of (dp_ix (dp_var 0) dp_int)) dxa_nil)))))) rfl

def N_law_meet : List Str := [("_law_lattice_here" : Str), ("_law_x" : Str), ("_law_y" : Str), ("_law_z" : Str), ("_law_found" : Str), ("_law_w" : Str)]
theorem sc_law_meet : FnScope N_law_meet [("_law_lattice_here" : Str), ("_law_x" : Str), ("_law_y" : Str)] (defScope (top 38)) := ⟨rfl, rfl, rfl, by decide +kernel, rfl, by decide +kernel, by decide +kernel⟩
abbrev T_law_meet : XT := meetT
theorem wk_law_meet {P : Program} {wl : World} {w : Ws} {mg : Str → Option Value} (M : Blt mg) (G : Gnd w mg) (D : DefC w mg "_law_meet" (top 38)) : DefX P wl w mg 1 "_law_meet" GF.Y_law_meet :=
  have S := sc_law_meet
  DefX.n (D.x (k := 0) S (fun _ _ _ _ _ _ us hl => match us, hl with | [_, _, _], _ => rfl) fun f c A outer s H E hr hf => (ds_cons (ds_setLp (i := 4) (own := [(("_law_z" : Str), 3)]) rfl S.nd rfl rfl rfl rfl (by rfl) (di_rng (by rfl) M.range (dp_ix (dp_var 0) dp_int)) (blkOk_by (by rfl)) (gt_name (i := 3) (by decide)) (fun _ _ _ _ _ => (pg_name S.nd rfl (by first | exact Or.inl rfl | exact Or.inr rfl))) (fun _ _ _ _ _ => (dts_one ((db_and (dt_in (hr.mono (by decide)) (dp_var 1) (dp_ix (dp_ix (dp_var 0) dp_int) (dp_var 3))) (db_and1 (dt_in (hr.mono (by decide)) (dp_var 2) (dp_ix (dp_ix (dp_var 0) dp_int) (dp_var 3))))).pt))) (fun _ _ _ _ _ => (dp_var 3))) (ds_cons (ds_for PassesOwn.never rfl (own := [3]) (gt_name (i := 3) (by decide)) (dxi_of (di_seq (dp_var 4))) (pg_name S.nd rfl (by first | exact Or.inl rfl | exact Or.inr rfl)) (ds_one (ds_if (dxb_of (dt_eq (hr.mono (by decide)) (dp_lenL (by rfl) M.len (dl_lc (own := [(("_law_w" : Str), 5)]) rfl S.nd (di_seq (dp_var 4)) (blkOk_by (by rfl)) (gt_name (i := 5) (by decide)) (fun _ _ _ _ _ => (pg_name S.nd rfl (by first | exact Or.inl rfl | exact Or.inr rfl))) (fun _ _ _ _ _ => (dts_one (dt_nin (hr.mono (by decide)) (dp_var 3) (dp_ix (dp_ix (dp_var 0) dp_int) (dp_var 5))))) (fun _ _ _ _ _ => (dp_var 5)))) dp_int)) (ds_one (ds_ret (dx_of (dp_var 3)))) ds_nil))) (ds_one (ds_ret (dx_of dp_non)))))) rfl

def N_law_is_order : List Str := [("_law_value" : Str), ("_law_word" : Str), ("_law_x" : Str), ("_law_row" : Str), ("_law_k" : Str), ("_law_y" : Str)]
theorem sc_law_is_order : FnScope N_law_is_order [("_law_value" : Str), ("_law_word" : Str)] (defScope (top 39)) := ⟨rfl, rfl, rfl, by decide +kernel, rfl, by decide +kernel, by decide +kernel⟩
theorem wk_law_is_order {P : Program} {wl : World} {w : Ws} {mg : Str → Option Value} (M : Blt mg) (G : Gnd w mg) (c_law_inside : DefP P wl w mg 1 "_law_inside" F_law_inside) (D : DefC w mg "_law_is_order" (top 39)) : DefP P wl w mg 2 "_law_is_order" GF.F_law_is_order :=
  have S := sc_law_is_order
  DefP.n (D.p (k := 1) S (fun _ _ _ _ _ _ us hl => match us, hl with | [_, _], _ => rfl) fun f c A outer s H E hr hf => (dr_cons (dr_if ((db_or (db_not (db_val (dp_isi (by rfl) M.isinstance (by rfl) M.tuple (by decide +kernel) (dp_var 0)))) (db_or (dt_ne (hr.mono (by decide)) (dp_len (by rfl) M.len (dp_var 0)) dp_int) (db_or (dt_ne (hr.mono (by decide)) (dp_ix (dp_var 0) dp_int) (dp_var 1)) (db_or1 (db_not (db_val (dp_isi (by rfl) M.isinstance (by rfl) M.int (by decide +kernel) (dp_ix (dp_var 0) dp_int)))))))).pt) (dr_one (dr_ret dp_bl)) dr_nil) (dr_cons (dr_if ((db_or (db_val (dp_isi (by rfl) M.isinstance (by rfl) M.bool (by decide +kernel) (dp_ix (dp_var 0) dp_int))) (db_or (db_not (db_val (dp_isi (by rfl) M.isinstance (by rfl) M.tuple (by decide +kernel) (dp_ix (dp_var 0) dp_int)))) (db_or1 (dt_ne (hr.mono (by decide)) (dp_len (by rfl) M.len (dp_ix (dp_var 0) dp_int)) (dp_ix (dp_var 0) dp_int))))).pt) (dr_one (dr_ret dp_bl)) dr_nil) (dr_cons (dr_for PassesOwn.never rfl (own := [2]) (gt_name (i := 2) (by decide)) (di_rng (by rfl) M.range (dp_ix (dp_var 0) dp_int)) (pg_name S.nd rfl (by first | exact Or.inl rfl | exact Or.inr rfl)) (dr_cons (dr_set (i := 3) S.nd rfl (by first | exact Or.inl rfl | exact Or.inr rfl) (dp_ix (dp_ix (dp_var 0) dp_int) (dp_var 2))) (dr_cons (dr_if ((db_or (db_not (db_val (dp_isi (by rfl) M.isinstance (by rfl) M.tuple (by decide +kernel) (dp_var 3)))) (db_or1 (dt_nin (hr.mono (by decide)) (dp_var 2) (dp_var 3)))).pt) (dr_one (dr_ret dp_bl)) dr_nil) (dr_one (dr_for PassesOwn.never rfl (own := [4]) (gt_name (i := 4) (by decide)) (di_rng (by rfl) M.range (dp_len (by rfl) M.len (dp_var 3))) (pg_name S.nd rfl (by first | exact Or.inl rfl | exact Or.inr rfl)) (dr_cons (dr_if ((db_or (db_not (db_val (dp_isi (by rfl) M.isinstance (by rfl) M.int (by decide +kernel) (dp_ix (dp_var 3) (dp_var 4))))) (db_or (db_val (dp_isi (by rfl) M.isinstance (by rfl) M.bool (by decide +kernel) (dp_ix (dp_var 3) (dp_var 4)))) (db_or1 (db_not (dt_chain (op_le) qLe (op_lt) qLt dp_int (dp_ix (dp_var 3) (dp_var 4)) (dp_ix (dp_var 0) dp_int)))))).pt) (dr_one (dr_ret dp_bl)) dr_nil) (dr_one (dr_if ((db_and (dt_gt (dp_var 4) dp_int) (db_and1 (dt_le (dp_ix (dp_var 3) (dp_var 4)) (dp_ix (dp_var 3) (dp_sub (dp_var 4) dp_int))))).pt) (dr_one (dr_ret dp_bl)) dr_nil)))))))) (dr_cons (dr_for PassesOwn.never rfl (own := [2]) (gt_name (i := 2) (by decide)) (di_rng (by rfl) M.range (dp_ix (dp_var 0) dp_int)) (pg_name S.nd rfl (by first | exact Or.inl rfl | exact Or.inr rfl)) (dr_one (dr_for PassesOwn.never rfl (own := [5]) (gt_name (i := 5) (by decide)) (di_seq (dp_ix (dp_ix (dp_var 0) dp_int) (dp_var 2))) (pg_name S.nd rfl (by first | exact Or.inl rfl | exact Or.inr rfl)) (dr_one (dr_if ((db_or (db_not (db_val (dp_call hf c_law_inside (hr.mono (by decide)) (by rfl) (da_cons (dp_ix (dp_ix (dp_var 0) dp_int) (dp_var 5)) (da_cons (dp_ix (dp_ix (dp_var 0) dp_int) (dp_var 2)) da_nil))))) (db_or1 (db_and (dt_ne (hr.mono (by decide)) (dp_var 2) (dp_var 5)) (db_and1 (dt_in (hr.mono (by decide)) (dp_var 2) (dp_ix (dp_ix (dp_var 0) dp_int) (dp_var 5))))).pt)).pt) (dr_one (dr_ret dp_bl)) dr_nil))))) (dr_one (dr_ret dp_bl))))))) rfl

def N_law_is_lattice : List Str := [("_law_value" : Str), ("_law_x" : Str), ("_law_y" : Str)]
theorem sc_law_is_lattice : FnScope N_law_is_lattice [("_law_value" : Str)] (defScope (top 40)) := ⟨rfl, rfl, rfl, by decide +kernel, rfl, by decide +kernel, by decide +kernel⟩
abbrev T_law_is_lattice : XT := lawLatB
theorem wk_law_is_lattice {P : Program} {wl : World} {w : Ws} {mg : Str → Option Value} (M : Blt mg) (G : Gnd w mg) (c_law_is_order : DefP P wl w mg 2 "_law_is_order" F_law_is_order) (c_law_join : DefX P wl w mg 2 "_law_join" T_law_join) (c_law_meet : DefX P wl w mg 1 "_law_meet" T_law_meet) (D : DefC w mg "_law_is_lattice" (top 40)) : DefX P wl w mg 3 "_law_is_lattice" GF.Y_law_is_lattice :=
  have S := sc_law_is_lattice
  DefX.n (D.x (k := 2) S (fun _ _ _ _ _ _ us hl => match us, hl with | [_], _ => rfl) fun f c A outer s H E hr hf => (ds_cons (ds_if (dxb_of ((db_or (db_not (db_val (dp_call hf c_law_is_order (hr.mono (by decide)) (by rfl) (da_cons (dp_var 0) (da_cons dp_str da_nil))))) (db_or1 (dt_eq (hr.mono (by decide)) (dp_ix (dp_var 0) dp_int) dp_int))).pt)) (ds_one (ds_ret (dx_of dp_bl))) ds_nil) (ds_cons (ds_for PassesOwn.never rfl (own := [1]) (gt_name (i := 1) (by decide)) (dxi_of (di_rng (by rfl) M.range (dp_ix (dp_var 0) dp_int))) (pg_name S.nd rfl (by first | exact Or.inl rfl | exact Or.inr rfl)) (ds_one (ds_for PassesOwn.never rfl (own := [2]) (gt_name (i := 2) (by decide)) (dxi_of (di_rng (by rfl) M.range (dp_var 1))) (pg_name S.nd rfl (by first | exact Or.inl rfl | exact Or.inr rfl)) (ds_one (ds_if ((dxb_or (dxt_isN (dx_call hf c_law_join (hr.mono (by decide)) (by rfl) (dxa_cons (dx_of (dp_var 0)) (dxa_cons (dx_of (dp_var 1)) (dxa_cons (dx_of (dp_var 2)) dxa_nil)))) (dx_of dp_non)) (dxb_or1 (dxt_isN (dx_call hf c_law_meet (hr.mono (by decide)) (by rfl) (dxa_cons (dx_of (dp_var 0)) (dxa_cons (dx_of (dp_var 1)) (dxa_cons (dx_of (dp_var 2)) dxa_nil)))) (dx_of dp_non)))).pt) (ds_one (ds_ret (dx_of dp_bl))) ds_nil))))) (ds_one (ds_ret (dx_of dp_bl)))))) rfl

def N_law_irreducible : List Str := [("_law_lattice_here" : Str), ("_law_joins" : Str), ("_law_meets" : Str), ("_law_x" : Str), ("_law_y" : Str), ("_law_under" : Str), ("_law_over" : Str), ("_law_top" : Str), ("_law_low" : Str)]
theorem sc_law_irreducible : FnScope N_law_irreducible [("_law_lattice_here" : Str)] (defScope (top 41)) := ⟨rfl, rfl, rfl, by decide +kernel, rfl, by decide +kernel, by decide +kernel⟩
abbrev T_law_irreducible : XT := lawIrrT
theorem wk_law_irreducible {P : Program} {wl : World} {w : Ws} {mg : Str → Option Value} (M : Blt mg) (G : Gnd w mg) (c_law_join : DefX P wl w mg 2 "_law_join" T_law_join) (c_law_meet : DefX P wl w mg 1 "_law_meet" T_law_meet) (D : DefC w mg "_law_irreducible" (top 41)) : DefX P wl w mg 3 "_law_irreducible" GF.Y_law_irreducible :=
  have S := sc_law_irreducible
  DefX.n (D.x (k := 2) S (fun _ _ _ _ _ _ us hl => match us, hl with | [_], _ => rfl) fun f c A outer s H E hr hf => (ds_cons (ds_set (i := 1) S.nd rfl (by first | exact Or.inl rfl | exact Or.inr rfl) (dx_new (dxl_of (dl_lst da_nil)))) (ds_cons (ds_set (i := 2) S.nd rfl (by first | exact Or.inl rfl | exact Or.inr rfl) (dx_new (dxl_of (dl_lst da_nil)))) (ds_cons (ds_for PassesOwn.never rfl (own := [3]) (gt_name (i := 3) (by decide)) (dxi_of (di_rng (by rfl) M.range (dp_ix (dp_var 0) dp_int))) (pg_name S.nd rfl (by first | exact Or.inl rfl | exact Or.inr rfl)) (ds_cons (ds_setLp (i := 5) (own := [(("_law_y" : Str), 4)]) rfl S.nd rfl rfl rfl rfl (by rfl) (di_rng (by rfl) M.range (dp_ix (dp_var 0) dp_int)) (blkOk_by (by rfl)) (gt_name (i := 4) (by decide)) (fun _ _ _ _ _ => (pg_name S.nd rfl (by first | exact Or.inl rfl | exact Or.inr rfl))) (fun _ _ _ _ _ => (dts_one ((db_and (dt_in (hr.mono (by decide)) (dp_var 3) (dp_ix (dp_ix (dp_var 0) dp_int) (dp_var 4))) (db_and1 (dt_ne (hr.mono (by decide)) (dp_var 4) (dp_var 3)))).pt))) (fun _ _ _ _ _ => (dp_var 4))) (ds_cons (ds_setLp (i := 6) (own := [(("_law_y" : Str), 4)]) rfl S.nd rfl rfl rfl rfl (by rfl) (di_seq (dp_ix (dp_ix (dp_var 0) dp_int) (dp_var 3))) (blkOk_by (by rfl)) (gt_name (i := 4) (by decide)) (fun _ _ _ _ _ => (pg_name S.nd rfl (by first | exact Or.inl rfl | exact Or.inr rfl))) (fun _ _ _ _ _ => (dts_one (dt_ne (hr.mono (by decide)) (dp_var 4) (dp_var 3)))) (fun _ _ _ _ _ => (dp_var 4))) (ds_cons (ds_if (dxb_of (dt_gt (dp_len (by rfl) M.len (dp_var 5)) dp_int)) (ds_cons (ds_set (i := 7) S.nd rfl (by first | exact Or.inl rfl | exact Or.inr rfl) (dx_of (dp_ix (dp_var 5) dp_int))) (ds_cons (ds_for PassesOwn.never rfl (own := [4]) (gt_name (i := 4) (by decide)) (dxi_of (di_seq (dp_var 5))) (pg_name S.nd rfl (by first | exact Or.inl rfl | exact Or.inr rfl)) (ds_one (ds_set (i := 7) S.nd rfl (by first | exact Or.inl rfl | exact Or.inr rfl) (dx_call hf c_law_join (hr.mono (by decide)) (by rfl) (dxa_cons (dx_of (dp_var 0)) (dxa_cons (dx_of (dp_var 7)) (dxa_cons (dx_of (dp_var 4)) dxa_nil))))))) (ds_one (ds_if (dxb_of (dt_ne (hr.mono (by decide)) (dp_var 7) (dp_var 3))) (ds_one (ds_app (dp_var 1) (dx_of (dp_var 3)))) ds_nil)))) ds_nil) (ds_one (ds_if (dxb_of (dt_gt (dp_len (by rfl) M.len (dp_var 6)) dp_int)) (ds_cons (ds_set (i := 8) S.nd rfl (by first | exact Or.inl rfl | exact Or.inr rfl) (dx_of (dp_ix (dp_var 6) dp_int))) (ds_cons (ds_for PassesOwn.never rfl (own := [4]) (gt_name (i := 4) (by decide)) (dxi_of (di_seq (dp_var 6))) (pg_name S.nd rfl (by first | exact Or.inl rfl | exact Or.inr rfl)) (ds_one (ds_set (i := 8) S.nd rfl (by first | exact Or.inl rfl | exact Or.inr rfl) (dx_call hf c_law_meet (hr.mono (by decide)) (by rfl) (dxa_cons (dx_of (dp_var 0)) (dxa_cons (dx_of (dp_var 8)) (dxa_cons (dx_of (dp_var 4)) dxa_nil))))))) (ds_one (ds_if (dxb_of (dt_ne (hr.mono (by decide)) (dp_var 8) (dp_var 3))) (ds_one (ds_app (dp_var 2) (dx_of (dp_var 3)))) ds_nil)))) ds_nil)))))) (ds_one (ds_ret (dx_new (dxl_of (dl_lst (da_cons (dp_tupV (by rfl) M.tuple (dp_var 1)) (da_cons (dp_tupV (by rfl) M.tuple (dp_var 2)) da_nil))))))))))) rfl

def N_law_spoilt : List Str := [("_law_box_here" : Str), ("_law_value" : Str), ("_law_kind" : Str), ("_law_rows" : Str), ("_law_x" : Str), ("_law_y" : Str), ("_law_z" : Str)]
theorem sc_law_spoilt : FnScope N_law_spoilt [("_law_box_here" : Str), ("_law_value" : Str)] (defScope (top 42)) := ⟨rfl, rfl, rfl, by decide +kernel, rfl, by decide +kernel, by decide +kernel⟩
def X_law_spoilt : XS := (sSeq (sIf (xbOf (bOr (bNot (bV (mF1 (fIs "tuple") (mVar 1)))) (bOr (bV (mOp fNe (mF1 fLen (mVar 1)) (mC (.int 3)))) (bNot (bV (mF1 (fIs "tuple") (mOp fIx (mVar 1) (mC (.int 2))))))))) (sRet (xOf (mVar 1))) sNext) (sSeq (sAsg (xCall T_law_draw (xCons (xOf (mVar 0)) (xCons (xOf (mC (.int 11))) xNil))) (tgN 2)) (sSeq (sAsg (xNew (xaOf (mLstOf (mOp fIx (mVar 1) (mC (.int 2)))))) (tgN 3)) (sSeq (sIf (xbOf (bOr (bV (mOp fEq (mF1 fLen (mVar 3)) (mC (.int 0)))) (bV (mOp fEq (mVar 2) (mC (.int 0)))))) (sRet (xOp fIx (xNew (xaOf (mLst (mCons (mC .non) (mCons (mTup mNil) (mCons (mTup (mCons (mC (.str ("order" : Str))) (mCons (mC (.int 1)) (mCons (mTup mNil) mNil)))) (mCons (mTup (mCons (mC (.str ("lattice" : Str))) (mCons (mC (.int 0)) (mCons (mTup mNil) mNil)))) (mCons (mTup (mCons (mC (.str ("order" : Str))) (mCons (mC (.int 0)) (mCons (mTup mNil) mNil)))) (mCons (mC (.int 7)) mNil))))))))) (xCall T_law_draw (xCons (xOf (mVar 0)) (xCons (xOf (mC (.int 6))) xNil))))) sNext) (sSeq (sAsg (xOp fMod (xF1 fInt (xCall T_law_draw (xCons (xOf (mVar 0)) (xCons (xOf (mC (.int 1000))) xNil)))) (xOf (mF1 fLen (mVar 3)))) (tgN 4)) (sSeq (sAsg (xCall T_law_draw (xCons (xOf (mVar 0)) (xCons (xOf (mC (.int 9))) xNil))) (tgN 5)) (sSeq (sSub (xOf (mF1 fTup (mOp fIx (mVar 3) (mVar 4)))) (mVar 3) (mVar 4)) (sSeq (sIf (xbOf (bV (mOp fLt (mVar 2) (mC (.int 3))))) (sSub (xTupL (xSortSetM (xOf (mOp fAdd (mOp fIx (mVar 3) (mVar 4)) (mTup (mCons (mVar 5) mNil)))))) (mVar 3) (mVar 4)) (sIf (xbOf (bV (mOp fEq (mVar 2) (mC (.int 3))))) (sSub (xOf (mTupL (mComp (iSeq (mOp fIx (mVar 3) (mVar 4))) (tgN 6) (bV (mOp fNe (mVar 6) (mVar 5))) (mVar 6) [6]))) (mVar 3) (mVar 4)) (sIf (xbOf (bV (mOp fEq (mVar 2) (mC (.int 4))))) (sSub (xOf (mF1 fRev (mOp fIx (mVar 3) (mVar 4)))) (mVar 3) (mVar 4)) (sIf (xbOf (bV (mOp fEq (mVar 2) (mC (.int 7))))) (sSub (xOf (mOp fAdd (mOp fIx (mVar 3) (mVar 4)) (mSl (mOp fIx (mVar 3) (mVar 4)) none (some (mC (.int 1)))))) (mVar 3) (mVar 4)) (sIf (xbOf (bV (mOp fEq (mVar 2) (mC (.int 8))))) (sSub (xNew (xaOf (mLstOf (mOp fIx (mVar 3) (mVar 4))))) (mVar 3) (mVar 4)) (sIf (xbOf (bV (mOp fEq (mVar 2) (mC (.int 9))))) (sSub (xTupL (xComp (xiOf (iSeq (mOp fIx (mVar 3) (mVar 4)))) (tgN 6) (xbOf bYes) (xIf (xbOf (bV (mOp fLtB (mVar 6) (mC (.int 2))))) (xOp fIxB (xNew (xaOf (mLst (mCons (mC (.bl false)) (mCons (mC (.bl true)) mNil))))) (xOf (mVar 6))) (xOf (mVar 6))) [6])) (mVar 3) (mVar 4)) (sIf (xbOf (bV (mOp fEq (mVar 2) (mC (.int 10))))) (sSub (xOf (mOp fAdd (mTup (mCons (mF1 fNeg (mC (.int 1))) mNil)) (mOp fIx (mVar 3) (mVar 4)))) (mVar 3) (mVar 4)) (sIf (xbOf (bV (mOp fEq (mVar 2) (mC (.int 5))))) (sSeq (sAppP (mVar 3) (xOf (mTup (mCons (mF1 fLen (mVar 3)) mNil)))) (sRet (xOf (mTup (mCons (mOp fIx (mVar 1) (mC (.int 0))) (mCons (mF1 fLen (mVar 3)) (mCons (mF1 fTup (mVar 3)) mNil))))))) (sRet (xTup (xCons (xOp fIx (xNew (xaOf (mLst (mCons (mC (.str ("lattice" : Str))) (mCons (mC (.str ("order" : Str))) mNil))))) (xOf (mF1 fInt (mOp fEq (mOp fIx (mVar 1) (mC (.int 0))) (mC (.str ("lattice" : Str))))))) (xCons (xOf (mOp fIx (mVar 1) (mC (.int 1)))) (xCons (xOf (mOp fIx (mVar 1) (mC (.int 2)))) xNil))))))))))))) (sRet (xOf (mTup (mCons (mOp fIx (mVar 1) (mC (.int 0))) (mCons (mOp fIx (mVar 1) (mC (.int 1))) (mCons (mF1 fTup (mVar 3)) mNil))))))))))))))
def T_law_spoilt : XT := fnT N_law_spoilt 2 X_law_spoilt
theorem wk_law_spoilt {P : Program} {wl : World} {w : Ws} {mg : Str → Option Value} (M : Blt mg) (G : Gnd w mg) (c_law_draw : DefX P wl w mg 1 "_law_draw" T_law_draw) (D : DefC w mg "_law_spoilt" (top 42)) : DefX P wl w mg 2 "_law_spoilt" T_law_spoilt :=
  have S := sc_law_spoilt
  D.x (k := 1) S (fun _ _ _ _ _ _ us hl => match us, hl with | [_, _], _ => rfl) fun f c A outer s H E hr hf => (ds_cons (ds_if (dxb_of ((db_or (db_not (db_val (dp_isi (by rfl) M.isinstance (by rfl) M.tuple (by decide +kernel) (dp_var 1)))) (db_or (dt_ne (hr.mono (by decide)) (dp_len (by rfl) M.len (dp_var 1)) dp_int) (db_or1 (db_not (db_val (dp_isi (by rfl) M.isinstance (by rfl) M.tuple (by decide +kernel) (dp_ix (dp_var 1) dp_int))))))).pt)) (ds_one (ds_ret (dx_of (dp_var 1)))) ds_nil) (ds_cons (ds_set (i := 2) S.nd rfl (by first | exact Or.inl rfl | exact Or.inr rfl) (dx_call hf c_law_draw (hr.mono (by decide)) (by rfl) (dxa_cons (dx_of (dp_var 0)) (dxa_cons (dx_of dp_int) dxa_nil)))) (ds_cons (ds_set (i := 3) S.nd rfl (by first | exact Or.inl rfl | exact Or.inr rfl) (dx_new (dxl_of (dl_list (by rfl) M.list (dp_ix (dp_var 1) dp_int))))) (ds_cons (ds_if (dxb_of ((db_or (dt_eq (hr.mono (by decide)) (dp_len (by rfl) M.len (dp_var 3)) dp_int) (db_or1 (dt_eq (hr.mono (by decide)) (dp_var 2) dp_int))).pt)) (ds_one (ds_ret (dx_ix (dx_new (dxl_of (dl_lst (da_cons dp_non (da_cons (dp_tup da_nil) (da_cons (dp_tup (da_cons dp_str (da_cons dp_int (da_cons (dp_tup da_nil) da_nil)))) (da_cons (dp_tup (da_cons dp_str (da_cons dp_int (da_cons (dp_tup da_nil) da_nil)))) (da_cons (dp_tup (da_cons dp_str (da_cons dp_int (da_cons (dp_tup da_nil) da_nil)))) (da_cons dp_int da_nil))))))))) (dx_call hf c_law_draw (hr.mono (by decide)) (by rfl) (dxa_cons (dx_of (dp_var 0)) (dxa_cons (dx_of dp_int) dxa_nil)))))) ds_nil) (ds_cons (ds_set (i := 4) S.nd rfl (by first | exact Or.inl rfl | exact Or.inr rfl) (dx_mod (dx_int (by rfl) M.int (dx_call hf c_law_draw (hr.mono (by decide)) (by rfl) (dxa_cons (dx_of (dp_var 0)) (dxa_cons (dx_of dp_int) dxa_nil)))) (dx_of (dp_len (by rfl) M.len (dp_var 3))))) (ds_cons (ds_set (i := 5) S.nd rfl (by first | exact Or.inl rfl | exact Or.inr rfl) (dx_call hf c_law_draw (hr.mono (by decide)) (by rfl) (dxa_cons (dx_of (dp_var 0)) (dxa_cons (dx_of dp_int) dxa_nil)))) (ds_cons (ds_sub (dx_of (dp_tupV (by rfl) M.tuple (dp_ix (dp_var 3) (dp_var 4)))) (dp_var 3) (dp_var 4)) (ds_cons (ds_if (dxb_of (dt_lt (dp_var 2) dp_int)) (ds_one (ds_sub (dx_tupL (by rfl) M.tuple (dxl_sortSetM rfl (by rfl) M.sorted (by rfl) M.set (dx_of (dp_add (dp_ix (dp_var 3) (dp_var 4)) (dp_tup (da_cons (dp_var 5) da_nil)))))) (dp_var 3) (dp_var 4))) (ds_one (ds_if (dxb_of (dt_eq (hr.mono (by decide)) (dp_var 2) dp_int)) (ds_one (ds_sub (dx_of (dp_tupL (by rfl) M.tuple (dl_lc (own := [(("_law_z" : Str), 6)]) rfl S.nd (di_seq (dp_ix (dp_var 3) (dp_var 4))) (blkOk_by (by rfl)) (gt_name (i := 6) (by decide)) (fun _ _ _ _ _ => (pg_name S.nd rfl (by first | exact Or.inl rfl | exact Or.inr rfl))) (fun _ _ _ _ _ => (dts_one (dt_ne (hr.mono (by decide)) (dp_var 6) (dp_var 5)))) (fun _ _ _ _ _ => (dp_var 6))))) (dp_var 3) (dp_var 4))) (ds_one (ds_if (dxb_of (dt_eq (hr.mono (by decide)) (dp_var 2) dp_int)) (ds_one (ds_sub (dx_of (dp_rev (dp_ix (dp_var 3) (dp_var 4)))) (dp_var 3) (dp_var 4))) (ds_one (ds_if (dxb_of (dt_eq (hr.mono (by decide)) (dp_var 2) dp_int)) (ds_one (ds_sub (dx_of (dp_add (dp_ix (dp_var 3) (dp_var 4)) (dp_sl (dp_ix (dp_var 3) (dp_var 4)) po_none (po_some dp_int) pod_none pod_some))) (dp_var 3) (dp_var 4))) (ds_one (ds_if (dxb_of (dt_eq (hr.mono (by decide)) (dp_var 2) dp_int)) (ds_one (ds_sub (dx_new (dxl_of (dl_list (by rfl) M.list (dp_ix (dp_var 3) (dp_var 4))))) (dp_var 3) (dp_var 4))) (ds_one (ds_if (dxb_of (dt_eq (hr.mono (by decide)) (dp_var 2) dp_int)) (ds_one (ds_sub (dx_tupL (by rfl) M.tuple (dxl_lc (own := [(("_law_z" : Str), 6)]) rfl S.nd (dxi_of (di_seq (dp_ix (dp_var 3) (dp_var 4)))) (blkOk_by (by rfl)) (gt_name (i := 6) (by decide)) (fun _ _ _ _ _ => (pg_name S.nd rfl (by first | exact Or.inl rfl | exact Or.inr rfl))) (fun _ _ _ _ _ => dxts_nil) (fun _ _ _ _ _ => (dx_if (dxb_of (dt_ltB (dp_var 6) dp_int)) (dx_ixB (dx_new (dxl_of (dl_lst (da_cons dp_bl (da_cons dp_bl da_nil))))) (dx_of (dp_var 6))) (dx_of (dp_var 6)))))) (dp_var 3) (dp_var 4))) (ds_one (ds_if (dxb_of (dt_eq (hr.mono (by decide)) (dp_var 2) dp_int)) (ds_one (ds_sub (dx_of (dp_add (dp_tup (da_cons (dp_neg dp_int) da_nil)) (dp_ix (dp_var 3) (dp_var 4)))) (dp_var 3) (dp_var 4))) (ds_one (ds_if (dxb_of (dt_eq (hr.mono (by decide)) (dp_var 2) dp_int)) (ds_cons (ds_app (dp_var 3) (dx_of (dp_tup (da_cons (dp_len (by rfl) M.len (dp_var 3)) da_nil)))) (ds_one (ds_ret (dx_of (dp_tup (da_cons (dp_ix (dp_var 1) dp_int) (da_cons (dp_len (by rfl) M.len (dp_var 3)) (da_cons (dp_tupV (by rfl) M.tuple (dp_var 3)) da_nil)))))))) (ds_one (ds_ret (dx_tup (dxa_cons (dx_ix (dx_new (dxl_of (dl_lst (da_cons dp_str (da_cons dp_str da_nil))))) (dx_of (dp_intc (by rfl) M.int (dp_eq (hr.mono (by decide)) (dp_ix (dp_var 1) dp_int) dp_str)))) (dxa_cons (dx_of (dp_ix (dp_var 1) dp_int)) (dxa_cons (dx_of (dp_ix (dp_var 1) dp_int)) dxa_nil))))))))))))))))))))) (ds_one (ds_ret (dx_of (dp_tup (da_cons (dp_ix (dp_var 1) dp_int) (da_cons (dp_ix (dp_var 1) dp_int) (da_cons (dp_tupV (by rfl) M.tuple (dp_var 3)) da_nil)))))))))))))))

def N_law : List Str := [("_law_script" : Str), ("_law_box_here" : Str), ("_law_lattice_here" : Str), ("_law_x" : Str), ("_law_y" : Str), ("_law_due" : Str), ("_law_value" : Str), ("_law_k" : Str)]
theorem sc_law : FnScope N_law [("_law_script" : Str)] (defScope (top 43)) := ⟨rfl, rfl, rfl, by decide +kernel, rfl, by decide +kernel, by decide +kernel⟩
def X_law (ns : List Int) : XS := (sSeq (sAsg (xCallS T_law_box ns (xCons (xOf (mC (.int 0))) (xCons (xOf (mC (.int 62))) xNil))) (tgN 1)) (sSeq (sAsg (xCall T_law_lattice (xCons (xOf (mVar 1)) (xCons (xOf (mC (.int 4))) (xCons (xOf (mC (.int 4))) xNil)))) (tgN 2)) (sSeq (sIf (xNot (xV (xCall T_law_is_lattice (xCons (xOf (mVar 2)) xNil)))) (sRet (xOf (mC (.bl false)))) sNext) (sSeq (sFor (xiOf (iRng (mOp fIx (mVar 2) (mC (.int 1))))) (tgN 3) (sSeq (sAsg (xOp fMod (xF1 fInt (xCall T_law_draw (xCons (xOf (mVar 1)) (xCons (xOf (mC (.int 1000))) xNil)))) (xOf (mOp fIx (mVar 2) (mC (.int 1))))) (tgN 4)) (sSeq (sIf (xNot (xV (xCall (xF F_law_same) (xCons (xOf (mCall F_join_of (mCons (mVar 2) (mCons (mVar 3) (mCons (mVar 4) mNil))))) (xCons (xCall T_law_join (xCons (xOf (mVar 2)) (xCons (xOf (mVar 3)) (xCons (xOf (mVar 4)) xNil)))) xNil))))) (sRet (xOf (mC (.bl false)))) sNext) (sIf (xNot (xV (xCall (xF F_law_same) (xCons (xOf (mCall F_meet_of (mCons (mVar 2) (mCons (mVar 3) (mCons (mVar 4) mNil))))) (xCons (xCall T_law_meet (xCons (xOf (mVar 2)) (xCons (xOf (mVar 3)) (xCons (xOf (mVar 4)) xNil)))) xNil))))) (sRet (xOf (mC (.bl false)))) sNext)))) (sSeq (sAsg (xCall T_law_irreducible (xCons (xOf (mVar 2)) xNil)) (tgN 5)) (sSeq (sIf (xOr (xNot (xV (xCall (xF F_law_same) (xCons (xCall T_join_irreducible (xCons (xOf (mVar 2)) xNil)) (xCons (xOf (mOp fIx (mVar 5) (mC (.int 0)))) xNil))))) (xNot (xV (xCall (xF F_law_same) (xCons (xCall T_meet_irreducible (xCons (xOf (mVar 2)) xNil)) (xCons (xOf (mOp fIx (mVar 5) (mC (.int 1)))) xNil)))))) (sRet (xOf (mC (.bl false)))) sNext) (sSeq (sFor (xSeq (xNew (xLst (xCons (xOf (mVar 2)) (xCons (xCall T_law_order (xCons (xOf (mVar 1)) (xCons (xOf (mC (.int 7))) xNil))) xNil))))) (tgN 6) (sFor (xiOf (iRng (mC (.int 3)))) (tgN 7) (sSeq (sIf (xNot (xV (xCall (xF F_law_same) (xCons (xOf (mCall F_is_lattice (mCons (mVar 6) mNil))) (xCons (xCall T_law_is_lattice (xCons (xOf (mVar 6)) xNil)) xNil))))) (sRet (xOf (mC (.bl false)))) sNext) (sSeq (sIf (xbOf (bNot (bV (mCall F_law_same (mCons (mCall F_is_order (mCons (mVar 6) mNil)) (mCons (mCall F_law_is_order (mCons (mVar 6) (mCons (mC (.str ("order" : Str))) mNil))) mNil)))))) (sRet (xOf (mC (.bl false)))) sNext) (sAsg (xCall T_law_spoilt (xCons (xOf (mVar 1)) (xCons (xOf (mVar 6)) xNil))) (tgN 6)))))) (sRet (xOf (mC (.bl true)))))))))))
def T_law : XTS := fnS N_law 1 X_law
theorem wk_law {P : Program} {wl : World} {w : Ws} {mg : Str → Option Value} (M : Blt mg) (G : Gnd w mg) (c_law_box : DefS P wl w mg 3 "_law_box" T_law_box) (c_law_draw : DefX P wl w mg 1 "_law_draw" T_law_draw) (c_law_irreducible : DefX P wl w mg 3 "_law_irreducible" T_law_irreducible) (c_law_is_lattice : DefX P wl w mg 3 "_law_is_lattice" T_law_is_lattice) (c_law_is_order : DefP P wl w mg 2 "_law_is_order" F_law_is_order) (c_law_join : DefX P wl w mg 2 "_law_join" T_law_join) (c_law_lattice : DefX P wl w mg 5 "_law_lattice" T_law_lattice) (c_law_meet : DefX P wl w mg 1 "_law_meet" T_law_meet) (c_law_order : DefX P wl w mg 3 "_law_order" T_law_order) (c_law_same : DefP P wl w mg 12 "_law_same" F_law_same) (c_law_spoilt : DefX P wl w mg 2 "_law_spoilt" T_law_spoilt) (c_is_lattice : DefP P wl w mg 13 "is_lattice" F_is_lattice) (c_is_order : DefP P wl w mg 10 "is_order" F_is_order) (c_join_irreducible : DefX P wl w mg 14 "join_irreducible" T_join_irreducible) (c_join_of : DefP P wl w mg 7 "join_of" F_join_of) (c_meet_irreducible : DefX P wl w mg 15 "meet_irreducible" T_meet_irreducible) (c_meet_of : DefP P wl w mg 13 "meet_of" F_meet_of) (D : DefC w mg "law" (top 43)) : DefS P wl w mg 16 "law" T_law :=
  have S := sc_law
  D.s (k := 15) S (fun _ _ _ _ _ _ us hl => match us, hl with | [_], _ => rfl) fun f c a ns A outer s H E hr hf => (ds_cons (ds_set (i := 1) S.nd rfl (by first | exact Or.inl rfl | exact Or.inr rfl) (dx_callS hf c_law_box (hr.mono (by decide)) (by rfl) pe_scr (dxa_cons (dx_of dp_int) (dxa_cons (dx_of dp_int) dxa_nil))) (hfx := fxS (i := 1) (by decide))) (ds_cons (ds_set (i := 2) S.nd rfl (by first | exact Or.inl rfl | exact Or.inr rfl) (dx_call hf c_law_lattice (hr.mono (by decide)) (by rfl) (dxa_cons (dx_of (dp_var 1)) (dxa_cons (dx_of dp_int) (dxa_cons (dx_of dp_int) dxa_nil)))) (hfx := fxS (i := 2) (by decide))) (ds_cons (ds_if (dxb_not (dxb_val (dx_call hf c_law_is_lattice (hr.mono (by decide)) (by rfl) (dxa_cons (dx_of (dp_var 2)) dxa_nil)))) (ds_one (ds_ret (dx_of dp_bl))) ds_nil) (ds_cons (ds_for PassesOwn.never rfl (own := [3]) (gt_name (i := 3) (by decide) (hfx := fxS (i := 3) (by decide))) (dxi_of (di_rng (by rfl) M.range (dp_ix (dp_var 2) dp_int))) (pg_name S.nd rfl (by first | exact Or.inl rfl | exact Or.inr rfl)) (ds_cons (ds_set (i := 4) S.nd rfl (by first | exact Or.inl rfl | exact Or.inr rfl) (dx_mod (dx_int (by rfl) M.int (dx_call hf c_law_draw (hr.mono (by decide)) (by rfl) (dxa_cons (dx_of (dp_var 1)) (dxa_cons (dx_of dp_int) dxa_nil)))) (dx_of (dp_ix (dp_var 2) dp_int))) (hfx := fxS (i := 4) (by decide))) (ds_cons (ds_if (dxb_not (dxb_val (dx_call hf c_law_same.x (hr.mono (by decide)) (by rfl) (dxa_cons (dx_of (dp_call hf c_join_of (hr.mono (by decide)) (by rfl) (da_cons (dp_var 2) (da_cons (dp_var 3) (da_cons (dp_var 4) da_nil))))) (dxa_cons (dx_call hf c_law_join (hr.mono (by decide)) (by rfl) (dxa_cons (dx_of (dp_var 2)) (dxa_cons (dx_of (dp_var 3)) (dxa_cons (dx_of (dp_var 4)) dxa_nil)))) dxa_nil))))) (ds_one (ds_ret (dx_of dp_bl))) ds_nil) (ds_one (ds_if (dxb_not (dxb_val (dx_call hf c_law_same.x (hr.mono (by decide)) (by rfl) (dxa_cons (dx_of (dp_call hf c_meet_of (hr.mono (by decide)) (by rfl) (da_cons (dp_var 2) (da_cons (dp_var 3) (da_cons (dp_var 4) da_nil))))) (dxa_cons (dx_call hf c_law_meet (hr.mono (by decide)) (by rfl) (dxa_cons (dx_of (dp_var 2)) (dxa_cons (dx_of (dp_var 3)) (dxa_cons (dx_of (dp_var 4)) dxa_nil)))) dxa_nil))))) (ds_one (ds_ret (dx_of dp_bl))) ds_nil))))) (ds_cons (ds_set (i := 5) S.nd rfl (by first | exact Or.inl rfl | exact Or.inr rfl) (dx_call hf c_law_irreducible (hr.mono (by decide)) (by rfl) (dxa_cons (dx_of (dp_var 2)) dxa_nil)) (hfx := fxS (i := 5) (by decide))) (ds_cons (ds_if ((dxb_or (dxb_not (dxb_val (dx_call hf c_law_same.x (hr.mono (by decide)) (by rfl) (dxa_cons (dx_call hf c_join_irreducible (hr.mono (by decide)) (by rfl) (dxa_cons (dx_of (dp_var 2)) dxa_nil)) (dxa_cons (dx_of (dp_ix (dp_var 5) dp_int)) dxa_nil))))) (dxb_or1 (dxb_not (dxb_val (dx_call hf c_law_same.x (hr.mono (by decide)) (by rfl) (dxa_cons (dx_call hf c_meet_irreducible (hr.mono (by decide)) (by rfl) (dxa_cons (dx_of (dp_var 2)) dxa_nil)) (dxa_cons (dx_of (dp_ix (dp_var 5) dp_int)) dxa_nil))))))).pt) (ds_one (ds_ret (dx_of dp_bl))) ds_nil) (ds_cons (ds_for PassesOwn.never rfl (own := [6]) (gt_name (i := 6) (by decide) (hfx := fxS (i := 6) (by decide))) (dxi_seq (dx_new (dxl_lst (dxa_cons (dx_of (dp_var 2)) (dxa_cons (dx_call hf c_law_order (hr.mono (by decide)) (by rfl) (dxa_cons (dx_of (dp_var 1)) (dxa_cons (dx_of dp_int) dxa_nil))) dxa_nil))))) (pg_name S.nd rfl (by first | exact Or.inl rfl | exact Or.inr rfl)) (ds_one (ds_for PassesOwn.never rfl (own := [7]) (gt_name (i := 7) (by decide) (hfx := fxS (i := 7) (by decide))) (dxi_of (di_rng (by rfl) M.range dp_int)) (pg_name S.nd rfl (by first | exact Or.inl rfl | exact Or.inr rfl)) (ds_cons (ds_if (dxb_not (dxb_val (dx_call hf c_law_same.x (hr.mono (by decide)) (by rfl) (dxa_cons (dx_of (dp_call hf c_is_lattice (hr.mono (by decide)) (by rfl) (da_cons (dp_var 6) da_nil))) (dxa_cons (dx_call hf c_law_is_lattice (hr.mono (by decide)) (by rfl) (dxa_cons (dx_of (dp_var 6)) dxa_nil)) dxa_nil))))) (ds_one (ds_ret (dx_of dp_bl))) ds_nil) (ds_cons (ds_if (dxb_of (db_not (db_val (dp_call hf c_law_same (hr.mono (by decide)) (by rfl) (da_cons (dp_call hf c_is_order (hr.mono (by decide)) (by rfl) (da_cons (dp_var 6) da_nil)) (da_cons (dp_call hf c_law_is_order (hr.mono (by decide)) (by rfl) (da_cons (dp_var 6) (da_cons dp_str da_nil))) da_nil)))))) (ds_one (ds_ret (dx_of dp_bl))) ds_nil) (ds_one (ds_set (i := 6) S.nd rfl (by first | exact Or.inl rfl | exact Or.inr rfl) (dx_call hf c_law_spoilt (hr.mono (by decide)) (by rfl) (dxa_cons (dx_of (dp_var 1)) (dxa_cons (dx_of (dp_var 6)) dxa_nil))) (hfx := fxS (i := 6) (by decide))))))))) (ds_one (ds_ret (dx_of dp_bl))))))))))
end
end Lk30

set_option Elab.async false
set_option linter.all false
set_option maxRecDepth 100000
set_option maxHeartbeats 4000000
namespace Lk30
open PySem PySem.Spec PyProof.Rows L2 GX GD GF
/-- the law's def, by those that it calls -/
theorem all_ok {P : Program} {wl : World} {w : Ws} {mg : Str → Option Value} (M : Blt mg) (G : Gnd w mg) (D_is_number : DefC w mg "is_number" (top 1)) (D_is_set : DefC w mg "is_set" (top 2)) (D_is_part : DefC w mg "is_part" (top 3)) (D_shared : DefC w mg "shared" (top 4)) (D_is_order_of : DefC w mg "is_order_of" (top 6)) (D_is_order : DefC w mg "is_order" (top 7)) (D_below_of : DefC w mg "below_of" (top 8)) (D_least_of : DefC w mg "least_of" (top 9)) (D_join_of : DefC w mg "join_of" (top 10)) (D_turned_over : DefC w mg "turned_over" (top 11)) (D_meet_of : DefC w mg "meet_of" (top 12)) (D_has_joins : DefC w mg "has_joins" (top 13)) (D_is_lattice : DefC w mg "is_lattice" (top 14)) (D_greatest_of : DefC w mg "greatest_of" (top 16)) (D_join_irreducible : DefC w mg "join_irreducible" (top 15)) (D_meet_irreducible : DefC w mg "meet_irreducible" (top 17)) (D_law_cell : DefC w mg "_law_cell" (top 19)) (D_law_digits : DefC w mg "_law_digits" (top 20)) (D_law_draw : DefC w mg "_law_draw" (top 21)) (D_law_same : DefC w mg "_law_same" (top 22)) (D_law_box : DefC w mg "_law_box" (top 23)) (D_law_some : DefC w mg "_law_some" (top 24)) (D_law_table : DefC w mg "_law_table" (top 25)) (D_law_inside : DefC w mg "_law_inside" (top 26)) (D_law_common : DefC w mg "_law_common" (top 27)) (D_law_having : DefC w mg "_law_having" (top 28)) (D_law_closure : DefC w mg "_law_closure" (top 29)) (D_law_lectic : DefC w mg "_law_lectic" (top 30)) (D_law_subsets : DefC w mg "_law_subsets" (top 31)) (D_law_closed : DefC w mg "_law_closed" (top 32)) (D_law_mixed_order : DefC w mg "_law_mixed_order" (top 33)) (D_law_lattice : DefC w mg "_law_lattice" (top 34)) (D_law_order : DefC w mg "_law_order" (top 35)) (D_law_best : DefC w mg "_law_best" (top 36)) (D_law_join : DefC w mg "_law_join" (top 37)) (D_law_meet : DefC w mg "_law_meet" (top 38)) (D_law_is_order : DefC w mg "_law_is_order" (top 39)) (D_law_is_lattice : DefC w mg "_law_is_lattice" (top 40)) (D_law_irreducible : DefC w mg "_law_irreducible" (top 41)) (D_law_spoilt : DefC w mg "_law_spoilt" (top 42)) (D_law : DefC w mg "law" (top 43)) : DefS P wl w mg 16 "law" T_law := by
  have c_is_number := wk_is_number (P := P) (wl := wl) M G D_is_number
  have c_is_set := wk_is_set (P := P) (wl := wl) M G c_is_number D_is_set
  have c_is_part := wk_is_part (P := P) (wl := wl) M G D_is_part
  have c_shared := wk_shared (P := P) (wl := wl) M G D_shared
  have c_is_order_of := wk_is_order_of (P := P) (wl := wl) M G c_is_number c_is_part c_is_set D_is_order_of
  have c_is_order := wk_is_order (P := P) (wl := wl) M G c_is_order_of D_is_order
  have c_below_of := wk_below_of (P := P) (wl := wl) M G D_below_of
  have c_least_of : DefX P wl w mg 5 "least_of" T_least_of := DefX.imp (wk_least_of (P := P) (wl := wl) M G c_is_part D_least_of) least_ok
  have c_join_of : DefP P wl w mg 7 "join_of" F_join_of := DefX.toP (wk_join_of (P := P) (wl := wl) M G c_least_of c_shared D_join_of) joinF_ok
  have c_turned_over := wk_turned_over (P := P) (wl := wl) M G c_below_of D_turned_over
  have c_meet_of := wk_meet_of (P := P) (wl := wl) M G c_join_of c_turned_over D_meet_of
  have c_has_joins := wk_has_joins (P := P) (wl := wl) M G c_join_of D_has_joins
  have c_is_lattice := wk_is_lattice (P := P) (wl := wl) M G c_has_joins c_is_order_of c_turned_over D_is_lattice
  have c_greatest_of : DefX P wl w mg 13 "greatest_of" T_greatest_of := DefX.imp (wk_greatest_of (P := P) (wl := wl) M G c_least_of c_turned_over D_greatest_of) great_ok
  have c_join_irreducible : DefX P wl w mg 14 "join_irreducible" T_join_irreducible := DefX.imp (wk_join_irreducible (P := P) (wl := wl) M G c_below_of c_greatest_of D_join_irreducible) jirr_ok
  have c_meet_irreducible : DefX P wl w mg 15 "meet_irreducible" T_meet_irreducible := DefX.imp (wk_meet_irreducible (P := P) (wl := wl) M G c_join_irreducible c_turned_over D_meet_irreducible) mirr_ok
  have c_law_cell : DefS P wl w mg 1 "_law_cell" T_law_cell := DefS.imp (wk_law_cell (P := P) (wl := wl) M G D_law_cell) cell_ok
  have c_law_digits : DefS P wl w mg 2 "_law_digits" T_law_digits := DefS.imp (wk_law_digits (P := P) (wl := wl) M G c_law_cell D_law_digits) digits_ok
  have c_law_draw : DefX P wl w mg 1 "_law_draw" T_law_draw := DefX.imp (wk_law_draw (P := P) (wl := wl) M G D_law_draw) draw_ok
  have c_law_same : DefP P wl w mg 12 "_law_same" F_law_same := same_def (fun q => wk_law_same (P := P) (wl := wl) M G D_law_same q) (DefC.none (k := 0) D_law_same sc_law_same (fun _ _ _ _ _ _ us hl => match us, hl with | [_, _], _ => rfl))
  have c_law_box : DefS P wl w mg 3 "_law_box" T_law_box := DefS.imp (wk_law_box (P := P) (wl := wl) M G c_law_digits D_law_box) box_ok
  have c_law_some : DefX P wl w mg 2 "_law_some" T_law_some := DefX.imp (wk_law_some (P := P) (wl := wl) M G c_law_draw D_law_some) some_ok
  have c_law_table : DefX P wl w mg 3 "_law_table" T_law_table := DefX.imp (wk_law_table (P := P) (wl := wl) M G c_law_draw c_law_some D_law_table) table_ok
  have c_law_inside := wk_law_inside (P := P) (wl := wl) M G D_law_inside
  have c_law_common := wk_law_common (P := P) (wl := wl) M G D_law_common
  have c_law_having := wk_law_having (P := P) (wl := wl) M G c_law_inside D_law_having
  have c_law_closure := wk_law_closure (P := P) (wl := wl) M G c_law_common c_law_having D_law_closure
  have c_law_lectic : DefX P wl w mg 1 "_law_lectic" T_law_lectic := DefX.imp (wk_law_lectic (P := P) (wl := wl) M G D_law_lectic) lectic_ok
  have c_law_subsets : DefX P wl w mg 2 "_law_subsets" T_law_subsets := DefX.imp (wk_law_subsets (P := P) (wl := wl) M G c_law_lectic D_law_subsets) subsets_ok
  have c_law_closed : DefX P wl w mg 4 "_law_closed" T_law_closed := DefX.imp (wk_law_closed (P := P) (wl := wl) M G c_law_closure c_law_subsets D_law_closed) closed_ok
  have c_law_mixed_order : DefX P wl w mg 2 "_law_mixed_order" T_law_mixed_order := DefX.imp (wk_law_mixed_order (P := P) (wl := wl) M G c_law_draw D_law_mixed_order) mix_ok
  have c_law_lattice : DefX P wl w mg 5 "_law_lattice" T_law_lattice := DefX.imp (wk_law_lattice (P := P) (wl := wl) M G c_law_closed c_law_inside c_law_mixed_order c_law_table D_law_lattice) lat_ok
  have c_law_order : DefX P wl w mg 3 "_law_order" T_law_order := DefX.imp (wk_law_order (P := P) (wl := wl) M G c_law_draw c_law_mixed_order D_law_order) law_ord_ok
  have c_law_best := wk_law_best (P := P) (wl := wl) M G D_law_best
  have c_law_join : DefX P wl w mg 2 "_law_join" T_law_join := DefX.imp (wk_law_join (P := P) (wl := wl) M G c_law_best D_law_join) law_join_ok
  have c_law_meet : DefX P wl w mg 1 "_law_meet" T_law_meet := DefX.imp (wk_law_meet (P := P) (wl := wl) M G D_law_meet) law_meet_ok
  have c_law_is_order := wk_law_is_order (P := P) (wl := wl) M G c_law_inside D_law_is_order
  have c_law_is_lattice : DefX P wl w mg 3 "_law_is_lattice" T_law_is_lattice := DefX.imp (wk_law_is_lattice (P := P) (wl := wl) M G c_law_is_order c_law_join c_law_meet D_law_is_lattice) lawLatB_ok
  have c_law_irreducible : DefX P wl w mg 3 "_law_irreducible" T_law_irreducible := DefX.imp (wk_law_irreducible (P := P) (wl := wl) M G c_law_join c_law_meet D_law_irreducible) law_irr_ok
  have c_law_spoilt := wk_law_spoilt (P := P) (wl := wl) M G c_law_draw D_law_spoilt
  have c_law := wk_law (P := P) (wl := wl) M G c_law_box c_law_draw c_law_irreducible c_law_is_lattice c_law_is_order c_law_join c_law_lattice c_law_meet c_law_order c_law_same c_law_spoilt c_is_lattice c_is_order c_join_irreducible c_join_of c_meet_irreducible c_meet_of D_law
  exact c_law
end Lk30

set_option Elab.async false
set_option linter.all false
set_option maxRecDepth 100000
set_option maxHeartbeats 4000000
namespace Lk30
open PySem PySem.Spec PyProof.Rows L2 GX GD GF
/-! the program's questions of orders and lattices, asked of any value -/
section
variable {st : SS} {up : List (List Nat)} {k : Str}
theorem fNe_self {k : Str} (hk : D.good (.str k) = true) : fNe st (.str k) (.str k) = some (.bl false) := by
  rw [fNe_str hk hk, beq_self_eq_true]
  rfl
theorem mCall3 {F : List D → SS → Option D} {a b c : MP} {env : EV} {x y z : D} (h1 : a env st = some x) (h2 : b env st = some y) (h3 : c env st = some z) : mCall F (mCons a (mCons b (mCons c mNil))) env st = F [x, y, z] st := by
  unfold mCall
  rw [mCons_e h1 (mCons_e h2 (mCons1 h3))]
theorem is_order_ev (O : OrdU up) (hn : up.length ≤ 1000) (hk : D.good (.str k) = true) : F_is_order_of [ordD k up, .str k] st = some (.bl true) := by
  refine fnR_rt rfl ?_ rfl
  show R_is_order_of [some (ordD k up), some (.str k), none, none, none, none, none, none] st = _
  have e0 : bOr (bNot (bV (mF1 (fIs "tuple") (mVar 0)))) (bOr (bV (mOp fNe (mF1 fLen (mVar 0)) (mC (.int 3)))) (bOr (bV (mOp fNe (mOp fIx (mVar 0) (mC (.int 0))) (mVar 1))) (bNot (bV (mF1 (fIs "tuple") (mOp fIx (mVar 0) (mC (.int 2)))))))) [some (ordD k up), some (.str k), none, none, none, none, none, none] st = some false := by
    rw [bOr_f (bNot_e (b := true) (bV_e ((mF1_e rfl).trans (q_tupt st _)))), bOr_f (bV_e ((mOp_e (x := .int 3) rfl rfl).trans rfl)), bOr_f (bV_e ((mOp_e (x := .str k) rfl rfl).trans (fNe_self hk)))]
    exact bNot_e (b := true) (bV_e ((mF1_e (x := .tup (up.map dN)) rfl).trans (q_tupt st _)))
  refine (rSeq_nx ((rIf_f e0).trans rfl)).trans ?_
  refine (rSeq_nx (rAsg_e (e1 := [some (ordD k up), some (.str k), some (.str k), some (nI up.length), some (.tup (up.map dN)), none, none, none]) (rfl : mVar 0 _ st = some (ordD k up)) rfl)).trans ?_
  have e1 : bOr (bNot (bV (mCall F_is_number (mCons (mVar 3) (mCons (mOp fAdd (mF1 fLen (mVar 4)) (mC (.int 1))) mNil))))) (bOr (bV (mOp fNe (mVar 3) (mF1 fLen (mVar 4)))) (bNot (bV (mAll false (iSeq (mVar 4)) (tgN 5) bYes (mCall F_is_set (mCons (mVar 5) (mCons (mVar 3) mNil))) [5])))) [some (ordD k up), some (.str k), some (.str k), some (nI up.length), some (.tup (up.map dN)), none, none, none] st = some false := by
    have a1 : mCall F_is_number (mCons (mVar 3) (mCons (mOp fAdd (mF1 fLen (mVar 4)) (mC (.int 1))) mNil)) [some (ordD k up), some (.str k), some (.str k), some (nI up.length), some (.tup (up.map dN)), none, none, none] st = some (.bl true) := by
      have ad : mOp fAdd (mF1 fLen (mVar 4)) (mC (.int 1)) [some (ordD k up), some (.str k), some (.str k), some (nI up.length), some (.tup (up.map dN)), none, none, none] st = some (nI (up.length + 1)) := (mOp_e (lenE (f := dN) rfl) (y := .int 1) rfl).trans rfl
      refine (mCall2 rfl ad).trans ((is_number_eval rfl).trans ?_)
      rw [numOf_nat, decide_eq_true (Nat.lt_succ_self _)]
    have a2 : mOp fNe (mVar 3) (mF1 fLen (mVar 4)) [some (ordD k up), some (.str k), some (.str k), some (nI up.length), some (.tup (up.map dN)), none, none, none] st = some (.bl false) := by
      refine (mOp_e rfl (lenE (f := dN) rfl)).trans ((fNe_nI _ _ _).trans ?_)
      rw [decide_eq_true rfl]
      rfl
    have a3 : mAll false (iSeq (mVar 4)) (tgN 5) bYes (mCall F_is_set (mCons (mVar 5) (mCons (mVar 3) mNil))) [5] [some (ordD k up), some (.str k), some (.str k), some (nI up.length), some (.tup (up.map dN)), none, none, none] st = some (.bl true) := by
      have := mAll_e (sa := false) (mi := iSeq (mVar 4)) (t := tgN 5) (b := bYes) (m := mCall F_is_set (mCons (mVar 5) (mCons (mVar 3) mNil))) (own := [5]) (env := [some (ordD k up), some (.str k), some (.str k), some (nI up.length), some (.tup (up.map dN)), none, none, none]) (st := st) (ds := up.map dN) (ro := none) rfl (allGo_map (f := dN) (p := setB up.length) up fun r _ => ⟨_, rfl, rfl, (mCall2 rfl rfl).trans (is_set_eval _ _ _)⟩)
      rw [this]
      have : up.all (setB up.length) = true := List.all_eq_true.mpr fun r hr => setB_iff.mpr ⟨O.srt r hr, fun x hx => ⟨Nat.zero_le _, O.inU r hr x hx⟩⟩
      rw [this]
    rw [bOr_f (bNot_e (b := true) (bV_e a1)), bOr_f (bV_e a2)]
    exact bNot_e (b := true) (bV_e a3)
  refine (rSeq_nx ((rIf_f e1).trans rfl)).trans ?_
  have it : iEnum (mVar 4) [some (ordD k up), some (.str k), some (.str k), some (nI up.length), some (.tup (up.map dN)), none, none, none] st = some ((List.range up.length).map (fun i => D.tup [nI i, dN (up.getD i [])]), none) := by
    rw [← enumD_map dN up []]
    rfl
  obtain ⟨env1, ⟨x5, x6, x7, rfl⟩, l1⟩ := rFor_pass (f := fun i => D.tup [nI i, dN (up.getD i [])]) (mi := iEnum (mVar 4)) (t := tgTup 2 (tgCons (tgN 6) (tgCons (tgN 5) tgNil))) (r := (rSeq (rIf (bOr (bV (mOp fNotIn (mVar 6) (mVar 5))) (bV (mAll true (iSeq (mVar 5)) (tgN 7) bYes (mAnd (mOp fNe (mVar 7) (mVar 6)) (mOp fIn (mVar 6) (mOp fIx (mVar 4) (mVar 7)))) [7]))) (rRet (mC (.bl false))) rNext) (rIf (bNot (bV (mAll false (iSeq (mVar 5)) (tgN 7) bYes (mCall F_is_part (mCons (mOp fIx (mVar 4) (mVar 7)) (mCons (mVar 5) mNil))) [7]))) (rRet (mC (.bl false))) rNext))) (st := st) (ro := none)
    (fun env => ∃ x5 x6 x7, env = [some (ordD k up), some (.str k), some (.str k), some (nI up.length), some (.tup (up.map dN)), x5, x6, x7]) (List.range up.length) [some (ordD k up), some (.str k), some (.str k), some (nI up.length), some (.tup (up.map dN)), none, none, none] it ⟨_, _, _, rfl⟩ (by
    rintro env ⟨x5, x6, x7, rfl⟩ i hi
    have hi := List.mem_range.mp hi
    refine ⟨[some (ordD k up), some (.str k), some (.str k), some (nI up.length), some (.tup (up.map dN)), some (dN (up.getD i [])), some (nI i), x7], rfl, ?_⟩
    have hin := O.inU.at (x := i)
    have b1 : mOp fNotIn (mVar 6) (mVar 5) [some (ordD k up), some (.str k), some (.str k), some (nI up.length), some (.tup (up.map dN)), some (dN (up.getD i [])), some (nI i), x7] st = some (.bl false) := by
      refine (mOp_e rfl rfl).trans ((fNotIn_nI _ _ _).trans ?_)
      rw [List.contains_iff_mem.mpr (O.refl i hi)]
      rfl
    have b2 : mAll true (iSeq (mVar 5)) (tgN 7) bYes (mAnd (mOp fNe (mVar 7) (mVar 6)) (mOp fIn (mVar 6) (mOp fIx (mVar 4) (mVar 7)))) [7] [some (ordD k up), some (.str k), some (.str k), some (nI up.length), some (.tup (up.map dN)), some (dN (up.getD i [])), some (nI i), x7] st = some (.bl false) := by
      have := mAll_e (sa := true) (mi := iSeq (mVar 5)) (t := tgN 7) (b := bYes) (m := mAnd (mOp fNe (mVar 7) (mVar 6)) (mOp fIn (mVar 6) (mOp fIx (mVar 4) (mVar 7)))) (own := [7]) (env := [some (ordD k up), some (.str k), some (.str k), some (nI up.length), some (.tup (up.map dN)), some (dN (up.getD i [])), some (nI i), x7]) (st := st) (ds := (up.getD i []).map nI) (ro := none) rfl
        (anyGo_map (f := nI) (p := fun x => !decide (x = i) && (up.getD x []).contains i) (up.getD i []) fun x hx => ⟨_, rfl, rfl, mAnd_e ((mOp_e rfl rfl).trans (fNe_nI _ _ _)) fun _ => (mOp_e rfl ((mOp_e rfl rfl).trans (getI (hin x hx)))).trans (fIn_nI _ _ _)⟩)
      rw [this]
      have : (up.getD i []).any (fun x => !decide (x = i) && (up.getD x []).contains i) = false := by
        rw [List.any_eq_false]
        intro x hx z
        rw [Bool.and_eq_true, Bool.not_eq_true', decide_eq_false_iff_not] at z
        exact z.1 (O.anti x i (List.contains_iff_mem.mp z.2) hx)
      rw [this]
    have b3 : mAll false (iSeq (mVar 5)) (tgN 7) bYes (mCall F_is_part (mCons (mOp fIx (mVar 4) (mVar 7)) (mCons (mVar 5) mNil))) [7] [some (ordD k up), some (.str k), some (.str k), some (nI up.length), some (.tup (up.map dN)), some (dN (up.getD i [])), some (nI i), x7] st = some (.bl true) := by
      have := mAll_e (sa := false) (mi := iSeq (mVar 5)) (t := tgN 7) (b := bYes) (m := mCall F_is_part (mCons (mOp fIx (mVar 4) (mVar 7)) (mCons (mVar 5) mNil))) (own := [7]) (env := [some (ordD k up), some (.str k), some (.str k), some (nI up.length), some (.tup (up.map dN)), some (dN (up.getD i [])), some (nI i), x7]) (st := st) (ds := (up.getD i []).map nI) (ro := none) rfl
        (allGo_map (f := nI) (p := fun x => isPart (up.getD x []) (up.getD i [])) (up.getD i []) fun x hx => ⟨_, rfl, rfl, (mCall2 ((mOp_e rfl rfl).trans (getI (hin x hx))) rfl).trans (is_part_eval _ _ _)⟩)
      rw [this]
      have : (up.getD i []).all (fun x => isPart (up.getD x []) (up.getD i [])) = true := List.all_eq_true.mpr fun x hx => isPart_iff.mpr fun y hy => O.trans i x y hx hy
      rw [this]
    refine ⟨_, ⟨_, _, _, rfl⟩, (rSeq_nx ((rIf_f ?_).trans rfl)).trans ((rIf_f (bNot_e (b := true) (bV_e b3))).trans rfl)⟩
    rw [bOr_f (bV_e b1)]
    exact bV_e b2)
  exact (rSeq_nx l1).trans rfl
theorem fNotN_optN (o : Option Nat) : fNotN st (optN o) .non = some (.bl o.isSome) := by cases o <;> rfl
theorem meet_of_ev {x y : Nat} (L : LatU up) (hn : up.length ≤ 1000) (hx : x < up.length) (hy : y < up.length) : F_meet_of [ordD k up, nI x, nI y] st = some (nI (mt up x y)) := by
  refine fnR_rt rfl ?_ rfl
  show R_meet_of [some (ordD k up), some (nI x), some (nI y)] st = _
  refine rRet_e ((mCall3 ((mCall1 rfl).trans (flip_eval _ (by omega))) rfl rfl).trans ((joinF_eval L.dual.o.inU (by rw [blw_len]; exact hx) (by rw [blw_len]; exact hy)).trans ?_))
  rw [mt_some L hx hy]
  rfl
end
end Lk30

set_option Elab.async false
set_option linter.all false
set_option maxRecDepth 100000
set_option maxHeartbeats 4000000
namespace Lk30
open PySem PySem.Spec PyProof.Rows L2 GX GD GF
section
variable {st : SS} {up : List (List Nat)} {k k0 : Str} {d : D} {n b : Nat}
open Classical in
noncomputable def setR (m : Nat) (r : D) : Bool := decide (∃ es, r = .tup es ∧ ModelSet m es)
theorem is_set_any {r : D} (m : Nat) (h : RowOk n b st r) : F_is_set [r, nI m] st = some (.bl (setR m r)) := by
  classical
  obtain ⟨es, hl, hsc, h⟩ := h
  rcases h with rfl | ⟨q, rfl, _, hc⟩
  · cases ha : es.all fun e => (numOf m e).isSome with
    | false =>
      rw [set_bad (fun e he => sc1_atom (hsc e he)) ha]
      have : setR m (.tup es) = false := decide_eq_false fun ⟨es', e1, ks, e2, p, l⟩ => by
        injection e1 with e1
        subst e1
        rw [e2, List.all_map, Bool.eq_false_iff] at ha
        exact ha (List.all_eq_true.mpr fun x hx => by
          show (numOf m (nI x)).isSome = true
          rw [numOf_nat, decide_eq_true (l x hx)])
      rw [this]
    | true =>
      obtain ⟨ks, e, hlt⟩ := nums_of (n := m) (es := es) fun e he => List.all_eq_true.mp ha e he
      have ev := is_set_eval st m ks
      have e2 : D.tup es = dN ks := by rw [e]; rfl
      rw [e2, ev]
      congr 2
      rw [Bool.eq_iff_iff, setB_iff]
      refine ⟨fun h => decide_eq_true ⟨_, rfl, ks, rfl, h.1, hlt⟩, fun h => ?_⟩
      obtain ⟨es', e1, ks', e3, p, l⟩ := (of_decide_eq_true h : ∃ es, dN ks = .tup es ∧ ModelSet m es)
      unfold dN at e1
      injection e1 with e1
      rw [← e1] at e3
      have := mapN_inj e3
      subst this
      exact ⟨p, fun x hx => ⟨Nat.zero_le _, l x hx⟩⟩
  · rw [set_not (q_tupl hc)]
    have : setR m (.ref q) = false := decide_eq_false fun ⟨es', e1, _⟩ => by cases e1
    rw [this]
abbrev ioBody : RS := (rSeq (rIf (bOr (bV (mOp fNotIn (mVar 6) (mVar 5))) (bV (mAll true (iSeq (mVar 5)) (tgN 7) bYes (mAnd (mOp fNe (mVar 7) (mVar 6)) (mOp fIn (mVar 6) (mOp fIx (mVar 4) (mVar 7)))) [7]))) (rRet (mC (.bl false))) rNext) (rIf (bNot (bV (mAll false (iSeq (mVar 5)) (tgN 7) bYes (mCall F_is_part (mCons (mOp fIx (mVar 4) (mVar 7)) (mCons (mVar 5) mNil))) [7]))) (rRet (mC (.bl false))) rNext))
def offI (up : List (List Nat)) (i : Nat) : Bool := (!(up.getD i []).contains i || (up.getD i []).any fun x => !decide (x = i) && (up.getD x []).contains i) || !(up.getD i []).all fun x => isPart (up.getD x []) (up.getD i [])
theorem io_body {i : Nat} {x7 : Option D} (hU : InUp up) : (offI up i = true ∧ ioBody [some (ordD k up), some (.str k), some (.str k), some (nI up.length), some (.tup (up.map dN)), some (dN (up.getD i [])), some (nI i), x7] st = some (.rt (.bl false))) ∨ (offI up i = false ∧ ioBody [some (ordD k up), some (.str k), some (.str k), some (nI up.length), some (.tup (up.map dN)), some (dN (up.getD i [])), some (nI i), x7] st = some (.nx [some (ordD k up), some (.str k), some (.str k), some (nI up.length), some (.tup (up.map dN)), some (dN (up.getD i [])), some (nI i), x7])) := by
  have hin := hU.at (x := i)
  have b1 : bV (mOp fNotIn (mVar 6) (mVar 5)) [some (ordD k up), some (.str k), some (.str k), some (nI up.length), some (.tup (up.map dN)), some (dN (up.getD i [])), some (nI i), x7] st = some (!(up.getD i []).contains i) := bV_e ((mOp_e rfl rfl).trans (fNotIn_nI _ _ _))
  have b2 : bV (mAll true (iSeq (mVar 5)) (tgN 7) bYes (mAnd (mOp fNe (mVar 7) (mVar 6)) (mOp fIn (mVar 6) (mOp fIx (mVar 4) (mVar 7)))) [7]) [some (ordD k up), some (.str k), some (.str k), some (nI up.length), some (.tup (up.map dN)), some (dN (up.getD i [])), some (nI i), x7] st = some ((up.getD i []).any fun x => !decide (x = i) && (up.getD x []).contains i) := by
    refine bV_e (mAll_e (ds := (up.getD i []).map nI) (ro := none) rfl ?_)
    exact anyGo_map (f := nI) (p := fun x => !decide (x = i) && (up.getD x []).contains i) (up.getD i []) fun x hx => ⟨_, rfl, rfl, mAnd_e ((mOp_e rfl rfl).trans (fNe_nI _ _ _)) fun _ => (mOp_e rfl ((mOp_e rfl rfl).trans (getI (hin x hx)))).trans (fIn_nI _ _ _)⟩
  have b3 : bV (mAll false (iSeq (mVar 5)) (tgN 7) bYes (mCall F_is_part (mCons (mOp fIx (mVar 4) (mVar 7)) (mCons (mVar 5) mNil))) [7]) [some (ordD k up), some (.str k), some (.str k), some (nI up.length), some (.tup (up.map dN)), some (dN (up.getD i [])), some (nI i), x7] st = some ((up.getD i []).all fun x => isPart (up.getD x []) (up.getD i [])) := by
    refine bV_e (mAll_e (ds := (up.getD i []).map nI) (ro := none) rfl ?_)
    exact allGo_map (f := nI) (p := fun x => isPart (up.getD x []) (up.getD i [])) (up.getD i []) fun x hx => ⟨_, rfl, rfl, (mCall2 ((mOp_e rfl rfl).trans (getI (hin x hx))) rfl).trans (is_part_eval _ _ _)⟩
  have c1 := bOr_e b1 b2
  have c2 := bNot_e b3
  unfold offI
  cases e1 : (!(up.getD i []).contains i || (up.getD i []).any fun x => !decide (x = i) && (up.getD x []).contains i) with
  | true =>
    rw [e1] at c1
    exact .inl ⟨rfl, rSeq_rt ((rIf_t c1).trans (rRet_e rfl))⟩
  | false =>
    rw [e1] at c1
    cases e2 : (!(up.getD i []).all fun x => isPart (up.getD x []) (up.getD i [])) with
    | true =>
      rw [e2] at c2
      exact .inl ⟨rfl, (rSeq_nx ((rIf_f c1).trans rfl)).trans ((rIf_t c2).trans (rRet_e rfl))⟩
    | false =>
      rw [e2] at c2
      exact .inr ⟨rfl, (rSeq_nx ((rIf_f c1).trans rfl)).trans ((rIf_f c2).trans rfl)⟩
theorem is_order_any (V : ValOk n b st d) (h1 : 1 ≤ n) (hn : n ≤ 1000) (h0 : k0 = ("order" : Str) ∨ k0 = ("lattice" : Str)) : F_is_order_of [d, .str k0] st = some (.bl (isoB k0 d)) := by
  classical
  have hk0 := good_word h0
  by_cases h : ∃ up, d = ordD k0 up ∧ OrdU up
  · obtain ⟨up, rfl, O⟩ := h
    rw [isoB_of O]
    exact is_order_ev O (Nat.le_trans (val_len V h1) hn) hk0
  rw [isoB_f h]
  refine fnR_rt rfl ?_ rfl
  show R_is_order_of [some d, some (.str k0), none, none, none, none, none, none] st = _
  rcases V with V | ⟨k, rows, hk, rfl, hl, hr⟩
  · rcases List.mem_cons.mp V with rfl | V
    · exact rSeq_rt ((rIf_t (head_not rfl (q_tupn st))).trans (rRet_e rfl))
    rcases List.mem_cons.mp V with rfl | V
    · exact rSeq_rt ((rIf_t (head_len rfl)).trans (rRet_e rfl))
    rcases List.mem_cons.mp V with rfl | V
    · by_cases e : (("order" : Str)) = k0
      · refine (rSeq_nx ((rIf_f ((head3 rfl rfl good_ord hk0 e).trans (bNot_e (b := true) (bV_e ((mF1_e (x := .tup []) rfl).trans (q_tupt st _)))))).trans rfl)).trans ?_
        refine (rSeq_nx (rAsg_e (e1 := [some (.tup [.str ("order" : Str), .int 1, .tup []]), some (.str k0), some (.str ("order" : Str)), some (.int 1), some (.tup []), none, none, none]) (rfl : mVar 0 _ st = some (.tup [.str ("order" : Str), .int 1, .tup []])) rfl)).trans (rSeq_rt ((rIf_t (bOr_t (bNot_e (b := false) (bV_e ?_)))).trans (rRet_e rfl)))
        refine (mCall2 (x := .int 1) (y := nI 1) rfl ((mOp_e (x := .int 0) (y := .int 1) ((mF1_e (x := .tup []) rfl).trans rfl) rfl).trans rfl)).trans ((is_number_eval rfl).trans ?_)
        exact congrArg (fun b => some (D.bl b)) ((numOf_nat 1 1).trans (by decide))
      · exact rSeq_rt ((rIf_t (head3n rfl rfl good_ord hk0 e)).trans (rRet_e rfl))
    · rw [List.mem_singleton.mp V]
      exact rSeq_rt ((rIf_t (head_not rfl (q_tupi st 7))).trans (rRet_e rfl))
  by_cases e : k = k0
  · subst e
    refine (rSeq_nx ((rIf_f ((head3 rfl rfl hk0 hk0 rfl).trans (bNot_e (b := true) (bV_e ((mF1_e (x := .tup rows) rfl).trans (q_tupt st _)))))).trans rfl)).trans ?_
    refine (rSeq_nx (rAsg_e (e1 := [some (.tup [.str k, nI rows.length, .tup rows]), some (.str k), some (.str k), some (nI rows.length), some (.tup rows), none, none, none]) (rfl : mVar 0 _ st = some (.tup [.str k, nI rows.length, .tup rows])) rfl)).trans ?_
    have a1 : mCall F_is_number (mCons (mVar 3) (mCons (mOp fAdd (mF1 fLen (mVar 4)) (mC (.int 1))) mNil)) [some (.tup [.str k, nI rows.length, .tup rows]), some (.str k), some (.str k), some (nI rows.length), some (.tup rows), none, none, none] st = some (.bl true) := by
      refine (mCall2 (x := nI rows.length) (y := nI (rows.length + 1)) rfl ((mOp_e (x := nI rows.length) (y := .int 1) ((mF1_e (x := .tup rows) rfl).trans rfl) rfl).trans rfl)).trans ((is_number_eval rfl).trans ?_)
      rw [numOf_nat, decide_eq_true (Nat.lt_succ_self _)]
    have a2 : mOp fNe (mVar 3) (mF1 fLen (mVar 4)) [some (.tup [.str k, nI rows.length, .tup rows]), some (.str k), some (.str k), some (nI rows.length), some (.tup rows), none, none, none] st = some (.bl false) := by
      refine (mOp_e (x := nI rows.length) (y := nI rows.length) rfl ((mF1_e (x := .tup rows) rfl).trans rfl)).trans ((fNe_nI st _ _).trans ?_)
      rw [decide_eq_true rfl]
      rfl
    have a3 : mAll false (iSeq (mVar 4)) (tgN 5) bYes (mCall F_is_set (mCons (mVar 5) (mCons (mVar 3) mNil))) [5] [some (.tup [.str k, nI rows.length, .tup rows]), some (.str k), some (.str k), some (nI rows.length), some (.tup rows), none, none, none] st = some (.bl (rows.all (setR rows.length))) := by
      refine mAll_e (ds := rows) (ro := none) rfl ?_
      have := allGo_map (f := fun d : D => d) (t := tgN 5) (b := bYes) (m := mCall F_is_set (mCons (mVar 5) (mCons (mVar 3) mNil))) (env := ewipe [some (.tup [.str k, nI rows.length, .tup rows]), some (.str k), some (.str k), some (nI rows.length), some (.tup rows), none, none, none] [5]) (st := st) (p := setR rows.length) rows fun r hr' => ⟨_, rfl, rfl, (mCall2 rfl rfl).trans (is_set_any _ (hr r hr'))⟩
      rw [List.map_id'] at this
      exact this
    have c := (bOr_f (bNot_e (b := true) (bV_e a1))).trans ((bOr_f (bV_e a2)).trans (bNot_e (bV_e a3)))
    cases ha : rows.all (setR rows.length) with
    | false =>
      rw [ha] at c
      exact rSeq_rt ((rIf_t c).trans (rRet_e rfl))
    | true =>
      rw [ha] at c
      refine (rSeq_nx ((rIf_f c).trans rfl)).trans ?_
      obtain ⟨up, eu, hup⟩ := rows_model (rows := rows) (n := rows.length) fun r hr' => of_decide_eq_true (List.all_eq_true.mp ha r hr')
      subst eu
      rw [List.length_map] at hup hl
      have eo : D.tup [.str k, nI (up.map dN).length, .tup (up.map dN)] = ordD k up := by unfold ordD; rw [List.length_map]
      have el : nI (up.map dN).length = nI up.length := by rw [List.length_map]
      rw [eo] at h ⊢
      rw [el]
      have hU : InUp up := fun r hr x hx => (hup r hr).2 x hx
      have it : iEnum (mVar 4) [some (ordD k up), some (.str k), some (.str k), some (nI up.length), some (.tup (up.map dN)), none, none, none] st = some ((List.range up.length).map (fun i => D.tup [nI i, dN (up.getD i [])]), none) := by
        rw [← enumD_map dN up []]
        rfl
      have R := rfor_any (f := fun i => D.tup [nI i, dN (up.getD i [])]) (t := tgTup 2 (tgCons (tgN 6) (tgCons (tgN 5) tgNil))) (st := st) (d := .bl false) (p := offI up) (r := ioBody) (fun env => ∃ x5 x6 x7, env = [some (ordD k up), some (.str k), some (.str k), some (nI up.length), some (.tup (up.map dN)), x5, x6, x7]) (List.range up.length) [some (ordD k up), some (.str k), some (.str k), some (nI up.length), some (.tup (up.map dN)), none, none, none] ⟨_, _, _, rfl⟩ (by
        rintro env ⟨x5, x6, x7, rfl⟩ i hi
        refine ⟨[some (ordD k up), some (.str k), some (.str k), some (nI up.length), some (.tup (up.map dN)), some (dN (up.getD i [])), some (nI i), x7], rfl, ?_⟩
        rcases io_body (k := k) (st := st) (i := i) (x7 := x7) hU with ⟨g, q⟩ | ⟨g, q⟩
        · exact .inl ⟨g, q⟩
        · exact .inr ⟨g, _, ⟨_, _, _, rfl⟩, q⟩)
      rcases R with ⟨_, R⟩ | ⟨q, _⟩
      · exact rSeq_rt ((rFor_e it).trans R)
      · have off : ∀ i, i < up.length → offI up i = false := fun i hi => by
          have := List.any_eq_false.mp q i (List.mem_range.mpr hi)
          exact Bool.eq_false_iff.mpr this
        refine absurd ⟨up, rfl, ordU_of hup (fun x hx => ?_) fun x hx y hy => ?_⟩ h
        · have z := off x hx
          unfold offI at z
          rw [Bool.or_eq_false_iff, Bool.or_eq_false_iff, Bool.not_eq_false'] at z
          exact List.contains_iff_mem.mp z.1.1
        · have z := off x hx
          unfold offI at z
          rw [Bool.or_eq_false_iff, Bool.or_eq_false_iff, Bool.not_eq_false', Bool.not_eq_false'] at z
          refine ⟨List.all_eq_true.mp z.2 y hy, fun hxy hm => ?_⟩
          have := List.any_eq_false.mp z.1.2 y hy
          rw [Bool.and_eq_true, Bool.not_eq_true', decide_eq_false_iff_not, List.contains_iff_mem] at this
          exact this ⟨fun e => hxy e.symm, hm⟩
  · exact rSeq_rt ((rIf_t (head3n rfl rfl (good_word hk) hk0 e)).trans (rRet_e rfl))
end
end Lk30

set_option Elab.async false
set_option linter.all false
set_option maxRecDepth 100000
set_option maxHeartbeats 4000000
namespace Lk30
open PySem PySem.Spec PyProof.Rows L2 GX GD GF
section
variable {st : SS} {up : List (List Nat)} {k k0 : Str} {d : D} {n b : Nat}
theorem allGo2_map {α : Type} {t : MT} {mi1 : MI} {t1 : MT} {m : MP} {own1 : List Nat} {env : EV} {f : α → D} {p : α → Bool} : ∀ (l : List α), (∀ a ∈ l, ∃ env1, t (f a) env = some env1 ∧ ∃ ds1 ro1, mi1 env1 st = some (ds1, ro1) ∧ ds1.length ≤ 1000 ∧ allGo t1 bYes m (ewipe env1 own1) st false ds1 = some (p a)) → allGo2 t bYes mi1 t1 bYes m own1 env st false (l.map f) = some (l.all p)
  | [], _ => rfl
  | a :: l, h => by
    obtain ⟨env1, h1, ds1, ro1, h2, h3, h4⟩ := h a List.mem_cons_self
    rw [List.map_cons, allGo2, h1, List.all_cons]
    show (match mi1 env1 st with | some (ds1, _) => if ds1.length ≤ 1000 then (match allGo t1 bYes m (ewipe env1 own1) st false ds1 with | some x => if x = false then some false else allGo2 t bYes mi1 t1 bYes m own1 env st false (l.map f) | none => none) else none | none => none) = _
    rw [h2]
    show (if ds1.length ≤ 1000 then _ else _) = _
    rw [if_pos h3, h4]
    cases p a with
    | false => rfl
    | true => exact allGo2_map l fun b hb => h b (List.mem_cons_of_mem _ hb)
def joinsB (up : List (List Nat)) : Bool := (List.range up.length).all fun x => (List.range x).all fun y => (joinM up x y).isSome
theorem joinsB_iff : joinsB up = true ↔ ∀ x y, x < up.length → y < x → (joinM up x y).isSome = true := by
  unfold joinsB
  rw [List.all_eq_true]
  exact ⟨fun h x y hx hy => List.all_eq_true.mp (h x (List.mem_range.mpr hx)) y (List.mem_range.mpr hy), fun h x hx => List.all_eq_true.mpr fun y hy => h x y (List.mem_range.mp hx) (List.mem_range.mp hy)⟩
theorem has_joins_any (hU : InUp up) (hn : up.length ≤ 1000) : F_has_joins [ordD k up] st = some (.bl (joinsB up)) := by
  refine fnR_rt rfl ?_ rfl
  show R_has_joins [some (ordD k up), none, none, none] st = _
  refine (rSeq_nx (rAsg_e (e1 := [some (ordD k up), some (nI up.length), none, none]) (atMany rfl) rfl)).trans (rRet_e ?_)
  unfold mAll2
  rw [iRng_nat (n := up.length) rfl (by omega)]
  show (if ((List.range up.length).map nI).length ≤ 1000 then _ else _) = _
  rw [if_pos (by rw [List.length_map, List.length_range]; exact hn)]
  rw [allGo2_map (f := nI) (p := fun x => (List.range x).all fun y => (joinM up x y).isSome) (List.range up.length) fun x hx => ⟨_, rfl, (List.range x).map nI, none, iRng_nat rfl (by have := List.mem_range.mp hx; omega), by rw [List.length_map, List.length_range]; have := List.mem_range.mp hx; omega, ?_⟩]
  · rfl
  have hx := List.mem_range.mp hx
  exact allGo_map (f := nI) (p := fun y => (joinM up x y).isSome) (List.range x) fun y hy => ⟨_, rfl, rfl, (mOp_e ((mCall3 rfl rfl rfl).trans (joinF_eval hU hx (by have := List.mem_range.mp hy; omega))) rfl).trans (fNotN_optN _)⟩
theorem is_lattice_any (V : ValOk n b st d) (h1 : 1 ≤ n) (hn : n ≤ 1000) : F_is_lattice [d] st = some (.bl (latB d)) := by
  classical
  have io := is_order_any (k0 := ("lattice" : Str)) V h1 hn (.inr rfl)
  refine fnR_rt rfl ?_ rfl
  show R_is_lattice [some d] st = _
  have c1 := bNot_e (bV_e ((mCall2 (F := F_is_order_of) (m := mVar 0) (m2 := mC (.str ("lattice" : Str))) (env := [some d]) (st := st) rfl rfl).trans io))
  by_cases ho : ∃ up, d = ordD ("lattice" : Str) up ∧ OrdU up
  · obtain ⟨up, rfl, O⟩ := ho
    rw [isoB_of O] at c1
    have hu : up.length ≤ 1000 := Nat.le_trans (val_len V h1) hn
    have c2 := bV_e ((mOp_e (atMany rfl) (y := nI 0) rfl).trans (fEq_nI st up.length 0) : mOp fEq (mOp fIx (mVar 0) (mC (.int 1))) (mC (.int 0)) [some (ordD ("lattice" : Str) up)] st = _)
    by_cases h0 : up.length = 0
    · rw [decide_eq_true h0] at c2
      rw [latB_f fun ⟨up', e, _, z⟩ => by rw [ordD_inj e] at h0; omega]
      exact rSeq_rt ((rIf_t ((bOr_f c1).trans c2)).trans (rRet_e rfl))
    rw [decide_eq_false h0] at c2
    refine (rSeq_nx ((rIf_f ((bOr_f c1).trans c2)).trans rfl)).trans (rRet_e ?_)
    have dual := O.dual
    have j2 : mCall F_has_joins (mCons (mCall F_turned_over (mCons (mVar 0) mNil)) mNil) [some (ordD ("lattice" : Str) up)] st = some (.bl (joinsB (blwM up))) := (mCall1 ((mCall1 rfl).trans (flip_eval _ (by omega)))).trans (has_joins_any dual.inU (by rw [blw_len]; exact hu))
    refine (mAnd_e ((mCall1 rfl).trans (has_joins_any O.inU hu)) fun _ => j2).trans ?_
    congr 2
    rw [Bool.eq_iff_iff, Bool.and_eq_true, joinsB_iff, joinsB_iff]
    constructor
    · intro ⟨a, c⟩
      refine latB_of (latU_of O fun x y hx hy => ⟨a x y hx hy, c x y (by rw [blw_len]; exact hx) hy⟩) (by omega)
    · intro h
      obtain ⟨up', e, L, _⟩ := (of_decide_eq_true h : ∃ up', ordD ("lattice" : Str) up = ordD ("lattice" : Str) up' ∧ LatU up' ∧ 0 < up'.length)
      rw [← ordD_inj e] at L
      refine ⟨fun x y hx hy => ?_, fun x y hx hy => ?_⟩
      · rw [jn_some L hx (by omega)]; rfl
      · rw [blw_len] at hx
        rw [mt_some L hx (by omega)]; rfl
  · rw [isoB_f ho] at c1
    rw [latB_f fun ⟨up, e, L, _⟩ => ho ⟨up, e, L.o⟩]
    exact rSeq_rt ((rIf_t (bOr_t c1)).trans (rRet_e rfl))
end
end Lk30

set_option Elab.async false
set_option linter.all false
set_option maxRecDepth 100000
set_option maxHeartbeats 4000000
namespace Lk30
open PySem PySem.Spec PyProof.Rows L2 GX GD GF
/-! what is spoilt is again a value -/
section
variable {st s : SS} {k k0 : Str} {d : D} {n b : Nat}
theorem sc_scD {e : D} (h : sc1 e = true) : scD e = true := by rcases sc1_shape h with ⟨b, rfl⟩ | ⟨i, rfl, _⟩ <;> rfl
theorem sc_nat (k : Nat) : sc1 (nI k) = true := by
  show decide (-1 ≤ (k : Int)) = true
  exact decide_eq_true (by omega)
theorem good_sc1 {e : D} (h : sc1 e = true) : D.good e = true := by rcases sc1_shape h with ⟨b, rfl⟩ | ⟨i, rfl, _⟩ <;> rfl
theorem lenRf {l : List D} {p : Nat} {m : MP} {env : EV} (h : m env st = some (.ref p)) (c : st[p]? = some (.lst l)) : mF1 fLen m env st = some (nI l.length) := by
  refine lenR (f := fun d : D => d) h ?_
  rw [List.map_id']
  exact c
theorem getRf {l : List D} {p i : Nat} {e : D} (c : st[p]? = some (.lst l)) (h : l[i]? = some e) : fIx st (.ref p) (nI i) = some e := by
  refine getR (f := fun d : D => d) ?_ h
  rw [List.map_id']
  exact c
theorem rowMono {m : Nat} {r : D} (h : RowOk n b st r) (hm : n ≤ m) : RowOk m b st r := by
  obtain ⟨es, h1, h2, h3⟩ := h
  exact ⟨es, Nat.le_trans h1 hm, h2, h3⟩
theorem rowUb {r : D} (h : RowOk n b st r) (u : Ub b st s) : RowOk n b s r := by
  obtain ⟨es, h1, h2, h3⟩ := h
  exact ⟨es, h1, h2, h3.imp id fun ⟨k, e, hk, hc⟩ => ⟨k, e, hk, u.get hc hk⟩⟩
theorem valUb (V : ValOk n b st d) (u : Ub b st s) {m : Nat} (hm : n ≤ m) : ValOk m b s d := V.imp id fun ⟨k, rows, hk, e, hl, hr⟩ => ⟨k, rows, hk, e, Nat.le_trans hl hm, fun r h => rowMono (rowUb (hr r h) u) hm⟩
theorem rowT {es : List D} (h1 : es.length ≤ n) (h2 : ∀ e ∈ es, sc1 e = true) : RowOk n b st (.tup es) := ⟨es, h1, h2, .inl rfl⟩
theorem cut1 (es : List D) : (cutG es none (some 1)).length ≤ 1 ∧ ∀ e ∈ cutG es none (some 1), e ∈ es := by
  unfold cutG
  have e : HT.sIx es.length es.length (some (1 : Int)) = min 1 es.length := HT.sIx_nat _ _ 1
  rw [e]
  refine ⟨by rw [List.length_take]; omega, fun x hx => List.mem_of_mem_drop (List.mem_of_mem_take hx)⟩
theorem bl_go {a0 a1 a2 a3 a4 a5 : Option D} {st0 : SS} : ∀ (todo : List D) (s : SS) (R : List D → SS → Prop), (∀ e ∈ todo, sc1 e = true) → (∀ ys s', Up s s' → ys.length = todo.length → (∀ y ∈ ys, sc1 y = true) → R ys s') →
    xGo (tgN 6) (xbOf bYes) (xIf (xbOf (bV (mOp fLtB (mVar 6) (mC (.int 2))))) (xOp fIxB (xNew (xaOf (mLst (mCons (mC (.bl false)) (mCons (mC (.bl true)) mNil))))) (xOf (mVar 6))) (xOf (mVar 6))) [a0, a1, a2, a3, a4, a5, none] st0 none todo s R
  | [], s, R, _, hR => ⟨trivial, hR [] s (Up.refl s) rfl fun _ h => by cases h⟩
  | d :: ds, s, R, hs, hR => by
    refine ⟨trivial, [a0, a1, a2, a3, a4, a5, some d], rfl, true, rfl, iteT ?_⟩
    have next : ∀ (y : D) s1, Up s s1 → sc1 y = true → xGo (tgN 6) (xbOf bYes) (xIf (xbOf (bV (mOp fLtB (mVar 6) (mC (.int 2))))) (xOp fIxB (xNew (xaOf (mLst (mCons (mC (.bl false)) (mCons (mC (.bl true)) mNil))))) (xOf (mVar 6))) (xOf (mVar 6))) [a0, a1, a2, a3, a4, a5, none] st0 none ds s1 (fun ys st3 => R (y :: ys) st3) := fun y s1 u hy =>
      bl_go ds s1 _ (fun e he => hs e (List.mem_cons_of_mem _ he)) fun ys s' u' hl hy' => hR (y :: ys) s' (u.trans u') (by rw [List.length_cons, List.length_cons, hl]) fun z hz => by
        rcases List.mem_cons.mp hz with rfl | hz
        · exact hy
        · exact hy' z hz
    rcases sc1_shape (hs d List.mem_cons_self) with ⟨c, rfl⟩ | ⟨i, rfl, hi⟩
    · refine ⟨true, by cases c <;> rfl, iteT ⟨[.bl false, .bl true], rfl, .bl c, rfl, .bl c, ?_, next (.bl c) _ (Up.app _ _) rfl⟩⟩
      show (match (s ++ [Cell.lst [D.bl false, D.bl true]])[s.length]? with | some (.lst ds) => ds[(tvI c).toNat]? | _ => none) = _
      rw [getApp]
      cases c <;> rfl
    · refine ⟨decide (i < 2), rfl, ite2 (fun h => ?_) fun _ => ⟨_, rfl, next (.int i) s (Up.refl s) (decide_eq_true hi)⟩⟩
      have h2 := of_decide_eq_true h
      have e : ∃ c, fIxB (s ++ [Cell.lst [D.bl false, D.bl true]]) (.ref s.length) (.int i) = some (.bl c) := by
        show ∃ c, fIx (s ++ [Cell.lst [D.bl false, D.bl true]]) (.ref s.length) (.int i) = some (.bl c)
        unfold fIx seqOf
        simp only [getApp]
        rcases (by omega : i = -1 ∨ i = 0 ∨ i = 1) with rfl | rfl | rfl
        · exact ⟨true, rfl⟩
        · exact ⟨false, rfl⟩
        · exact ⟨true, rfl⟩
      obtain ⟨c, e⟩ := e
      exact ⟨[.bl false, .bl true], rfl, .int i, rfl, .bl c, e, next (.bl c) _ (Up.app _ _) rfl⟩
end
end Lk30

set_option Elab.async false
set_option linter.all false
set_option maxRecDepth 100000
set_option maxHeartbeats 4000000
namespace Lk30
open PySem PySem.Spec PyProof.Rows L2 GX GD GF
section
variable {st s : SS} {k k0 : Str} {d : D} {n b : Nat}
def spoiltT : XT := fun ds st R => ∃ (n b : Nat) (d : D), ds = [.ref b, d] ∧ 1 ≤ n ∧ n ≤ 58 ∧ Boxed st b ∧ ValOk n b st d ∧ ∀ d' st1, ValOk (n + 1) b st1 d' → Boxed st1 b → Ub b st st1 → R d' st1
def six : List D := [.non, .tup [], .tup [.str ("order" : Str), .int 1, .tup []], .tup [.str ("lattice" : Str), .int 0, .tup []], .tup [.str ("order" : Str), .int 0, .tup []], .int 7]
theorem six_ok {x : D} (h : x ∈ six) : ValOk n b st x := by
  unfold six at h
  rcases List.mem_cons.mp h with rfl | h
  · exact .inl (by unfold oddVals; simp)
  rcases List.mem_cons.mp h with rfl | h
  · exact .inl (by unfold oddVals; simp)
  rcases List.mem_cons.mp h with rfl | h
  · exact .inl (by unfold oddVals; simp)
  rcases List.mem_cons.mp h with rfl | h
  · exact .inr ⟨_, [], .inr rfl, rfl, Nat.zero_le _, fun _ h => by cases h⟩
  rcases List.mem_cons.mp h with rfl | h
  · exact .inr ⟨_, [], .inl rfl, rfl, Nat.zero_le _, fun _ h => by cases h⟩
  · rw [List.mem_singleton.mp h]
    exact .inl (by unfold oddVals; simp)
/-- what a value is, seen from the second question on -/
def TabV (n b : Nat) (st : SS) (d : D) : Prop := ∃ (k : Str) (m : Nat) (rows : List D), d = .tup [.str k, nI m, .tup rows] ∧ (rows = [] ∨ ((k = ("order" : Str) ∨ k = ("lattice" : Str)) ∧ m = rows.length ∧ rows.length ≤ n ∧ ∀ r ∈ rows, RowOk n b st r))
theorem spoilt_ok (ds : List D) (st : SS) (R : D → SS → Prop) (h : spoiltT ds st R) : T_law_spoilt ds st R := by
  obtain ⟨n, b, d, rfl, h1, hn, B, V, hR⟩ := h
  refine ⟨rfl, ?_⟩
  show X_law_spoilt _ [some (.ref b), some d, none, none, none, none, none] st
  have same := hR d st (valUb V (Ub.refl b st) (Nat.le_succ n)) B (Ub.refl b st)
  have cs : (d = .non ∨ d = .tup [] ∨ d = .int 7) ∨ TabV n b st d := by
    rcases V with V | ⟨k, rows, hk, e, hl, hr⟩
    · rcases List.mem_cons.mp V with rfl | V
      · exact .inl (.inl rfl)
      rcases List.mem_cons.mp V with rfl | V
      · exact .inl (.inr (.inl rfl))
      rcases List.mem_cons.mp V with rfl | V
      · exact .inr ⟨_, 1, [], rfl, .inl rfl⟩
      · rw [List.mem_singleton.mp V]; exact .inl (.inr (.inr rfl))
    · exact .inr ⟨k, rows.length, rows, e, .inr ⟨hk, rfl, hl, hr⟩⟩
  rcases cs with (rfl | rfl | rfl) | ⟨k, m, rows, rfl, T⟩
  · exact ⟨true, bOr_t (bNot_e (b := false) (bV_e ((mF1_e rfl).trans (q_tupn st)))), iteT ⟨_, rfl, same⟩⟩
  · exact ⟨true, (bOr_f (bNot_e (b := true) (bV_e ((mF1_e rfl).trans (q_tupt st _))))).trans (bOr_t (bV_e ((mOp_e (x := .int 0) ((mF1_e (x := .tup []) rfl).trans rfl) rfl).trans rfl))), iteT ⟨_, rfl, same⟩⟩
  · exact ⟨true, bOr_t (bNot_e (b := false) (bV_e ((mF1_e rfl).trans (q_tupi st 7)))), iteT ⟨_, rfl, same⟩⟩
  have c0 : bOr (bNot (bV (mF1 (fIs "tuple") (mVar 1)))) (bOr (bV (mOp fNe (mF1 fLen (mVar 1)) (mC (.int 3)))) (bNot (bV (mF1 (fIs "tuple") (mOp fIx (mVar 1) (mC (.int 2))))))) [some (.ref b), some (.tup [.str k, nI m, .tup rows]), none, none, none, none, none] st = some false := by
    rw [bOr_f (bNot_e (b := true) (bV_e ((mF1_e rfl).trans (q_tupt st _)))), bOr_f (bV_e ((mOp_e (x := .int 3) ((mF1_e (x := .tup [.str k, nI m, .tup rows]) rfl).trans rfl) rfl).trans rfl))]
    exact bNot_e (b := true) (bV_e ((mF1_e (x := .tup rows) rfl).trans (q_tupt st _)))
  refine ⟨false, c0, iteF ?_⟩
  refine ⟨.ref b, rfl, .int 11, rfl, b, 11, rfl, by decide, B, fun kd s1 hkd B1 E1 => ⟨_, rfl, ?_⟩⟩
  refine ⟨rows, (show mLstOf (mOp fIx (mVar 1) (mC (.int 2))) _ s1 = some rows from rfl), _, rfl, ?_⟩
  have U1 := E1.ub
  have bl : b < s1.length := B1.lt
  have pl : st.length ≤ s1.length := U1.len
  have B2 : Boxed (s1 ++ [Cell.lst rows]) b := B1.up (Up.app _ _)
  have U2 : Ub b st (s1 ++ [Cell.lst rows]) := U1.trans ((Up.app _ _).ub b)
  have c2 : (s1 ++ [Cell.lst rows])[s1.length]? = some (.lst rows) := getApp _ _
  generalize s1 ++ [Cell.lst rows] = s2 at B2 U2 c2 ⊢
  generalize s1.length = p at bl pl c2 ⊢
  have q1 : bV (mOp fEq (mF1 fLen (mVar 3)) (mC (.int 0))) [some (.ref b), some (.tup [.str k, nI m, .tup rows]), some (nI kd), some (.ref p), none, none, none] s2 = some (decide (rows.length = 0)) := bV_e ((mOp_e (lenRf rfl c2) rfl).trans (fEq_nI s2 rows.length 0))
  have q2 : bV (mOp fEq (mVar 2) (mC (.int 0))) [some (.ref b), some (.tup [.str k, nI m, .tup rows]), some (nI kd), some (.ref p), none, none, none] s2 = some (decide (kd = 0)) := bV_e ((mOp_e rfl rfl).trans (fEq_nI s2 kd 0))
  refine ⟨_, bOr_e q1 q2, ite2 (fun _ => ?_) fun hnot => ?_⟩
  · refine ⟨six, rfl, .ref b, rfl, .int 6, rfl, b, 6, rfl, by decide, B2.up (Up.app _ _), fun r s3 hr B3 E3 => ?_⟩
    have c3 : s3[s2.length]? = some (.lst six) := E3.keep (getApp _ _) (by have := B2.lt; omega)
    have hr6 : r < six.length := by show r < 6; omega
    exact ⟨six[r], getRf c3 (List.getElem?_eq_getElem hr6), hR _ _ (six_ok (List.getElem_mem hr6)) B3 ((U2.trans ((Up.app _ _).ub b)).trans E3.ub)⟩
  have hpos : 0 < rows.length := by
    rcases Nat.eq_zero_or_pos rows.length with e | e
    · rw [decide_eq_true e, Bool.true_or] at hnot
      exact absurd rfl hnot
    · exact e
  rcases T with rfl | ⟨hk, rfl, hl, hr⟩
  · cases hpos
  refine ⟨.ref b, rfl, .int 1000, rfl, b, 1000, rfl, by decide, B2, fun r s3 hr3 B3 E3 => ?_⟩
  have c3 : s3[p]? = some (.lst rows) := E3.keep c2 (by omega)
  refine ⟨nI r, rfl, nI rows.length, lenRf rfl c3, nI (r % rows.length), mod_step' hpos, _, rfl, ?_⟩
  have hx : r % rows.length < rows.length := Nat.mod_lt _ hpos
  generalize r % rows.length = x at hx ⊢
  refine ⟨.ref b, rfl, .int 9, rfl, b, 9, rfl, by decide, B3, fun y s4 hy B4 E4 => ⟨_, rfl, ?_⟩⟩
  have c4 : s4[p]? = some (.lst rows) := E4.keep c3 (by omega)
  have U4 : Ub b st s4 := (U2.trans E3.ub).trans E4.ub
  obtain ⟨es, hel, hsc, hrow⟩ := rowUb (hr _ (List.getElem_mem hx)) U4
  have ex : rows[x]? = some rows[x] := List.getElem?_eq_getElem hx
  have tv : mF1 fTup (mOp fIx (mVar 3) (mVar 4)) [some (.ref b), some (.tup [.str k, nI rows.length, .tup rows]), some (nI kd), some (.ref p), some (nI x), some (nI y), none] s4 = some (.tup es) := by
    have g : mOp fIx (mVar 3) (mVar 4) [some (.ref b), some (.tup [.str k, nI rows.length, .tup rows]), some (nI kd), some (.ref p), some (nI x), some (nI y), none] s4 = some rows[x] := (mOp_e rfl rfl).trans (getRf c4 ex)
    rcases hrow with e | ⟨q, e, _, cq⟩
    · rw [e] at g; exact (mF1_e g).trans rfl
    · rw [e] at g; exact tupR g cq
  refine ⟨.tup es, tv, p, x, rows, x, rfl, rfl, c4, ixN_nat hx, ?_⟩
  have c5 : (s4.set p (Cell.lst (rows.set x (.tup es))))[p]? = some (.lst (rows.set x (.tup es))) := getSet c4
  have B5 : Boxed (s4.set p (Cell.lst (rows.set x (.tup es)))) b := B4.hi (by omega) _
  have U5 : Ub b st (s4.set p (Cell.lst (rows.set x (.tup es)))) := U4.set pl _
  generalize s4.set p (Cell.lst (rows.set x (.tup es))) = s5 at B5 U5 c5 ⊢
  have row5 : ∀ s', s'[p]? = some (.lst (rows.set x (.tup es))) → mOp fIx (mVar 3) (mVar 4) [some (.ref b), some (.tup [.str k, nI rows.length, .tup rows]), some (nI kd), some (.ref p), some (nI x), some (nI y), none] s' = some (.tup es) := fun s' c => (mOp_e rfl rfl).trans (getRf c (List.getElem?_set_self hx))
  have rowsV : ∀ (r' : D) (s' : SS), Ub b st s' → RowOk (n + 1) b s' r' → ∀ z ∈ rows.set x r', RowOk (n + 1) b s' z := fun r' s' u hr' z hz => by
    rcases List.mem_or_eq_of_mem_set hz with hz | rfl
    · exact rowMono (rowUb (hr z hz) u) (Nat.le_succ n)
    · exact hr'
  have fin : ∀ (r' : D) (s' : SS), Boxed s' b → Ub b st s' → s'[p]? = some (.lst (rows.set x r')) → RowOk (n + 1) b s' r' → ∃ v, mTup (mCons (mOp fIx (mVar 1) (mC (.int 0))) (mCons (mOp fIx (mVar 1) (mC (.int 1))) (mCons (mF1 fTup (mVar 3)) mNil))) [some (.ref b), some (.tup [.str k, nI rows.length, .tup rows]), some (nI kd), some (.ref p), some (nI x), some (nI y), none] s' = some v ∧ R v s' := fun r' s' B' U' c' ok => by
    refine ⟨.tup [.str k, nI rows.length, .tup (rows.set x r')], mTup_e (mCons_e (d := .str k) rfl (mCons_e (d := nI rows.length) rfl (mCons1 (tupR rfl c')))) (by show 3 ≤ 1000; decide), hR _ _ (.inr ⟨k, rows.set x r', hk, by rw [List.length_set], by rw [List.length_set]; omega, rowsV r' s' U' ok⟩) B' U'⟩
  have put : ∀ (r' : D) (s' : SS), Boxed s' b → Ub b st s' → s'[p]? = some (.lst (rows.set x (.tup es))) → (∀ c, RowOk (n + 1) b (s'.set p c) r') → ∃ (q : Nat) (i : Int) (l : List D) (j : Nat), mVar 3 [some (.ref b), some (.tup [.str k, nI rows.length, .tup rows]), some (nI kd), some (.ref p), some (nI x), some (nI y), none] s' = some (.ref q) ∧ mVar 4 [some (.ref b), some (.tup [.str k, nI rows.length, .tup rows]), some (nI kd), some (.ref p), some (nI x), some (nI y), none] s' = some (.int i) ∧ s'[q]? = some (.lst l) ∧ ixN l.length i = some j ∧ ∃ v, mTup (mCons (mOp fIx (mVar 1) (mC (.int 0))) (mCons (mOp fIx (mVar 1) (mC (.int 1))) (mCons (mF1 fTup (mVar 3)) mNil))) [some (.ref b), some (.tup [.str k, nI rows.length, .tup rows]), some (nI kd), some (.ref p), some (nI x), some (nI y), none] (s'.set q (.lst (l.set j r'))) = some v ∧ R v (s'.set q (.lst (l.set j r'))) := fun r' s' B' U' c' ok => by
    refine ⟨p, x, _, x, rfl, rfl, c', ixN_nat (by rw [List.length_set]; exact hx), ?_⟩
    refine fin r' _ (B'.hi (by omega) _) (U'.set pl _) ?_ (ok _)
    rw [List.set_set]
    exact getSet c'
  have lt3 : bV (mOp fLt (mVar 2) (mC (.int 3))) [some (.ref b), some (.tup [.str k, nI rows.length, .tup rows]), some (nI kd), some (.ref p), some (nI x), some (nI y), none] s5 = some (decide (kd < 3)) := bV_e ((mOp_e rfl rfl).trans (fLt_nI s5 kd 3))
  have eqk : ∀ v : Nat, bV (mOp fEq (mVar 2) (mC (.int (v : Int)))) [some (.ref b), some (.tup [.str k, nI rows.length, .tup rows]), some (nI kd), some (.ref p), some (nI x), some (nI y), none] s5 = some (decide (kd = v)) := fun v => bV_e ((mOp_e rfl rfl).trans (fEq_nI s5 kd v))
  have sy : ∀ e ∈ es ++ [nI y], sc1 e = true := fun e he => by
    rcases List.mem_append.mp he with he | he
    · exact hsc e he
    · rw [List.mem_singleton.mp he]; exact sc_nat y
  have ly : (es ++ [nI y]).length ≤ n + 1 := by rw [List.length_append]; show es.length + 1 ≤ n + 1; omega
  refine ⟨_, lt3, ite2 (fun _ => ?_) fun _ => ?_⟩
  · refine ⟨.tup (es ++ [nI y]), ?_, es ++ [nI y], rfl, by omega, fun e he => sc_scD (sy e he), fun es' hl' hm' => put (.tup es') s5 B5 U5 c5 fun c => rowT (Nat.le_trans hl' ly) fun e he => sy e (hm' e he)⟩
    refine (mOp_e (row5 s5 c5) (y := .tup [nI y]) (mTup_e (mCons1 rfl) (by show 1 ≤ 1000; decide))).trans ?_
    exact if_pos (by show es.length + 1 ≤ 1000000; omega)
  refine ⟨_, eqk 3, ite2 (fun _ => ?_) fun _ => ?_⟩
  · have cf := comp_fi (mit := iSeq (mOp fIx (mVar 3) (mVar 4))) (t := tgN 6) (b := bV (mOp fNe (mVar 6) (mVar 5))) (m := mVar 6) (own := [6]) (env := [some (.ref b), some (.tup [.str k, nI rows.length, .tup rows]), some (nI kd), some (.ref p), some (nI x), some (nI y), none]) (st := s5) (f := fun d : D => d) (g := fun d : D => d) (l := es) (p := fun z => !PyData.eqv z.py (nI y).py) (ro := none) (by rw [List.map_id']; exact (iSeq_e (row5 s5 c5)).trans rfl) fun z hz => ⟨_, rfl, bV_e ((mOp_e rfl rfl).trans (if_pos ⟨good_sc1 (hsc z hz), good_nI y⟩)), fun _ => rfl⟩
    refine ⟨_, mTupL_e cf, put _ s5 B5 U5 c5 fun c => rowT ?_ fun e he => ?_⟩
    · rw [List.map_id']
      exact Nat.le_trans (List.length_filter_le _ _) (by omega)
    · rw [List.map_id'] at he
      exact hsc e (List.mem_filter.mp he).1
  refine ⟨_, eqk 4, ite2 (fun _ => ?_) fun _ => ?_⟩
  · exact ⟨.tup es.reverse, (mF1_e (row5 s5 c5)).trans rfl, put _ s5 B5 U5 c5 fun c => rowT (by rw [List.length_reverse]; omega) fun e he => hsc e (List.mem_reverse.mp he)⟩
  refine ⟨_, eqk 7, ite2 (fun _ => ?_) fun _ => ?_⟩
  · have sl : mSl (mOp fIx (mVar 3) (mVar 4)) none (some (mC (.int 1))) [some (.ref b), some (.tup [.str k, nI rows.length, .tup rows]), some (nI kd), some (.ref p), some (nI x), some (nI y), none] s5 = some (.tup (cutG es none (some 1))) := by
      unfold mSl
      rw [row5 s5 c5]
      rfl
    obtain ⟨q1', q2'⟩ := cut1 es
    refine ⟨.tup (es ++ cutG es none (some 1)), (mOp_e (row5 s5 c5) sl).trans (if_pos (by omega)), put _ s5 B5 U5 c5 fun c => rowT (by rw [List.length_append]; omega) fun e he => ?_⟩
    rcases List.mem_append.mp he with he | he
    · exact hsc e he
    · exact hsc e (q2' e he)
  refine ⟨_, eqk 8, ite2 (fun _ => ?_) fun _ => ?_⟩
  · have p5 : p < s5.length := (List.getElem?_eq_some_iff.mp c5).1
    refine ⟨es, ?_, put (.ref s5.length) (s5 ++ [Cell.lst es]) (B5.up (Up.app _ _)) (U5.trans ((Up.app _ _).ub b)) ((Up.app _ _).get c5) fun c => ⟨es, by omega, hsc, .inr ⟨_, rfl, by have := B5.lt; omega, ?_⟩⟩⟩
    · have lo : mLstOf (mOp fIx (mVar 3) (mVar 4)) [some (.ref b), some (.tup [.str k, nI rows.length, .tup rows]), some (nI kd), some (.ref p), some (nI x), some (nI y), none] s5 = some es := by
        unfold mLstOf
        rw [row5 s5 c5]
        rfl
      exact lo
    · rw [List.getElem?_set_ne (by omega)]
      exact getApp _ _
  refine ⟨_, eqk 9, ite2 (fun _ => ?_) fun _ => ?_⟩
  · refine ⟨es, none, (iSeq_e (row5 s5 c5)).trans rfl, ?_⟩
    refine bl_go es s5 _ hsc fun ys s' u hl' hy' => put (.tup ys) s' (B5.up u) (U5.trans (u.ub b)) (u.get c5) fun c => rowT (by omega) hy'
  refine ⟨_, eqk 10, ite2 (fun _ => ?_) fun _ => ?_⟩
  · refine ⟨.tup (.int (-1) :: es), ?_, put _ s5 B5 U5 c5 fun c => rowT (by rw [List.length_cons]; omega) fun e he => ?_⟩
    · refine (mOp_e (x := .tup [.int (-1)]) (mTup_e (mCons1 rfl) (by show 1 ≤ 1000; decide)) (row5 s5 c5)).trans ?_
      exact if_pos (by show 1 + es.length ≤ 1000000; omega)
    · rcases List.mem_cons.mp he with rfl | he
      · rfl
      · exact hsc e he
  refine ⟨_, eqk 5, ite2 (fun _ => ?_) fun _ => ?_⟩
  · have tl : mTup (mCons (mF1 fLen (mVar 3)) mNil) [some (.ref b), some (.tup [.str k, nI rows.length, .tup rows]), some (nI kd), some (.ref p), some (nI x), some (nI y), none] s5 = some (.tup [nI (rows.set x (.tup es)).length]) := mTup_e (mCons1 (lenRf rfl c5)) (by show 1 ≤ 1000; decide)
    refine ⟨p, _, rfl, c5, _, tl, _, c5, by rw [List.length_set]; omega, ?_⟩
    have c6 : (s5.set p (Cell.lst (rows.set x (.tup es) ++ [D.tup [nI (rows.set x (.tup es)).length]])))[p]? = some (.lst (rows.set x (.tup es) ++ [D.tup [nI (rows.set x (.tup es)).length]])) := getSet c5
    have B6 : Boxed (s5.set p (Cell.lst (rows.set x (.tup es) ++ [D.tup [nI (rows.set x (.tup es)).length]]))) b := B5.hi (by omega) _
    have U6 : Ub b st (s5.set p (Cell.lst (rows.set x (.tup es) ++ [D.tup [nI (rows.set x (.tup es)).length]]))) := U5.set pl _
    generalize s5.set p (Cell.lst (rows.set x (.tup es) ++ [D.tup [nI (rows.set x (.tup es)).length]])) = s6 at B6 U6 c6 ⊢
    refine ⟨.tup [.str k, nI (rows.set x (.tup es) ++ [D.tup [nI (rows.set x (.tup es)).length]]).length, .tup (rows.set x (.tup es) ++ [D.tup [nI (rows.set x (.tup es)).length]])], mTup_e (mCons_e (d := .str k) rfl (mCons_e (lenRf rfl c6) (mCons1 (tupR rfl c6)))) (by show 3 ≤ 1000; decide), hR _ _ (.inr ⟨k, _, hk, rfl, ?_, fun z hz => ?_⟩) B6 U6⟩
    · rw [List.length_append, List.length_set]
      show rows.length + 1 ≤ n + 1
      omega
    · rcases List.mem_append.mp hz with hz | hz
      · exact rowsV (.tup es) s6 U6 (rowT (by omega) hsc) z hz
      · rw [List.mem_singleton.mp hz]
        exact rowT (by show 1 ≤ n + 1; omega) fun e he => by rw [List.mem_singleton.mp he]; exact sc_nat _
  · have eqv : mF1 fInt (mOp fEq (mOp fIx (mVar 1) (mC (.int 0))) (mC (.str ("lattice" : Str)))) [some (.ref b), some (.tup [.str k, nI rows.length, .tup rows]), some (nI kd), some (.ref p), some (nI x), some (nI y), none] (s5 ++ [Cell.lst [.str ("lattice" : Str), .str ("order" : Str)]]) = some (.int (if (k == ("lattice" : Str)) = true then 1 else 0)) := by
      refine (mF1_e (x := .bl (k == ("lattice" : Str))) ((mOp_e (x := .str k) rfl rfl).trans ?_)).trans rfl
      show (if D.good (.str k) = true ∧ D.good (.str ("lattice" : Str)) = true then some (D.bl (PyData.eqv (.str k) (.str ("lattice" : Str)))) else none) = _
      rw [if_pos ⟨good_word hk, good_lat⟩]
      unfold PyData.eqv
      rfl
    obtain ⟨k', hk', ek⟩ : ∃ k' : Str, (k' = ("order" : Str) ∨ k' = ("lattice" : Str)) ∧ fIx (s5 ++ [Cell.lst [.str ("lattice" : Str), .str ("order" : Str)]]) (.ref s5.length) (.int (if (k == ("lattice" : Str)) = true then 1 else 0)) = some (.str k') := by
      unfold fIx seqOf
      simp only [getApp]
      cases (k == ("lattice" : Str)) with
      | true => exact ⟨_, .inl rfl, rfl⟩
      | false => exact ⟨_, .inr rfl, rfl⟩
    refine ⟨[.str ("lattice" : Str), .str ("order" : Str)], rfl, _, eqv, _, ek, nI rows.length, rfl, .tup rows, rfl, by show 3 ≤ 1000; decide, hR _ _ (.inr ⟨k', rows, hk', rfl, by omega, fun z hz => rowMono (rowUb (hr z hz) (U5.trans ((Up.app _ _).ub b))) (Nat.le_succ n)⟩) (B5.up (Up.app _ _)) (U5.trans ((Up.app _ _).ub b))⟩
end
end Lk30

set_option Elab.async false
set_option linter.all false
set_option maxRecDepth 100000
set_option maxHeartbeats 4000000
namespace Lk30
open PySem PySem.Spec PyProof.Rows L2 GX GD GF
theorem val_ord {n b : Nat} {st : SS} {k : Str} {up : List (List Nat)} (hk : k = ("order" : Str) ∨ k = ("lattice" : Str)) (O : OrdU up) (hl : up.length ≤ n) : ValOk n b st (ordD k up) := by
  refine .inr ⟨k, up.map dN, hk, by unfold ordD; rw [List.length_map], by rw [List.length_map]; exact hl, fun r hr => ?_⟩
  obtain ⟨c, hc, rfl⟩ := List.mem_map.mp hr
  refine ⟨c.map nI, ?_, fun e he => ?_, .inl rfl⟩
  · rw [List.length_map]
    exact Nat.le_trans (up_rows O c hc) hl
  · obtain ⟨x, _, rfl⟩ := List.mem_map.mp he
    exact sc_nat x
theorem is_ord_ev {n b : Nat} {st : SS} {d : D} (V : ValOk n b st d) (h1 : 1 ≤ n) (hn : n ≤ 1000) : F_is_order [d] st = some (.bl (isoB ("order" : Str) d)) := fnR_rt rfl (rRet_e ((mCall2 rfl rfl).trans (is_order_any V h1 hn (.inl rfl)))) rfl
theorem law_true (ns : List Int) (hns : ns.length ≤ 63) : T_law ns [] [] fun d _ => d = .bl true := by
  refine ⟨rfl, ?_⟩
  show X_law ns _ [none, none, none, none, none, none, none, none] []
  refine ⟨.int 0, rfl, .int 62, rfl, 0, 62, rfl, by decide, by decide, fun st0 n _ _ _ hB0 => ⟨_, rfl, ?_⟩⟩
  refine ⟨.ref n, rfl, .int 4, rfl, .int 4, rfl, n, 4, 4, rfl, by decide, by decide, hB0, fun many rows ord s1 hm hr T p B1 U1 => ⟨_, rfl, ?_⟩⟩
  rw [latD_ord]
  have L := ordOf_lat p
  have hn : 0 < (ordOf (closedM many rows) ord).length := by rw [ordOf_len]; exact closed_pos
  have h16 : (ordOf (closedM many rows) ord).length ≤ 16 := by
    rw [ordOf_len]
    have := closedL_len many (closureM many rows)
    rw [closedL_closure] at this
    exact Nat.le_trans this (Nat.pow_le_pow_right (by decide) hm)
  generalize ordOf (closedM many rows) ord = up at L hn h16 ⊢
  have hU := L.o.inU
  refine ⟨_, rfl, 16, n, _, rfl, by decide, by decide, val_ord (.inr rfl) L.o h16, fun s2 u2 => ⟨_, rfl, ?_⟩⟩
  rw [latB_of L hn]
  refine iteF ?_
  have B2 := B1.up u2
  refine ⟨_, none, iRng_nat (atMany rfl) (by omega), ?_⟩
  refine for_rg (fun i env s => ∃ x3 x4, env = [none, some (.ref n), some (ordD ("lattice" : Str) up), x3, x4, none, none, none] ∧ Boxed s n) ?_ ?_ ⟨none, none, rfl, B2⟩
  · rintro x env s hx ⟨x3, x4, rfl, B⟩
    refine ⟨_, rfl, fun K k1 _ _ _ => ?_⟩
    refine ⟨.ref n, rfl, .int 1000, rfl, n, 1000, rfl, by decide, B, fun r s3 hr3 B3 E3 => ⟨nI r, rfl, nI up.length, atMany rfl, nI (r % up.length), mod_step' hn, _, rfl, ?_⟩⟩
    have hy : r % up.length < up.length := Nat.mod_lt _ hn
    generalize r % up.length = y at hy ⊢
    refine ⟨_, (mCall3 rfl rfl rfl).trans (joinF_eval hU hx hy), _, rfl, _, rfl, _, rfl, ("lattice" : Str), up, x, y, rfl, hU, hx, hy, fun s4 u4 => ?_⟩
    rw [jn_some L hx hy]
    refine ⟨.bl true, sameF_refl (by unfold D.fit; rfl), true, rfl, iteF ?_⟩
    refine ⟨_, (mCall3 rfl rfl rfl).trans (meet_of_ev L (by omega) hx hy), _, rfl, _, rfl, _, rfl, ("lattice" : Str), up, x, y, rfl, by omega, hx, hy, fun s5 u5 => ?_⟩
    rw [mt_some L hx hy]
    exact ⟨.bl true, sameF_refl (by unfold D.fit; rfl), true, rfl, iteF (k1 _ _ ⟨_, _, rfl, (B3.up u4).up u5⟩)⟩
  rintro env s ⟨x3, x4, rfl, B⟩
  have jl : (jiM up).length ≤ 16 := Nat.le_trans (ji_len up) h16
  have jl2 : (jiM (blwM up)).length ≤ 16 := by have := ji_len (blwM up); rw [blw_len] at this; omega
  refine ⟨_, rfl, ("lattice" : Str), up, rfl, L, by omega, fun s6 q6 _ u6 c6 => ⟨_, rfl, ?_⟩⟩
  refine ⟨_, rfl, ("lattice" : Str), up, rfl, by omega, fun s7 u7 => ⟨dN (jiM up), (mOp_e rfl rfl).trans (getRf (i := 0) (u7.get c6) rfl), .bl true, sameF_refl (fit_dN (by omega) 7), true, rfl, iteF ?_⟩⟩
  refine ⟨_, rfl, ("lattice" : Str), up, rfl, by omega, fun s8 u8 => ⟨dN (jiM (blwM up)), (mOp_e rfl rfl).trans (getRf (i := 1) (u8.get (u7.get c6)) rfl), .bl true, sameF_refl (fit_dN (by omega) 7), true, rfl, iteF ?_⟩⟩
  have B8 := ((B.up u6).up u7).up u8
  refine ⟨_, rfl, .ref n, rfl, .int 7, rfl, n, 7, rfl, by decide, B8, fun up2 s9 O2 l2 B9 U9 => ⟨by show 2 ≤ 1000; decide, [ordD ("lattice" : Str) up, ordD ("order" : Str) up2], some s9.length, seqI_lst (getApp _ _), ?_⟩⟩
  have cq := getApp s9 (.lst [ordD ("lattice" : Str) up, ordD ("order" : Str) up2])
  have Bq : Boxed (s9 ++ [Cell.lst [ordD ("lattice" : Str) up, ordD ("order" : Str) up2]]) n := B9.up (Up.app _ _)
  have nq : s9.length ≠ n := by have := B9.lt; omega
  generalize s9 ++ [Cell.lst [ordD ("lattice" : Str) up, ordD ("order" : Str) up2]] = sq at cq Bq ⊢
  generalize s9.length = q at cq nq ⊢
  refine for_ls (ro := some q) (f := fun d : D => d) (items := [ordD ("lattice" : Str) up, ordD ("order" : Str) up2]) (fun done env s => ∃ x6 x7, env = [none, some (.ref n), some (ordD ("lattice" : Str) up), x3, x4, some (.ref q6), x6, x7] ∧ Boxed s n ∧ s[q]? = some (.lst [ordD ("lattice" : Str) up, ordD ("order" : Str) up2])) (fun done env s ⟨_, _, _, _, c⟩ => c.trans cq.symm) ?_ ?_ ⟨none, none, rfl, Bq, cq⟩
  · rintro done a todo env s hsp ⟨x6, x7, rfl, B, c⟩
    refine ⟨_, rfl, fun K k1 _ k3 _ => ?_⟩
    have Va : ∀ st, ValOk 16 n st a := fun st => by
      have ha : a ∈ [ordD ("lattice" : Str) up, ordD ("order" : Str) up2] := by rw [hsp]; exact List.mem_append_right _ List.mem_cons_self
      rcases List.mem_cons.mp ha with rfl | ha
      · exact val_ord (.inr rfl) L.o h16
      · rw [List.mem_singleton.mp ha]
        exact val_ord (.inl rfl) O2 (by omega)
    refine ⟨(List.range 3).map nI, none, rfl, ?_⟩
    refine for_rg (fun i env s => ∃ v x7, env = [none, some (.ref n), some (ordD ("lattice" : Str) up), x3, x4, some (.ref q6), some v, x7] ∧ Boxed s n ∧ s[q]? = some (.lst [ordD ("lattice" : Str) up, ordD ("order" : Str) up2]) ∧ ValOk (16 + i) n s v) ?_ ?_ ⟨a, x7, rfl, B, c, Va s⟩
    · rintro i env s hi ⟨v, x7, rfl, B, c, V⟩
      refine ⟨_, rfl, fun K2 i1 _ _ _ => ?_⟩
      refine ⟨.bl (latB v), (mCall1 rfl).trans (is_lattice_any V (by omega) (by omega)), v, rfl, 16 + i, n, v, rfl, by omega, by omega, V, fun s2 u2 => ⟨.bl true, sameF_refl rfl, true, rfl, iteF ?_⟩⟩
      have V2 : ValOk (16 + i) n s2 v := valUb V (u2.ub n) (Nat.le_refl _)
      refine ⟨false, bNot_e (b := true) (bV_e ((mCall2 ((mCall1 rfl).trans (is_ord_ev V2 (by omega) (by omega))) ((mCall2 rfl rfl).trans (law_order_any V2 (by omega) (by omega) (.inl rfl)))).trans (sameF_refl rfl))), iteF ?_⟩
      refine ⟨.ref n, rfl, v, rfl, spoilt_ok _ _ _ ⟨16 + i, n, v, rfl, by omega, by omega, B.up u2, V2, fun d' s3 V3 B3 U3 => ⟨_, rfl, i1 _ _ ⟨d', _, rfl, B3, U3.get (u2.get c) nq, V3⟩⟩⟩⟩
    · rintro env s ⟨v, x7, rfl, B, c, _⟩
      exact k1 _ _ ⟨_, _, rfl, B, c⟩
  · rintro env s ⟨x6, x7, rfl, B, c⟩
    exact ⟨_, rfl, rfl⟩
end Lk30

set_option Elab.async false
set_option linter.all false
set_option maxRecDepth 100000
set_option maxHeartbeats 4000000
namespace Lk30
open PySem PySem.Spec PyProof.Rows L2 GX GD GF
theorem mk {w : World} {K : PySem.W.Frag} {h : Heap} {mg : Str → Option Value} {fa f_0 c_0 P_0 f_1 c_1 P_1 f_2 c_2 P_2 f_3 c_3 P_3 f_4 c_4 P_4 f_5 c_5 P_5 f_6 c_6 P_6 f_7 c_7 P_7 f_8 c_8 P_8 f_9 c_9 P_9 f_10 c_10 P_10 f_11 c_11 P_11 f_12 c_12 P_12 f_13 c_13 P_13 f_14 c_14 P_14 f_15 c_15 P_15 f_16 c_16 P_16 f_17 c_17 P_17 f_18 c_18 P_18 f_19 c_19 P_19 f_20 c_20 P_20 f_21 c_21 P_21 f_22 c_22 P_22 f_23 c_23 P_23 f_24 c_24 P_24 f_25 c_25 P_25 f_26 c_26 P_26 f_27 c_27 P_27 f_28 c_28 P_28 f_29 c_29 P_29 f_30 c_30 P_30 f_31 c_31 P_31 f_32 c_32 P_32 f_33 c_33 P_33 f_34 c_34 P_34 f_35 c_35 P_35 f_36 c_36 P_36 f_37 c_37 P_37 f_38 c_38 P_38 f_39 c_39 P_39 f_40 c_40 P_40 : Addr} {oc_0 kV_0 dc_0 pm_0 ct_0 e_0 : Value} {od_0 an_0 dd_0 : Option Addr} {sl_0 sm_0 : Array (Option Value)} {vs_0 : Array Value} {oc_1 kV_1 dc_1 pm_1 ct_1 e_1 : Value} {od_1 an_1 dd_1 : Option Addr} {sl_1 sm_1 : Array (Option Value)} {vs_1 : Array Value} {oc_2 kV_2 dc_2 pm_2 ct_2 e_2 : Value} {od_2 an_2 dd_2 : Option Addr} {sl_2 sm_2 : Array (Option Value)} {vs_2 : Array Value} {oc_3 kV_3 dc_3 pm_3 ct_3 e_3 : Value} {od_3 an_3 dd_3 : Option Addr} {sl_3 sm_3 : Array (Option Value)} {vs_3 : Array Value} {oc_4 kV_4 dc_4 pm_4 ct_4 e_4 : Value} {od_4 an_4 dd_4 : Option Addr} {sl_4 sm_4 : Array (Option Value)} {vs_4 : Array Value} {oc_5 kV_5 dc_5 pm_5 ct_5 e_5 : Value} {od_5 an_5 dd_5 : Option Addr} {sl_5 sm_5 : Array (Option Value)} {vs_5 : Array Value} {oc_6 kV_6 dc_6 pm_6 ct_6 e_6 : Value} {od_6 an_6 dd_6 : Option Addr} {sl_6 sm_6 : Array (Option Value)} {vs_6 : Array Value} {oc_7 kV_7 dc_7 pm_7 ct_7 e_7 : Value} {od_7 an_7 dd_7 : Option Addr} {sl_7 sm_7 : Array (Option Value)} {vs_7 : Array Value} {oc_8 kV_8 dc_8 pm_8 ct_8 e_8 : Value} {od_8 an_8 dd_8 : Option Addr} {sl_8 sm_8 : Array (Option Value)} {vs_8 : Array Value} {oc_9 kV_9 dc_9 pm_9 ct_9 e_9 : Value} {od_9 an_9 dd_9 : Option Addr} {sl_9 sm_9 : Array (Option Value)} {vs_9 : Array Value} {oc_10 kV_10 dc_10 pm_10 ct_10 e_10 : Value} {od_10 an_10 dd_10 : Option Addr} {sl_10 sm_10 : Array (Option Value)} {vs_10 : Array Value} {oc_11 kV_11 dc_11 pm_11 ct_11 e_11 : Value} {od_11 an_11 dd_11 : Option Addr} {sl_11 sm_11 : Array (Option Value)} {vs_11 : Array Value} {oc_12 kV_12 dc_12 pm_12 ct_12 e_12 : Value} {od_12 an_12 dd_12 : Option Addr} {sl_12 sm_12 : Array (Option Value)} {vs_12 : Array Value} {oc_13 kV_13 dc_13 pm_13 ct_13 e_13 : Value} {od_13 an_13 dd_13 : Option Addr} {sl_13 sm_13 : Array (Option Value)} {vs_13 : Array Value} {oc_14 kV_14 dc_14 pm_14 ct_14 e_14 : Value} {od_14 an_14 dd_14 : Option Addr} {sl_14 sm_14 : Array (Option Value)} {vs_14 : Array Value} {oc_15 kV_15 dc_15 pm_15 ct_15 e_15 : Value} {od_15 an_15 dd_15 : Option Addr} {sl_15 sm_15 : Array (Option Value)} {vs_15 : Array Value} {oc_16 kV_16 dc_16 pm_16 ct_16 e_16 : Value} {od_16 an_16 dd_16 : Option Addr} {sl_16 sm_16 : Array (Option Value)} {vs_16 : Array Value} {oc_17 kV_17 dc_17 pm_17 ct_17 e_17 : Value} {od_17 an_17 dd_17 : Option Addr} {sl_17 sm_17 : Array (Option Value)} {vs_17 : Array Value} {oc_18 kV_18 dc_18 pm_18 ct_18 e_18 : Value} {od_18 an_18 dd_18 : Option Addr} {sl_18 sm_18 : Array (Option Value)} {vs_18 : Array Value} {oc_19 kV_19 dc_19 pm_19 ct_19 e_19 : Value} {od_19 an_19 dd_19 : Option Addr} {sl_19 sm_19 : Array (Option Value)} {vs_19 : Array Value} {oc_20 kV_20 dc_20 pm_20 ct_20 e_20 : Value} {od_20 an_20 dd_20 : Option Addr} {sl_20 sm_20 : Array (Option Value)} {vs_20 : Array Value} {oc_21 kV_21 dc_21 pm_21 ct_21 e_21 : Value} {od_21 an_21 dd_21 : Option Addr} {sl_21 sm_21 : Array (Option Value)} {vs_21 : Array Value} {oc_22 kV_22 dc_22 pm_22 ct_22 e_22 : Value} {od_22 an_22 dd_22 : Option Addr} {sl_22 sm_22 : Array (Option Value)} {vs_22 : Array Value} {oc_23 kV_23 dc_23 pm_23 ct_23 e_23 : Value} {od_23 an_23 dd_23 : Option Addr} {sl_23 sm_23 : Array (Option Value)} {vs_23 : Array Value} {oc_24 kV_24 dc_24 pm_24 ct_24 e_24 : Value} {od_24 an_24 dd_24 : Option Addr} {sl_24 sm_24 : Array (Option Value)} {vs_24 : Array Value} {oc_25 kV_25 dc_25 pm_25 ct_25 e_25 : Value} {od_25 an_25 dd_25 : Option Addr} {sl_25 sm_25 : Array (Option Value)} {vs_25 : Array Value} {oc_26 kV_26 dc_26 pm_26 ct_26 e_26 : Value} {od_26 an_26 dd_26 : Option Addr} {sl_26 sm_26 : Array (Option Value)} {vs_26 : Array Value} {oc_27 kV_27 dc_27 pm_27 ct_27 e_27 : Value} {od_27 an_27 dd_27 : Option Addr} {sl_27 sm_27 : Array (Option Value)} {vs_27 : Array Value} {oc_28 kV_28 dc_28 pm_28 ct_28 e_28 : Value} {od_28 an_28 dd_28 : Option Addr} {sl_28 sm_28 : Array (Option Value)} {vs_28 : Array Value} {oc_29 kV_29 dc_29 pm_29 ct_29 e_29 : Value} {od_29 an_29 dd_29 : Option Addr} {sl_29 sm_29 : Array (Option Value)} {vs_29 : Array Value} {oc_30 kV_30 dc_30 pm_30 ct_30 e_30 : Value} {od_30 an_30 dd_30 : Option Addr} {sl_30 sm_30 : Array (Option Value)} {vs_30 : Array Value} {oc_31 kV_31 dc_31 pm_31 ct_31 e_31 : Value} {od_31 an_31 dd_31 : Option Addr} {sl_31 sm_31 : Array (Option Value)} {vs_31 : Array Value} {oc_32 kV_32 dc_32 pm_32 ct_32 e_32 : Value} {od_32 an_32 dd_32 : Option Addr} {sl_32 sm_32 : Array (Option Value)} {vs_32 : Array Value} {oc_33 kV_33 dc_33 pm_33 ct_33 e_33 : Value} {od_33 an_33 dd_33 : Option Addr} {sl_33 sm_33 : Array (Option Value)} {vs_33 : Array Value} {oc_34 kV_34 dc_34 pm_34 ct_34 e_34 : Value} {od_34 an_34 dd_34 : Option Addr} {sl_34 sm_34 : Array (Option Value)} {vs_34 : Array Value} {oc_35 kV_35 dc_35 pm_35 ct_35 e_35 : Value} {od_35 an_35 dd_35 : Option Addr} {sl_35 sm_35 : Array (Option Value)} {vs_35 : Array Value} {oc_36 kV_36 dc_36 pm_36 ct_36 e_36 : Value} {od_36 an_36 dd_36 : Option Addr} {sl_36 sm_36 : Array (Option Value)} {vs_36 : Array Value} {oc_37 kV_37 dc_37 pm_37 ct_37 e_37 : Value} {od_37 an_37 dd_37 : Option Addr} {sl_37 sm_37 : Array (Option Value)} {vs_37 : Array Value} {oc_38 kV_38 dc_38 pm_38 ct_38 e_38 : Value} {od_38 an_38 dd_38 : Option Addr} {sl_38 sm_38 : Array (Option Value)} {vs_38 : Array Value} {oc_39 kV_39 dc_39 pm_39 ct_39 e_39 : Value} {od_39 an_39 dd_39 : Option Addr} {sl_39 sm_39 : Array (Option Value)} {vs_39 : Array Value} {oc_40 kV_40 dc_40 pm_40 ct_40 e_40 : Value} {od_40 an_40 dd_40 : Option Addr} {sl_40 sm_40 : Array (Option Value)} {vs_40 : Array Value} (KX : K.In h) (G : h.Ns mainGlobals mg) (L : Laid PySem.Challenge.pw_formalconcepts_k30_orders_and_lattices mg h) (hfa : mg "law" = some (.ref fa)) (a0 : PySem.W.nsIn K mainGlobals "is_number" = some (some (.ref f_0))) (l0 : K.lookup f_0 = some ⟨oc_0, od_0, .func (PySem.W.fnOf "is_number" "is_number" (defArgs (top 1)) (defBody (top 1)) (defScope (top 1)) .none kV_0 dc_0 pm_0 an_0 (.ref c_0) ct_0), sl_0⟩) (k0 : PySem.W.codeIn K (.ref c_0) "is_number" = true) (g0 : PySem.W.keepIn K (.ref f_0) = true) (t0 : K.lookup c_0 = some ⟨e_0, dd_0, .fields vs_0, sm_0⟩) (p0 : vs_0[11]? = some (.ref P_0)) (n0 : K.lookup P_0 = none) (a1 : PySem.W.nsIn K mainGlobals "is_set" = some (some (.ref f_1))) (l1 : K.lookup f_1 = some ⟨oc_1, od_1, .func (PySem.W.fnOf "is_set" "is_set" (defArgs (top 2)) (defBody (top 2)) (defScope (top 2)) .none kV_1 dc_1 pm_1 an_1 (.ref c_1) ct_1), sl_1⟩) (k1 : PySem.W.codeIn K (.ref c_1) "is_set" = true) (g1 : PySem.W.keepIn K (.ref f_1) = true) (t1 : K.lookup c_1 = some ⟨e_1, dd_1, .fields vs_1, sm_1⟩) (p1 : vs_1[11]? = some (.ref P_1)) (n1 : K.lookup P_1 = none) (a2 : PySem.W.nsIn K mainGlobals "is_part" = some (some (.ref f_2))) (l2 : K.lookup f_2 = some ⟨oc_2, od_2, .func (PySem.W.fnOf "is_part" "is_part" (defArgs (top 3)) (defBody (top 3)) (defScope (top 3)) .none kV_2 dc_2 pm_2 an_2 (.ref c_2) ct_2), sl_2⟩) (k2 : PySem.W.codeIn K (.ref c_2) "is_part" = true) (g2 : PySem.W.keepIn K (.ref f_2) = true) (t2 : K.lookup c_2 = some ⟨e_2, dd_2, .fields vs_2, sm_2⟩) (p2 : vs_2[11]? = some (.ref P_2)) (n2 : K.lookup P_2 = none) (a3 : PySem.W.nsIn K mainGlobals "shared" = some (some (.ref f_3))) (l3 : K.lookup f_3 = some ⟨oc_3, od_3, .func (PySem.W.fnOf "shared" "shared" (defArgs (top 4)) (defBody (top 4)) (defScope (top 4)) .none kV_3 dc_3 pm_3 an_3 (.ref c_3) ct_3), sl_3⟩) (k3 : PySem.W.codeIn K (.ref c_3) "shared" = true) (g3 : PySem.W.keepIn K (.ref f_3) = true) (t3 : K.lookup c_3 = some ⟨e_3, dd_3, .fields vs_3, sm_3⟩) (p3 : vs_3[11]? = some (.ref P_3)) (n3 : K.lookup P_3 = none) (a4 : PySem.W.nsIn K mainGlobals "is_order_of" = some (some (.ref f_4))) (l4 : K.lookup f_4 = some ⟨oc_4, od_4, .func (PySem.W.fnOf "is_order_of" "is_order_of" (defArgs (top 6)) (defBody (top 6)) (defScope (top 6)) .none kV_4 dc_4 pm_4 an_4 (.ref c_4) ct_4), sl_4⟩) (k4 : PySem.W.codeIn K (.ref c_4) "is_order_of" = true) (g4 : PySem.W.keepIn K (.ref f_4) = true) (t4 : K.lookup c_4 = some ⟨e_4, dd_4, .fields vs_4, sm_4⟩) (p4 : vs_4[11]? = some (.ref P_4)) (n4 : K.lookup P_4 = none) (a5 : PySem.W.nsIn K mainGlobals "is_order" = some (some (.ref f_5))) (l5 : K.lookup f_5 = some ⟨oc_5, od_5, .func (PySem.W.fnOf "is_order" "is_order" (defArgs (top 7)) (defBody (top 7)) (defScope (top 7)) .none kV_5 dc_5 pm_5 an_5 (.ref c_5) ct_5), sl_5⟩) (k5 : PySem.W.codeIn K (.ref c_5) "is_order" = true) (g5 : PySem.W.keepIn K (.ref f_5) = true) (t5 : K.lookup c_5 = some ⟨e_5, dd_5, .fields vs_5, sm_5⟩) (p5 : vs_5[11]? = some (.ref P_5)) (n5 : K.lookup P_5 = none) (a6 : PySem.W.nsIn K mainGlobals "below_of" = some (some (.ref f_6))) (l6 : K.lookup f_6 = some ⟨oc_6, od_6, .func (PySem.W.fnOf "below_of" "below_of" (defArgs (top 8)) (defBody (top 8)) (defScope (top 8)) .none kV_6 dc_6 pm_6 an_6 (.ref c_6) ct_6), sl_6⟩) (k6 : PySem.W.codeIn K (.ref c_6) "below_of" = true) (g6 : PySem.W.keepIn K (.ref f_6) = true) (t6 : K.lookup c_6 = some ⟨e_6, dd_6, .fields vs_6, sm_6⟩) (p6 : vs_6[11]? = some (.ref P_6)) (n6 : K.lookup P_6 = none) (a7 : PySem.W.nsIn K mainGlobals "least_of" = some (some (.ref f_7))) (l7 : K.lookup f_7 = some ⟨oc_7, od_7, .func (PySem.W.fnOf "least_of" "least_of" (defArgs (top 9)) (defBody (top 9)) (defScope (top 9)) .none kV_7 dc_7 pm_7 an_7 (.ref c_7) ct_7), sl_7⟩) (k7 : PySem.W.codeIn K (.ref c_7) "least_of" = true) (g7 : PySem.W.keepIn K (.ref f_7) = true) (t7 : K.lookup c_7 = some ⟨e_7, dd_7, .fields vs_7, sm_7⟩) (p7 : vs_7[11]? = some (.ref P_7)) (n7 : K.lookup P_7 = none) (a8 : PySem.W.nsIn K mainGlobals "join_of" = some (some (.ref f_8))) (l8 : K.lookup f_8 = some ⟨oc_8, od_8, .func (PySem.W.fnOf "join_of" "join_of" (defArgs (top 10)) (defBody (top 10)) (defScope (top 10)) .none kV_8 dc_8 pm_8 an_8 (.ref c_8) ct_8), sl_8⟩) (k8 : PySem.W.codeIn K (.ref c_8) "join_of" = true) (g8 : PySem.W.keepIn K (.ref f_8) = true) (t8 : K.lookup c_8 = some ⟨e_8, dd_8, .fields vs_8, sm_8⟩) (p8 : vs_8[11]? = some (.ref P_8)) (n8 : K.lookup P_8 = none) (a9 : PySem.W.nsIn K mainGlobals "turned_over" = some (some (.ref f_9))) (l9 : K.lookup f_9 = some ⟨oc_9, od_9, .func (PySem.W.fnOf "turned_over" "turned_over" (defArgs (top 11)) (defBody (top 11)) (defScope (top 11)) .none kV_9 dc_9 pm_9 an_9 (.ref c_9) ct_9), sl_9⟩) (k9 : PySem.W.codeIn K (.ref c_9) "turned_over" = true) (g9 : PySem.W.keepIn K (.ref f_9) = true) (t9 : K.lookup c_9 = some ⟨e_9, dd_9, .fields vs_9, sm_9⟩) (p9 : vs_9[11]? = some (.ref P_9)) (n9 : K.lookup P_9 = none) (a10 : PySem.W.nsIn K mainGlobals "meet_of" = some (some (.ref f_10))) (l10 : K.lookup f_10 = some ⟨oc_10, od_10, .func (PySem.W.fnOf "meet_of" "meet_of" (defArgs (top 12)) (defBody (top 12)) (defScope (top 12)) .none kV_10 dc_10 pm_10 an_10 (.ref c_10) ct_10), sl_10⟩) (k10 : PySem.W.codeIn K (.ref c_10) "meet_of" = true) (g10 : PySem.W.keepIn K (.ref f_10) = true) (t10 : K.lookup c_10 = some ⟨e_10, dd_10, .fields vs_10, sm_10⟩) (p10 : vs_10[11]? = some (.ref P_10)) (n10 : K.lookup P_10 = none) (a11 : PySem.W.nsIn K mainGlobals "has_joins" = some (some (.ref f_11))) (l11 : K.lookup f_11 = some ⟨oc_11, od_11, .func (PySem.W.fnOf "has_joins" "has_joins" (defArgs (top 13)) (defBody (top 13)) (defScope (top 13)) .none kV_11 dc_11 pm_11 an_11 (.ref c_11) ct_11), sl_11⟩) (k11 : PySem.W.codeIn K (.ref c_11) "has_joins" = true) (g11 : PySem.W.keepIn K (.ref f_11) = true) (t11 : K.lookup c_11 = some ⟨e_11, dd_11, .fields vs_11, sm_11⟩) (p11 : vs_11[11]? = some (.ref P_11)) (n11 : K.lookup P_11 = none) (a12 : PySem.W.nsIn K mainGlobals "is_lattice" = some (some (.ref f_12))) (l12 : K.lookup f_12 = some ⟨oc_12, od_12, .func (PySem.W.fnOf "is_lattice" "is_lattice" (defArgs (top 14)) (defBody (top 14)) (defScope (top 14)) .none kV_12 dc_12 pm_12 an_12 (.ref c_12) ct_12), sl_12⟩) (k12 : PySem.W.codeIn K (.ref c_12) "is_lattice" = true) (g12 : PySem.W.keepIn K (.ref f_12) = true) (t12 : K.lookup c_12 = some ⟨e_12, dd_12, .fields vs_12, sm_12⟩) (p12 : vs_12[11]? = some (.ref P_12)) (n12 : K.lookup P_12 = none) (a13 : PySem.W.nsIn K mainGlobals "greatest_of" = some (some (.ref f_13))) (l13 : K.lookup f_13 = some ⟨oc_13, od_13, .func (PySem.W.fnOf "greatest_of" "greatest_of" (defArgs (top 16)) (defBody (top 16)) (defScope (top 16)) .none kV_13 dc_13 pm_13 an_13 (.ref c_13) ct_13), sl_13⟩) (k13 : PySem.W.codeIn K (.ref c_13) "greatest_of" = true) (g13 : PySem.W.keepIn K (.ref f_13) = true) (t13 : K.lookup c_13 = some ⟨e_13, dd_13, .fields vs_13, sm_13⟩) (p13 : vs_13[11]? = some (.ref P_13)) (n13 : K.lookup P_13 = none) (a14 : PySem.W.nsIn K mainGlobals "join_irreducible" = some (some (.ref f_14))) (l14 : K.lookup f_14 = some ⟨oc_14, od_14, .func (PySem.W.fnOf "join_irreducible" "join_irreducible" (defArgs (top 15)) (defBody (top 15)) (defScope (top 15)) .none kV_14 dc_14 pm_14 an_14 (.ref c_14) ct_14), sl_14⟩) (k14 : PySem.W.codeIn K (.ref c_14) "join_irreducible" = true) (g14 : PySem.W.keepIn K (.ref f_14) = true) (t14 : K.lookup c_14 = some ⟨e_14, dd_14, .fields vs_14, sm_14⟩) (p14 : vs_14[11]? = some (.ref P_14)) (n14 : K.lookup P_14 = none) (a15 : PySem.W.nsIn K mainGlobals "meet_irreducible" = some (some (.ref f_15))) (l15 : K.lookup f_15 = some ⟨oc_15, od_15, .func (PySem.W.fnOf "meet_irreducible" "meet_irreducible" (defArgs (top 17)) (defBody (top 17)) (defScope (top 17)) .none kV_15 dc_15 pm_15 an_15 (.ref c_15) ct_15), sl_15⟩) (k15 : PySem.W.codeIn K (.ref c_15) "meet_irreducible" = true) (g15 : PySem.W.keepIn K (.ref f_15) = true) (t15 : K.lookup c_15 = some ⟨e_15, dd_15, .fields vs_15, sm_15⟩) (p15 : vs_15[11]? = some (.ref P_15)) (n15 : K.lookup P_15 = none) (a16 : PySem.W.nsIn K mainGlobals "_law_cell" = some (some (.ref f_16))) (l16 : K.lookup f_16 = some ⟨oc_16, od_16, .func (PySem.W.fnOf "_law_cell" "_law_cell" (defArgs (top 19)) (defBody (top 19)) (defScope (top 19)) .none kV_16 dc_16 pm_16 an_16 (.ref c_16) ct_16), sl_16⟩) (k16 : PySem.W.codeIn K (.ref c_16) "_law_cell" = true) (g16 : PySem.W.keepIn K (.ref f_16) = true) (t16 : K.lookup c_16 = some ⟨e_16, dd_16, .fields vs_16, sm_16⟩) (p16 : vs_16[11]? = some (.ref P_16)) (n16 : K.lookup P_16 = none) (a17 : PySem.W.nsIn K mainGlobals "_law_digits" = some (some (.ref f_17))) (l17 : K.lookup f_17 = some ⟨oc_17, od_17, .func (PySem.W.fnOf "_law_digits" "_law_digits" (defArgs (top 20)) (defBody (top 20)) (defScope (top 20)) .none kV_17 dc_17 pm_17 an_17 (.ref c_17) ct_17), sl_17⟩) (k17 : PySem.W.codeIn K (.ref c_17) "_law_digits" = true) (g17 : PySem.W.keepIn K (.ref f_17) = true) (t17 : K.lookup c_17 = some ⟨e_17, dd_17, .fields vs_17, sm_17⟩) (p17 : vs_17[11]? = some (.ref P_17)) (n17 : K.lookup P_17 = none) (a18 : PySem.W.nsIn K mainGlobals "_law_draw" = some (some (.ref f_18))) (l18 : K.lookup f_18 = some ⟨oc_18, od_18, .func (PySem.W.fnOf "_law_draw" "_law_draw" (defArgs (top 21)) (defBody (top 21)) (defScope (top 21)) .none kV_18 dc_18 pm_18 an_18 (.ref c_18) ct_18), sl_18⟩) (k18 : PySem.W.codeIn K (.ref c_18) "_law_draw" = true) (g18 : PySem.W.keepIn K (.ref f_18) = true) (t18 : K.lookup c_18 = some ⟨e_18, dd_18, .fields vs_18, sm_18⟩) (p18 : vs_18[11]? = some (.ref P_18)) (n18 : K.lookup P_18 = none) (a19 : PySem.W.nsIn K mainGlobals "_law_same" = some (some (.ref f_19))) (l19 : K.lookup f_19 = some ⟨oc_19, od_19, .func (PySem.W.fnOf "_law_same" "_law_same" (defArgs (top 22)) (defBody (top 22)) (defScope (top 22)) .none kV_19 dc_19 pm_19 an_19 (.ref c_19) ct_19), sl_19⟩) (k19 : PySem.W.codeIn K (.ref c_19) "_law_same" = true) (g19 : PySem.W.keepIn K (.ref f_19) = true) (t19 : K.lookup c_19 = some ⟨e_19, dd_19, .fields vs_19, sm_19⟩) (p19 : vs_19[11]? = some (.ref P_19)) (n19 : K.lookup P_19 = none) (a20 : PySem.W.nsIn K mainGlobals "_law_box" = some (some (.ref f_20))) (l20 : K.lookup f_20 = some ⟨oc_20, od_20, .func (PySem.W.fnOf "_law_box" "_law_box" (defArgs (top 23)) (defBody (top 23)) (defScope (top 23)) .none kV_20 dc_20 pm_20 an_20 (.ref c_20) ct_20), sl_20⟩) (k20 : PySem.W.codeIn K (.ref c_20) "_law_box" = true) (g20 : PySem.W.keepIn K (.ref f_20) = true) (t20 : K.lookup c_20 = some ⟨e_20, dd_20, .fields vs_20, sm_20⟩) (p20 : vs_20[11]? = some (.ref P_20)) (n20 : K.lookup P_20 = none) (a21 : PySem.W.nsIn K mainGlobals "_law_some" = some (some (.ref f_21))) (l21 : K.lookup f_21 = some ⟨oc_21, od_21, .func (PySem.W.fnOf "_law_some" "_law_some" (defArgs (top 24)) (defBody (top 24)) (defScope (top 24)) .none kV_21 dc_21 pm_21 an_21 (.ref c_21) ct_21), sl_21⟩) (k21 : PySem.W.codeIn K (.ref c_21) "_law_some" = true) (g21 : PySem.W.keepIn K (.ref f_21) = true) (t21 : K.lookup c_21 = some ⟨e_21, dd_21, .fields vs_21, sm_21⟩) (p21 : vs_21[11]? = some (.ref P_21)) (n21 : K.lookup P_21 = none) (a22 : PySem.W.nsIn K mainGlobals "_law_table" = some (some (.ref f_22))) (l22 : K.lookup f_22 = some ⟨oc_22, od_22, .func (PySem.W.fnOf "_law_table" "_law_table" (defArgs (top 25)) (defBody (top 25)) (defScope (top 25)) .none kV_22 dc_22 pm_22 an_22 (.ref c_22) ct_22), sl_22⟩) (k22 : PySem.W.codeIn K (.ref c_22) "_law_table" = true) (g22 : PySem.W.keepIn K (.ref f_22) = true) (t22 : K.lookup c_22 = some ⟨e_22, dd_22, .fields vs_22, sm_22⟩) (p22 : vs_22[11]? = some (.ref P_22)) (n22 : K.lookup P_22 = none) (a23 : PySem.W.nsIn K mainGlobals "_law_inside" = some (some (.ref f_23))) (l23 : K.lookup f_23 = some ⟨oc_23, od_23, .func (PySem.W.fnOf "_law_inside" "_law_inside" (defArgs (top 26)) (defBody (top 26)) (defScope (top 26)) .none kV_23 dc_23 pm_23 an_23 (.ref c_23) ct_23), sl_23⟩) (k23 : PySem.W.codeIn K (.ref c_23) "_law_inside" = true) (g23 : PySem.W.keepIn K (.ref f_23) = true) (t23 : K.lookup c_23 = some ⟨e_23, dd_23, .fields vs_23, sm_23⟩) (p23 : vs_23[11]? = some (.ref P_23)) (n23 : K.lookup P_23 = none) (a24 : PySem.W.nsIn K mainGlobals "_law_common" = some (some (.ref f_24))) (l24 : K.lookup f_24 = some ⟨oc_24, od_24, .func (PySem.W.fnOf "_law_common" "_law_common" (defArgs (top 27)) (defBody (top 27)) (defScope (top 27)) .none kV_24 dc_24 pm_24 an_24 (.ref c_24) ct_24), sl_24⟩) (k24 : PySem.W.codeIn K (.ref c_24) "_law_common" = true) (g24 : PySem.W.keepIn K (.ref f_24) = true) (t24 : K.lookup c_24 = some ⟨e_24, dd_24, .fields vs_24, sm_24⟩) (p24 : vs_24[11]? = some (.ref P_24)) (n24 : K.lookup P_24 = none) (a25 : PySem.W.nsIn K mainGlobals "_law_having" = some (some (.ref f_25))) (l25 : K.lookup f_25 = some ⟨oc_25, od_25, .func (PySem.W.fnOf "_law_having" "_law_having" (defArgs (top 28)) (defBody (top 28)) (defScope (top 28)) .none kV_25 dc_25 pm_25 an_25 (.ref c_25) ct_25), sl_25⟩) (k25 : PySem.W.codeIn K (.ref c_25) "_law_having" = true) (g25 : PySem.W.keepIn K (.ref f_25) = true) (t25 : K.lookup c_25 = some ⟨e_25, dd_25, .fields vs_25, sm_25⟩) (p25 : vs_25[11]? = some (.ref P_25)) (n25 : K.lookup P_25 = none) (a26 : PySem.W.nsIn K mainGlobals "_law_closure" = some (some (.ref f_26))) (l26 : K.lookup f_26 = some ⟨oc_26, od_26, .func (PySem.W.fnOf "_law_closure" "_law_closure" (defArgs (top 29)) (defBody (top 29)) (defScope (top 29)) .none kV_26 dc_26 pm_26 an_26 (.ref c_26) ct_26), sl_26⟩) (k26 : PySem.W.codeIn K (.ref c_26) "_law_closure" = true) (g26 : PySem.W.keepIn K (.ref f_26) = true) (t26 : K.lookup c_26 = some ⟨e_26, dd_26, .fields vs_26, sm_26⟩) (p26 : vs_26[11]? = some (.ref P_26)) (n26 : K.lookup P_26 = none) (a27 : PySem.W.nsIn K mainGlobals "_law_lectic" = some (some (.ref f_27))) (l27 : K.lookup f_27 = some ⟨oc_27, od_27, .func (PySem.W.fnOf "_law_lectic" "_law_lectic" (defArgs (top 30)) (defBody (top 30)) (defScope (top 30)) .none kV_27 dc_27 pm_27 an_27 (.ref c_27) ct_27), sl_27⟩) (k27 : PySem.W.codeIn K (.ref c_27) "_law_lectic" = true) (g27 : PySem.W.keepIn K (.ref f_27) = true) (t27 : K.lookup c_27 = some ⟨e_27, dd_27, .fields vs_27, sm_27⟩) (p27 : vs_27[11]? = some (.ref P_27)) (n27 : K.lookup P_27 = none) (a28 : PySem.W.nsIn K mainGlobals "_law_subsets" = some (some (.ref f_28))) (l28 : K.lookup f_28 = some ⟨oc_28, od_28, .func (PySem.W.fnOf "_law_subsets" "_law_subsets" (defArgs (top 31)) (defBody (top 31)) (defScope (top 31)) .none kV_28 dc_28 pm_28 an_28 (.ref c_28) ct_28), sl_28⟩) (k28 : PySem.W.codeIn K (.ref c_28) "_law_subsets" = true) (g28 : PySem.W.keepIn K (.ref f_28) = true) (t28 : K.lookup c_28 = some ⟨e_28, dd_28, .fields vs_28, sm_28⟩) (p28 : vs_28[11]? = some (.ref P_28)) (n28 : K.lookup P_28 = none) (a29 : PySem.W.nsIn K mainGlobals "_law_closed" = some (some (.ref f_29))) (l29 : K.lookup f_29 = some ⟨oc_29, od_29, .func (PySem.W.fnOf "_law_closed" "_law_closed" (defArgs (top 32)) (defBody (top 32)) (defScope (top 32)) .none kV_29 dc_29 pm_29 an_29 (.ref c_29) ct_29), sl_29⟩) (k29 : PySem.W.codeIn K (.ref c_29) "_law_closed" = true) (g29 : PySem.W.keepIn K (.ref f_29) = true) (t29 : K.lookup c_29 = some ⟨e_29, dd_29, .fields vs_29, sm_29⟩) (p29 : vs_29[11]? = some (.ref P_29)) (n29 : K.lookup P_29 = none) (a30 : PySem.W.nsIn K mainGlobals "_law_mixed_order" = some (some (.ref f_30))) (l30 : K.lookup f_30 = some ⟨oc_30, od_30, .func (PySem.W.fnOf "_law_mixed_order" "_law_mixed_order" (defArgs (top 33)) (defBody (top 33)) (defScope (top 33)) .none kV_30 dc_30 pm_30 an_30 (.ref c_30) ct_30), sl_30⟩) (k30 : PySem.W.codeIn K (.ref c_30) "_law_mixed_order" = true) (g30 : PySem.W.keepIn K (.ref f_30) = true) (t30 : K.lookup c_30 = some ⟨e_30, dd_30, .fields vs_30, sm_30⟩) (p30 : vs_30[11]? = some (.ref P_30)) (n30 : K.lookup P_30 = none) (a31 : PySem.W.nsIn K mainGlobals "_law_lattice" = some (some (.ref f_31))) (l31 : K.lookup f_31 = some ⟨oc_31, od_31, .func (PySem.W.fnOf "_law_lattice" "_law_lattice" (defArgs (top 34)) (defBody (top 34)) (defScope (top 34)) .none kV_31 dc_31 pm_31 an_31 (.ref c_31) ct_31), sl_31⟩) (k31 : PySem.W.codeIn K (.ref c_31) "_law_lattice" = true) (g31 : PySem.W.keepIn K (.ref f_31) = true) (t31 : K.lookup c_31 = some ⟨e_31, dd_31, .fields vs_31, sm_31⟩) (p31 : vs_31[11]? = some (.ref P_31)) (n31 : K.lookup P_31 = none) (a32 : PySem.W.nsIn K mainGlobals "_law_order" = some (some (.ref f_32))) (l32 : K.lookup f_32 = some ⟨oc_32, od_32, .func (PySem.W.fnOf "_law_order" "_law_order" (defArgs (top 35)) (defBody (top 35)) (defScope (top 35)) .none kV_32 dc_32 pm_32 an_32 (.ref c_32) ct_32), sl_32⟩) (k32 : PySem.W.codeIn K (.ref c_32) "_law_order" = true) (g32 : PySem.W.keepIn K (.ref f_32) = true) (t32 : K.lookup c_32 = some ⟨e_32, dd_32, .fields vs_32, sm_32⟩) (p32 : vs_32[11]? = some (.ref P_32)) (n32 : K.lookup P_32 = none) (a33 : PySem.W.nsIn K mainGlobals "_law_best" = some (some (.ref f_33))) (l33 : K.lookup f_33 = some ⟨oc_33, od_33, .func (PySem.W.fnOf "_law_best" "_law_best" (defArgs (top 36)) (defBody (top 36)) (defScope (top 36)) .none kV_33 dc_33 pm_33 an_33 (.ref c_33) ct_33), sl_33⟩) (k33 : PySem.W.codeIn K (.ref c_33) "_law_best" = true) (g33 : PySem.W.keepIn K (.ref f_33) = true) (t33 : K.lookup c_33 = some ⟨e_33, dd_33, .fields vs_33, sm_33⟩) (p33 : vs_33[11]? = some (.ref P_33)) (n33 : K.lookup P_33 = none) (a34 : PySem.W.nsIn K mainGlobals "_law_join" = some (some (.ref f_34))) (l34 : K.lookup f_34 = some ⟨oc_34, od_34, .func (PySem.W.fnOf "_law_join" "_law_join" (defArgs (top 37)) (defBody (top 37)) (defScope (top 37)) .none kV_34 dc_34 pm_34 an_34 (.ref c_34) ct_34), sl_34⟩) (k34 : PySem.W.codeIn K (.ref c_34) "_law_join" = true) (g34 : PySem.W.keepIn K (.ref f_34) = true) (t34 : K.lookup c_34 = some ⟨e_34, dd_34, .fields vs_34, sm_34⟩) (p34 : vs_34[11]? = some (.ref P_34)) (n34 : K.lookup P_34 = none) (a35 : PySem.W.nsIn K mainGlobals "_law_meet" = some (some (.ref f_35))) (l35 : K.lookup f_35 = some ⟨oc_35, od_35, .func (PySem.W.fnOf "_law_meet" "_law_meet" (defArgs (top 38)) (defBody (top 38)) (defScope (top 38)) .none kV_35 dc_35 pm_35 an_35 (.ref c_35) ct_35), sl_35⟩) (k35 : PySem.W.codeIn K (.ref c_35) "_law_meet" = true) (g35 : PySem.W.keepIn K (.ref f_35) = true) (t35 : K.lookup c_35 = some ⟨e_35, dd_35, .fields vs_35, sm_35⟩) (p35 : vs_35[11]? = some (.ref P_35)) (n35 : K.lookup P_35 = none) (a36 : PySem.W.nsIn K mainGlobals "_law_is_order" = some (some (.ref f_36))) (l36 : K.lookup f_36 = some ⟨oc_36, od_36, .func (PySem.W.fnOf "_law_is_order" "_law_is_order" (defArgs (top 39)) (defBody (top 39)) (defScope (top 39)) .none kV_36 dc_36 pm_36 an_36 (.ref c_36) ct_36), sl_36⟩) (k36 : PySem.W.codeIn K (.ref c_36) "_law_is_order" = true) (g36 : PySem.W.keepIn K (.ref f_36) = true) (t36 : K.lookup c_36 = some ⟨e_36, dd_36, .fields vs_36, sm_36⟩) (p36 : vs_36[11]? = some (.ref P_36)) (n36 : K.lookup P_36 = none) (a37 : PySem.W.nsIn K mainGlobals "_law_is_lattice" = some (some (.ref f_37))) (l37 : K.lookup f_37 = some ⟨oc_37, od_37, .func (PySem.W.fnOf "_law_is_lattice" "_law_is_lattice" (defArgs (top 40)) (defBody (top 40)) (defScope (top 40)) .none kV_37 dc_37 pm_37 an_37 (.ref c_37) ct_37), sl_37⟩) (k37 : PySem.W.codeIn K (.ref c_37) "_law_is_lattice" = true) (g37 : PySem.W.keepIn K (.ref f_37) = true) (t37 : K.lookup c_37 = some ⟨e_37, dd_37, .fields vs_37, sm_37⟩) (p37 : vs_37[11]? = some (.ref P_37)) (n37 : K.lookup P_37 = none) (a38 : PySem.W.nsIn K mainGlobals "_law_irreducible" = some (some (.ref f_38))) (l38 : K.lookup f_38 = some ⟨oc_38, od_38, .func (PySem.W.fnOf "_law_irreducible" "_law_irreducible" (defArgs (top 41)) (defBody (top 41)) (defScope (top 41)) .none kV_38 dc_38 pm_38 an_38 (.ref c_38) ct_38), sl_38⟩) (k38 : PySem.W.codeIn K (.ref c_38) "_law_irreducible" = true) (g38 : PySem.W.keepIn K (.ref f_38) = true) (t38 : K.lookup c_38 = some ⟨e_38, dd_38, .fields vs_38, sm_38⟩) (p38 : vs_38[11]? = some (.ref P_38)) (n38 : K.lookup P_38 = none) (a39 : PySem.W.nsIn K mainGlobals "_law_spoilt" = some (some (.ref f_39))) (l39 : K.lookup f_39 = some ⟨oc_39, od_39, .func (PySem.W.fnOf "_law_spoilt" "_law_spoilt" (defArgs (top 42)) (defBody (top 42)) (defScope (top 42)) .none kV_39 dc_39 pm_39 an_39 (.ref c_39) ct_39), sl_39⟩) (k39 : PySem.W.codeIn K (.ref c_39) "_law_spoilt" = true) (g39 : PySem.W.keepIn K (.ref f_39) = true) (t39 : K.lookup c_39 = some ⟨e_39, dd_39, .fields vs_39, sm_39⟩) (p39 : vs_39[11]? = some (.ref P_39)) (n39 : K.lookup P_39 = none) (a40 : PySem.W.nsIn K mainGlobals "law" = some (some (.ref f_40))) (l40 : K.lookup f_40 = some ⟨oc_40, od_40, .func (PySem.W.fnOf "law" "law" (defArgs (top 43)) (defBody (top 43)) (defScope (top 43)) .none kV_40 dc_40 pm_40 an_40 (.ref c_40) ct_40), sl_40⟩) (k40 : PySem.W.codeIn K (.ref c_40) "law" = true) (g40 : PySem.W.keepIn K (.ref f_40) = true) (t40 : K.lookup c_40 = some ⟨e_40, dd_40, .fields vs_40, sm_40⟩) (p40 : vs_40[11]? = some (.ref P_40)) (n40 : K.lookup P_40 = none) (b_all : PySem.W.nsIn K mainGlobals "all" = some none) (b_any : PySem.W.nsIn K mainGlobals "any" = some none) (b_bool : PySem.W.nsIn K mainGlobals "bool" = some none) (b_enumerate : PySem.W.nsIn K mainGlobals "enumerate" = some none) (b_int : PySem.W.nsIn K mainGlobals "int" = some none) (b_isinstance : PySem.W.nsIn K mainGlobals "isinstance" = some none) (b_len : PySem.W.nsIn K mainGlobals "len" = some none) (b_list : PySem.W.nsIn K mainGlobals "list" = some none) (b_range : PySem.W.nsIn K mainGlobals "range" = some none) (b_set : PySem.W.nsIn K mainGlobals "set" = some none) (b_sorted : PySem.W.nsIn K mainGlobals "sorted" = some none) (b_str : PySem.W.nsIn K mainGlobals "str" = some none) (b_tuple : PySem.W.nsIn K mainGlobals "tuple" = some none) (b_zip : PySem.W.nsIn K mainGlobals "zip" = some none) :
    LawG PySem.Challenge.rw_formalconcepts_k30_orders_and_lattices w K 16 63 mg fa h := by
  have d0 := DK.of (x := "is_number") (st := top 1) KX G L (by decide +kernel) a0 l0 k0 g0 t0 p0 n0
  have d1 := DK.of (x := "is_set") (st := top 2) KX G L (by decide +kernel) a1 l1 k1 g1 t1 p1 n1
  have d2 := DK.of (x := "is_part") (st := top 3) KX G L (by decide +kernel) a2 l2 k2 g2 t2 p2 n2
  have d3 := DK.of (x := "shared") (st := top 4) KX G L (by decide +kernel) a3 l3 k3 g3 t3 p3 n3
  have d4 := DK.of (x := "is_order_of") (st := top 6) KX G L (by decide +kernel) a4 l4 k4 g4 t4 p4 n4
  have d5 := DK.of (x := "is_order") (st := top 7) KX G L (by decide +kernel) a5 l5 k5 g5 t5 p5 n5
  have d6 := DK.of (x := "below_of") (st := top 8) KX G L (by decide +kernel) a6 l6 k6 g6 t6 p6 n6
  have d7 := DK.of (x := "least_of") (st := top 9) KX G L (by decide +kernel) a7 l7 k7 g7 t7 p7 n7
  have d8 := DK.of (x := "join_of") (st := top 10) KX G L (by decide +kernel) a8 l8 k8 g8 t8 p8 n8
  have d9 := DK.of (x := "turned_over") (st := top 11) KX G L (by decide +kernel) a9 l9 k9 g9 t9 p9 n9
  have d10 := DK.of (x := "meet_of") (st := top 12) KX G L (by decide +kernel) a10 l10 k10 g10 t10 p10 n10
  have d11 := DK.of (x := "has_joins") (st := top 13) KX G L (by decide +kernel) a11 l11 k11 g11 t11 p11 n11
  have d12 := DK.of (x := "is_lattice") (st := top 14) KX G L (by decide +kernel) a12 l12 k12 g12 t12 p12 n12
  have d13 := DK.of (x := "greatest_of") (st := top 16) KX G L (by decide +kernel) a13 l13 k13 g13 t13 p13 n13
  have d14 := DK.of (x := "join_irreducible") (st := top 15) KX G L (by decide +kernel) a14 l14 k14 g14 t14 p14 n14
  have d15 := DK.of (x := "meet_irreducible") (st := top 17) KX G L (by decide +kernel) a15 l15 k15 g15 t15 p15 n15
  have d16 := DK.of (x := "_law_cell") (st := top 19) KX G L (by decide +kernel) a16 l16 k16 g16 t16 p16 n16
  have d17 := DK.of (x := "_law_digits") (st := top 20) KX G L (by decide +kernel) a17 l17 k17 g17 t17 p17 n17
  have d18 := DK.of (x := "_law_draw") (st := top 21) KX G L (by decide +kernel) a18 l18 k18 g18 t18 p18 n18
  have d19 := DK.of (x := "_law_same") (st := top 22) KX G L (by decide +kernel) a19 l19 k19 g19 t19 p19 n19
  have d20 := DK.of (x := "_law_box") (st := top 23) KX G L (by decide +kernel) a20 l20 k20 g20 t20 p20 n20
  have d21 := DK.of (x := "_law_some") (st := top 24) KX G L (by decide +kernel) a21 l21 k21 g21 t21 p21 n21
  have d22 := DK.of (x := "_law_table") (st := top 25) KX G L (by decide +kernel) a22 l22 k22 g22 t22 p22 n22
  have d23 := DK.of (x := "_law_inside") (st := top 26) KX G L (by decide +kernel) a23 l23 k23 g23 t23 p23 n23
  have d24 := DK.of (x := "_law_common") (st := top 27) KX G L (by decide +kernel) a24 l24 k24 g24 t24 p24 n24
  have d25 := DK.of (x := "_law_having") (st := top 28) KX G L (by decide +kernel) a25 l25 k25 g25 t25 p25 n25
  have d26 := DK.of (x := "_law_closure") (st := top 29) KX G L (by decide +kernel) a26 l26 k26 g26 t26 p26 n26
  have d27 := DK.of (x := "_law_lectic") (st := top 30) KX G L (by decide +kernel) a27 l27 k27 g27 t27 p27 n27
  have d28 := DK.of (x := "_law_subsets") (st := top 31) KX G L (by decide +kernel) a28 l28 k28 g28 t28 p28 n28
  have d29 := DK.of (x := "_law_closed") (st := top 32) KX G L (by decide +kernel) a29 l29 k29 g29 t29 p29 n29
  have d30 := DK.of (x := "_law_mixed_order") (st := top 33) KX G L (by decide +kernel) a30 l30 k30 g30 t30 p30 n30
  have d31 := DK.of (x := "_law_lattice") (st := top 34) KX G L (by decide +kernel) a31 l31 k31 g31 t31 p31 n31
  have d32 := DK.of (x := "_law_order") (st := top 35) KX G L (by decide +kernel) a32 l32 k32 g32 t32 p32 n32
  have d33 := DK.of (x := "_law_best") (st := top 36) KX G L (by decide +kernel) a33 l33 k33 g33 t33 p33 n33
  have d34 := DK.of (x := "_law_join") (st := top 37) KX G L (by decide +kernel) a34 l34 k34 g34 t34 p34 n34
  have d35 := DK.of (x := "_law_meet") (st := top 38) KX G L (by decide +kernel) a35 l35 k35 g35 t35 p35 n35
  have d36 := DK.of (x := "_law_is_order") (st := top 39) KX G L (by decide +kernel) a36 l36 k36 g36 t36 p36 n36
  have d37 := DK.of (x := "_law_is_lattice") (st := top 40) KX G L (by decide +kernel) a37 l37 k37 g37 t37 p37 n37
  have d38 := DK.of (x := "_law_irreducible") (st := top 41) KX G L (by decide +kernel) a38 l38 k38 g38 t38 p38 n38
  have d39 := DK.of (x := "_law_spoilt") (st := top 42) KX G L (by decide +kernel) a39 l39 k39 g39 t39 p39 n39
  have d40 := DK.of (x := "law") (st := top 43) KX G L (by decide +kernel) a40 l40 k40 g40 t40 p40 n40
  refine law_of (nm := NM) (T := T_law) (cs := [(c_0, P_0), (c_1, P_1), (c_2, P_2), (c_3, P_3), (c_4, P_4), (c_5, P_5), (c_6, P_6), (c_7, P_7), (c_8, P_8), (c_9, P_9), (c_10, P_10), (c_11, P_11), (c_12, P_12), (c_13, P_13), (c_14, P_14), (c_15, P_15), (c_16, P_16), (c_17, P_17), (c_18, P_18), (c_19, P_19), (c_20, P_20), (c_21, P_21), (c_22, P_22), (c_23, P_23), (c_24, P_24), (c_25, P_25), (c_26, P_26), (c_27, P_27), (c_28, P_28), (c_29, P_29), (c_30, P_30), (c_31, P_31), (c_32, P_32), (c_33, P_33), (c_34, P_34), (c_35, P_35), (c_36, P_36), (c_37, P_37), (c_38, P_38), (c_39, P_39), (c_40, P_40)]) (List.forall_mem_cons.mpr ⟨d0.tab, List.forall_mem_cons.mpr ⟨d1.tab, List.forall_mem_cons.mpr ⟨d2.tab, List.forall_mem_cons.mpr ⟨d3.tab, List.forall_mem_cons.mpr ⟨d4.tab, List.forall_mem_cons.mpr ⟨d5.tab, List.forall_mem_cons.mpr ⟨d6.tab, List.forall_mem_cons.mpr ⟨d7.tab, List.forall_mem_cons.mpr ⟨d8.tab, List.forall_mem_cons.mpr ⟨d9.tab, List.forall_mem_cons.mpr ⟨d10.tab, List.forall_mem_cons.mpr ⟨d11.tab, List.forall_mem_cons.mpr ⟨d12.tab, List.forall_mem_cons.mpr ⟨d13.tab, List.forall_mem_cons.mpr ⟨d14.tab, List.forall_mem_cons.mpr ⟨d15.tab, List.forall_mem_cons.mpr ⟨d16.tab, List.forall_mem_cons.mpr ⟨d17.tab, List.forall_mem_cons.mpr ⟨d18.tab, List.forall_mem_cons.mpr ⟨d19.tab, List.forall_mem_cons.mpr ⟨d20.tab, List.forall_mem_cons.mpr ⟨d21.tab, List.forall_mem_cons.mpr ⟨d22.tab, List.forall_mem_cons.mpr ⟨d23.tab, List.forall_mem_cons.mpr ⟨d24.tab, List.forall_mem_cons.mpr ⟨d25.tab, List.forall_mem_cons.mpr ⟨d26.tab, List.forall_mem_cons.mpr ⟨d27.tab, List.forall_mem_cons.mpr ⟨d28.tab, List.forall_mem_cons.mpr ⟨d29.tab, List.forall_mem_cons.mpr ⟨d30.tab, List.forall_mem_cons.mpr ⟨d31.tab, List.forall_mem_cons.mpr ⟨d32.tab, List.forall_mem_cons.mpr ⟨d33.tab, List.forall_mem_cons.mpr ⟨d34.tab, List.forall_mem_cons.mpr ⟨d35.tab, List.forall_mem_cons.mpr ⟨d36.tab, List.forall_mem_cons.mpr ⟨d37.tab, List.forall_mem_cons.mpr ⟨d38.tab, List.forall_mem_cons.mpr ⟨d39.tab, List.forall_mem_cons.mpr ⟨d40.tab, fun _ z => nomatch z⟩⟩⟩⟩⟩⟩⟩⟩⟩⟩⟩⟩⟩⟩⟩⟩⟩⟩⟩⟩⟩⟩⟩⟩⟩⟩⟩⟩⟩⟩⟩⟩⟩⟩⟩⟩⟩⟩⟩⟩⟩) (List.forall_mem_cons.mpr ⟨d0.free, List.forall_mem_cons.mpr ⟨d1.free, List.forall_mem_cons.mpr ⟨d2.free, List.forall_mem_cons.mpr ⟨d3.free, List.forall_mem_cons.mpr ⟨d4.free, List.forall_mem_cons.mpr ⟨d5.free, List.forall_mem_cons.mpr ⟨d6.free, List.forall_mem_cons.mpr ⟨d7.free, List.forall_mem_cons.mpr ⟨d8.free, List.forall_mem_cons.mpr ⟨d9.free, List.forall_mem_cons.mpr ⟨d10.free, List.forall_mem_cons.mpr ⟨d11.free, List.forall_mem_cons.mpr ⟨d12.free, List.forall_mem_cons.mpr ⟨d13.free, List.forall_mem_cons.mpr ⟨d14.free, List.forall_mem_cons.mpr ⟨d15.free, List.forall_mem_cons.mpr ⟨d16.free, List.forall_mem_cons.mpr ⟨d17.free, List.forall_mem_cons.mpr ⟨d18.free, List.forall_mem_cons.mpr ⟨d19.free, List.forall_mem_cons.mpr ⟨d20.free, List.forall_mem_cons.mpr ⟨d21.free, List.forall_mem_cons.mpr ⟨d22.free, List.forall_mem_cons.mpr ⟨d23.free, List.forall_mem_cons.mpr ⟨d24.free, List.forall_mem_cons.mpr ⟨d25.free, List.forall_mem_cons.mpr ⟨d26.free, List.forall_mem_cons.mpr ⟨d27.free, List.forall_mem_cons.mpr ⟨d28.free, List.forall_mem_cons.mpr ⟨d29.free, List.forall_mem_cons.mpr ⟨d30.free, List.forall_mem_cons.mpr ⟨d31.free, List.forall_mem_cons.mpr ⟨d32.free, List.forall_mem_cons.mpr ⟨d33.free, List.forall_mem_cons.mpr ⟨d34.free, List.forall_mem_cons.mpr ⟨d35.free, List.forall_mem_cons.mpr ⟨d36.free, List.forall_mem_cons.mpr ⟨d37.free, List.forall_mem_cons.mpr ⟨d38.free, List.forall_mem_cons.mpr ⟨d39.free, List.forall_mem_cons.mpr ⟨d40.free, fun _ z => nomatch z⟩⟩⟩⟩⟩⟩⟩⟩⟩⟩⟩⟩⟩⟩⟩⟩⟩⟩⟩⟩⟩⟩⟩⟩⟩⟩⟩⟩⟩⟩⟩⟩⟩⟩⟩⟩⟩⟩⟩⟩⟩) (List.forall_mem_cons.mpr ⟨d0.code, List.forall_mem_cons.mpr ⟨d1.code, List.forall_mem_cons.mpr ⟨d2.code, List.forall_mem_cons.mpr ⟨d3.code, List.forall_mem_cons.mpr ⟨d4.code, List.forall_mem_cons.mpr ⟨d5.code, List.forall_mem_cons.mpr ⟨d6.code, List.forall_mem_cons.mpr ⟨d7.code, List.forall_mem_cons.mpr ⟨d8.code, List.forall_mem_cons.mpr ⟨d9.code, List.forall_mem_cons.mpr ⟨d10.code, List.forall_mem_cons.mpr ⟨d11.code, List.forall_mem_cons.mpr ⟨d12.code, List.forall_mem_cons.mpr ⟨d13.code, List.forall_mem_cons.mpr ⟨d14.code, List.forall_mem_cons.mpr ⟨d15.code, List.forall_mem_cons.mpr ⟨d16.code, List.forall_mem_cons.mpr ⟨d17.code, List.forall_mem_cons.mpr ⟨d18.code, List.forall_mem_cons.mpr ⟨d19.code, List.forall_mem_cons.mpr ⟨d20.code, List.forall_mem_cons.mpr ⟨d21.code, List.forall_mem_cons.mpr ⟨d22.code, List.forall_mem_cons.mpr ⟨d23.code, List.forall_mem_cons.mpr ⟨d24.code, List.forall_mem_cons.mpr ⟨d25.code, List.forall_mem_cons.mpr ⟨d26.code, List.forall_mem_cons.mpr ⟨d27.code, List.forall_mem_cons.mpr ⟨d28.code, List.forall_mem_cons.mpr ⟨d29.code, List.forall_mem_cons.mpr ⟨d30.code, List.forall_mem_cons.mpr ⟨d31.code, List.forall_mem_cons.mpr ⟨d32.code, List.forall_mem_cons.mpr ⟨d33.code, List.forall_mem_cons.mpr ⟨d34.code, List.forall_mem_cons.mpr ⟨d35.code, List.forall_mem_cons.mpr ⟨d36.code, List.forall_mem_cons.mpr ⟨d37.code, List.forall_mem_cons.mpr ⟨d38.code, List.forall_mem_cons.mpr ⟨d39.code, List.forall_mem_cons.mpr ⟨d40.code, fun _ z => nomatch z⟩⟩⟩⟩⟩⟩⟩⟩⟩⟩⟩⟩⟩⟩⟩⟩⟩⟩⟩⟩⟩⟩⟩⟩⟩⟩⟩⟩⟩⟩⟩⟩⟩⟩⟩⟩⟩⟩⟩⟩⟩) hfa (fun base hB hC => all_ok ⟨PySem.W.mg_none_of KX G b_all, PySem.W.mg_none_of KX G b_any, PySem.W.mg_none_of KX G b_bool, PySem.W.mg_none_of KX G b_enumerate, PySem.W.mg_none_of KX G b_int, PySem.W.mg_none_of KX G b_isinstance, PySem.W.mg_none_of KX G b_len, PySem.W.mg_none_of KX G b_list, PySem.W.mg_none_of KX G b_range, PySem.W.mg_none_of KX G b_set, PySem.W.mg_none_of KX G b_sorted, PySem.W.mg_none_of KX G b_str, PySem.W.mg_none_of KX G b_tuple, PySem.W.mg_none_of KX G b_zip⟩ ⟨hB, fun _ _ => rfl⟩ (d0.dc base _ _ (by simp) (hC (c_0, P_0) (by simp))) (d1.dc base _ _ (by simp) (hC (c_1, P_1) (by simp))) (d2.dc base _ _ (by simp) (hC (c_2, P_2) (by simp))) (d3.dc base _ _ (by simp) (hC (c_3, P_3) (by simp))) (d4.dc base _ _ (by simp) (hC (c_4, P_4) (by simp))) (d5.dc base _ _ (by simp) (hC (c_5, P_5) (by simp))) (d6.dc base _ _ (by simp) (hC (c_6, P_6) (by simp))) (d7.dc base _ _ (by simp) (hC (c_7, P_7) (by simp))) (d8.dc base _ _ (by simp) (hC (c_8, P_8) (by simp))) (d9.dc base _ _ (by simp) (hC (c_9, P_9) (by simp))) (d10.dc base _ _ (by simp) (hC (c_10, P_10) (by simp))) (d11.dc base _ _ (by simp) (hC (c_11, P_11) (by simp))) (d12.dc base _ _ (by simp) (hC (c_12, P_12) (by simp))) (d13.dc base _ _ (by simp) (hC (c_13, P_13) (by simp))) (d14.dc base _ _ (by simp) (hC (c_14, P_14) (by simp))) (d15.dc base _ _ (by simp) (hC (c_15, P_15) (by simp))) (d16.dc base _ _ (by simp) (hC (c_16, P_16) (by simp))) (d17.dc base _ _ (by simp) (hC (c_17, P_17) (by simp))) (d18.dc base _ _ (by simp) (hC (c_18, P_18) (by simp))) (d19.dc base _ _ (by simp) (hC (c_19, P_19) (by simp))) (d20.dc base _ _ (by simp) (hC (c_20, P_20) (by simp))) (d21.dc base _ _ (by simp) (hC (c_21, P_21) (by simp))) (d22.dc base _ _ (by simp) (hC (c_22, P_22) (by simp))) (d23.dc base _ _ (by simp) (hC (c_23, P_23) (by simp))) (d24.dc base _ _ (by simp) (hC (c_24, P_24) (by simp))) (d25.dc base _ _ (by simp) (hC (c_25, P_25) (by simp))) (d26.dc base _ _ (by simp) (hC (c_26, P_26) (by simp))) (d27.dc base _ _ (by simp) (hC (c_27, P_27) (by simp))) (d28.dc base _ _ (by simp) (hC (c_28, P_28) (by simp))) (d29.dc base _ _ (by simp) (hC (c_29, P_29) (by simp))) (d30.dc base _ _ (by simp) (hC (c_30, P_30) (by simp))) (d31.dc base _ _ (by simp) (hC (c_31, P_31) (by simp))) (d32.dc base _ _ (by simp) (hC (c_32, P_32) (by simp))) (d33.dc base _ _ (by simp) (hC (c_33, P_33) (by simp))) (d34.dc base _ _ (by simp) (hC (c_34, P_34) (by simp))) (d35.dc base _ _ (by simp) (hC (c_35, P_35) (by simp))) (d36.dc base _ _ (by simp) (hC (c_36, P_36) (by simp))) (d37.dc base _ _ (by simp) (hC (c_37, P_37) (by simp))) (d38.dc base _ _ (by simp) (hC (c_38, P_38) (by simp))) (d39.dc base _ _ (by simp) (hC (c_39, P_39) (by simp))) (d40.dc base _ _ (by simp) (hC (c_40, P_40) (by simp)))) law_true
end Lk30

open PySem PySem.W PyProof.Rows in
set_option maxRecDepth 100000 in
set_option maxHeartbeats 0 in
theorem PySem.Challenge.cw_formalconcepts_k30_orders_and_lattices_holds : PySem.Challenge.rw_formalconcepts_k30_orders_and_lattices.Holds := by
  w_on; o_law; k_head; (case hw => w_witness2)
  k_fill
  refine GD.walkG (l := PySem.Challenge.rw_formalconcepts_k30_orders_and_lattices) (n := 63) (k := 16) rfl (by decide) rfl ⟨rfl, by decide, by decide⟩ (fun w h Y => PySem.W.kIn_of Y) ?F
  case F =>
    intro w mg fa h _ KX G hmg L
    refine' Lk30.mk KX G L hmg ?zza0 ?zzl0 ?zzk0 ?zzg0 ?zzt0 ?zzp0 ?zzn0 ?zza1 ?zzl1 ?zzk1 ?zzg1 ?zzt1 ?zzp1 ?zzn1 ?zza2 ?zzl2 ?zzk2 ?zzg2 ?zzt2 ?zzp2 ?zzn2 ?zza3 ?zzl3 ?zzk3 ?zzg3 ?zzt3 ?zzp3 ?zzn3 ?zza4 ?zzl4 ?zzk4 ?zzg4 ?zzt4 ?zzp4 ?zzn4 ?zza5 ?zzl5 ?zzk5 ?zzg5 ?zzt5 ?zzp5 ?zzn5 ?zza6 ?zzl6 ?zzk6 ?zzg6 ?zzt6 ?zzp6 ?zzn6 ?zza7 ?zzl7 ?zzk7 ?zzg7 ?zzt7 ?zzp7 ?zzn7 ?zza8 ?zzl8 ?zzk8 ?zzg8 ?zzt8 ?zzp8 ?zzn8 ?zza9 ?zzl9 ?zzk9 ?zzg9 ?zzt9 ?zzp9 ?zzn9 ?zza10 ?zzl10 ?zzk10 ?zzg10 ?zzt10 ?zzp10 ?zzn10 ?zza11 ?zzl11 ?zzk11 ?zzg11 ?zzt11 ?zzp11 ?zzn11 ?zza12 ?zzl12 ?zzk12 ?zzg12 ?zzt12 ?zzp12 ?zzn12 ?zza13 ?zzl13 ?zzk13 ?zzg13 ?zzt13 ?zzp13 ?zzn13 ?zza14 ?zzl14 ?zzk14 ?zzg14 ?zzt14 ?zzp14 ?zzn14 ?zza15 ?zzl15 ?zzk15 ?zzg15 ?zzt15 ?zzp15 ?zzn15 ?zza16 ?zzl16 ?zzk16 ?zzg16 ?zzt16 ?zzp16 ?zzn16 ?zza17 ?zzl17 ?zzk17 ?zzg17 ?zzt17 ?zzp17 ?zzn17 ?zza18 ?zzl18 ?zzk18 ?zzg18 ?zzt18 ?zzp18 ?zzn18 ?zza19 ?zzl19 ?zzk19 ?zzg19 ?zzt19 ?zzp19 ?zzn19 ?zza20 ?zzl20 ?zzk20 ?zzg20 ?zzt20 ?zzp20 ?zzn20 ?zza21 ?zzl21 ?zzk21 ?zzg21 ?zzt21 ?zzp21 ?zzn21 ?zza22 ?zzl22 ?zzk22 ?zzg22 ?zzt22 ?zzp22 ?zzn22 ?zza23 ?zzl23 ?zzk23 ?zzg23 ?zzt23 ?zzp23 ?zzn23 ?zza24 ?zzl24 ?zzk24 ?zzg24 ?zzt24 ?zzp24 ?zzn24 ?zza25 ?zzl25 ?zzk25 ?zzg25 ?zzt25 ?zzp25 ?zzn25 ?zza26 ?zzl26 ?zzk26 ?zzg26 ?zzt26 ?zzp26 ?zzn26 ?zza27 ?zzl27 ?zzk27 ?zzg27 ?zzt27 ?zzp27 ?zzn27 ?zza28 ?zzl28 ?zzk28 ?zzg28 ?zzt28 ?zzp28 ?zzn28 ?zza29 ?zzl29 ?zzk29 ?zzg29 ?zzt29 ?zzp29 ?zzn29 ?zza30 ?zzl30 ?zzk30 ?zzg30 ?zzt30 ?zzp30 ?zzn30 ?zza31 ?zzl31 ?zzk31 ?zzg31 ?zzt31 ?zzp31 ?zzn31 ?zza32 ?zzl32 ?zzk32 ?zzg32 ?zzt32 ?zzp32 ?zzn32 ?zza33 ?zzl33 ?zzk33 ?zzg33 ?zzt33 ?zzp33 ?zzn33 ?zza34 ?zzl34 ?zzk34 ?zzg34 ?zzt34 ?zzp34 ?zzn34 ?zza35 ?zzl35 ?zzk35 ?zzg35 ?zzt35 ?zzp35 ?zzn35 ?zza36 ?zzl36 ?zzk36 ?zzg36 ?zzt36 ?zzp36 ?zzn36 ?zza37 ?zzl37 ?zzk37 ?zzg37 ?zzt37 ?zzp37 ?zzn37 ?zza38 ?zzl38 ?zzk38 ?zzg38 ?zzt38 ?zzp38 ?zzn38 ?zza39 ?zzl39 ?zzk39 ?zzg39 ?zzt39 ?zzp39 ?zzn39 ?zza40 ?zzl40 ?zzk40 ?zzg40 ?zzt40 ?zzp40 ?zzn40 ?zzb_all ?zzb_any ?zzb_bool ?zzb_enumerate ?zzb_int ?zzb_isinstance ?zzb_len ?zzb_list ?zzb_range ?zzb_set ?zzb_sorted ?zzb_str ?zzb_tuple ?zzb_zip
    (case zza0 => k_is)
    (case zzl0 => k_is)
    (case zzk0 => k_is)
    (case zzg0 => k_is)
    (case zzt0 => k_is)
    (case zzp0 => rfl)
    (case zzn0 => rfl)
    (case zza1 => k_is)
    (case zzl1 => k_is)
    (case zzk1 => k_is)
    (case zzg1 => k_is)
    (case zzt1 => k_is)
    (case zzp1 => rfl)
    (case zzn1 => rfl)
    (case zza2 => k_is)
    (case zzl2 => k_is)
    (case zzk2 => k_is)
    (case zzg2 => k_is)
    (case zzt2 => k_is)
    (case zzp2 => rfl)
    (case zzn2 => rfl)
    (case zza3 => k_is)
    (case zzl3 => k_is)
    (case zzk3 => k_is)
    (case zzg3 => k_is)
    (case zzt3 => k_is)
    (case zzp3 => rfl)
    (case zzn3 => rfl)
    (case zza4 => k_is)
    (case zzl4 => k_is)
    (case zzk4 => k_is)
    (case zzg4 => k_is)
    (case zzt4 => k_is)
    (case zzp4 => rfl)
    (case zzn4 => rfl)
    (case zza5 => k_is)
    (case zzl5 => k_is)
    (case zzk5 => k_is)
    (case zzg5 => k_is)
    (case zzt5 => k_is)
    (case zzp5 => rfl)
    (case zzn5 => rfl)
    (case zza6 => k_is)
    (case zzl6 => k_is)
    (case zzk6 => k_is)
    (case zzg6 => k_is)
    (case zzt6 => k_is)
    (case zzp6 => rfl)
    (case zzn6 => rfl)
    (case zza7 => k_is)
    (case zzl7 => k_is)
    (case zzk7 => k_is)
    (case zzg7 => k_is)
    (case zzt7 => k_is)
    (case zzp7 => rfl)
    (case zzn7 => rfl)
    (case zza8 => k_is)
    (case zzl8 => k_is)
    (case zzk8 => k_is)
    (case zzg8 => k_is)
    (case zzt8 => k_is)
    (case zzp8 => rfl)
    (case zzn8 => rfl)
    (case zza9 => k_is)
    (case zzl9 => k_is)
    (case zzk9 => k_is)
    (case zzg9 => k_is)
    (case zzt9 => k_is)
    (case zzp9 => rfl)
    (case zzn9 => rfl)
    (case zza10 => k_is)
    (case zzl10 => k_is)
    (case zzk10 => k_is)
    (case zzg10 => k_is)
    (case zzt10 => k_is)
    (case zzp10 => rfl)
    (case zzn10 => rfl)
    (case zza11 => k_is)
    (case zzl11 => k_is)
    (case zzk11 => k_is)
    (case zzg11 => k_is)
    (case zzt11 => k_is)
    (case zzp11 => rfl)
    (case zzn11 => rfl)
    (case zza12 => k_is)
    (case zzl12 => k_is)
    (case zzk12 => k_is)
    (case zzg12 => k_is)
    (case zzt12 => k_is)
    (case zzp12 => rfl)
    (case zzn12 => rfl)
    (case zza13 => k_is)
    (case zzl13 => k_is)
    (case zzk13 => k_is)
    (case zzg13 => k_is)
    (case zzt13 => k_is)
    (case zzp13 => rfl)
    (case zzn13 => rfl)
    (case zza14 => k_is)
    (case zzl14 => k_is)
    (case zzk14 => k_is)
    (case zzg14 => k_is)
    (case zzt14 => k_is)
    (case zzp14 => rfl)
    (case zzn14 => rfl)
    (case zza15 => k_is)
    (case zzl15 => k_is)
    (case zzk15 => k_is)
    (case zzg15 => k_is)
    (case zzt15 => k_is)
    (case zzp15 => rfl)
    (case zzn15 => rfl)
    (case zza16 => k_is)
    (case zzl16 => k_is)
    (case zzk16 => k_is)
    (case zzg16 => k_is)
    (case zzt16 => k_is)
    (case zzp16 => rfl)
    (case zzn16 => rfl)
    (case zza17 => k_is)
    (case zzl17 => k_is)
    (case zzk17 => k_is)
    (case zzg17 => k_is)
    (case zzt17 => k_is)
    (case zzp17 => rfl)
    (case zzn17 => rfl)
    (case zza18 => k_is)
    (case zzl18 => k_is)
    (case zzk18 => k_is)
    (case zzg18 => k_is)
    (case zzt18 => k_is)
    (case zzp18 => rfl)
    (case zzn18 => rfl)
    (case zza19 => k_is)
    (case zzl19 => k_is)
    (case zzk19 => k_is)
    (case zzg19 => k_is)
    (case zzt19 => k_is)
    (case zzp19 => rfl)
    (case zzn19 => rfl)
    (case zza20 => k_is)
    (case zzl20 => k_is)
    (case zzk20 => k_is)
    (case zzg20 => k_is)
    (case zzt20 => k_is)
    (case zzp20 => rfl)
    (case zzn20 => rfl)
    (case zza21 => k_is)
    (case zzl21 => k_is)
    (case zzk21 => k_is)
    (case zzg21 => k_is)
    (case zzt21 => k_is)
    (case zzp21 => rfl)
    (case zzn21 => rfl)
    (case zza22 => k_is)
    (case zzl22 => k_is)
    (case zzk22 => k_is)
    (case zzg22 => k_is)
    (case zzt22 => k_is)
    (case zzp22 => rfl)
    (case zzn22 => rfl)
    (case zza23 => k_is)
    (case zzl23 => k_is)
    (case zzk23 => k_is)
    (case zzg23 => k_is)
    (case zzt23 => k_is)
    (case zzp23 => rfl)
    (case zzn23 => rfl)
    (case zza24 => k_is)
    (case zzl24 => k_is)
    (case zzk24 => k_is)
    (case zzg24 => k_is)
    (case zzt24 => k_is)
    (case zzp24 => rfl)
    (case zzn24 => rfl)
    (case zza25 => k_is)
    (case zzl25 => k_is)
    (case zzk25 => k_is)
    (case zzg25 => k_is)
    (case zzt25 => k_is)
    (case zzp25 => rfl)
    (case zzn25 => rfl)
    (case zza26 => k_is)
    (case zzl26 => k_is)
    (case zzk26 => k_is)
    (case zzg26 => k_is)
    (case zzt26 => k_is)
    (case zzp26 => rfl)
    (case zzn26 => rfl)
    (case zza27 => k_is)
    (case zzl27 => k_is)
    (case zzk27 => k_is)
    (case zzg27 => k_is)
    (case zzt27 => k_is)
    (case zzp27 => rfl)
    (case zzn27 => rfl)
    (case zza28 => k_is)
    (case zzl28 => k_is)
    (case zzk28 => k_is)
    (case zzg28 => k_is)
    (case zzt28 => k_is)
    (case zzp28 => rfl)
    (case zzn28 => rfl)
    (case zza29 => k_is)
    (case zzl29 => k_is)
    (case zzk29 => k_is)
    (case zzg29 => k_is)
    (case zzt29 => k_is)
    (case zzp29 => rfl)
    (case zzn29 => rfl)
    (case zza30 => k_is)
    (case zzl30 => k_is)
    (case zzk30 => k_is)
    (case zzg30 => k_is)
    (case zzt30 => k_is)
    (case zzp30 => rfl)
    (case zzn30 => rfl)
    (case zza31 => k_is)
    (case zzl31 => k_is)
    (case zzk31 => k_is)
    (case zzg31 => k_is)
    (case zzt31 => k_is)
    (case zzp31 => rfl)
    (case zzn31 => rfl)
    (case zza32 => k_is)
    (case zzl32 => k_is)
    (case zzk32 => k_is)
    (case zzg32 => k_is)
    (case zzt32 => k_is)
    (case zzp32 => rfl)
    (case zzn32 => rfl)
    (case zza33 => k_is)
    (case zzl33 => k_is)
    (case zzk33 => k_is)
    (case zzg33 => k_is)
    (case zzt33 => k_is)
    (case zzp33 => rfl)
    (case zzn33 => rfl)
    (case zza34 => k_is)
    (case zzl34 => k_is)
    (case zzk34 => k_is)
    (case zzg34 => k_is)
    (case zzt34 => k_is)
    (case zzp34 => rfl)
    (case zzn34 => rfl)
    (case zza35 => k_is)
    (case zzl35 => k_is)
    (case zzk35 => k_is)
    (case zzg35 => k_is)
    (case zzt35 => k_is)
    (case zzp35 => rfl)
    (case zzn35 => rfl)
    (case zza36 => k_is)
    (case zzl36 => k_is)
    (case zzk36 => k_is)
    (case zzg36 => k_is)
    (case zzt36 => k_is)
    (case zzp36 => rfl)
    (case zzn36 => rfl)
    (case zza37 => k_is)
    (case zzl37 => k_is)
    (case zzk37 => k_is)
    (case zzg37 => k_is)
    (case zzt37 => k_is)
    (case zzp37 => rfl)
    (case zzn37 => rfl)
    (case zza38 => k_is)
    (case zzl38 => k_is)
    (case zzk38 => k_is)
    (case zzg38 => k_is)
    (case zzt38 => k_is)
    (case zzp38 => rfl)
    (case zzn38 => rfl)
    (case zza39 => k_is)
    (case zzl39 => k_is)
    (case zzk39 => k_is)
    (case zzg39 => k_is)
    (case zzt39 => k_is)
    (case zzp39 => rfl)
    (case zzn39 => rfl)
    (case zza40 => k_is)
    (case zzl40 => k_is)
    (case zzk40 => k_is)
    (case zzg40 => k_is)
    (case zzt40 => k_is)
    (case zzp40 => rfl)
    (case zzn40 => rfl)
    (case zzb_all => k_is)
    (case zzb_any => k_is)
    (case zzb_bool => k_is)
    (case zzb_enumerate => k_is)
    (case zzb_int => k_is)
    (case zzb_isinstance => k_is)
    (case zzb_len => k_is)
    (case zzb_list => k_is)
    (case zzb_range => k_is)
    (case zzb_set => k_is)
    (case zzb_sorted => k_is)
    (case zzb_str => k_is)
    (case zzb_tuple => k_is)
    (case zzb_zip => k_is)
