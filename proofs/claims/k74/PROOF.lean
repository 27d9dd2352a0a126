import PyProof.Rows.All
import Wide.All
import OpenK.AllK
import Wide.FinOn
import PySem.Challenge.RW_actuarium_k74_whole_corrections_judged
import PyProof.EqAt
import PyProof.EqKinds
import PyProof.TupleCall
import KE.KNest
import HandS.Base
import HandS.Call
import HandS.List
import HandS.Comp
import HandS.GenOver
import PyProof.GenQ
import KE.KTupSum
import KE.GoesMore
import KE.GoesZip
import KE.GoesEnum
import HandS.Iter
import HandS.TupMul
import HandS.ForMost
import HandS.Zip
import HandS.IsInst
import HandS.TupAny
import HandS.Style
import HandS.Gcd
import HandS.Wide
import HandS.More
import HandS.Words
import HandS.Conv
import Lean
import KE.KStateDown
import HandS.EndTab
import HandS.HeadWalk
import HandS.Head0
import HandS.Head1
import HandS.Head2
import HandS.Head3
import HandS.HeadEnd
import HandS.HeadHook1
import HandS.HeadHook2
import HandS.HeadHook3
import HandS.HeadHook4
set_option Elab.async false
set_option linter.all false
set_option maxRecDepth 100000
set_option maxHeartbeats 4000000

/-! Generator expressions inside all( ) and any( ): the element may call defs that hold generator expressions of their own. -/
namespace Gx
open PySem PySem.Spec PyProof.Rows L2

/-! ### tables of code objects -/
/-- the object at c is a code object whose table stands at P -/
def CdO (c P : Addr) : HO := .ext fun h => PySem.W.CodeHd h c P
theorem cdO_ne {c P : Addr} (ps : Array Value) : CdO c P ≠ .tbl ps := by
  intro z
  unfold CdO at z
  cases z
/-- the table at P, told to the depth n -/
def Tb : Nat → Hp → Addr → Prop
  | 0, H, P => ∃ ps : Array Value, H P = some (.tbl ps) ∧ TriplesOk ps.toList
  | n + 1, H, P => ∃ ps : Array Value, H P = some (.tbl ps) ∧ TriplesOk ps.toList ∧
      ∀ (pos : Pos) (cv : Value), codeAmong pos ps.toList = some cv → ∃ c' P', cv = .ref c' ∧ H c' = some (CdO c' P') ∧ Tb n H P'
theorem Tb.get {n : Nat} {H : Hp} {P : Addr} (t : Tb n H P) : ∃ ps : Array Value, H P = some (.tbl ps) ∧ TriplesOk ps.toList := by
  cases n with
  | zero => exact t
  | succ n =>
    obtain ⟨ps, h1, h2, _⟩ := t
    exact ⟨ps, h1, h2⟩
theorem tb_empty {H : Hp} {P : Addr} (h : H P = some (.tbl #[])) : ∀ n, Tb n H P
  | 0 => ⟨#[], h, True.intro⟩
  | n + 1 => ⟨#[], h, True.intro, fun pos cv hc => by
    have z : codeAmong pos [] = some cv := hc
    simp [codeAmong] at z⟩

/-- all but the tables stays; the tables stay tables -/
structure Ext (H H' : Hp) : Prop where
  obj : ∀ b o, H b = some o → (∀ ps, o ≠ .tbl ps) → H' b = some o
  tbl : ∀ b ps, H b = some (.tbl ps) → ∃ qs, H' b = some (.tbl qs)
  tab : ∀ n P, Tb n H P → Tb n H' P
theorem Ext.refl (H : Hp) : Ext H H := ⟨fun _ _ h _ => h, fun _ ps h => ⟨ps, h⟩, fun _ _ t => t⟩
theorem Ext.trans {H H1 H2 : Hp} (a : Ext H H1) (b : Ext H1 H2) : Ext H H2 :=
  ⟨fun c o h n => b.obj c o (a.obj c o h n) n, fun c ps h => by
    obtain ⟨qs, h1⟩ := a.tbl c ps h
    exact b.tbl c qs h1, fun n P t => b.tab n P (a.tab n P t)⟩
theorem Ext.of {H H' : Hp} (e : ∀ b o, H b = some o → H' b = some o) : Ext H H' := by
  refine ⟨fun b o h _ => e b o h, fun b ps h => ⟨ps, e _ _ h⟩, fun n => ?_⟩
  induction n with
  | zero =>
    intro P t
    obtain ⟨ps, h1, h2⟩ := t
    exact ⟨ps, e _ _ h1, h2⟩
  | succ n ih =>
    intro P t
    obtain ⟨ps, h1, h2, h3⟩ := t
    refine ⟨ps, e _ _ h1, h2, fun pos cv hc => ?_⟩
    obtain ⟨c', P', q1, q2, q3⟩ := h3 pos cv hc
    exact ⟨c', P', q1, e _ _ q2, ih P' q3⟩
theorem Ext.new {H : Hp} {p : Addr} {o : HO} (h : H p = none) : Ext H (upd H p o) := Ext.of fun b u e => by
  rw [upd_ne (ne_of_none e h)]
  exact e
/-- a list that H does not know may change -/
theorem Ext.mutl {H H' : Hp} {p : Addr} {xs ys : List V} (e : Ext H H') (h : H p = none) (hp : H' p = some (.lst xs)) : Ext H (upd H' p (.lst ys)) := by
  have nt : ∀ {b ps}, H' b = some (.tbl ps) → b ≠ p := fun q => ne_of q hp (by intro z; cases z)
  refine ⟨fun b o hb n => ?_, fun b ps hb => ?_, fun n P t => ?_⟩
  · rw [upd_ne (ne_of_none hb h)]
    exact e.obj b o hb n
  · obtain ⟨qs, h1⟩ := e.tbl b ps hb
    exact ⟨qs, by rw [upd_ne (nt h1)]; exact h1⟩
  · have t' := e.tab n P t
    clear t
    induction n generalizing P with
    | zero =>
      obtain ⟨ps, h1, h2⟩ := t'
      exact ⟨ps, by rw [upd_ne (nt h1)]; exact h1, h2⟩
    | succ n ih =>
      obtain ⟨ps, h1, h2, h3⟩ := t'
      refine ⟨ps, by rw [upd_ne (nt h1)]; exact h1, h2, fun pos cv hc => ?_⟩
      obtain ⟨c', P', q1, q2, q3⟩ := h3 pos cv hc
      exact ⟨c', P', q1, by rw [upd_ne (ne_of q2 hp (by intro z; unfold CdO at z; cases z))]; exact q2, ih P' q3⟩
theorem Ext.free {H H' : Hp} {p : Addr} (e : Ext H H') (h : H' p = none) : H p = none := by
  cases q : H p with
  | none => rfl
  | some o =>
    by_cases hn : ∃ ps, o = .tbl ps
    · obtain ⟨ps, rfl⟩ := hn
      obtain ⟨qs, h1⟩ := e.tbl p ps q
      rw [h1] at h
      cases h
    · rw [e.obj p o q fun ps z => hn ⟨ps, z⟩] at h
      cases h

/-- the table at P has grown by one entry: the code object at c', whose table P' is empty -/
def grown (H : Hp) (P : Addr) (ps : Array Value) (c' P' : Addr) : Hp := upd (upd (upd H P (.tbl ps)) c' (CdO c' P')) P' (.tbl #[])
theorem among_snoc {pos p' : Pos} {c cv : Value} (l : List Value) (h : TriplesOk l) (hc : codeAmong p' (l ++ [rawInt pos.line, rawInt pos.col, c]) = some cv) : codeAmong p' l = some cv ∨ cv = c := by
  fun_induction TriplesOk l with
  | case1 =>
    simp only [List.nil_append, rawInt, codeAmong] at hc
    split at hc
    · exact .inr (Option.some.inj hc).symm
    · cases hc
  | case2 a t b u x rest ih =>
    simp only [List.cons_append, codeAmong] at hc ⊢
    split at hc
    · rename_i q
      rw [if_pos q]
      exact .inl hc
    · rename_i q
      rw [if_neg q]
      exact ih h hc
  | case3 l h1 h2 => exact h.elim
theorem ext_grown {H : Hp} {P c' P' : Addr} {ps : Array Value} {pos : Pos} (hP : H P = some (.tbl ps)) (ht : TriplesOk ps.toList) (hc : H c' = none) (hp : H P' = none) (hcp : c' ≠ P') :
    Ext H (grown H P (ps ++ #[rawInt pos.line, rawInt pos.col, .ref c']) c' P') := by
  have eL : (ps ++ #[rawInt pos.line, rawInt pos.col, Value.ref c']).toList = ps.toList ++ [rawInt pos.line, rawInt pos.col, .ref c'] := by simp
  have at_ : ∀ b o, H b = some o → b ≠ P → grown H P (ps ++ #[rawInt pos.line, rawInt pos.col, .ref c']) c' P' b = some o := fun b o e hb => by
    unfold grown
    rw [upd_ne (ne_of_none e hp), upd_ne (ne_of_none e hc), upd_ne hb]
    exact e
  have atP : grown H P (ps ++ #[rawInt pos.line, rawInt pos.col, .ref c']) c' P' P = some (.tbl (ps ++ #[rawInt pos.line, rawInt pos.col, .ref c'])) := by
    unfold grown
    rw [upd_ne (ne_of_none hP hp), upd_ne (ne_of_none hP hc), upd_same]
  have atc : grown H P (ps ++ #[rawInt pos.line, rawInt pos.col, .ref c']) c' P' c' = some (CdO c' P') := by
    unfold grown
    rw [upd_ne hcp, upd_same]
  have atp : grown H P (ps ++ #[rawInt pos.line, rawInt pos.col, .ref c']) c' P' P' = some (.tbl #[]) := by
    unfold grown
    rw [upd_same]
  have obj : ∀ b o, H b = some o → (∀ qs, o ≠ .tbl qs) → grown H P (ps ++ #[rawInt pos.line, rawInt pos.col, .ref c']) c' P' b = some o := fun b o e n => at_ b o e fun z => by
    rw [z, hP] at e
    exact n ps (Option.some.inj e).symm
  refine ⟨obj, fun b qs e => ?_, fun n => ?_⟩
  · by_cases hb : b = P
    · rw [hb]
      exact ⟨_, atP⟩
    · exact ⟨qs, at_ b _ e hb⟩
  · induction n with
    | zero =>
      intro Z t
      obtain ⟨qs, h1, h2⟩ := t
      by_cases hb : Z = P
      · rw [hb]
        exact ⟨_, atP, by rw [eL]; exact TriplesOk_snoc _ _ _ _ ht⟩
      · exact ⟨qs, at_ Z _ h1 hb, h2⟩
    | succ n ih =>
      intro Z t
      obtain ⟨qs, h1, h2, h3⟩ := t
      by_cases hb : Z = P
      · rw [hb] at h1 ⊢
        rw [hP] at h1
        cases h1
        refine ⟨_, atP, by rw [eL]; exact TriplesOk_snoc _ _ _ _ ht, fun p' cv hcv => ?_⟩
        rw [eL] at hcv
        rcases among_snoc _ ht hcv with z | z
        · obtain ⟨c0, P0, q1, q2, q3⟩ := h3 p' cv z
          exact ⟨c0, P0, q1, obj _ _ q2 cdO_ne, ih _ q3⟩
        · exact ⟨c', P', z, atc, tb_empty atp n⟩
      · refine ⟨qs, at_ Z _ h1 hb, h2, fun p' cv hcv => ?_⟩
        obtain ⟨c0, P0, q1, q2, q3⟩ := h3 p' cv hcv
        exact ⟨c0, P0, q1, obj _ _ q2 cdO_ne, ih _ q3⟩
section
variable {X : Cx} {pins : List (Addr × Obj)} {σ : L2.St} {H : Hp} {s : Shared}
theorem inv_grown {P c' P' : Addr} {ps qs : Array Value} {more : Array Value} {h' : Heap} {t' : Nat} (I : Inv X pins σ H s) (hP : H P = some (.tbl ps)) (hq : qs = ps ++ more) (k : ∀ b o, b ≠ P → s.heap.get? b = some o → h'.get? b = some o)
    (hm : h'.get? P = some { cls := .none, data := .fields qs }) (hc : s.heap.objs.size ≤ c') (hp : s.heap.objs.size ≤ P') (hcp : c' ≠ P') (hcd : PySem.W.CodeHd h' c' P') (hpt : h'.get? P' = some { cls := .none, data := .fields #[] }) :
    Inv X pins σ (grown H P qs c' P') { s with heap := h', toks := t' } := by
  have nC : H c' = none := I.hok.fresh hc
  have nP' : H P' = none := I.hok.fresh hp
  have at_ : ∀ b, b ≠ P → b ≠ c' → b ≠ P' → grown H P qs c' P' b = H b := fun b h1 h2 h3 => by
    unfold grown
    rw [upd_ne h3, upd_ne h2, upd_ne h1]
  have atP : grown H P qs c' P' P = some (.tbl qs) := by
    unfold grown
    rw [upd_ne (ne_of_none hP nP'), upd_ne (ne_of_none hP nC), upd_same]
  have atc : grown H P qs c' P' c' = some (CdO c' P') := by
    unfold grown
    rw [upd_ne hcp, upd_same]
  have atp : grown H P qs c' P' P' = some (.tbl #[]) := by
    unfold grown
    rw [upd_same]
  have nN : ∀ b, H b = none → b ≠ P := fun b e z => by
    rw [z, hP] at e
    cases e
  have nT : ∀ b u, H b = some u → (∀ q, u ≠ .tbl q) → b ≠ P := fun b u e q z => by
    rw [z, hP] at e
    exact q ps (Option.some.inj e).symm
  have old : ∀ b o, s.heap.get? b = some o → b ≠ c' ∧ b ≠ P' := fun b o e => ⟨fun z => by
    rw [z] at e
    exact Nat.lt_irrefl _ (Nat.lt_of_lt_of_le (Heap.lt_size e) hc), fun z => by
    rw [z] at e
    exact Nat.lt_irrefl _ (Nat.lt_of_lt_of_le (Heap.lt_size e) hp)⟩
  have keepT : ∀ b u, H b = some u → (∀ q, u ≠ .tbl q) → grown H P qs c' P' b = some u := fun b u e q => by
    rw [at_ b (nT b u e q) (ne_of_none e nC) (ne_of_none e nP')]
    exact e
  refine I.step (g' := s.gens) (d' := s.drawn) (ch := []) (fun b hb => absurd hb (by simp)) (fun b o _ _ _ e n => k b o (nN b n) e) (fun b o _ _ _ e n => ⟨o.slots, k b o (nN b n) e⟩)
    (fun b o _ e n => by rw [at_ b (nN b n) (old b o e).1 (old b o e).2]; exact n) (fun b o _ e => ?_) (fun b xs e => keepT b _ e fun q z => by cases z) (fun b o u e => keepT b _ e fun q z => by cases z) (fun b rs e => ?_) (fun m hn => ?_) (fun b u e => ?_) I.bare
  · by_cases hb : b = P
    · rw [hb]
      exact ⟨_, hm⟩
    · exact ⟨o, k b o hb e⟩
  · by_cases hb : b = P
    · rw [hb, hP] at e
      cases e
      rw [hb, atP, hq]
      exact ⟨more, rfl⟩
    · rw [at_ b hb (ne_of_none e nC) (ne_of_none e nP'), e]
      exact ⟨#[], by simp⟩
  · obtain ⟨ob, es, ep, ho, r⟩ := hn
    exact ⟨ob, es, ep, k _ ob (nN _ I.free) ho, r⟩
  · by_cases hb : b = c'
    · rw [hb, atc] at e
      cases e
      rw [hb]
      obtain ⟨o, rest⟩ := id hcd
      obtain ⟨_, _, _, _, _, _, _, _, e1, _⟩ := rest
      exact ⟨hcd, ⟨o, e1⟩, fun h1 h2 ⟨o, vs, file, tf, flags, tg, inF, text, tt, a, r⟩ st => ⟨o, vs, file, tf, flags, tg, inF, text, tt, st _ a, r⟩⟩
    · by_cases hb2 : b = P'
      · rw [hb2, atp] at e
        cases e
        rw [hb2]
        exact hpt
      · by_cases hb3 : b = P
        · rw [hb3, atP] at e
          cases e
          rw [hb3]
          exact hm
        · rw [at_ b hb3 hb hb2] at e
          refine (I.hok b u e).stay (fun d v hd q => k d v ?_ q) (fun d q => keepT d _ q fun q z => by cases z) fun d xs q => keepT d _ q fun q z => by cases z
          rcases hd with z | z
          · rw [z]
            exact hb3
          · exact nT d _ z (fun q z => by cases z)
end


/-! ### the frame of a generator expression -/
abbrev gEnv (X : Cx) (scope : Scope) (C : Addr) (code : Value) : Env := genEnv scope (cloFrom X.env.cells scope.names []) C code builtinsNs X.env
abbrev gCx (X : Cx) (A : Around) (s : Shared) (H : Hp) (cenv : Env) (fp : List Addr) : Cx :=
  { X with A := A, s_0 := s, H_0 := H, env := cenv, outer := X.stack, stack := cenv :: X.stack, ex := fp, fn := fun _ => false, calm := true, pn := [], xe := fun _ _ => False }
section
variable {X : Cx} {pins : List (Addr × Obj)} {σ : L2.St} {H : Hp} {s : Shared}
theorem gen_start {A : Around} {scope : Scope} {own : List (Str × Nat)} {fp : List Addr} {code : Value} {go : Obj} {a : Addr} {s5 : Shared} {m0 : Str → Option Value} (I : Inv X pins σ H s) (ok : BlkOk X.N X.env.scope scope own) (hN : X.N.Nodup)
    (hfp : ∀ b ∈ fp, FpOk X pins H b ∧ b < s.heap.objs.size) (hcell : ∀ y ∈ scope.names, y.2 ≠ .cell) (hh : A.handled = none) (hfr : A.frames = some X.stack)
    (ho : s5.os = s.os) (hb : AllBare s5.gens) (hns : s5.heap.Ns s.heap.objs.size m0) (kp : ∀ b o, s.heap.get? b = some o → s5.heap.get? b = some o) (hga : s5.heap.get? a = some go) (ha : s.heap.objs.size < a) (hgc : ∀ v, go.data ≠ .cell v) :
    Inv (gCx X (A.deeper (gEnv X scope s.heap.objs.size code)) s H (gEnv X scope s.heap.objs.size code) fp) [(a, go)] (wipe σ (own.map (·.2))) H s5 := by
  have hfree : ∀ y ∈ scope.names, y.2 = .free → ∃ c, X.env.cells.lookup y.1 = some c := fun y hy e => by
    rcases ok.free y hy e with k | k
    · exact I.ok.has _ (.inl k)
    · exact I.ok.has _ (.inr k)
  have cm : ∀ {y c}, (cloFrom X.env.cells scope.names []).lookup y = some c → X.env.cells.lookup y = some c ∧ scope.names.lookup y = some .free := fun {y c} e => by
    rcases cloFrom_mem (PySem.mem_of_lookup e) with hm | ⟨h1, h2⟩
    · cases hm
    · obtain ⟨c1, hc⟩ := hfree _ h1 rfl
      have hc : X.env.cells.lookup y = some c1 := hc
      have e2 : c = c1 := by
        rw [h2, hc] <;> rfl
      rw [e2]
      exact ⟨hc, ok.uniq _ h1⟩
  have look : ∀ {y}, scope.names.lookup y = some .free → ∃ c, (cloFrom X.env.cells scope.names []).lookup y = some c ∧ X.env.cells.lookup y = some c := fun {y} hl => by
    have hy : (y, NameKind.free) ∈ scope.names := PySem.mem_of_lookup hl
    obtain ⟨c, hc⟩ := mem_lookup (cloFrom_has (cells := X.env.cells) (acc := []) hy)
    exact ⟨c, hc, (cm hc).1⟩
  have lt : ∀ {y c}, (cloFrom X.env.cells scope.names []).lookup y = some c → c < s.heap.objs.size := fun {y c} e => by
    obtain ⟨w, z⟩ := I.cell _ _ (cm e).1
    exact z.lt
  have hL : H s.heap.objs.size = none := I.hok.fresh (Nat.le_refl _)
  have szL : X.s_0.heap.objs.size ≤ s.heap.objs.size := I.sz
  refine ⟨⟨I.ok.mod, ok.kind, I.ok.glob, rfl, Nat.le_refl _, fun y z c e1 e2 => I.ok.inj y z c (cm e1).1 (cm e2).1, fun y hy => ?_, fun y c z e => (by cases z), fun _ => hh, ?_, .inr ⟨rfl, rfl⟩, fun b hb => ⟨Nat.ne_of_lt (hfp b hb).2, fun y c e => (hfp b hb).1.2.2.2.2.1 y c (cm e).1⟩,
    I.bs, Nat.le_trans I.ok.bsz I.sz, fun b o e hb => ?_, fun b hb z => ?_, I.stack, I.stkFree⟩, ho, hb, Un.kept kp, ⟨m0, hns, fun i y v e1 e2 e3 => ?_⟩, fun y c e => ?_, hL, fun y c e => I.freeC y c (cm e).1, fun p hp => ?_, I.hok.kept kp, by rw [wipe_length]; exact I.len⟩
  · have key : ∀ k, scope.names.lookup y = some k → (k = .cell ∨ k = .free) → ∃ c, (cloFrom X.env.cells scope.names []).lookup y = some c := fun k hk hk' => by
      rcases hk' with e | e
      · rw [e] at hk
        exact absurd rfl (hcell _ (PySem.mem_of_lookup hk))
      · rw [e] at hk
        obtain ⟨c, h1, _⟩ := look hk
        exact ⟨c, h1⟩
    rcases hy with hy | hy
    · exact key _ hy (.inl rfl)
    · exact key _ hy (.inr rfl)
  · exact Around.frames_deeper hfr
  · rcases (hfp b hb).1.2.2.2.1 with z | z
    · exact I.ok.noex b o e z
    · exact absurd (Nat.lt_of_lt_of_le (Heap.lt_size e) (Nat.le_trans I.ok.bsz z)) (Nat.lt_irrefl _)
  · rcases List.mem_cons.mp (I.stkSub b z) with z | z
    · exact (hfp b hb).1.2.1 z
    · exact (hfp b hb).1.2.2.1 z
  · obtain ⟨e2, hne⟩ := wipe_some e2
    have hfr : scope.names.lookup y = some .free := by
      have no : ∀ k', scope.names.lookup y = some k' → (k' = .local ∨ k' = .cell) → False := fun k' e hk => by
        rcases ok.own _ (PySem.mem_of_lookup e) hk with e' | e'
        · obtain ⟨p, hp, hpy⟩ := List.mem_map.mp e'
          have e3 := ok.ix p hp
          have : p.1 = y := hpy
          rw [this] at e3
          exact hne (List.mem_map.mpr ⟨p, hp, nodup_ix hN e3 e1⟩)
        · exact e' (List.mem_of_getElem? e1)
      have e3 : Vis scope y := e3
      rcases e3 with e3 | e3 | e3
      · exact (no _ e3 (.inl rfl)).elim
      · exact (no _ e3 (.inr rfl)).elim
      · exact e3
    obtain ⟨m, hn, hl⟩ := I.loc
    have hfr2 := ok.free _ (PySem.mem_of_lookup hfr) rfl
    have hvis : Vis X.env.scope y := hfr2.elim (fun k => .inr (.inl k)) (fun k => .inr (.inr k))
    obtain ⟨w, r, q⟩ := hl i y v e1 e2 hvis
    refine ⟨w, r, .inr ⟨.inr hfr, ?_⟩⟩
    obtain ⟨c, h1, h2⟩ := look hfr
    rcases q with ⟨k, _⟩ | ⟨_, c', e', z⟩
    · have k : X.env.scope.names.lookup y = some .local := k
      rcases hfr2 with k' | k' <;> rw [show X.env.scope.names.lookup y = _ from k'] at k <;> cases k
    · rw [h2] at e'
      cases e'
      exact ⟨c, h1, z.keeps kp⟩
  · obtain ⟨w, z⟩ := I.cell y c (cm e).1
    exact ⟨w, z.keeps kp⟩
  · have e : p = (a, go) := by simpa using hp
    subst e
    refine ⟨hga, I.hok.fresh (Nat.le_of_lt ha), Nat.ne_of_gt ha, fun hm => ?_, hgc⟩
    rcases List.mem_cons.mp (I.stkSub _ hm) with z | z
    · have h1 := I.lt
      have z' : a = X.env.locals := z
      rw [← z'] at h1
      exact Nat.lt_irrefl _ (Nat.lt_trans ha h1)
    · exact I.nofs (Nat.le_of_lt ha) z
end


/-! ### its run -/
theorem over_comp {A : Around} {elt target iter : Expr} {ifs : List Expr} {scope : Scope} {pos : Pos} {it acc : Value} {env : Env} :
    A.over (.compLoop (.GeneratorExp elt [⟨target, iter, ifs, 0⟩] scope pos) 0 it acc env) [] = A.deeper env := by
  first
    | rfl
    | (obtain ⟨hd, d, fr, gs, u⟩ := A; simp [Around.over, Around.deeper, marksOver, frameCount, unitsOf, envsOf, guardsOf, pushEnvs, pushGuards, Code.envs, Code.env?, Code.isFrame, Code.guards, Code.isGuard, Code.weight, Code.frames, Code.isCreation, Code.isCaller, Code.cUnits])
theorem over_compS {A : Around} {elt target iter : Expr} {ifs : List Expr} {scope : Scope} {pos : Pos} {it acc : Value} {env : Env} :
    A.over (.compStart (.GeneratorExp elt [⟨target, iter, ifs, 0⟩] scope pos) 0 it acc env) [] = A.deeper env := by
  first
    | rfl
    | (obtain ⟨hd, d, fr, gs, u⟩ := A; simp [Around.over, Around.deeper, marksOver, frameCount, unitsOf, envsOf, guardsOf, pushEnvs, pushGuards, Code.envs, Code.env?, Code.isFrame, Code.guards, Code.isGuard, Code.weight, Code.frames, Code.isCreation, Code.isCaller, Code.cUnits])

/-- the element is read: stop: all are through; an item ends it (fin) or the walk goes on -/
def tTurns (J : It) (g : TG) (te : TE) (vs : List Nat) (fin : Bool) (σ : L2.St) (Q : VK) (W : Nat → Nat → Hp → Prop) : Prop := ∀ i m H, W i m H →
  (J.stop i H ∧ Q (.bl (!fin)) H) ∨ (J.go i H ∧ ∀ x H', J.yld i H x H' → g x (wipe σ vs) H' fun σ2 H3 => wipe σ2 vs = wipe σ vs ∧ te σ2 H3 fun y H4 => ∃ b, y = .bl b ∧ if b = fin then Q (.bl fin) H4 else ∃ m', m' < m ∧ W (i + 1) m' H4)

section
variable {X Y : Cx} {own : List (Str × Nat)} {fp : List Addr} {tn : Nat → Heap → Prop} {W : Nat → Nat → Hp → Prop} {σ : L2.St} {Q : VK} {fin : Bool} {a g : Nat} {go : Obj}
/-- between two items -/
def GInv (Y : Cx) (go : Obj) (a g : Nat) (fp : List Addr) (tn : Nat → Heap → Prop) (W : Nat → Nat → Hp → Prop) (σ : L2.St) (i m : Nat) (s : Shared) : Prop :=
  ∃ H, Inv Y [(a, go)] σ H s ∧ tn i s.heap ∧ (∀ b ∈ fp, H b = none) ∧ W i m H ∧ g < s.gens.size
/-- the end, the answer b -/
def GEnd (Y : Cx) (go : Obj) (a g : Nat) (Q : VK) (b : Bool) (s : Shared) : Prop := ∃ σ' H, Inv Y [(a, go)] σ' H s ∧ Q (.bl b) H ∧ g < s.gens.size
theorem GInv.gens {i m : Nat} {s : Shared} {G : Array GenState} (h : GInv Y go a g fp tn W σ i m s) (hb : AllBare G) (hg : g < G.size) : GInv Y go a g fp tn W σ i m { s with gens := G } := by
  obtain ⟨H, I, h1, h2, h3, _⟩ := h
  exact ⟨H, I.call (h' := s.heap) (g' := G) (t' := s.toks) (d' := s.drawn) (ch := []) Un.refl I.hok hb fun b z => absurd z (by simp), h1, h2, h3, hg⟩
theorem GEnd.gens {b : Bool} {s : Shared} {G : Array GenState} {h' : Heap} (h : GEnd Y go a g Q b s) (hb : AllBare G) (hg : g < G.size) (k : ∀ b o, s.heap.get? b = some o → h'.get? b = some o) : GEnd Y go a g Q b { s with gens := G, heap := h' } := by
  obtain ⟨σ', H, I, q, _⟩ := h
  exact ⟨σ', H, I.call (h' := h') (g' := G) (t' := s.toks) (d' := s.drawn) (ch := []) (Un.kept k) (I.hok.kept k) hb (fun b z => absurd z (by simp)), q, hg⟩
theorem bare_set {s : Shared} {x : GenState} (h : AllBare s.gens) (hx : x.bare = true) : AllBare (s.setGen g x).gens := by
  intro y hy
  have hy : y ∈ s.gens.setIfInBounds g x := hy
  rcases Array.mem_or_eq_of_mem_setIfInBounds hy with h1 | h1
  · exact h y h1
  · rw [h1]
    exact hx
def YG (Y : Cx) (go : Obj) (a g : Nat) (fp : List Addr) (tn : Nat → Heap → Prop) (W : Nat → Nat → Hp → Prop) (σ : L2.St) (Q : VK) (fin : Bool) : Protocol := fun n s₀ v s kap =>
  ∃ b, v = .bool b ∧ if b = fin then GEnd Y go a g Q fin s else ∃ i m, m < n ∧ GInv Y go a g fp tn W σ i m s ∧ ∀ s'', GInv Y go a g fp tn W σ i m s'' → kap (.send .none) s''
def RG (Y : Cx) (go : Obj) (a g : Nat) (Q : VK) (fin : Bool) : GenEnd := fun n s₀ r s => r = .ok .next ∧ GEnd Y go a g Q (!fin) s
end


section
variable {Y : Cx} {fp : List Addr} {tn : Nat → Heap → Prop} {W : Nat → Nat → Hp → Prop} {σ : L2.St} {Q : VK} {fin : Bool} {a g : Nat} {go : Obj} {A : Around} {elt tg iter : Expr} {scope : Scope} {pos : Pos} {it : Addr} {J : It} {gt : TG} {te : TE} {vs : List Nat}
theorem seg_turns (hA : A.deeper Y.env = Y.A) (hx : Y.xe = fun _ _ => False) (hex : Y.ex = fp) (hpn : Y.pn = []) (hab : ∀ b ∈ fp, a ≠ b) (hc : Y.calm = true) (hco : Y.env.scope.isCoroutine = false)
    (T : Turn Y.prog Y.w Y.K tg J fp it tn) (pg : PG Y tg gt) (pe : PE Y elt te) (turn : tTurns J gt te vs fin σ Q W) :
    ∀ (n i m : Nat) (s s₀ : Shared), m < n + 1 → GInv Y go a g fp tn W (wipe σ vs) i m s →
      Seg (model Y.prog Y.w) A (RG Y go a g Q fin) (YG Y go a g fp tn W (wipe σ vs) Q fin) (n + 1) s₀ (.compLoop (.GeneratorExp elt [⟨tg, iter, [], 0⟩] scope pos) 0 (.ref it) .none Y.env)
        ((model Y.prog Y.w).den (.compLoop (.GeneratorExp elt [⟨tg, iter, [], 0⟩] scope pos) 0 (.ref it) .none Y.env)) [] s := by
  have stat : ∀ {σ' : L2.St} {H' : Hp} {s' : Shared}, Inv Y [(a, go)] σ' H' s' → (∀ b ∈ fp, H' b = none) → ∀ b ∈ fp, FpOk Y [(a, go)] H' b := fun {σ' H' s'} I' hn b hb => by
    have hb' : b ∈ Y.ex := by rw [hex]; exact hb
    refine ⟨hn b hb, (I'.ok.exf b hb').1, I'.ok.exfs b hb', .inl hb', fun x c e => (I'.ok.exf b hb').2 x c e, fun p hp => ?_⟩
    rw [hpn] at hp
    have e : p = (a, go) := by simpa using hp
    subst e
    exact hab b hb
  have main : ∀ n, (∀ (i m : Nat) (s s₀ : Shared), m < n → GInv Y go a g fp tn W (wipe σ vs) i m s →
      Seg (model Y.prog Y.w) A (RG Y go a g Q fin) (YG Y go a g fp tn W (wipe σ vs) Q fin) n s₀ (.compLoop (.GeneratorExp elt [⟨tg, iter, [], 0⟩] scope pos) 0 (.ref it) .none Y.env)
        ((model Y.prog Y.w).den (.compLoop (.GeneratorExp elt [⟨tg, iter, [], 0⟩] scope pos) 0 (.ref it) .none Y.env)) [] s) →
      ∀ (i m : Nat) (s s₀ : Shared), m < n + 1 → GInv Y go a g fp tn W (wipe σ vs) i m s →
      Seg (model Y.prog Y.w) A (RG Y go a g Q fin) (YG Y go a g fp tn W (wipe σ vs) Q fin) (n + 1) s₀ (.compLoop (.GeneratorExp elt [⟨tg, iter, [], 0⟩] scope pos) 0 (.ref it) .none Y.env)
        ((model Y.prog Y.w).den (.compLoop (.GeneratorExp elt [⟨tg, iter, [], 0⟩] scope pos) 0 (.ref it) .none Y.env)) [] s := by
    intro n ih i m s s₀ hm ⟨H, I, st, nf, w, hg⟩
    show Seg _ A _ _ _ s₀ _ ((compTurn (.GeneratorExp elt [⟨tg, iter, [], 0⟩] scope pos) 0 (.ref it) .none Y.env).onRaise (leaving Y.env)) [] s
    rw [compTurn_gen, Sem.onRaise_eq_wrap]
    refine seg_bind_wrap (wpAny_standAt ?_)
    rcases turn i m H w with ⟨stop, q⟩ | ⟨go', step⟩
    · refine seg_bind_wrap ?_
      rw [over_comp, hA]
      refine GenW.wpAny_gsz (n := g + 1) hg (wpAny_mono (T.done Y rfl rfl rfl hc i _ s _ H (fun _ _ => False) I (stat I nf) st stop) (fun r s1 ⟨hr, I1⟩ hg1 => ?_) (fun _ _ z => z.elim))
      subst hr
      exact seg_end (.ok .next) ⟨rfl, _, H, I1, q, hg1⟩
    · refine seg_bind_wrap ?_
      rw [over_comp, hA]
      refine GenW.wpAny_gsz (n := g + 1) hg (wpAny_mono (T.item Y rfl rfl rfl hc i _ s _ H (fun _ _ => False) I (stat I nf) st go') (fun r s1 ⟨u, hr, h1⟩ hg1 => ?_) (fun _ _ z => z.elim))
      subst hr
      refine seg_bind_wrap ?_
      rw [over_comp, hA]
      refine GenW.wpAny_gsz (n := g + 1) hg1 (wpAny_mono h1 (fun _ s2 ⟨x, H2, I2, r2, y2, st2, nf2⟩ hg2 => ?_) (fun _ _ z => z.elim))
      have I2' := I2.pinned (stat I2 nf2) (T.obj _ _ st2)
      refine seg_bind_wrap ?_
      rw [over_comp, hA]
      have hp := pg.run _ s2 _ H2 x u _ I2' r2 (step x H2 y2)
      rw [hx] at hp
      refine GenW.wpAny_gsz (n := g + 1) hg2 (wpAny_mono hp (fun _ s3 ⟨σ3, H3, I3, hw3, q3⟩ hg3 => ?_) (fun _ _ z => z.elim))
      refine seg_bind_wrap (wpAny_tests_nil ?_)
      simp only [if_true]
      have hy : ∀ v, yieldOut Y.env v = yieldValue v := fun v => by simp only [yieldOut, hco, Bool.false_eq_true, if_false]
      simp only [hy]
      rw [Sem.bind_eq_wrap', Sem.bind_eq_wrap', Sem.wrap_wrap, Sem.wrap_wrap]
      refine seg_wrap ?_
      rw [over_comp, hA]
      have he := pe.run _ s3 σ3 H3 _ I3 q3
      rw [hx] at he
      refine GenW.wpAny_gsz (n := g + 1) hg3 (wpAny_mono he (fun v s4 ⟨y, H4, I4, r4, b, eb, q4⟩ hg4 => ?_) (fun _ _ z => z.elim))
      subst eb
      cases r4
      refine seg_at (seg_yield rfl rfl rfl ⟨b, rfl, ?_⟩)
      by_cases hb : b = fin
      · rw [if_pos hb] at q4 ⊢
        refine ⟨σ3, H4, I4.pins_of fun p hp => ?_, q4, hg4⟩
        rcases List.mem_cons.mp hp with z | z
        · rw [z]
          exact I4.pin (a, go) (List.mem_append_right _ List.mem_cons_self)
        · cases z
      · rw [if_neg hb] at q4 ⊢
        obtain ⟨m', hm', w'⟩ := q4
        have pin' : ∀ b ∈ fp, ∀ o, s2.heap.get? b = some o → s4.heap.get? b = some o ∧ H4 b = none := fun b hb o e =>
          let z := I4.pin (b, o) (List.mem_append_right _ (List.mem_append_right _ (mem_pinsAt hb e)))
          ⟨z.1, z.2.1⟩
        have hl : (wipe σ vs).length = σ3.length := by rw [← hw3, wipe_length]
        have G4 : GInv Y go a g fp tn W (wipe σ vs) (i + 1) m' s4 := by
          refine ⟨H4, (I4.unpinned).weak hl (fun j v e => ?_), T.keep _ _ _ st2 fun b hb o e => (pin' b hb o e).1, fun b hb => ?_, w', hg4⟩
          · rw [← hw3] at e
            exact (wipe_some e).1
          · obtain ⟨o, e, _⟩ := T.obj _ _ st2 b hb
            exact (pin' b hb o e).2
        refine ⟨i + 1, m', by omega, G4, fun s'' G' => ?_⟩
        exact seg_again rfl (ih (i + 1) m' s'' s'' (by omega) G')
  intro n
  induction n with
  | zero => exact main 0 fun i m s s₀ hm => absurd hm (Nat.not_lt_zero m)
  | succ n ih => exact main (n + 1) ih
end


section
variable {Y : Cx} {fp : List Addr} {tn : Nat → Heap → Prop} {W : Nat → Nat → Hp → Prop} {σ : L2.St} {Q : VK} {fin : Bool} {a g : Nat} {go : Obj} {A : Around} {elt tg iter : Expr} {scope : Scope} {pos : Pos} {it : Addr} {J : It} {gt : TG} {te : TE} {vs : List Nat}
theorem seg_start (hA : A.deeper Y.env = Y.A) (hx : Y.xe = fun _ _ => False) (hex : Y.ex = fp) (hpn : Y.pn = []) (hab : ∀ b ∈ fp, a ≠ b) (hc : Y.calm = true) (hco : Y.env.scope.isCoroutine = false)
    (T : Turn Y.prog Y.w Y.K tg J fp it tn) (pg : PG Y tg gt) (pe : PE Y elt te) (turn : tTurns J gt te vs fin σ Q W) (n m : Nat) (s s₀ : Shared) (hm : m < n + 1) (G : GInv Y go a g fp tn W (wipe σ vs) 0 m s) :
      Seg (model Y.prog Y.w) A (RG Y go a g Q fin) (YG Y go a g fp tn W (wipe σ vs) Q fin) (n + 1) s₀ (.compStart (.GeneratorExp elt [⟨tg, iter, [], 0⟩] scope pos) 0 (.ref it) .none Y.env)
        ((model Y.prog Y.w).den (.compStart (.GeneratorExp elt [⟨tg, iter, [], 0⟩] scope pos) 0 (.ref it) .none Y.env)) [] s := by
  have loop := seg_turns (iter := iter) (scope := scope) (pos := pos) (go := go) (a := a) (g := g) hA hx hex hpn hab hc hco T pg pe turn n 0 m s s₀ hm G
  obtain ⟨H, I, st, nf, w, hg⟩ := G
  show Seg _ A _ _ _ s₀ _ ((compStart (.GeneratorExp elt [⟨tg, iter, [], 0⟩] scope pos) 0 (.ref it) .none Y.env).onRaise (leaving Y.env)) [] s
  unfold compStart
  rw [Sem.onRaise_eq_wrap]
  show Seg _ A _ _ _ s₀ _ ((ask >>= _).wrap _ _ _ _) [] s
  refine seg_bind_wrap (wpAny_askSetting ?_)
  split
  · exact seg_again rfl loop
  · first
      | exact seg_bind_wrap (wpAny_rule (seg_bind_wrap (wpAny_standAt (seg_bind_wrap (T.self _ 0 s _ _ st (seg_again rfl loop))))))
      | (refine seg_bind_wrap (wpAny_rule ?_)
         show Seg _ A _ _ _ s₀ _ ((standAt iter.pos >>= _).wrap _ _ _ _) [] s
         exact seg_bind_wrap (wpAny_standAt (seg_bind_wrap (T.self _ 0 s _ _ st (seg_again rfl loop)))))

/-- the generator asleep, woken to go on from any state that holds the word; k: the items that it may still give -/
def Ready (Y : Cx) (A : Around) (go : Obj) (a g : Nat) (fp : List Addr) (tn : Nat → Heap → Prop) (W : Nat → Nat → Hp → Prop) (σ : L2.St) (Q : VK) (fin : Bool) (k : Nat) (s : Shared) : Prop :=
  ∃ i m, GInv Y go a g fp tn W σ i m s ∧ ∃ gs, s.gens[g]? = some gs ∧ ∀ s'', GInv Y go a g fp tn W σ i m s'' → gs.Goes (model Y.prog Y.w) A (RG Y go a g Q fin) (YG Y go a g fp tn W σ Q fin) (k + 1) (.send .none) s''
/-- what next(g) gives -/
def Nxt (Y : Cx) (A : Around) (go : Obj) (a g : Nat) (fp : List Addr) (tn : Nat → Heap → Prop) (W : Nat → Nat → Hp → Prop) (σ : L2.St) (Q : VK) (fin : Bool) (k : Nat) (r : Option Value) (s : Shared) : Prop :=
  match r with
  | none => GEnd Y go a g Q (!fin) s
  | some v => ∃ b, v = .bool b ∧ if b = fin then GEnd Y go a g Q fin s else ∃ k', k' < k ∧ Ready Y A go a g fp tn W σ Q fin k' s
theorem ginv_at {i m : Nat} {s : Shared} (G : GInv Y go a g fp tn W σ i m s) : s.heap.get? a = some go ∧ s.heap.NoLimit := by
  obtain ⟨H, I, _⟩ := G
  exact ⟨(I.pin (a, go) (List.mem_append_right _ List.mem_cons_self)).1, I.nolimit⟩
theorem set_size {s : Shared} {x : GenState} : (s.setGen g x).gens.size = s.gens.size := by simp [Shared.setGen]
/-- next(g): around it A0, the generator's own code one deeper -/
theorem next_gen {A0 : Around} {k : Nat} {s : Shared} {E : Value → Shared → Prop} {nm qn : Value} (hh : A0.handled = none) (hroom : A0.depth < recursionLimit) (hgo : go.cls = .type "generator" ∧ go.data = .fields #[.int g 0, nm, qn] ∧ go.slots = #[])
    (R : Ready Y A0.in1 go a g fp tn W σ Q fin k s) : wpAny (model Y.prog Y.w) A0 (pyNext (.ref a)) (Nxt Y A0.in1 go a g fp tn W σ Q fin k) E s := by
  obtain ⟨i, m, G, gs, hgs, hgoes⟩ := R
  obtain ⟨hat, lim⟩ := ginv_at G
  have isg : s.heap.IsGen a g := ⟨go, nm, qn, hat, hgo.1, hgo.2.1, hgo.2.2⟩
  have hgl : g < s.gens.size := by
    obtain ⟨_, _, _, _, _, h⟩ := G
    exact h
  have hbare : AllBare s.gens := by
    obtain ⟨_, I, _⟩ := G
    exact I.bare
  refine wpAny_pyNext_genexpQ (P := fun n s₀ s₁ => GEnd Y go a g Q (!fin) s₁) hh lim hroom isg hgs (hgoes (s.setGen g .running) ?_) (fun v s₁ gs' hb hv => ?_) fun s₁ hp h' hk => ?_
  · exact G.gens (bare_set hbare rfl) (by simpa using hgl)
  · obtain ⟨b, rfl, hv⟩ := hv
    refine ⟨b, rfl, ?_⟩
    by_cases hf : b = fin
    · rw [if_pos hf] at hv ⊢
      obtain ⟨σ', H, I, q, hg1⟩ := id hv
      exact hv.gens (bare_set I.bare hb) (by simpa using hg1) fun _ _ e => e
    · rw [if_neg hf] at hv ⊢
      obtain ⟨i', m', hm, G', hkap⟩ := hv
      have hk0 : k + 1 - 1 = k := rfl
      rw [hk0] at hm
      obtain ⟨k', rfl⟩ : ∃ k', k = k' + 1 := ⟨k - 1, by omega⟩
      have hg1 : g < s₁.gens.size := by
        obtain ⟨_, _, _, _, _, h⟩ := G'
        exact h
      have hb1 : AllBare s₁.gens := by
        obtain ⟨_, I, _⟩ := G'
        exact I.bare
      refine ⟨k', Nat.lt_succ_self _, i', m', G'.gens (bare_set hb1 hb) (by simpa using hg1), gs', ?_, hkap⟩
      simp [Shared.setGen, hg1]
  · obtain ⟨σ', H, I, q, hg1⟩ := id hp
    exact hp.gens (bare_set I.bare rfl) (by simpa [Shared.setGen] using hg1) hk

/-- all(g) from its loop on -/
theorem all_loop {A0 : Around} {R : Result → Shared → Prop} {nm qn : Value} (hh : A0.handled = none) (hroom : A0.depth < recursionLimit) (hgo : go.cls = .type "generator" ∧ go.data = .fields #[.int g 0, nm, qn] ∧ go.slots = #[])
    (hR : ∀ b s', GEnd Y go a g Q b s' → R (.ok (.ret (.bool b))) s') : ∀ (k : Nat) (s : Shared), Ready Y A0.in1.in1 go a g fp tn W σ Q false k s → codeAny (model Y.prog Y.w) A0 (.builtin "all.loop" ⟨[.ref a], []⟩) R s := by
  intro k
  induction k using Nat.strongRecOn with
  | ind k ih =>
    intro s hs
    refine codeAny_builtin F.entry_all_loop ?_
    rw [Around.under_plainId F.plain_all_loop _]
    show wpAny _ A0.in1 (pyNext (.ref a) >>= _) _ _ s
    refine wpAny_bind (wpAny_mono (next_gen (A0 := A0.in1) (E := fun e s' => R (.error e) s') hh hroom hgo hs) (fun r s1 h1 => ?_) fun _ _ e => e)
    cases r with
    | none => exact wpAny_bind (wpAny_rule (wpAny_pure (hR _ _ h1)))
    | some v =>
      obtain ⟨b, rfl, h1⟩ := h1
      refine wpAny_bind (wpAny_holding (wpAny_truthy_bool ?_))
      refine wpAny_bind (wpAny_letGo ?_)
      cases b with
      | true =>
        obtain ⟨k', hk, h1⟩ := h1
        exact wpAny_pure ⟨plainId_quiet F.plain_all_loop _, ih k' hk _ h1⟩
      | false => exact wpAny_bind (wpAny_rule (wpAny_pure (hR _ _ h1)))
theorem any_loop {A0 : Around} {R : Result → Shared → Prop} {nm qn : Value} (hh : A0.handled = none) (hroom : A0.depth < recursionLimit) (hgo : go.cls = .type "generator" ∧ go.data = .fields #[.int g 0, nm, qn] ∧ go.slots = #[])
    (hR : ∀ b s', GEnd Y go a g Q b s' → R (.ok (.ret (.bool b))) s') : ∀ (k : Nat) (s : Shared), Ready Y A0.in1.in1 go a g fp tn W σ Q true k s → codeAny (model Y.prog Y.w) A0 (.builtin "any.loop" ⟨[.ref a], []⟩) R s := by
  intro k
  induction k using Nat.strongRecOn with
  | ind k ih =>
    intro s hs
    refine codeAny_builtin F.entry_any_loop ?_
    rw [Around.under_plainId F.plain_any_loop _]
    show wpAny _ A0.in1 (pyNext (.ref a) >>= _) _ _ s
    refine wpAny_bind (wpAny_mono (next_gen (A0 := A0.in1) (E := fun e s' => R (.error e) s') hh hroom hgo hs) (fun r s1 h1 => ?_) fun _ _ e => e)
    cases r with
    | none => exact wpAny_bind (wpAny_rule (wpAny_pure (hR _ _ h1)))
    | some v =>
      obtain ⟨b, rfl, h1⟩ := h1
      refine wpAny_bind (wpAny_holding (wpAny_truthy_bool ?_))
      refine wpAny_bind (wpAny_letGo ?_)
      cases b with
      | true => exact wpAny_bind (wpAny_rule (wpAny_pure (hR _ _ h1)))
      | false =>
        obtain ⟨k', hk, h1⟩ := h1
        exact wpAny_pure ⟨plainId_quiet F.plain_any_loop _, ih k' hk _ h1⟩
end

/-! ### the rule -/
/-- the code object at c, its table at P -/
structure BM (base : Heap) (mg : Str → Option Value) : Prop where
  bm : ∃ (b : Addr) (o : Obj), mg "__builtins__" = some (.ref b) ∧ b ≠ builtinsNs ∧ base.get? b = some o ∧ o.cls = .type "module" ∧ o.dict = some builtinsNs ∧ o.data = .plain
def CodeAt (base : Heap) (H : Hp) (c P : Addr) : Prop := PySem.W.CodeHd base c P ∨ H c = some (CdO c P)
section
variable {X : Cx} {pins : List (Addr × Obj)} {σ : L2.St} {H : Hp} {s : Shared}
theorem CodeAt.hd {c P : Addr} (h : CodeAt X.base H c P) (I : Inv X pins σ H s) : PySem.W.CodeHd s.heap c P := by
  rcases h with h | h
  · exact h.keeps I.bk
  · exact (I.hok c _ h).1
/-- the code object of a generator expression: found or made -/
theorem code_ok {n : Nat} {c P : Addr} {gpos : Pos} {qn : Str} {scope : Scope} {E : Value → Shared → Prop} {Qc : Value → Shared → Prop} (I : Inv X pins σ H s) (hcode : X.env.code = .ref c) (hc : CodeAt X.base H c P) (hT : Tb (n + 1) H P)
    (h : ∀ c' P' H' s', Inv X pins σ H' s' → Ext H H' → H' c' = some (CdO c' P') → Tb n H' P' → (∀ b, H b = none → s.heap.objs.size ≤ b ∨ H' b = none) → (∀ b o, b ≠ P → s.heap.get? b = some o → s'.heap.get? b = some o) → s.heap.objs.size ≤ s'.heap.objs.size → Qc (.ref c') s') :
    wpAny (model X.prog X.w) X.A (genexprCode X.env gpos qn scope) Qc E s := by
  obtain ⟨ps, hP, ht, hall⟩ := hT
  have hPs : s.heap.get? P = some { cls := .none, data := .fields ps } := I.hok P _ hP
  have cd := hc.hd I
  cases hf : codeAmong gpos ps.toList with
  | some cv =>
    obtain ⟨c', P', rfl, h1, h2⟩ := hall gpos cv hf
    exact wpAny_genexprCode_hit hcode (cd.code hPs ht) hf (h c' P' H s I (Ext.refl H) h1 h2 (fun b hb => .inr hb) (fun _ _ _ e => e) (Nat.le_refl _))
  | none =>
    refine wpAny_genexprCodeX hcode (cd.code hPs ht) (cd.tab hPs) hf fun c' h' tk hx hge hlt hco' _ htab' hnew => ?_
    obtain ⟨P', hgeP, hcP', htP'⟩ := hnew
    have hcp : c' ≠ P' := by
      obtain ⟨o, vs, file, tf, flags, tg, inF, text, tt, op, _, _, _, _, _, _, _, _, _, _, hne⟩ := id hcP'
      exact hne
    have nC : H c' = none := I.hok.fresh hge
    have nP : H P' = none := I.hok.fresh hgeP
    have hsz : s.heap.objs.size ≤ h'.objs.size := Nat.le_trans hge (Nat.le_of_lt hlt)
    refine h c' P' _ _ (inv_grown (t' := tk) I hP rfl hx htab'.2 hge hgeP hcp (PySem.W.CodeHd.of hcP' htP') htP'.2) (ext_grown hP ht nC nP hcp) ?_ (tb_empty ?_ n) (fun b hb => ?_) hx hsz
    · unfold grown
      rw [upd_ne hcp, upd_same]
    · unfold grown
      rw [upd_same]
    · by_cases e1 : b = c'
      · exact .inl (by rw [e1]; exact hge)
      · by_cases e2 : b = P'
        · exact .inl (by rw [e2]; exact hgeP)
        · refine .inr ?_
          unfold grown
          rw [upd_ne e2, upd_ne e1, upd_ne fun z => by rw [z, hP] at hb; cases hb]
          exact hb

/-- all(elt for tg in iter) (fin: false), any(..) (fin: true) -/
def tGx (base : Heap) (c P : Addr) (n : Nat) (wi : TI) (g : TG) (te : Addr → Addr → TE) (vs : List Nat) (fin : Bool) : TE := fun σ H Q => wi σ H fun J H1 => CodeAt base H1 c P ∧ Tb (n + 1) H1 P ∧
  ∀ c' P' H2, Ext H1 H2 → H2 c' = some (CdO c' P') → Tb n H2 P' → ∃ W : Nat → Nat → Hp → Prop, (∃ m, W 0 m H2) ∧ tTurns J g (te c' P') vs fin σ Q W

theorem gx_make {c P : Addr} {n k : Nat} {elt tg iter : Expr} {scope : Scope} {gpos : Pos} {own : List (Str × Nat)} {wi : TI} {gt : TG} {te : Addr → Addr → TE} {fin : Bool} {Q : VK} {Q' : Value → Shared → Prop}
    (hr : Room (k + 1) X.A) (hc : X.calm = true) (hN : X.N.Nodup) (hco : scope.isCoroutine = false) (hcell : ∀ y ∈ scope.names, y.2 ≠ .cell) (hdot : scope.names.lookup (".0" : Str) = some NameKind.local) (ok : BlkOk X.N X.env.scope scope own)
    (hcode : X.env.code = .ref c) (bm : BM X.base X.mg) (hi : PI X tg iter wi) (hs : ∀ v, genFold iter X.env v = pure v)
    (hg : ∀ (A : Around) (s : Shared) (H : Hp) (C : Addr) (code : Value) (fp : List Addr), PG (gCx X A s H (gEnv X scope C code) fp) tg gt)
    (he : ∀ (A : Around) (s : Shared) (H : Hp) (C c' P' : Addr) (fp : List Addr), Room k A → PE (gCx X A s H (gEnv X scope C (.ref c')) fp) elt (te c' P'))
    (I : Inv X pins σ H s) (h : tGx X.base c P n wi gt te (own.map (·.2)) fin σ H Q)
    (hQ : ∀ (Y : Cx) (a g : Nat) (go : Obj) (nm qn : Value) (fp : List Addr) (tn : Nat → Heap → Prop) (W : Nat → Nat → Hp → Prop) (k' : Nat) (s' : Shared), Y.prog = X.prog → Y.w = X.w → (go.cls = .type "generator" ∧ go.data = .fields #[.int g 0, nm, qn] ∧ go.slots = #[]) →
      s'.heap.get? a = some go → Ready Y X.A.in1.in1 go a g fp tn W (wipe σ (own.map (·.2))) Q fin k' s' → (∀ b s'', GEnd Y go a g Q b s'' → EP X pins σ Q (.bool b) s'') → Q' (.ref a) s') :
    wpAny (model X.prog X.w) X.A (eval (.GeneratorExp elt [⟨tg, iter, [], 0⟩] scope gpos) X.env) Q' X.xe s := by
  have hfree : ∀ y ∈ scope.names, y.2 = .free → ∃ c, X.env.cells.lookup y.1 = some c := fun y hy e => by
    rcases ok.free y hy e with k | k
    · exact I.ok.has _ (.inl k)
    · exact I.ok.has _ (.inr k)
  refine wpAny_GeneratorExp_make hco (closure_ok hfree) hcell hdot ok.kind (by have := hr.dp; omega) ?_ hs
  refine thn (hi.run pins s σ H _ I h) fun xv s1 hx => thn hx fun itv s2 h2 => ?_
  obtain ⟨it, fp, tn, J, H2, e, I2, T, st2, f2, hca, hT, q⟩ := h2
  subst e
  refine ⟨I2.nolimit, ?_⟩
  refine code_ok I2 hcode hca hT fun c' P' H3 s3 I3 ext h3c h3T h3n h3k h3z => ?_
  obtain ⟨b, ob, b1, b2, b3, b4, b5, b6⟩ := bm.bm
  refine wpAny_builtinsFor (m := X.mg) (by rw [I3.ok.glob]; exact I3.mod.glob.keeps I3.bk) b1 b2 (I3.bk _ _ b3) b4 b5 b6 ?_
  intro h' hns' hsb'
  obtain ⟨W, ⟨m0, w0⟩, turns⟩ := q c' P' H3 ext h3c h3T
  have hsz : h'.objs.size = s3.heap.objs.size + 1 := by rw [hsb'.1, Heap.size_push]
  have kp' : ∀ b o, s3.heap.get? b = some o → h'.get? b = some o := fun b o e => hsb'.extBut b o (Nat.ne_of_lt (Heap.lt_size e)) (Heap.get?_push_of_some _ e)
  generalize hgo : ({ cls := .type "generator", data := .fields #[.int s3.gens.size 0, .str "<genexpr>" (s3.toks + 1), .str (X.env.qual ++ "<genexpr>") (s3.toks + 1 + 1)] } : Obj) = go
  have goc : go.cls = .type "generator" ∧ go.data = .fields #[.int s3.gens.size 0, .str "<genexpr>" (s3.toks + 1), .str (X.env.qual ++ "<genexpr>") (s3.toks + 1 + 1)] ∧ go.slots = #[] := by
    rw [← hgo]
    exact ⟨rfl, rfl, rfl⟩
  have atG : (h'.push go).get? h'.objs.size = some go := by
    rw [← hgo]
    exact Heap.get?_push_size _ rfl
  have nP : ∀ b ∈ fp, b ≠ P := fun b hb z => by
    obtain ⟨ps, hP, _⟩ := hT.get
    have e := (f2 b hb).1
    rw [z, hP] at e
    cases e
  have szf : ∀ b ∈ fp, b < s2.heap.objs.size := fun b hb => by
    obtain ⟨o, e, _⟩ := T.obj _ _ st2 b hb
    exact Heap.lt_size e
  have f3 : ∀ b ∈ fp, FpOk X pins H3 b ∧ b < s3.heap.objs.size := fun b hb => by
    refine ⟨⟨?_, (f2 b hb).2⟩, Nat.lt_of_lt_of_le (szf b hb) h3z⟩
    rcases h3n b (f2 b hb).1 with z | z
    · exact absurd (Nat.lt_of_lt_of_le (szf b hb) z) (Nat.lt_irrefl _)
    · exact z
  have st3 : tn 0 (h'.push go) := T.keep _ _ _ st2 fun b hb o e => Heap.get?_push_of_some _ (kp' b o (h3k b o (nP b hb) e))
  have hh : X.A.in1.in1.handled = none := hr.hd
  have hfr : X.A.in1.in1.frames = some X.stack := I3.ok.frames
  generalize hs5 : ({ s3 with gens := s3.gens.push (.fresh (.compStart (.GeneratorExp elt [⟨tg, iter, [], 0⟩] scope gpos) 0 (.ref it) .none (gEnv X scope s3.heap.objs.size (.ref c')))), toks := s3.toks + 1 + 1 + 1, heap := h'.push go } : Shared) = s5
  have h5 : s5.heap = h'.push go := by rw [← hs5]
  have g5 : s5.gens = s3.gens.push (.fresh (.compStart (.GeneratorExp elt [⟨tg, iter, [], 0⟩] scope gpos) 0 (.ref it) .none (gEnv X scope s3.heap.objs.size (.ref c')))) := by rw [← hs5]
  have bare5 : AllBare s5.gens := by
    rw [g5]
    exact I3.bare.push rfl
  have I5 := gen_start (A := X.A.in1.in1) (code := .ref c') (go := go) (a := h'.objs.size) (s5 := s5) I3 ok hN f3 hcell hh hfr (by rw [← hs5]) bare5 (by rw [h5]; exact hns'.push _) (fun b o e => by rw [h5]; exact Heap.get?_push_of_some _ (kp' b o e)) (by rw [h5]; exact atG) (by rw [hsz]; exact Nat.lt_succ_self _) (fun v z => by rw [goc.2.1] at z; cases z)
  have hab : ∀ b ∈ fp, h'.objs.size ≠ b := fun b hb z => by
    have h9 := (f3 b hb).2
    rw [← z, hsz] at h9
    exact Nat.lt_irrefl _ (Nat.lt_trans (Nat.lt_succ_self _) h9)
  have G5 : GInv (gCx X (X.A.in1.in1.deeper (gEnv X scope s3.heap.objs.size (.ref c'))) s3 H3 (gEnv X scope s3.heap.objs.size (.ref c')) fp) go h'.objs.size s3.gens.size fp tn W (wipe σ (own.map (·.2))) 0 m0 s5 :=
    ⟨H3, I5, by rw [h5]; exact st3, fun b hb => (f3 b hb).1.1, w0, by rw [g5, Array.size_push]; exact Nat.lt_succ_self _⟩
  have hr2 : Room k (X.A.in1.in1.deeper (gEnv X scope s3.heap.objs.size (.ref c'))) := by
    refine ⟨hr.hd, ?_, ?_⟩
    · have := hr.dp
      show X.A.depth + 1 + 3 * k + 5 < _
      omega
    · have := hr.un
      show X.A.units + 1 + 1 + 3 + 16 * k + 200 < _
      omega
  refine hQ (gCx X (X.A.in1.in1.deeper (gEnv X scope s3.heap.objs.size (.ref c'))) s3 H3 (gEnv X scope s3.heap.objs.size (.ref c')) fp) h'.objs.size s3.gens.size go _ _ fp tn W m0 s5 rfl rfl goc (by rw [h5]; exact atG) ⟨0, m0, G5, .fresh (.compStart (.GeneratorExp elt [⟨tg, iter, [], 0⟩] scope gpos) 0 (.ref it) .none (gEnv X scope s3.heap.objs.size (.ref c'))), (by rw [g5]; exact Array.getElem?_push_size ..), fun s'' G'' => ⟨rfl, ?_⟩⟩ fun b s'' ⟨σ', H', I', q', _⟩ => ?_
  · exact seg_start (go := go) (a := h'.objs.size) (g := s3.gens.size) (Y := gCx X (X.A.in1.in1.deeper (gEnv X scope s3.heap.objs.size (.ref c'))) s3 H3 (gEnv X scope s3.heap.objs.size (.ref c')) fp) rfl rfl rfl rfl hab rfl hco T (hg _ _ _ _ _ _) (he _ _ _ _ _ _ _ hr2) turns m0 m0 s'' s'' (Nat.lt_succ_self _) G''
  · exact ⟨.bl b, H', I3.call' (ch := fp) I'.os I'.base I'.hok I'.bare (fun b hb => ⟨(f3 b hb).1.2.2.2.1, (f3 b hb).1.2.1, (f3 b hb).1.2.2.2.2.1, (f3 b hb).1.2.2.2.2.2⟩), rfl, q'⟩

theorem pe_allG {c P : Addr} {n k : Nat} {elt tg iter : Expr} {scope : Scope} {p pos gpos : Pos} {own : List (Str × Nat)} {wi : TI} {gt : TG} {te : Addr → Addr → TE}
    (hr : Room (k + 1) X.A) (hgl : Gl X "all") (hm : X.mg "all" = none) (hc : X.calm = true) (hN : X.N.Nodup) (hco : scope.isCoroutine = false) (hcell : ∀ y ∈ scope.names, y.2 ≠ .cell) (hdot : scope.names.lookup (".0" : Str) = some NameKind.local) (ok : BlkOk X.N X.env.scope scope own)
    (hcode : X.env.code = .ref c) (bm : BM X.base X.mg) (hi : PI X tg iter wi) (hs : ∀ v, genFold iter X.env v = pure v)
    (hg : ∀ (A : Around) (s : Shared) (H : Hp) (C : Addr) (code : Value) (fp : List Addr), PG (gCx X A s H (gEnv X scope C code) fp) tg gt)
    (he : ∀ (A : Around) (s : Shared) (H : Hp) (C c' P' : Addr) (fp : List Addr), Room k A → PE (gCx X A s H (gEnv X scope C (.ref c')) fp) elt (te c' P'))
    (hb : bootBuiltins "all" = some (.builtin "all") := by decide +kernel) (hst : starEach [.GeneratorExp elt [⟨tg, iter, [], 0⟩] scope gpos] X.env = (false, eval (.GeneratorExp elt [⟨tg, iter, [], 0⟩] scope gpos) X.env) :: starEach [] X.env := by rfl) :
    PE X (.Call (.Name "all" p) [.GeneratorExp elt [⟨tg, iter, [], 0⟩] scope gpos] [] pos) (tGx X.base c P n wi gt te (own.map (·.2)) false) := by
  refine ⟨fun pins s σ H Q I h => ?_⟩
  refine wpAny_Call_Name_kw (ld_blt I hgl hm hb ?_)
  refine PyProof.Rows.callWith_builtin1 ?_ hst (by rfl)
  rw [hst]
  show wpAny _ _ (spliced ((false, eval (.GeneratorExp elt [⟨tg, iter, [], 0⟩] scope gpos) X.env) :: backTo pos (starEach [] X.env))) _ _ s
  refine Calls.spliced_cons (gx_make hr hc hN hco hcell hdot ok hcode bm hi hs hg he I h fun Y a g go nm qn fp tn W k' s' hp hw hgo hat hrd hend => ?_)
  refine Calls.spliced_nil ?_
  refine call_function_tree F.kind_all F.plain_all F.entry_all (F.args_all1 _) ?_
  unfold Builtin.«all»
  refine wpAny_bind (m := oneArg "all" _) (wpAny_pure ?_)
  refine wpAny_bind (wpAny_pyIter_gen ⟨go, nm, qn, hat, hgo.1, hgo.2.1, hgo.2.2⟩ ?_)
  have loop := all_loop (Y := Y) (A0 := X.A) (R := fun r s' => match r with | .ok (.ret v) => EP X pins σ Q v s' | .ok _ => False | .error e => X.xe e s') hr.hd (by have := hr.dp; omega) hgo (fun b s'' h => hend b s'' h) k' s' hrd
  rw [hp, hw] at loop
  exact wpAny_pure ⟨plainId_quiet F.plain_all_loop _, loop⟩

theorem pe_anyG {c P : Addr} {n k : Nat} {elt tg iter : Expr} {scope : Scope} {p pos gpos : Pos} {own : List (Str × Nat)} {wi : TI} {gt : TG} {te : Addr → Addr → TE}
    (hr : Room (k + 1) X.A) (hgl : Gl X "any") (hm : X.mg "any" = none) (hc : X.calm = true) (hN : X.N.Nodup) (hco : scope.isCoroutine = false) (hcell : ∀ y ∈ scope.names, y.2 ≠ .cell) (hdot : scope.names.lookup (".0" : Str) = some NameKind.local) (ok : BlkOk X.N X.env.scope scope own)
    (hcode : X.env.code = .ref c) (bm : BM X.base X.mg) (hi : PI X tg iter wi) (hs : ∀ v, genFold iter X.env v = pure v)
    (hg : ∀ (A : Around) (s : Shared) (H : Hp) (C : Addr) (code : Value) (fp : List Addr), PG (gCx X A s H (gEnv X scope C code) fp) tg gt)
    (he : ∀ (A : Around) (s : Shared) (H : Hp) (C c' P' : Addr) (fp : List Addr), Room k A → PE (gCx X A s H (gEnv X scope C (.ref c')) fp) elt (te c' P'))
    (hst : starEach [.GeneratorExp elt [⟨tg, iter, [], 0⟩] scope gpos] X.env = (false, eval (.GeneratorExp elt [⟨tg, iter, [], 0⟩] scope gpos) X.env) :: starEach [] X.env := by rfl) :
    PE X (.Call (.Name "any" p) [.GeneratorExp elt [⟨tg, iter, [], 0⟩] scope gpos] [] pos) (tGx X.base c P n wi gt te (own.map (·.2)) true) := by
  refine ⟨fun pins s σ H Q I h => ?_⟩
  refine wpAny_Call_Name_kw (ld_blt I hgl hm boot_any ?_)
  refine PyProof.Rows.callWith_builtin1 ?_ hst (by rfl)
  rw [hst]
  show wpAny _ _ (spliced ((false, eval (.GeneratorExp elt [⟨tg, iter, [], 0⟩] scope gpos) X.env) :: backTo pos (starEach [] X.env))) _ _ s
  refine Calls.spliced_cons (gx_make hr hc hN hco hcell hdot ok hcode bm hi hs hg he I h fun Y a g go nm qn fp tn W k' s' hp hw hgo hat hrd hend => ?_)
  refine Calls.spliced_nil ?_
  refine call_function_tree F.kind_any F.plain_any F.entry_any (F.args_any1 _) ?_
  unfold Builtin.«any»
  refine wpAny_bind (m := oneArg "any" _) (wpAny_pure ?_)
  refine wpAny_bind (wpAny_pyIter_gen ⟨go, nm, qn, hat, hgo.1, hgo.2.1, hgo.2.2⟩ ?_)
  have loop := any_loop (Y := Y) (A0 := X.A) (R := fun r s' => match r with | .ok (.ret v) => EP X pins σ Q v s' | .ok _ => False | .error e => X.xe e s') hr.hd (by have := hr.dp; omega) hgo (fun b s'' h => hend b s'' h) k' s' hrd
  rw [hp, hw] at loop
  exact wpAny_pure ⟨plainId_quiet F.plain_any_loop _, loop⟩
end
end Gx
set_option Elab.async false
set_option linter.all false
set_option maxRecDepth 100000
set_option maxHeartbeats 4000000

/-! Rules that the layer lacks: sum and any of a tuple of ints, enumerate of a tuple, zip of a tuple and a list, a tuple times 1. -/
namespace Mr
open PySem PySem.Spec PyProof.Rows L2
section
variable {X : Cx}
/-- sum(t) -/
def rSumT (K : PySem.W.Frag) : List V → Hp → VK → Prop := fun vs H Q => ∃ (a : Addr) (ns : List Int), vs = [V.ref a] ∧ SqT K H a (ns.map V.int) ∧ Q (.int ns.sum) H
theorem cr_sumT (hc : X.calm = true) : CallR X (.builtin "sum") (rSumT X.K) := by
  intro pins s σ H vs us Q I r h
  obtain ⟨a, ns, rfl, hs, q⟩ := h
  obtain ⟨its, rv, hl, _⟩ := I.tuple hs
  rw [Vals.ref1 r]
  have hi := rv.ints
  obtain ⟨xs, e⟩ := hi.allInts.items
  have hn : numsOf (intItems xs).toList = ns := by rw [← e]; exact hi.numsOf
  rw [nums_intItems] at hn
  have hl : s.heap.IsTuple a (intItems xs) := by rw [← e]; exact hl
  refine PySem.W.ktm_sumG (I.ok.hd hc) hl fun h' tk t' hk => ⟨.int _, H, I.kept hk, ⟨t', ?_⟩, q⟩
  rw [preSum_eq, List.take_of_length_le (by simp), hn]
/-- any(t), ints -/
def rAnyT (K : PySem.W.Frag) : List V → Hp → VK → Prop := fun vs H Q => ∃ (a : Addr) (ns : List Int), vs = [V.ref a] ∧ SqT K H a (ns.map V.int) ∧ Q (.bl (ns.any fun n => n != 0)) H
theorem truth_ints {prog : Program} {w : World} {A : Around} {ns : List Int} {its : List Value} (r : Vals (ns.map V.int) its) :
    TruthOf prog w A (fun i v => its.toArray[i]? = some v) (fun i => ns.getD i 0 != 0) := fun i v s Q E hv hq => by
  have hv' : its[i]? = some v := by simpa using hv
  have hi : i < ns.length := by
    have h1 := (List.getElem?_eq_some_iff.mp hv').1
    have h2 := r.length
    rw [List.length_map] at h2
    omega
  obtain ⟨u, hu, ru⟩ := r.get (i := i) (x := .int ns[i]) (by simp [hi])
  rw [hv'] at hu
  cases hu
  obtain ⟨t, rfl⟩ := ru
  have hg : ns.getD i 0 = ns[i] := by simp [List.getD_eq_getElem?_getD, hi]
  have hq' : Q (ns.getD i 0 != 0) s := hq
  rw [hg] at hq'
  exact PyProof.Rows.truthy_int hq'
theorem any_rangeI : ∀ ns : List Int, (List.range ns.length).any (fun i => ns.getD i 0 != 0) = ns.any (fun n => n != 0)
  | [] => rfl
  | n :: ns => by
    have ih := any_rangeI ns
    rw [List.length_cons, List.range_succ_eq_map, List.any_cons, List.any_map, List.any_cons, ← ih]
    rfl
theorem cr_anyT (hc : X.calm = true) : CallR X (.builtin "any") (rAnyT X.K) := by
  intro pins s σ H vs us Q I r h
  obtain ⟨a, ns, rfl, hs, q⟩ := h
  obtain ⟨its, rv, hl, _⟩ := I.tuple hs
  rw [Vals.ref1 r]
  have hl : s.heap.IsTuple a its.toArray := hl
  have hlt : a < s.heap.objs.size := by obtain ⟨_, e, _⟩ := hl; exact Heap.lt_size e
  refine call_any_walk (wpAny_pyIter_tuple hl ?_)
  refine ⟨_, _, _, _, _, _, _, rfl, Walks.tuple (A := X.A.in1) (I.ok.hd hc) _ a (Nat.ne_of_lt hlt) its.toArray, ⟨⟨_, Heap.get?_push_size _ rfl, rfl, rfl⟩, hl.push _⟩, truth_ints rv, fun h' tk hk => ?_⟩
  refine ⟨.bl _, H, I.kept fun b o eo => hk b o (fun hmem => ?_) (Heap.get?_push_of_some _ eo), ?_, q⟩
  · rcases List.mem_cons.mp hmem with e1 | hmem
    · exact absurd (e1 ▸ Heap.lt_size eo) (Nat.lt_irrefl _)
    · cases hmem
  · show Value.bool _ = Value.bool _
    have hlen := rv.length
    rw [List.length_map] at hlen
    rw [← any_rangeI, List.size_toArray, hlen]
end


/-! ### enumerate(tuple) -/
def IteT (K : PySem.W.Frag) (a : Addr) : It :=
  ⟨fun i H => ∃ (xs : List V) (x : V), SqT K H a xs ∧ xs[i]? = some x, fun i H v H' => ∃ T x, v = .ref T ∧ H T = none ∧ H' = upd H T (.tup [.int (i : Nat), x]) ∧ ∀ xs, SqT K H a xs → xs[i]? = some x, fun i H => ∃ xs : List V, SqT K H a xs ∧ xs.length ≤ i⟩
theorem turn_enumT {P : Program} {w : World} {K : PySem.W.Frag} {elts : List Expr} {kk : Nat} {tpos : Pos} (a e it : Addr) :
    Turn P w K (.Tuple elts kk tpos) (IteT K a) [e, it] e (fun i h => (∃ old, IsEnum h e it ((i : Nat) : Int) old) ∧ h.IsTupleIter it a i ∧ e ≠ it) where
  mem := by simp
  obj := fun i h st b hb => by
    obtain ⟨⟨old, he⟩, ⟨o, ho, hc, hd⟩, _⟩ := st
    have e' : b = e ∨ b = it := by simpa using hb
    rcases e' with z | z
    · rw [z]
      exact ⟨_, he, fun v q => nomatch q⟩
    · rw [z]
      exact ⟨o, ho, fun v q => by rw [hd] at q; cases q⟩
  keep := fun i h h' st k => let ⟨⟨old, he⟩, hi, hne⟩ := st; ⟨⟨old, k e (by simp) _ he⟩, hi.at fun o q => k it (by simp) o q, hne⟩
  item := by
    intro X hP hw hK hc i pins s σ H E I hf st hg
    subst hP hw hK
    obtain ⟨⟨old, he⟩, hit, hne⟩ := st
    obtain ⟨xs, x, hq, hx⟩ := hg
    obtain ⟨its, rv, p, hz⟩ := I.tuple hq
    obtain ⟨u, hu, ru⟩ := rv.get hx
    have hel : e < s.heap.objs.size := Heap.lt_size he
    have hil : it < s.heap.objs.size := by obtain ⟨_, q, _⟩ := hit; exact Heap.lt_size q
    have hit0 := hit
    have p : s.heap.IsTuple a its.toArray := p
    have hai : a ≠ it := fun z => by
      obtain ⟨o1, g1, c1, _⟩ := id hit
      obtain ⟨o2, g2, c2, _⟩ := id p
      rw [z, g1] at g2
      cases g2
      rw [c1] at c2
      exact absurd c2 (by intro q; injection q with q; exact absurd q (by decide))
    have hea : e ≠ a := fun z => by
      obtain ⟨o2, g2, c2, _⟩ := id p
      have he' : s.heap.get? e = some _ := he
      rw [z, g2] at he'
      cases he'
      exact absurd c2 (by intro q; injection q with q; exact absurd q (by decide))
    refine wpAny_pyNext_enum_itemD (fp := [it, a]) (Draws.tuple (prog := X.prog) (w := X.w) (A := X.A.in1) (I.ok.hd hc) it a hai its.toArray) he ⟨hit, p⟩ (by rw [List.size_toArray, ← rv.length]; exact (List.getElem?_eq_some_iff.mp hx).1) hne (by simp [hne, hea]) fun y h' tk hy ho hst hT hsz hk => ?_
    have ey : y = u := by
      have h1 : its.toArray[i]? = some u := by simpa using hu
      rw [h1] at hy
      exact (Option.some.inj hy).symm
    subst ey
    refine ⟨_, rfl, wpAny_letOwnedTupleGo_enum (s := { s with heap := h', toks := tk + 1 }) ho fun h'' he' sb => ?_⟩
    have hT2 : h''.get? s.heap.objs.size = some { cls := .type "tuple", data := .seq #[.int i tk, y] } := (sb.2 _ (Nat.ne_of_gt hel)).trans hT
    have new : ObjOk X.prog X.w (upd H s.heap.objs.size (.tup [.int (i : Nat), x])) h'' s.heap.objs.size (.tup [.int (i : Nat), x]) :=
      ⟨by show 2 ≤ sizeLine; decide, [.int i tk, y], .cons ⟨_, rfl⟩ (.cons ru .nil), ⟨_, hT2, rfl, _, rfl⟩⟩
    have I1 : Inv X pins σ (upd H s.heap.objs.size (.tup [.int (i : Nat), x])) { s with heap := h'', toks := tk + 1 } :=
      I.turnedNew (ch := [e, it]) (fun b ob hb q => (sb.2 b (fun z => hb (by simp [z]))).trans (hk b ob (fun z => hb (by simp [z])) (fun z => hb (by simp [z])) q)) hf (Nat.le_refl _) new
    refine ⟨.ref s.heap.objs.size, _, I1, rfl, ⟨_, x, rfl, I.hok.fresh (Nat.le_refl _), rfl, fun ys hy => by rw [I.tuple_inj hy hq]; exact hx⟩, ⟨⟨y, ?_⟩, hst.1.at fun o q => (sb.2 it (Ne.symm hne)).trans q, hne⟩, fun b hb => ?_⟩
    · have e1 : ((i + 1 : Nat) : Int) = (i : Int) + 1 := by omega
      rw [e1]
      exact he'
    · have hb' : b < s.heap.objs.size := by
        have e' : b = e ∨ b = it := by simpa using hb
        rcases e' with z | z
        · rw [z]
          exact hel
        · rw [z]
          exact hil
      rw [upd_ne (Nat.ne_of_lt hb')]
      exact (hf b hb).1
  done := by
    intro X hP hw hK hc i pins s σ H E I hf st hg
    subst hP hw hK
    obtain ⟨⟨old, he⟩, hit, hne⟩ := st
    obtain ⟨xs, hq, hx⟩ := hg
    obtain ⟨its, rv, p, hz⟩ := I.tuple hq
    obtain ⟨f0, f1, f2, f3, f4, f5⟩ := hf it (by simp)
    have hl := rv.length
    have p : s.heap.IsTuple a its.toArray := p
    have hai : a ≠ it := fun z => by
      obtain ⟨o1, g1, c1, _⟩ := id hit
      obtain ⟨o2, g2, c2, _⟩ := id p
      rw [z, g1] at g2
      cases g2
      rw [c1] at c2
      exact absurd c2 (by intro q; injection q with q; exact absurd q (by decide))
    have hT : s.TypeIs (.ref e) "enumerate" := ⟨_, he, rfl⟩
    unfold pyNext
    refine wpAny_bind (wpAny_attempt (wpAny_callSpecial?_slot (name := Str.ofString "__next__") hT F.slot_enumerate_next
      (wpAny_call_entry F.slot_enumerate_next hT F.entry_enumerate_next ?_ (F.args_enumerate_next_1 _))))
    show wpAny _ _ (field (.ref e) 2 >>= _) _ _ _
    refine wpAny_bind (wpAny_field he rfl (x := .ref it) rfl ?_)
    refine wpAny_bind (wpAny_nextOf_tuple_end (I.ok.hd hc) hit p (by simp; omega) fun h' x he' hx' => ?_)
    obtain ⟨o, ho, hc'⟩ := hx'
    refine wpAny_bind (wpAny_isInstance (T := "StopIteration") (b := true) ⟨o, ho, hc'⟩ isSubtype_stop ?_)
    exact wpAny_pure ⟨rfl, I.turned (t' := s.toks) (fun b o hb q => he' b o hb q) f0 f1 f3 f4 f5⟩
  self := fun A i s Q E st h => let ⟨⟨_, he⟩, _⟩ := st; wpAny_pyIter_enum he h
section
variable {prog : Program} {w : World} {A : Around} {E : Value → Shared → Prop} {s : Shared}
theorem meets_enum1 {v : Value} {o : Obj} {H : Heap → Prop} (B : Begins v o H) :
    Meets (Builtin.«enumerate.__new__» ⟨[.type "enumerate", v], []⟩) (fun _ R s => H s.heap ∧
      R (.ok (.ret (.ref (s.heap.push o).objs.size))) { s with heap := (s.heap.push o).push { cls := .type "enumerate", data := .fields #[.none, .bool false, .ref s.heap.objs.size, rawInt 0, .none, .none] } }) :=
  .of_wp fun prog w A R s h => by
    obtain ⟨hp, g, d, tk, os⟩ := s
    obtain ⟨h1, h⟩ := h
    have hsub := sub_enumerate
    have q1 : ∀ {A' : Around} {E : Value → Shared → Prop} {Q : Value → Shared → Prop}, Q (.ref hp.objs.size) ⟨hp.push o, g, d, tk, os⟩ → wpAny (model prog w) A' (pyIter v) Q E ⟨hp, g, d, tk, os⟩ :=
      fun q => B.iter prog w _ _ ⟨hp, g, d, tk, os⟩ _ h1 q
    wp_walk using q1
    refine wpAny_stack_any fun st => wpAny_pure ?_
    split
    · rename_i c _ _ _ _ _
      cases (c == Value.type "enumerate")
      · wp_walk using q1
        exact ⟨_, rfl, h⟩
      · wp_walk using q1
        exact ⟨_, rfl, h⟩
    · wp_walk using q1
      exact ⟨_, rfl, h⟩
theorem enum_begins1 {v : Value} {o : Obj} {H : Heap → Prop} {Q : Value → Shared → Prop} (B : Begins v o H) (h1 : H s.heap)
    (h : ∀ h', IsEnum h' (s.heap.objs.size + 1) s.heap.objs.size 0 .none → h'.get? s.heap.objs.size = some o → h'.objs.size = s.heap.objs.size + 2 →
      (∀ b o, s.heap.get? b = some o → h'.get? b = some o) → Q (.ref (s.heap.objs.size + 1)) { s with heap := h' }) :
    wpAny (model prog w) A (call (.type "enumerate") [v]) Q E s := by
  refine callType_new F.called_enumerate (by decide) (F.typeCall_enumerate_1 _) (F.newCall_enumerate_1 _) (fun obj => F.args_object_init_2 obj _) F.entry_enumerate_new (meets_enum1 B) ⟨h1, ?_⟩
  have hz : (s.heap.push o).objs.size = s.heap.objs.size + 1 := Heap.size_push ..
  show _ ∧ _
  rw [hz]
  have he : IsEnum ((s.heap.push o).push { cls := .type "enumerate", data := .fields #[.none, .bool false, .ref s.heap.objs.size, rawInt 0, .none, .none] }) (s.heap.objs.size + 1) s.heap.objs.size 0 .none := by
    have := Heap.get?_push_size (s.heap.push o) (o := { cls := .type "enumerate", data := .fields #[.none, .bool false, .ref s.heap.objs.size, rawInt 0, .none, .none] }) rfl
    rw [hz] at this
    exact this
  refine ⟨⟨_, he, rfl⟩, h _ he (Heap.get?_push_of_some _ (Heap.get?_push_size _ B.free)) (by rw [Heap.size_push, hz]) fun b o x => Heap.get?_push_of_some _ (Heap.get?_push_of_some _ x)⟩
end
def iEnumT (K : PySem.W.Frag) (ta : TA) : TI := fun σ H R => ta σ H fun vs H1 => ∃ a xs, vs = [.ref a] ∧ SqT K H1 a xs ∧ R (IteT K a) H1
theorem pi_enumT {X : Cx} {e : Expr} {ta : TA} {p pos tpos : Pos} {elts : List Expr} {kk : Nat} (hg : Gl X "enumerate") (hm : X.mg "enumerate" = none) (ha : PA X [e] ta) (hs : starEach [e] X.env = [(false, eval e X.env)] := by rfl) :
    PI X (.Tuple elts kk tpos) (.Call (.Name "enumerate" p) [e] [] pos) (iEnumT X.K ta) := by
  refine ⟨fun pins s σ H R I h => ?_⟩
  refine Call_ (ld_blt I hg hm boot_enumerate (PyProof.Rows.callWith_type1 (thn (ha.run pos pins s σ H _ I h) fun us s1 ⟨vs, H1, I1, r1, q1⟩ => ?_) hs rfl))
  obtain ⟨a, xs, ex, hq, q⟩ := q1
  subst ex
  cases r1 with
  | cons r rr =>
    cases rr
    cases r
    obtain ⟨its, rv, p', hz⟩ := I1.tuple hq
    refine enum_begins1 (begins_tuple a its.toArray) p' fun h' he hit hsz hk => wpAny_pyIter_enum he ?_
    have I2 : Inv X pins σ H1 { s1 with heap := h' } := I1.kept (t' := s1.toks) hk
    refine ⟨s1.heap.objs.size + 1, [s1.heap.objs.size + 1, s1.heap.objs.size], _, _, H1, rfl, I2, turn_enumT a (s1.heap.objs.size + 1) s1.heap.objs.size, ⟨⟨.none, he⟩, ⟨_, hit, rfl, rfl⟩, Nat.succ_ne_self _⟩, fun b hb => ?_, q⟩
    have e' : b = s1.heap.objs.size + 1 ∨ b = s1.heap.objs.size := by simpa using hb
    have hle : s1.heap.objs.size ≤ b := by
      rcases e' with z | z
      · rw [z]
        exact Nat.le_add_right _ _
      · rw [z]
        exact Nat.le_refl _
    exact I1.fpOk hle (I1.hok.fresh hle)


/-! ### zip(tuple, list) -/
def ItzM (K : PySem.W.Frag) (a b : Addr) : It :=
  ⟨fun i H => ∃ (xs ys : List V) (x y : V), SqT K H a xs ∧ SqL K H b ys ∧ xs[i]? = some x ∧ ys[i]? = some y,
    fun i H v H' => ∃ T x y, v = .ref T ∧ H T = none ∧ H' = upd H T (.tup [x, y]) ∧ (∀ xs, SqT K H a xs → xs[i]? = some x) ∧ ∀ ys, SqL K H b ys → ys[i]? = some y,
    fun i H => ∃ xs ys : List V, SqT K H a xs ∧ SqL K H b ys ∧ (xs.length = i ∧ i ≤ ys.length ∨ ys.length = i ∧ i ≤ xs.length)⟩
theorem sep_of {z TI TO i1 i2 a b : Addr} (D : ZipApart z TI TO i1 i2 a b) : ZipSep2 z TI TO i1 i2 [i1, a] [i2, b] where
  TIz := D.TIz
  TOz := D.TOz
  TITO := D.TITO
  TIi1 := D.TIi1
  mem1 := by simp
  zf1 := by simp [D.i1z.symm, D.l1z.symm]
  Tf1 := by simp [D.TOi1, D.l1TO.symm]
  TIi2 := D.TIi2
  mem2 := by simp
  zf2 := by simp [D.i2z.symm, D.l2z.symm]
  Tf2 := by simp [D.TOi2, D.l2TO.symm]
  sep1_2 := by simp [D.i12, D.l2i1.symm]
  sep2_1 := by simp [D.i12.symm, D.l1i2.symm]
theorem turn_zipM {P : Program} {w : World} {K : PySem.W.Frag} {elts : List Expr} {kk : Nat} {tpos : Pos} {a b z TI TO i1 i2 : Addr} (D : ZipApart z TI TO i1 i2 a b) :
    Turn P w K (.Tuple elts kk tpos) (ItzM K a b) [z, TI, TO, i1, i2] z (fun i h => IsZip h z TI TO .none ∧ IsPair h TI (.ref i1) (.ref i2) ∧ (∃ x y, IsPair h TO x y) ∧ h.IsTupleIter i1 a i ∧ h.IsListIter i2 b i) where
  mem := by simp
  obj := fun i h st c hc => by
    obtain ⟨hz, hTI, ⟨x, y, hTO⟩, ⟨o1, e1, _, d1⟩, ⟨o2, e2, _, d2⟩⟩ := st
    have e' : c = z ∨ c = TI ∨ c = TO ∨ c = i1 ∨ c = i2 := by simpa using hc
    rcases e' with q | q | q | q | q
    · rw [q]
      exact ⟨_, hz, fun v q => nomatch q⟩
    · rw [q]
      exact ⟨_, hTI, fun v q => nomatch q⟩
    · rw [q]
      exact ⟨_, hTO, fun v q => nomatch q⟩
    · rw [q]
      exact ⟨o1, e1, fun v q => by rw [d1] at q; cases q⟩
    · rw [q]
      exact ⟨o2, e2, fun v q => by rw [d2] at q; cases q⟩
  keep := fun i h h' st k => by
    obtain ⟨hz, hTI, ⟨x, y, hTO⟩, h1, h2⟩ := st
    exact ⟨k z (by simp) _ hz, k TI (by simp) _ hTI, ⟨x, y, k TO (by simp) _ hTO⟩, h1.at fun o q => k i1 (by simp) o q, h2.at fun o q => k i2 (by simp) o q⟩
  item := by
    intro X hP hw hK hc i pins s σ H E I hf st hg
    subst hP hw hK
    obtain ⟨hz, hTI, ⟨x0, y0, hTO⟩, h1, h2⟩ := st
    obtain ⟨xs, ys, x, y, hqx, hqy, hx, hy⟩ := hg
    obtain ⟨its, rv, p, _⟩ := I.tuple hqx
    obtain ⟨its2, rv2, p2, _⟩ := I.list hqy
    obtain ⟨u, hu, ru⟩ := rv.get hx
    obtain ⟨u2, hu2, ru2⟩ := rv2.get hy
    have hzl : z < s.heap.objs.size := Heap.lt_size hz
    have p : s.heap.IsTuple a its.toArray := p
    have l1 : i < its.toArray.size := by rw [List.size_toArray]; exact (List.getElem?_eq_some_iff.mp hu).1
    have l2 : i < its2.toArray.size := by rw [List.size_toArray]; exact (List.getElem?_eq_some_iff.mp hu2).1
    refine wpAny_pyNext_zipD2_item (sep_of D) (Draws.tuple (prog := X.prog) (w := X.w) (A := X.A.in1) (I.ok.hd hc) i1 a D.l1i1 its.toArray) (Draws.list (prog := X.prog) (w := X.w) (A := X.A.in1) (I.ok.hd hc) i2 b D.l2i2 its2.toArray)
      hz hTI hTO ⟨h1, p⟩ ⟨h2, p2.isList⟩ l1 l2 fun v1 v2 h' tk e1 e2 z' TO' h1' h2' hT hsz hk => ?_
    have q1 : v1 = u := by
      have h9 : its.toArray[i]? = some u := by simpa using hu
      rw [h9] at e1
      exact (Option.some.inj e1).symm
    have q2 : v2 = u2 := by
      have h9 : its2.toArray[i]? = some u2 := by simpa using hu2
      rw [h9] at e2
      exact (Option.some.inj e2).symm
    subst q1 q2
    refine ⟨_, rfl, wpAny_letOwnedTupleGo_zip (s := { s with heap := h', toks := tk }) z' fun h'' z'' sb => ?_⟩
    have hT2 : h''.get? s.heap.objs.size = some { cls := .type "tuple", data := .seq #[v1, v2] } := (sb.2 _ (Nat.ne_of_gt hzl)).trans hT
    have new : ObjOk X.prog X.w (upd H s.heap.objs.size (.tup [x, y])) h'' s.heap.objs.size (.tup [x, y]) :=
      ⟨by show 2 ≤ sizeLine; decide, [v1, v2], .cons ru (.cons ru2 .nil), ⟨_, hT2, rfl, _, rfl⟩⟩
    have I1 : Inv X pins σ (upd H s.heap.objs.size (.tup [x, y])) { s with heap := h'', toks := tk } :=
      I.turnedNew (ch := [z, TI, TO, i1, i2]) (fun c o hb q => (sb.2 c (fun q' => hb (by simp [q']))).trans (hk c o (fun q' => hb (by simp [q'])) (fun q' => hb (by simp [q'])) (fun q' => hb (by simp [q'])) (fun q' => hb (by simp [q'])) q)) hf (Nat.le_refl _) new
    refine ⟨.ref s.heap.objs.size, _, I1, rfl, ⟨_, x, y, rfl, I.hok.fresh (Nat.le_refl _), rfl, fun l hl => by rw [I.tuple_inj hl hqx]; exact hx, fun l hl => by rw [I.list_inj hl hqy]; exact hy⟩, ⟨z'', ?_, ⟨v1, v2, ?_⟩, ?_, ?_⟩, fun c hcm => ?_⟩
    · exact (sb.2 _ D.TIz).trans (hk _ _ D.TIz D.TITO D.TIi1 D.TIi2 hTI)
    · exact (sb.2 _ D.TOz).trans TO'
    · exact h1'.1.at fun o q => (sb.2 _ D.i1z).trans q
    · exact h2'.1.at fun o q => (sb.2 _ D.i2z).trans q
    · have hlt : c < s.heap.objs.size := by
        have e' : c = z ∨ c = TI ∨ c = TO ∨ c = i1 ∨ c = i2 := by simpa using hcm
        rcases e' with q | q | q | q | q
        · rw [q]
          exact hzl
        · rw [q]
          exact Heap.lt_size hTI
        · rw [q]
          exact Heap.lt_size hTO
        · rw [q]
          obtain ⟨_, e1, _⟩ := h1
          exact Heap.lt_size e1
        · rw [q]
          obtain ⟨_, e2, _⟩ := h2
          exact Heap.lt_size e2
      rw [upd_ne (Nat.ne_of_lt hlt)]
      exact (hf c hcm).1
  done := by
    intro X hP hw hK hc i pins s σ H E I hf st hg
    subst hP hw hK
    obtain ⟨hz, hTI, ⟨x0, y0, hTO⟩, h1, h2⟩ := st
    obtain ⟨xs, ys, hqx, hqy, hend⟩ := hg
    obtain ⟨its, rv, p, _⟩ := I.tuple hqx
    obtain ⟨its2, rv2, p2, _⟩ := I.list hqy
    have l1 := rv.length
    have l2 := rv2.length
    have p : s.heap.IsTuple a its.toArray := p
    have s1 : its.toArray.size = its.length := List.size_toArray
    have s2 : its2.toArray.size = its2.length := List.size_toArray
    exact wpAny_pyNext_zipD2_end (sep_of D) (Draws.tuple (prog := X.prog) (w := X.w) (A := X.A.in1) (I.ok.hd hc) i1 a D.l1i1 its.toArray) (Draws.list (prog := X.prog) (w := X.w) (A := X.A.in1) (I.ok.hd hc) i2 b D.l2i2 its2.toArray)
      hz hTI hTO ⟨h1, p⟩ ⟨h2, p2.isList⟩ (by omega) (by omega) (by omega) fun h' tk hk => ⟨rfl, I.turnedL (t' := tk) (ch := [z, TI, TO, i1, i2]) (fun c o hb q =>
      hk c o (fun q' => hb (by simp [q'])) (fun q' => hb (by simp [q'])) (fun q' => hb (by simp [q'])) (fun q' => hb (by simp [q'])) q) hf⟩
  self := fun A i s Q E st h => wpAny_pyIter_zip st.1 h
def iZipM (K : PySem.W.Frag) (ta : TA) : TI := fun σ H R => ta σ H fun vs H1 => ∃ a b xs ys, vs = [.ref a, .ref b] ∧ SqT K H1 a xs ∧ SqL K H1 b ys ∧ R (ItzM K a b) H1
theorem pi_zipM {X : Cx} {e e2 : Expr} {ta : TA} {p pos tpos : Pos} {elts : List Expr} {kk : Nat} (hg : Gl X "zip") (hm : X.mg "zip" = none) (ha : PA X [e, e2] ta)
    (hs : starEach [e, e2] X.env = (false, eval e X.env) :: starEach [e2] X.env := by rfl) (hpl : (backTo pos (starEach [e2] X.env)).any (·.1) = false := by rfl) :
    PI X (.Tuple elts kk tpos) (.Call (.Name "zip" p) [e, e2] [] pos) (iZipM X.K ta) := by
  refine ⟨fun pins s σ H R I h => ?_⟩
  refine Call_ (ld_blt I hg hm PyProof.Rows.boot_zip (PyProof.Rows.callWith_type1 (thn (ha.run pos pins s σ H _ I h) fun us s1 ⟨vs, H1, I1, r1, q1⟩ => ?_) hs hpl))
  obtain ⟨a, b, xs, ys, ex, hqx, hqy, q⟩ := q1
  subst ex
  cases r1 with
  | cons r rr =>
    cases rr with
    | cons r' rr =>
      cases rr
      cases r
      cases r'
      have fresh5 : ∀ c, c ∈ [s1.heap.objs.size + 4, s1.heap.objs.size + 2, s1.heap.objs.size + 3, s1.heap.objs.size, s1.heap.objs.size + 1] → FpOk X pins H1 c := fun c hcm => by
        have e' : c = s1.heap.objs.size + 4 ∨ c = s1.heap.objs.size + 2 ∨ c = s1.heap.objs.size + 3 ∨ c = s1.heap.objs.size ∨ c = s1.heap.objs.size + 1 := by simpa using hcm
        have hle : s1.heap.objs.size ≤ c := by
          rcases e' with z | z | z | z | z
          · rw [z]
            exact Nat.le_add_right _ _
          · rw [z]
            exact Nat.le_add_right _ _
          · rw [z]
            exact Nat.le_add_right _ _
          · rw [z]
            exact Nat.le_refl _
          · rw [z]
            exact Nat.le_add_right _ _
        exact I1.fpOk hle (I1.hok.fresh hle)
      obtain ⟨its, rv, p1, _⟩ := I1.tuple hqx
      obtain ⟨its2, rv2, p2, _⟩ := I1.list hqy
      obtain ⟨o1, ho1, _⟩ := id p1
      refine zip_begins2 (begins_tuple a its.toArray) (begins_list b its2.toArray) p1 p2.isList fun h' hz hTI hTO h1 h2 hsz hk => wpAny_pyIter_zip hz ?_
      have I2 : Inv X pins σ H1 { s1 with heap := h' } := I1.kept (t' := s1.toks) hk
      exact ⟨s1.heap.objs.size + 4, [s1.heap.objs.size + 4, s1.heap.objs.size + 2, s1.heap.objs.size + 3, s1.heap.objs.size, s1.heap.objs.size + 1], _, _, H1, rfl, I2, turn_zipM (PySem.W.ktu_apart s1.heap.objs.size a b (Heap.lt_size ho1) p2.lt), ⟨hz, hTI, ⟨_, _, hTO⟩, ⟨_, h1, rfl, rfl⟩, ⟨_, h2, rfl, rfl⟩⟩, fresh5, q⟩

/-! ### t * 1 is t -/
theorem tuple_mul1 (l : Addr) (items : Array Value) (n : Nat) (dd : Option Addr) (sl : Array (Option Value)) (u : Tok) :
    Meets (Builtin.«tuple.__mul__» ⟨[.ref l, .int 1 u], []⟩) (fun _ R s => s.heap.get? l = some { cls := .type "tuple", dict := dd, data := .seq items n, slots := sl } ∧ R (.ok (.ret (Value.ref l))) s) :=
  .of_wp fun prog w A R s h => by
    obtain ⟨hp, g, d, tk, os⟩ := s
    obtain ⟨hl, h⟩ := h
    have f1 := AutoSeq1.idx_int
    have c1 : (items.isEmpty || (1 : Int) == 1) = true := by simp
    wp_walk using wpAny_loadPart' hl
    repeat (first
      | (refine wpAny_ite_false (decide_eq_false (by decide)) ?_; wp_walk using wpAny_loadPart' hl)
      | (refine wpAny_ite_true (decide_eq_true (by rw [c1])) ?_; wp_walk using wpAny_loadPart' hl))
    exact ⟨_, rfl, h⟩

/-- t * k, k from 1 on -/
def rRepA (K : PySem.W.Frag) : R2 := fun x y H Q => ∃ l k xs, x = .ref l ∧ y = .int k ∧ SqT K H l xs ∧ xs ≠ [] ∧ 1 ≤ k ∧ k ≤ 1000 ∧ xs.length ≤ 1000 ∧ (k = 1 → Q (.ref l) H) ∧ (2 ≤ k → ∀ p, H p = none → Q (.ref p) (upd H p (.tup (List.replicate k.toNat xs).flatten)))
section
variable {X : Cx}
theorem op_repA : OpR X (binaryOp .Mult) (rRepA X.K) := by
  intro pins s σ H x y v u Q I rx ry h
  obtain ⟨l, k, xs, rfl, rfl, hT, hne, h1, h2, hz, qa, qb⟩ := h
  by_cases hk : k = 1
  · subst hk
    cases rx
    obtain ⟨t, rfl⟩ := ry
    obtain ⟨its, r, ⟨⟨cls, dd, data, sl⟩, ho, hc, n, hd⟩, hs⟩ := I.tuple hT
    simp only at hc hd
    subst hc hd
    refine wpAny_binaryOp_repeat_ref (T := "tuple") (U := "int") (by decide) ⟨_, ho, rfl⟩ (fun s' => typeIs_int s' 1 t) noFill_tuple_mul F.fills_int_mul F.slot_int_rmul repeat_tuple F.slot_int_index.lookup
      (call_meets F.slot_int_rmul (typeIs_int s 1 t) F.entry_int_rmul (F.args_int_rmul_2 _ _) (int_rmul_tuple 1 t l its.toArray n dd sl)
        ⟨ho, rfl, ⟨_, ho, rfl⟩, call_meets F.slot_tuple_mul ⟨_, ho, rfl⟩ F.entry_tuple_mul (F.args_tuple_mul_2 _ _) (tuple_mul1 l its.toArray n dd sl t) ⟨ho, ?_⟩⟩)
    exact ⟨.ref l, H, I, rfl, qa rfl⟩
  · exact op_repT pins s σ H _ _ v u Q I rx ry ⟨l, k, xs, rfl, rfl, hT, hne, by omega, h2, hz, qb (by omega)⟩

/-! ### t[::-1] -/
theorem places_rev (n : Nat) : Builtin.Slice.slicePlaces ((n : Int) - 1) (-1) (-1) = n := by
  unfold Builtin.Slice.slicePlaces
  rw [if_neg (by decide)]
  by_cases h : 0 < n
  · rw [if_pos (by omega)]
    have e : ((n : Int) - 1 - -1 - 1) / (- -1) = (n : Int) - 1 := by
      rw [show (- -1 : Int) = 1 by decide, Int.ediv_one]
      omega
    rw [e]
    omega
  · rw [if_neg (by omega)]
    omega
theorem fm_congr {α β : Type} {f g : α → Option β} : ∀ {l : List α}, (∀ a ∈ l, f a = g a) → l.filterMap f = l.filterMap g
  | [], _ => rfl
  | a :: l, h => by
    have ih := fm_congr (l := l) fun b hb => h b (List.mem_cons_of_mem _ hb)
    rw [List.filterMap_cons, List.filterMap_cons, h a List.mem_cons_self, ih]
theorem pick_rev (xs : Array Value) : ((List.range xs.size).filterMap fun (m : Nat) => xs[(((xs.size : Int) - 1) + (m : Int) * (-1)).toNat]?).toArray = xs.toList.reverse.toArray := by
  have h1 : ((List.range xs.size).filterMap fun (m : Nat) => xs[(((xs.size : Int) - 1) + (m : Int) * (-1)).toNat]?) = ((List.range xs.size).map fun k => xs.size - 1 - k).filterMap (xs[·]?) := by
    rw [List.filterMap_map]
    refine fm_congr fun m hm => ?_
    have := List.mem_range.mp hm
    have e : (((xs.size : Int) - 1) + (m : Int) * (-1)).toNat = xs.size - 1 - m := by omega
    rw [e]
    rfl
  rw [h1, PySem.W.krv_range, List.filterMap_reverse, PySem.W.krv_all]
theorem getItem_tuple_rev {prog : Program} {w : World} {A : Around} {E : Value → Shared → Prop} {s : Shared} {t sl : Addr} {items : Array Value} {vl vu vs : Value} {Q : Value → Shared → Prop} (ht : IsTup s.heap t items) (hs : s.heap.IsSliceOf sl vl vu vs) (pl : IsPart vl none) (pu : IsPart vu none) (ps : IsPart vs (some (-1)))
    (h : Q (.ref s.heap.objs.size) { s with heap := s.heap.push { cls := .type "tuple", data := .seq items.toList.reverse.toArray } }) (hsz : items.size ≤ sizeLine) : wpAny (model prog w) A (getItem (.ref t) (.ref sl)) Q E s := by
  have hok : sizeOk (.seq items.toList.reverse.toArray) := by
    show items.toList.reverse.toArray.size ≤ sizeLine
    rw [List.size_toArray, List.length_reverse, Array.length_toList]
    exact hsz
  obtain ⟨os, hos, hcs, hds⟩ := id hs
  have hTs : s.TypeIs (.ref sl) "slice" := ⟨os, hos, hcs⟩
  unfold getItem
  try with_reducible refine wpAny_holding ?_
  first | refine wpAny_bind (wpAny_pure ?_) | skip
  refine wpAny_bind (wpAny_sequenceKey ht.typeIs (by decide) ?_)
  refine wpAny_bind (wpAny_callSpecial?_slot (name := Str.ofString "__getitem__") ht.typeIs PyProof.Rows.slot_tuple_getitem
    (wpAny_call_entry PyProof.Rows.slot_tuple_getitem ht.typeIs entry_tuple_getitem ?_ (args_tuple_getitem _ _)))
  show wpAny _ _ (Builtin.Tuple.tupleItemsOf (.ref t) >>= _) _ _ s
  refine wpAny_bind (PyProof.Rows.tupleItemsOf_ ht ?_)
  refine wpAny_bind (wpAny_typeOf hTs ?_)
  rw [if_pos (by decide)]
  refine wpAny_bind ?_
  unfold Builtin.Slice.sliceApplied Builtin.Slice.sliceFields
  refine wpAny_bind (wpAny_bind (wpAny_field hos hds (x := vl) rfl (wpAny_bind (wpAny_field hos hds (x := vu) rfl (wpAny_bind (wpAny_field hos hds (x := vs) rfl (wpAny_pure ?_)))))))
  refine wpAny_bind (HT.slicePart_ ps ?_)
  show wpAny _ _ (if ((-1 : Int) == 0) = true then _ else _) _ _ s
  rw [if_neg (by decide)]
  refine wpAny_bind (HT.slicePart_ pl (wpAny_bind (HT.slicePart_ pu (wpAny_bind (wpAny_pure ?_)))))
  show wpAny _ _ (pure (((items.size : Int) - 1), (-1 : Int), Builtin.Slice.slicePlaces ((items.size : Int) - 1) (-1) (-1))) _ _ s
  rw [places_rev]
  refine wpAny_pure ?_
  show wpAny _ _ (if (((items.size : Int) - 1) == 0 && (-1 : Int) == 1 && items.size == items.size) = true then _ else _) _ _ s
  rw [if_neg (by simp), pick_rev]
  first
    | exact wpAny_bind (m := Builtin.Tuple.tupleExact _) (wpAny_newObj_type (wpAny_pure ⟨_, rfl, wpAny_pure h⟩) hok)
    | exact wpAny_bind (m := Builtin.Tuple.tupleExact _) (wpAny_newObj_type (wpAny_bind (wpAny_pure (wpAny_pure ⟨_, rfl, wpAny_pure h⟩))) hok)
    | exact wpAny_bind (wpAny_bind (m := Builtin.Tuple.tupleExact _) (wpAny_newObj_type (wpAny_pure (wpAny_pure ⟨_, rfl, wpAny_pure h⟩)) hok))
    | exact wpAny_bind (wpAny_bind (m := Builtin.Tuple.tupleExact _) (wpAny_newObj_type (wpAny_pure ⟨_, rfl, wpAny_pure h⟩) hok))
def tRevT (K : PySem.W.Frag) (te : TE) : TE := fun σ H Q => te σ H fun x H1 => ∃ a xs, x = .ref a ∧ SqT K H1 a xs ∧ ∀ p, H1 p = none → Q (.ref p) (upd H1 p (.tup xs.reverse))
theorem pe_revT {e : Expr} {te : TE} {k : Nat} {p1 p2 p3 pos : Pos} (he : PE X e te) : PE X (.Subscript e (.Slice none none (some (.UnaryOp .USub (.Constant (.int 1) k p1) p2)) p3) pos) (tRevT X.K te) := by
  refine ⟨fun pins s σ H Q I h => ?_⟩
  refine Subscript_ (thn (he.run pins s σ H _ I h) fun v s1 ⟨x, H1, I1, r1, q1⟩ => ?_)
  obtain ⟨a, xs, ex, hx, q⟩ := q1
  subst ex
  cases r1
  have hst : PO X (some (.UnaryOp .USub (.Constant (.int 1) k p1) p2)) (tPart (tUn (rU fun i => .int (-i)) (tC (.int 1)))) := po_some (pe_un un_neg pe_int)
  refine wpAny_Slice (thn (po_none.run pins s1 σ H1 (fun o H2 => o = none ∧ H2 = H1) I1 ⟨rfl, rfl⟩) fun vl s2 ⟨l, H2, I2, pl, el, e2⟩ => ?_)
  subst el e2
  refine thn (po_none.run pins s2 σ H2 (fun o H3 => o = none ∧ H3 = H2) I2 ⟨rfl, rfl⟩) fun vu s3 ⟨u, H3, I3, pu, eu, e3⟩ => ?_
  subst eu e3
  refine thn (hst.run pins s3 σ H3 (fun o H4 => o = some (-1) ∧ H4 = H3) I3 ⟨1, rfl, -1, rfl, rfl, rfl⟩) fun vs s4 ⟨o, H4, I4, ps, eo, e4⟩ => ?_
  subst eo e4
  have I5 : Inv X pins σ H4 { s4 with heap := s4.heap.push { cls := .type "slice", data := .fields #[vl, vu, vs] } } := I4.kept (t' := s4.toks) fun b ob q => Heap.get?_push_of_some _ q
  obtain ⟨its, r, ht, hz⟩ := I5.tuple hx
  have hlen := r.length
  show wpAny (model X.prog X.w) X.A (subscriptTail e (.Slice none none (some (.UnaryOp .USub (.Constant (.int 1) k p1) p2)) p3) (.ref a) (.ref s4.heap.objs.size)) (EP X pins σ Q) X.xe { s4 with heap := s4.heap.push { cls := .type "slice", data := .fields #[vl, vu, vs] } }
  refine tail_any (ops := [.ref a, .ref s4.heap.objs.size]) ht.typeIs PyProof.Rows.slot_tuple_getitem.lookup ?_ (by with_unfolding_all rfl)
  refine getItem_tuple_rev ht (Heap.IsSliceOf.new _ vl vu vs) pl pu ps ?_ (by rw [List.size_toArray]; omega)
  refine ⟨.ref _, _, I5.laid (t' := s4.toks) (o := .tup xs.reverse) (fun b ob q => Heap.get?_push_of_some _ q) (Nat.le_refl _) ?_, rfl, q _ (I5.hok.fresh (Nat.le_refl _))⟩
  exact ⟨by rw [List.length_reverse]; exact hz, _, r.reverse, IsTup.new _ _⟩
end
end Mr
set_option Elab.async false
set_option linter.all false
set_option maxRecDepth 100000
set_option maxHeartbeats 4000000

/-! A typed layer: slots and the lists that change are typed by predicates that grow with the heap; expressions and statements by rules. -/
namespace Lay
open PySem PySem.Spec PyProof.Rows L2 Gx

/-! ### predicates that growth keeps -/
structure Rp where
  p : V → Hp → Prop
  mono : ∀ v H H', Ext H H' → p v H → p v H'
structure LC where
  p : List V → Hp → Prop
  mono : ∀ v H H', Ext H H' → p v H → p v H'
theorem rd_ext {H H' : Hp} {a : Addr} {u : HO} (e : Ext H H') (n : ∀ ps, u ≠ .tbl ps) (h : Rd H a u) : Rd H' a u := by
  rcases h with h | ⟨o, h⟩
  · exact .inl (e.obj a u h n)
  · exact .inr ⟨o, e.obj a _ h (fun ps z => by cases z)⟩
theorem sqt_ext {K : PySem.W.Frag} {H H' : Hp} {a : Addr} {xs : List V} (e : Ext H H') (h : SqT K H a xs) : SqT K H' a xs := by
  rcases h with h | h
  · exact .inl (rd_ext e (fun ps z => by cases z) h)
  · exact .inr h
theorem sql_ext {K : PySem.W.Frag} {H H' : Hp} {a : Addr} {xs : List V} (e : Ext H H') (h : SqL K H a xs) : SqL K H' a xs := by
  rcases h with h | h
  · exact .inl (rd_ext e (fun ps z => by cases z) h)
  · exact .inr h
theorem tyx_ext {K : PySem.W.Frag} {H H' : Hp} {v : V} {t : Value} (e : Ext H H') (h : TyX K H v t) : TyX K H' v t := by
  have go : ∀ {a o}, H a = some o → (∀ ps, o ≠ .tbl ps) → H' a = some o := fun {a o} h n => e.obj a o h n
  cases h with
  | base b =>
    refine .base ?_
    cases b with
    | non => exact .non
    | bl x => exact .bl x
    | int x => exact .int x
    | str x => exact .str x
    | flt x => exact .flt x
    | lst q => exact .lst (go q (fun ps z => by cases z))
    | frz q => exact .frz (go q (fun ps z => by cases z))
    | tup q => exact .tup (go q (fun ps z => by cases z))
    | dK q => exact .dK (go q (fun ps z => by cases z))
    | dT q => exact .dT (go q (fun ps z => by cases z))
    | ins q c1 c2 c3 c4 c5 => exact .ins (go q (fun ps z => by cases z)) c1 c2 c3 c4 c5
  | byt b => exact .byt b
  | set q => exact .set (go q (fun ps z => by cases z))
  | kList q c => exact .kList q c
  | kTuple q c => exact .kTuple q c
  | kDict q c => exact .kDict q c
  | fTuple q => exact .fTuple (go q (fun ps z => by cases z))
  | fDict q => exact .fDict (go q (fun ps z => by cases z))

def Is (x : V) : Rp := ⟨fun v _ => v = x, fun _ _ _ _ h => h⟩
def Any : Rp := ⟨fun _ _ => True, fun _ _ _ _ h => h⟩
def Els (n : Nat) (P : Nat → Rp) : LC := ⟨fun xs h => xs.length = n ∧ ∀ i x, xs[i]? = some x → (P i).p x h, fun xs H H' e h => ⟨h.1, fun i x q => (P i).mono x H H' e (h.2 i x q)⟩⟩
/-- a list that stays | a tuple -/
def Fz (K : PySem.W.Frag) (c : LC) : Rp := ⟨fun v h => ∃ a xs, v = .ref a ∧ SqL K h a xs ∧ c.p xs h, fun v H H' e h => let ⟨a, xs, h1, h2, h3⟩ := h; ⟨a, xs, h1, sql_ext e h2, c.mono xs H H' e h3⟩⟩
def Tz (K : PySem.W.Frag) (c : LC) : Rp := ⟨fun v h => ∃ a xs, v = .ref a ∧ SqT K h a xs ∧ c.p xs h, fun v H H' e h => let ⟨a, xs, h1, h2, h3⟩ := h; ⟨a, xs, h1, sqt_ext e h2, c.mono xs H H' e h3⟩⟩
def LstF (K : PySem.W.Frag) (n : Nat) (P : Nat → Rp) : Rp := Fz K (Els n P)
def TupF (K : PySem.W.Frag) (n : Nat) (P : Nat → Rp) : Rp := Tz K (Els n P)
def Tys (K : PySem.W.Frag) (t : Value) : Rp := ⟨fun v h => TyX K h v t, fun _ _ _ e h => tyx_ext e h⟩
/-- of a type that is no tuple -/
def NoTup (K : PySem.W.Frag) : Rp := ⟨fun v h => ∃ t, TyX K h v t ∧ PySem.W.kitOne K t (.type "tuple") = some false, fun _ _ _ e h => let ⟨t, a, b⟩ := h; ⟨t, tyx_ext e a, b⟩⟩
def Ex {α : Type} (P : α → Rp) : Rp := ⟨fun v h => ∃ x, (P x).p v h, fun v H H' e h => let ⟨x, q⟩ := h; ⟨x, (P x).mono v H H' e q⟩⟩
def And (P : Rp) (F : Prop) : Rp := ⟨fun v h => P.p v h ∧ F, fun v H H' e h => ⟨P.mono v H H' e h.1, h.2⟩⟩
/-- with what else the heap holds -/
def With (P : Rp) (F : Hp → Prop) (hF : ∀ H H', Ext H H' → F H → F H') : Rp := ⟨fun v h => P.p v h ∧ F h, fun v H H' e h => ⟨P.mono v H H' e h.1, hF H H' e h.2⟩⟩
def two {α : Sort _} (A B : α) : Nat → α
  | 0 => A
  | _ + 1 => B
def Sub (P Q : Rp) : Prop := ∀ v h, P.p v h → Q.p v h
theorem Sub.refl (P : Rp) : Sub P P := fun _ _ h => h

/-! ### hiding the lists that change -/
def hide (M : List Addr) (H : Hp) : Hp := fun a => if a ∈ M then none else H a
abbrev Mu := List (Addr × LC)
abbrev dom (μ : Mu) : List Addr := μ.map (·.1)
abbrev view (μ : Mu) (H : Hp) : Hp := hide (dom μ) H
def Lsts (M : List Addr) (H : Hp) : Prop := ∀ p ∈ M, ∃ xs, H p = some (.lst xs)
theorem hide_in {M : List Addr} {H : Hp} {a : Addr} (h : a ∈ M) : hide M H a = none := if_pos h
theorem hide_out {M : List Addr} {H : Hp} {a : Addr} (h : a ∉ M) : hide M H a = H a := if_neg h
theorem of_hide {M : List Addr} {H : Hp} {a : Addr} {o : HO} (h : hide M H a = some o) : H a = some o ∧ a ∉ M := by
  by_cases q : a ∈ M
  · rw [hide_in q] at h; cases h
  · rw [hide_out q] at h; exact ⟨h, q⟩
theorem ext_hide (M : List Addr) (H : Hp) : Ext (hide M H) H := Ext.of fun b o e => (of_hide e).1
theorem ext_less {M M' : List Addr} {H : Hp} (h : ∀ a ∈ M, a ∈ M') : Ext (hide M' H) (hide M H) := Ext.of fun b o e => by
  obtain ⟨q, n⟩ := of_hide e
  rw [hide_out fun z => n (h b z)]
  exact q
theorem tb_hide {M : List Addr} {H : Hp} (hl : Lsts M H) : ∀ (n : Nat) (P : Addr), Tb n H P → Tb n (hide M H) P := by
  have out : ∀ {b o}, H b = some o → (∀ xs, o ≠ .lst xs) → hide M H b = some o := fun {b o} e n => by
    rw [hide_out fun z => ?_]
    · exact e
    · obtain ⟨xs, q⟩ := hl b z
      rw [e] at q
      exact n xs (Option.some.inj q)
  intro n
  induction n with
  | zero =>
    intro P t
    obtain ⟨ps, h1, h2⟩ := t
    exact ⟨ps, out h1 (fun xs z => by cases z), h2⟩
  | succ n ih =>
    intro P t
    obtain ⟨ps, h1, h2, h3⟩ := t
    refine ⟨ps, out h1 (fun xs z => by cases z), h2, fun pos cv hc => ?_⟩
    obtain ⟨c', P', q1, q2, q3⟩ := h3 pos cv hc
    exact ⟨c', P', q1, out q2 (fun xs z => by unfold CdO at z; cases z), ih P' q3⟩
theorem ext_both {M : List Addr} {H H' : Hp} (hl : Lsts M H') (e : Ext H H') : Ext (hide M H) (hide M H') := by
  have out : ∀ {b o}, H' b = some o → b ∉ M → hide M H' b = some o := fun {b o} q n => by rw [hide_out n]; exact q
  refine ⟨fun b o h n => ?_, fun b ps h => ?_, fun n P t => tb_hide hl n P (e.tab n P ((ext_hide M H).tab n P t))⟩
  · obtain ⟨q, m⟩ := of_hide h
    exact out (e.obj b o q n) m
  · obtain ⟨q, m⟩ := of_hide h
    obtain ⟨qs, q'⟩ := e.tbl b ps q
    exact ⟨qs, out q' m⟩
theorem hide_mut {M : List Addr} {H : Hp} {p : Addr} {o : HO} (h : p ∈ M) : hide M (upd H p o) = hide M H := by
  funext b
  by_cases q : b ∈ M
  · rw [hide_in q, hide_in q]
  · rw [hide_out q, hide_out q, upd_ne fun z => q (by rw [z]; exact h)]
theorem hide_new {M : List Addr} {H : Hp} {p : Addr} {o : HO} (h : p ∉ M) : hide M (upd H p o) = upd (hide M H) p o := by
  funext b
  by_cases z : b = p
  · rw [z, hide_out h, upd_same, upd_same]
  · rw [upd_ne z]
    by_cases q : b ∈ M
    · rw [hide_in q, hide_in q]
    · rw [hide_out q, hide_out q, upd_ne z]
theorem hide_own {M : List Addr} {H : Hp} {p : Addr} {o : HO} (h : H p = none) : hide (p :: M) (upd H p o) = hide M H := by
  funext b
  by_cases z : b = p
  · rw [hide_in (by rw [z]; exact List.mem_cons_self), z]
    by_cases q : p ∈ M
    · rw [hide_in q]
    · rw [hide_out q, h]
  · by_cases q : b ∈ M
    · rw [hide_in (List.mem_cons_of_mem _ q), hide_in q]
    · rw [hide_out (by intro y; rcases List.mem_cons.mp y with y | y; exact z y; exact q y), hide_out q, upd_ne z]

/-! ### what stands -/
structure Holds (ts : List Addr) (μ : Mu) (H : Hp) : Prop where
  el : ∀ e ∈ μ, ∃ xs, H e.1 = some (.lst xs) ∧ e.2.p xs (view μ H)
  nd : (dom μ).Nodup
  tb : ∀ P ∈ ts, Tb 2 (view μ H) P
theorem Holds.lsts {ts : List Addr} {μ : Mu} {H : Hp} (h : Holds ts μ H) : Lsts (dom μ) H := fun p hp => by
  obtain ⟨e, he, rfl⟩ := List.mem_map.mp hp
  obtain ⟨xs, q, _⟩ := h.el e he
  exact ⟨xs, q⟩
theorem Holds.step {ts : List Addr} {μ : Mu} {H H' : Hp} (h : Holds ts μ H) (same : ∀ p ∈ dom μ, H' p = H p) (e : Ext (view μ H) (view μ H')) : Holds ts μ H' := by
  refine ⟨fun m hm => ?_, h.nd, fun P hP => e.tab 2 P (h.tb P hP)⟩
  obtain ⟨xs, q, c⟩ := h.el m hm
  exact ⟨xs, by rw [same m.1 (List.mem_map.mpr ⟨m, hm, rfl⟩)]; exact q, m.2.mono _ _ _ e c⟩
/-- nothing new, or one new thing -/
def Grow (H H' : Hp) : Prop := H' = H ∨ ∃ p o, H p = none ∧ H' = upd H p o
theorem Grow.refl (H : Hp) : Grow H H := .inl rfl
theorem Grow.new {H : Hp} {p : Addr} {o : HO} (h : H p = none) : Grow H (upd H p o) := .inr ⟨p, o, h, rfl⟩
theorem Grow.ext {H H' : Hp} (g : Grow H H') : Ext H H' := by
  rcases g with rfl | ⟨p, o, h, rfl⟩
  · exact Ext.refl _
  · exact Ext.new h
theorem Grow.same {H H' : Hp} (g : Grow H H') {p : Addr} {o : HO} (h : H p = some o) : H' p = H p := by
  rcases g with rfl | ⟨q, u, hq, rfl⟩
  · rfl
  · rw [upd_ne (ne_of_none h hq)]
theorem Grow.lsts {H H' : Hp} {M : List Addr} (g : Grow H H') (h : Lsts M H) : Lsts M H' := fun p hp => by
  obtain ⟨xs, q⟩ := h p hp
  exact ⟨xs, by rw [g.same q]; exact q⟩
theorem Grow.view {H H' : Hp} {M : List Addr} (g : Grow H H') (h : Lsts M H) : Ext (hide M H) (hide M H') := ext_both (g.lsts h) g.ext
theorem Holds.grow {ts : List Addr} {μ : Mu} {H H' : Hp} (h : Holds ts μ H) (g : Grow H H') : Holds ts μ H' :=
  h.step (fun p hp => by obtain ⟨xs, q⟩ := h.lsts p hp; exact g.same q) (g.view h.lsts)

abbrev Sl := List (Option Rp)
structure Ok (ts : List Addr) (Γ : Sl) (μ : Mu) (σ : L2.St) (H : Hp) : Prop where
  len : σ.length = Γ.length
  sl : ∀ (i : Nat) (P : Rp), Γ[i]? = some (some P) → ∃ v, σ[i]? = some (some v) ∧ P.p v (view μ H)
  hd : Holds ts μ H
theorem Ok.step {ts : List Addr} {Γ : Sl} {μ μ' : Mu} {σ : L2.St} {H H' : Hp} (k : Ok ts Γ μ σ H) (h : Holds ts μ' H') (e : Ext (view μ H) (view μ' H')) : Ok ts Γ μ' σ H' :=
  ⟨k.len, fun i P q => let ⟨v, a, b⟩ := k.sl i P q; ⟨v, a, P.mono _ _ _ e b⟩, h⟩
theorem Ok.grow {ts : List Addr} {Γ : Sl} {μ : Mu} {σ : L2.St} {H H' : Hp} (k : Ok ts Γ μ σ H) (g : Grow H H') : Ok ts Γ μ σ H' := k.step (k.hd.grow g) (g.view k.hd.lsts)
theorem Ok.ev {ts : List Addr} {Γ : Sl} {μ : Mu} {σ : L2.St} {H H' : Hp} (k : Ok ts Γ μ σ H) (g : Grow H H') : Ext (view μ H) (view μ H') := g.view k.hd.lsts
theorem Ok.set {ts : List Addr} {Γ : Sl} {μ : Mu} {σ : L2.St} {H : Hp} {i : Nat} {v : V} {P : Rp} (k : Ok ts Γ μ σ H) (h : P.p v (view μ H)) : Ok ts (Γ.set i (some P)) μ (σ.set i (some v)) H := by
  refine ⟨by rw [List.length_set, List.length_set]; exact k.len, fun j Q q => ?_, k.hd⟩
  rw [List.getElem?_set] at q ⊢
  by_cases e : i = j
  · rw [if_pos e] at q ⊢
    by_cases l : i < Γ.length
    · rw [if_pos l] at q
      rw [if_pos (by rw [k.len]; exact l)]
      cases q
      exact ⟨v, rfl, h⟩
    · rw [if_neg l] at q
      cases q
  · rw [if_neg e] at q ⊢
    exact k.sl j Q q
theorem Ok.retype {ts : List Addr} {Γ : Sl} {μ : Mu} {σ : L2.St} {H : Hp} {i : Nat} {P : Rp} (k : Ok ts Γ μ σ H) (h : ∃ v, σ[i]? = some (some v) ∧ P.p v (view μ H)) : Ok ts (Γ.set i (some P)) μ σ H := by
  refine ⟨by rw [List.length_set]; exact k.len, fun j Q q => ?_, k.hd⟩
  rw [List.getElem?_set] at q
  by_cases e : i = j
  · rw [if_pos e] at q
    by_cases l : i < Γ.length
    · rw [if_pos l] at q
      cases q
      rw [← e]
      exact h
    · rw [if_neg l] at q
      cases q
  · rw [if_neg e] at q
    exact k.sl j Q q
def wipeG (Γ : Sl) : List Nat → Sl
  | [] => Γ
  | v :: vs => (wipeG Γ vs).set v none
theorem wipe_at (σ : L2.St) (i : Nat) : ∀ vs : List Nat, (wipe σ vs)[i]? = if i ∈ vs ∧ i < σ.length then some none else σ[i]?
  | [] => by simp [wipe]
  | v :: vs => by
    unfold wipe
    rw [List.getElem?_set, wipe_length, wipe_at σ i vs]
    by_cases h : v = i
    · subst h
      by_cases l : v < σ.length
      · simp [l]
      · simp [l]
    · have h' : ¬ i = v := fun z => h z.symm
      simp [h, h']
theorem wipeG_at (Γ : Sl) (i : Nat) : ∀ vs : List Nat, (wipeG Γ vs)[i]? = if i ∈ vs ∧ i < Γ.length then some none else Γ[i]?
  | [] => by simp [wipeG]
  | v :: vs => by
    have hl : ∀ (vs : List Nat), (wipeG Γ vs).length = Γ.length := fun vs => by
      induction vs with
      | nil => rfl
      | cons v vs ih => unfold wipeG; rw [List.length_set, ih]
    unfold wipeG
    rw [List.getElem?_set, hl, wipeG_at Γ i vs]
    by_cases h : v = i
    · subst h
      by_cases l : v < Γ.length
      · simp [l]
      · simp [l]
    · have h' : ¬ i = v := fun z => h z.symm
      simp [h, h']
theorem wipeG_length (Γ : Sl) (vs : List Nat) : (wipeG Γ vs).length = Γ.length := by
  induction vs with
  | nil => rfl
  | cons v vs ih => unfold wipeG; rw [List.length_set, ih]
theorem Ok.wipe {ts : List Addr} {Γ : Sl} {μ : Mu} {σ : L2.St} {H : Hp} (vs : List Nat) (k : Ok ts Γ μ σ H) : Ok ts (wipeG Γ vs) μ (wipe σ vs) H := by
  refine ⟨by rw [wipe_length, wipeG_length]; exact k.len, fun i P q => ?_, k.hd⟩
  rw [wipeG_at] at q
  rw [wipe_at, k.len]
  by_cases h : i ∈ vs ∧ i < Γ.length
  · rw [if_pos h] at q
    cases q
  · rw [if_neg h] at q ⊢
    exact k.sl i P q
end Lay
set_option Elab.async false
set_option linter.all false
set_option maxRecDepth 100000
set_option maxHeartbeats 4000000

namespace Lay
open PySem PySem.Spec PyProof.Rows L2 Gx

/-! ### contexts -/
structure Sta where
  P : Program
  w : World
  K : PySem.W.Frag
  mg : Str → Option Value
  base : Heap
  ts : List Addr
structure Ctx extends Sta where
  N : List Str
  sc : Scope
  k : Nat
  code : Value
  top : Bool
structure XOk (C : Ctx) (X : Cx) : Prop where
  prog : X.prog = C.P
  w : X.w = C.w
  K : X.K = C.K
  mg : X.mg = C.mg
  base : X.base = C.base
  N : X.N = C.N
  sc : X.env.scope = C.sc
  room : Room C.k X.A
  calm : X.calm = true
  fn : C.top = true → ∀ x, X.fn x = true
  xe : X.xe = fun _ _ => False
  code : X.env.code = C.code
  nd : C.N.Nodup

def TEx (C : Ctx) (e : Expr) : TE := fun σ H Q => ∀ (X : Cx) (pins : List (Addr × Obj)) (s : Shared), XOk C X → Inv X pins σ H s → wpAny (model X.prog X.w) X.A (eval e X.env) (EP X pins σ Q) X.xe s
def TTx (C : Ctx) (e : Expr) : TT := fun σ H Q => ∀ (X : Cx) (pins : List (Addr × Obj)) (s : Shared), XOk C X → Inv X pins σ H s → wpAny (model X.prog X.w) X.A (isTrue e X.env (eval e X.env)) (TP X pins σ Q) X.xe s
def TWx (C : Ctx) (e : Expr) : TT := fun σ H Q => ∀ (X : Cx) (wh : Sem Value) (pins : List (Addr × Obj)) (s : Shared), XOk C X → Inv X pins σ H s → wpAny (model X.prog X.w) X.A (isTrue e X.env wh) (TP X pins σ Q) X.xe s
def TAx (C : Ctx) (es : List Expr) : TA := fun σ H Q => ∀ (X : Cx) (pos : Pos) (pins : List (Addr × Obj)) (s : Shared), XOk C X → Inv X pins σ H s → wpAny (model X.prog X.w) X.A (spliced (backTo pos (starEach es X.env))) (AP X pins σ Q) X.xe s
def TIx (C : Ctx) (tg iter : Expr) : TI := fun σ H R => ∀ (X : Cx) (pins : List (Addr × Obj)) (s : Shared), XOk C X → Inv X pins σ H s → wpAny (model X.prog X.w) X.A (eval iter X.env) (fun v s1 => wpAny (model X.prog X.w) X.A (pyIter v) (PIE X pins σ tg R) X.xe s1) X.xe s
section
variable {C : Ctx} {X : Cx} {e tg iter : Expr} {es : List Expr}
theorem TEx.pe (hX : XOk C X) : PE X e (TEx C e) := ⟨fun pins s σ H Q I h => h X pins s hX I⟩
theorem TTx.pt (hX : XOk C X) : PT X e (TTx C e) := ⟨fun pins s σ H Q I h => h X pins s hX I⟩
theorem TWx.pw (hX : XOk C X) : PW X e (TWx C e) := ⟨fun wh pins s σ H Q I h => h X wh pins s hX I⟩
theorem TAx.pa (hX : XOk C X) : PA X es (TAx C es) := ⟨fun pos pins s σ H Q I h => h X pos pins s hX I⟩
theorem TIx.pi (hX : XOk C X) : PI X tg iter (TIx C tg iter) := ⟨fun pins s σ H R I h => h X pins s hX I⟩
theorem tex {t : TE} {σ : L2.St} {H : Hp} {Q : VK} (h : ∀ X, XOk C X → PE X e t) (q : t σ H Q) : TEx C e σ H Q := fun X pins s hX I => (h X hX).run pins s σ H Q I q
theorem ttx {t : TT} {σ : L2.St} {H : Hp} {Q : Bool → Hp → Prop} (h : ∀ X, XOk C X → PT X e t) (q : t σ H Q) : TTx C e σ H Q := fun X pins s hX I => (h X hX).run pins s σ H Q I q
theorem twx {t : TT} {σ : L2.St} {H : Hp} {Q : Bool → Hp → Prop} (h : ∀ X, XOk C X → PW X e t) (q : t σ H Q) : TWx C e σ H Q := fun X wh pins s hX I => (h X hX).run wh pins s σ H Q I q
theorem tax {t : TA} {σ : L2.St} {H : Hp} {Q : List V → Hp → Prop} (h : ∀ X, XOk C X → PA X es t) (q : t σ H Q) : TAx C es σ H Q := fun X pos pins s hX I => (h X hX).run pos pins s σ H Q I q
theorem tix {t : TI} {σ : L2.St} {H : Hp} {R : It → Hp → Prop} (h : ∀ X, XOk C X → PI X tg iter t) (q : t σ H R) : TIx C tg iter σ H R := fun X pins s hX I => (h X hX).run pins s σ H R I q
end

def isStar : Expr → Bool
  | .Starred _ _ => true
  | _ => false
theorem star_cons {a : Expr} {rest : List Expr} {env : Env} (h : isStar a = false) : starEach (a :: rest) env = (false, eval a env) :: starEach rest env := by
  cases a <;> first | rfl | cases h
theorem star_one {a : Expr} {env : Env} (h : isStar a = false) : starEach [a] env = [(false, eval a env)] := star_cons h
/-! ### judgements -/
def AllP : List Rp → List V → Hp → Prop
  | [], [], _ => True
  | P :: Ps, v :: vs, h => P.p v h ∧ AllP Ps vs h
  | _, _, _ => False
theorem AllP.mono {H H' : Hp} (e : Ext H H') : ∀ {Ps : List Rp} {vs : List V}, AllP Ps vs H → AllP Ps vs H'
  | [], [], _ => True.intro
  | P :: Ps, v :: vs, h => ⟨P.mono v H H' e h.1, AllP.mono e h.2⟩
  | [], _ :: _, h => h
  | _ :: _, [], h => h
theorem AllP.length {H : Hp} : ∀ {Ps : List Rp} {vs : List V}, AllP Ps vs H → vs.length = Ps.length
  | [], [], _ => rfl
  | P :: Ps, v :: vs, h => by rw [List.length_cons, List.length_cons, AllP.length h.2]
  | [], _ :: _, h => h.elim
  | _ :: _, [], h => h.elim
theorem AllP.get {H : Hp} : ∀ {Ps : List Rp} {vs : List V}, AllP Ps vs H → ∀ (i : Nat) x, vs[i]? = some x → ∃ P, Ps[i]? = some P ∧ P.p x H
  | [], [], _, i, x, q => by simp at q
  | P :: Ps, v :: vs, h, 0, x, q => ⟨P, rfl, by cases q; exact h.1⟩
  | P :: Ps, v :: vs, h, i + 1, x, q => AllP.get h.2 i x q
  | [], _ :: _, h, _, _, _ => h.elim
  | _ :: _, [], h, _, _, _ => h.elim

theorem AllP.one {A : Rp} {h : Hp} : ∀ {vs : List V}, AllP [A] vs h → ∃ v, vs = [v] ∧ A.p v h
  | [], q => q.elim
  | [v], q => ⟨v, rfl, q.1⟩
  | _ :: _ :: _, q => q.2.elim
theorem AllP.pair {A B : Rp} {h : Hp} : ∀ {vs : List V}, AllP [A, B] vs h → ∃ v w, vs = [v, w] ∧ A.p v h ∧ B.p w h
  | [], q => q.elim
  | v :: r, q => by
    obtain ⟨w, rfl, q2⟩ := AllP.one (vs := r) q.2
    exact ⟨v, w, rfl, q.1, q2⟩
theorem AllP.trip {A B D : Rp} {h : Hp} : ∀ {vs : List V}, AllP [A, B, D] vs h → ∃ v w u, vs = [v, w, u] ∧ A.p v h ∧ B.p w h ∧ D.p u h
  | [], q => q.elim
  | v :: r, q => by
    obtain ⟨w, u, rfl, q2, q3⟩ := AllP.pair (vs := r) q.2
    exact ⟨v, w, u, rfl, q.1, q2, q3⟩

def EE (C : Ctx) (e : Expr) (Γ : Sl) (μ : Mu) (P : Rp) : Prop := ∀ σ H (Q : VK), Ok C.ts Γ μ σ H → (∀ v H', Ok C.ts Γ μ σ H' → Ext (view μ H) (view μ H') → P.p v (view μ H') → Q v H') → TEx C e σ H Q
/-- a new list, nobody else's -/
def EN (C : Ctx) (e : Expr) (Γ : Sl) (μ : Mu) (c : LC) : Prop := ∀ σ H (Q : VK), Ok C.ts Γ μ σ H → (∀ p H', Ok C.ts Γ ((p, c) :: μ) σ H' → Ext (view μ H) (view ((p, c) :: μ) H') → Q (.ref p) H') → TEx C e σ H Q
def ET (C : Ctx) (e : Expr) (Γ : Sl) (μ : Mu) (b : Bool) : Prop := ∀ σ H (Q : Bool → Hp → Prop), Ok C.ts Γ μ σ H → (∀ H', Ok C.ts Γ μ σ H' → Ext (view μ H) (view μ H') → Q b H') → TTx C e σ H Q
def EW (C : Ctx) (e : Expr) (Γ : Sl) (μ : Mu) (b : Bool) : Prop := ∀ σ H (Q : Bool → Hp → Prop), Ok C.ts Γ μ σ H → (∀ H', Ok C.ts Γ μ σ H' → Ext (view μ H) (view μ H') → Q b H') → TWx C e σ H Q
def EA (C : Ctx) (es : List Expr) (Γ : Sl) (μ : Mu) (Ps : List Rp) : Prop := ∀ σ H (Q : List V → Hp → Prop), Ok C.ts Γ μ σ H → (∀ vs H', Ok C.ts Γ μ σ H' → Ext (view μ H) (view μ H') → AllP Ps vs (view μ H') → Q vs H') → TAx C es σ H Q
/-- what an iterator gives: n things -/
def ItOk (J : It) (n : Nat) (P : Nat → Rp) (V0 : Hp) : Prop := ∀ (M : List Addr) (H : Hp), Lsts M H → Ext V0 (hide M H) → J.stop n H ∧ ∀ i, i < n → J.go i H ∧ ∀ x H', J.yld i H x H' → Grow H H' ∧ (P i).p x (hide M H')
def EI (C : Ctx) (tg iter : Expr) (Γ : Sl) (μ : Mu) (n : Nat) (P : Nat → Rp) : Prop := ∀ σ H (R : It → Hp → Prop), Ok C.ts Γ μ σ H → (∀ J H', Ok C.ts Γ μ σ H' → Ext (view μ H) (view μ H') → ItOk J n P (view μ H') → R J H') → TIx C tg iter σ H R
/-- a target: the things it takes, the slots it sets -/
def TG1 (C : Ctx) (tg : Expr) (P : Rp) (f : Sl → Sl) (js : List Nat) : Prop := ∃ g : TG, (∀ X, XOk C X → PG X tg g) ∧ ∀ x σ H Γ μ (Q : L2.St → Hp → Prop), Ok C.ts Γ μ σ H → P.p x (view μ H) →
  (∀ σ', Ok C.ts (f Γ) μ σ' H → (∀ i, i ∉ js → σ'[i]? = σ[i]?) → Q σ' H) → g x σ H Q

section
variable {C : Ctx} {a b e : Expr} {es : List Expr} {Γ : Sl} {μ : Mu} {A B P R : Rp} {pos : Pos}
theorem EE.sub (h : EE C e Γ μ P) (s : Sub P R) : EE C e Γ μ R := fun σ H Q ok q => h σ H Q ok fun v H' o x p => q v H' o x (s _ _ p)
theorem EE.is {i j : V} (h : EE C e Γ μ (Is i)) (s : i = j) : EE C e Γ μ (Is j) := s ▸ h
theorem ET.is {i j : Bool} (h : ET C e Γ μ i) (s : i = j) : ET C e Γ μ j := s ▸ h
theorem EN.sub {c d : LC} (h : EN C e Γ μ c) (s : ∀ v h, c.p v h → d.p v h) : EN C e Γ μ d := fun σ H Q ok q => h σ H Q ok fun p H' o x => q p H' (o.step ⟨fun m hm => by
  rcases List.mem_cons.mp hm with rfl | hm
  · obtain ⟨xs, h1, h2⟩ := o.hd.el _ List.mem_cons_self
    exact ⟨xs, h1, s _ _ h2⟩
  · exact o.hd.el m (List.mem_cons_of_mem _ hm), o.hd.nd, o.hd.tb⟩ (Ext.refl _)) x
/-- a new list as a value that stays -/
theorem EN.ee {c : LC} (h : EN C e Γ μ c) : EE C e Γ μ (Fz C.K c) := fun σ H Q ok q => h σ H Q ok fun p H' o x => by
  have l : Ext (view ((p, c) :: μ) H') (view μ H') := ext_less fun a ha => List.mem_cons_of_mem _ ha
  have hd : Holds C.ts μ H' := ⟨fun m hm => by
    obtain ⟨xs, h1, h2⟩ := o.hd.el m (List.mem_cons_of_mem _ hm)
    exact ⟨xs, h1, m.2.mono _ _ _ l h2⟩, (List.nodup_cons.mp o.hd.nd).2, fun T hT => l.tab 2 T (o.hd.tb T hT)⟩
  obtain ⟨xs, h1, h2⟩ := o.hd.el _ List.mem_cons_self
  have nin : p ∉ dom μ := (List.nodup_cons.mp o.hd.nd).1
  exact q _ H' (o.step hd l) (x.trans l) ⟨p, xs, rfl, .inl (.inl (by show hide _ _ _ = _; rw [hide_out nin]; exact h1)), c.mono _ _ _ l h2⟩

theorem e_var {i : Nat} {x : Str} (hΓ : Γ[i]? = some (some P) := by rfl) (hN : C.N[i]? = some x := by rfl) (hv : Vis C.sc x := by first | exact Or.inl rfl | exact Or.inr (Or.inl rfl) | exact Or.inr (Or.inr rfl)) (hd : (x == ("__debug__" : Str)) = false := by decide)
    (hcd : (x == ("__classdict__" : Str)) = false := by decide) : EE C (.Name x pos) Γ μ P := fun σ H Q ok q =>
  tex (fun X hX => pe_var (i := i) (by rw [hX.N]; exact hN) (by rw [hX.sc]; exact hv) hd hcd) (by
    obtain ⟨v, h1, h2⟩ := ok.sl i P hΓ
    exact ⟨v, h1, q v H ok (Ext.refl _) h2⟩)
theorem e_int {i : Int} {j : Nat} : EE C (.Constant (.int i) j pos) Γ μ (Is (.int i)) := fun σ H Q ok q => tex (fun X hX => pe_int) (q _ H ok (Ext.refl _) rfl)
theorem e_bl {i : Bool} {j : Nat} : EE C (.Constant (.bool i) j pos) Γ μ (Is (.bl i)) := fun σ H Q ok q => tex (fun X hX => pe_bl) (q _ H ok (Ext.refl _) rfl)
theorem e_non {j : Nat} : EE C (.Constant .none j pos) Γ μ (Is .non) := fun σ H Q ok q => tex (fun X hX => pe_non) (q _ H ok (Ext.refl _) rfl)
/-- a global constant -/
theorem e_glob {x : Str} {v : V} {u : Value} (hg : C.sc.names.lookup x = some .globalImplicit) (hm : C.mg x = some u) (r : RelV v u) (hd : (x == ("__debug__" : Str)) = false := by decide) : EE C (.Name x pos) Γ μ (Is v) := fun σ H Q ok q =>
  tex (fun X hX => pe_glob (v := v) (by unfold Gl Env.kindOf; rw [hX.sc]; exact hg) (by rw [hX.mg]; exact hm) r hd) (q _ H ok (Ext.refl _) rfl)
theorem gl_of {X : Cx} (hX : XOk C X) {x : Str} (hg : C.sc.names.lookup x = some .globalImplicit) : Gl X x := by unfold Gl Env.kindOf; rw [hX.sc]; exact hg
/-- a built-in class by name -/
theorem e_ty {x : Str} {n : String} (hg : C.sc.names.lookup x = some .globalImplicit) (hm : C.mg x = none) (hv : bootBuiltins x = some (.type n)) (hn : x ≠ "__name__" := by decide) (hd : (x == ("__debug__" : Str)) = false := by decide) : EE C (.Name x pos) Γ μ (Is (.ty n)) := fun σ H Q ok q =>
  tex (fun X hX => pe_bltn (v := .ty n) (gl_of hX hg) (by rw [hX.mg]; exact hm) hv rfl hn hd) (q _ H ok (Ext.refl _) rfl)
theorem e_op2 {op : Operator} {r : R2} (ho : ∀ X, XOk C X → OpR X (binaryOp op) r) (ha : EE C a Γ μ A) (hb : EE C b Γ μ B)
    (hr : ∀ x y H, Holds C.ts μ H → A.p x (view μ H) → B.p y (view μ H) → ∀ Q : VK, (∀ z H', Grow H H' → R.p z (view μ H') → Q z H') → r x y H Q) : EE C (.BinOp a op b pos) Γ μ R := fun σ H Q ok q =>
  tex (fun X hX => pe_op (ho X hX) (TEx.pe hX) (TEx.pe hX)) (ha σ H _ ok fun x H1 k1 e1 p1 => hb σ H1 _ k1 fun y H2 k2 e2 p2 => hr x y H2 k2.hd (A.mono _ _ _ e2 p1) p2 Q fun z H3 g pz => q z H3 (k2.grow g) ((e1.trans e2).trans (k2.ev g)) pz)
/-- a comparison of two things -/
def CM (C : Ctx) (op : CmpOp) (a b : Expr) (Γ : Sl) (μ : Mu) (k : Bool) : Prop := ∃ (r : R2) (A B : Rp), (∀ X, XOk C X → OpR X (compareOp op) r) ∧ behindInMarks op b = false ∧ EE C a Γ μ A ∧ EE C b Γ μ B ∧
  ∀ x y H, Holds C.ts μ H → A.p x (view μ H) → B.p y (view μ H) → ∀ Q : VK, Q (.bl k) H → r x y H Q
theorem e_cmp {op : CmpOp} {k : Bool} (h : CM C op a b Γ μ k) : EE C (.Compare a [op] [b] pos) Γ μ (Is (.bl k)) := fun σ H Q ok q => by
  obtain ⟨r, A, B, ho, hm, ha, hb, hr⟩ := h
  exact tex (fun X hX => pe_cmpR (ho X hX) (TEx.pe hX) (TEx.pe hX) hm) (ha σ H _ ok fun x H1 k1 e1 p1 => hb σ H1 _ k1 fun y H2 k2 e2 p2 => hr x y H2 k2.hd (A.mono _ _ _ e2 p1) p2 Q (q _ H2 k2 (e1.trans e2) rfl))
theorem t_cmp {op : CmpOp} {k : Bool} (h : CM C op a b Γ μ k) : ET C (.Compare a [op] [b] pos) Γ μ k := fun σ H Q ok q => by
  obtain ⟨r, A, B, ho, hm, ha, hb, hr⟩ := h
  exact ttx (fun X hX => pt_cmpR (ho X hX) (TEx.pe hX) (TEx.pe hX) hm) (ha σ H _ ok fun x H1 k1 e1 p1 => hb σ H1 _ k1 fun y H2 k2 e2 p2 => hr x y H2 k2.hd (A.mono _ _ _ e2 p1) p2 _ ⟨k, rfl, q H2 k2 (e1.trans e2)⟩)
theorem CM.is {op : CmpOp} {k k' : Bool} (h : CM C op a b Γ μ k) (e : k = k') : CM C op a b Γ μ k' := e ▸ h
theorem opI_of {i j : Int} {g : Int → Int → V} : ∀ x y H, Holds C.ts μ H → (Is (.int i)).p x (view μ H) → (Is (.int j)).p y (view μ H) → ∀ Q : VK, (∀ z H', Grow H H' → (Is (g i j)).p z (view μ H') → Q z H') → rI0 g x y H Q :=
  fun x y H _ p1 p2 Q q => ⟨i, j, p1, p2, q _ H (Grow.refl H) rfl⟩
theorem opIC_of {i j : Int} {c : Int → Int → Prop} {g : Int → Int → V} (hc : c i j) : ∀ x y H, Holds C.ts μ H → (Is (.int i)).p x (view μ H) → (Is (.int j)).p y (view μ H) → ∀ Q : VK, (∀ z H', Grow H H' → (Is (g i j)).p z (view μ H') → Q z H') → rI c g x y H Q :=
  fun x y H _ p1 p2 Q q => ⟨i, j, p1, p2, hc, q _ H (Grow.refl H) rfl⟩
theorem cmI {op : CmpOp} {i j : Int} {g : Int → Int → Bool} (ho : ∀ X, XOk C X → OpR X (compareOp op) (rI0 fun i j => .bl (g i j))) (hm : behindInMarks op b = false) (ha : EE C a Γ μ (Is (.int i))) (hb : EE C b Γ μ (Is (.int j))) : CM C op a b Γ μ (g i j) :=
  ⟨_, _, _, ho, hm, ha, hb, fun x y H _ p1 p2 Q q => ⟨i, j, p1, p2, q⟩⟩
variable {i j : Int}
theorem e_add (ha : EE C a Γ μ (Is (.int i))) (hb : EE C b Γ μ (Is (.int j))) : EE C (.BinOp a .Add b pos) Γ μ (Is (.int (i + j))) := e_op2 (fun X _ => op_add) ha hb (opI_of (g := fun i j => .int (i + j)))
theorem e_sub (ha : EE C a Γ μ (Is (.int i))) (hb : EE C b Γ μ (Is (.int j))) : EE C (.BinOp a .Sub b pos) Γ μ (Is (.int (i - j))) := e_op2 (fun X _ => op_sub) ha hb (opI_of (g := fun i j => .int (i - j)))
theorem e_mul (ha : EE C a Γ μ (Is (.int i))) (hb : EE C b Γ μ (Is (.int j))) (hc : CMulW i j) : EE C (.BinOp a .Mult b pos) Γ μ (Is (.int (i * j))) := e_op2 (fun X _ => op_mulW) ha hb (opIC_of (g := fun i j => .int (i * j)) hc)
theorem e_fdiv (ha : EE C a Γ μ (Is (.int i))) (hb : EE C b Γ μ (Is (.int j))) (hc : CDivW i j) : EE C (.BinOp a .FloorDiv b pos) Γ μ (Is (.int (i / j))) := e_op2 (fun X _ => op_fdivW) ha hb (opIC_of (g := fun i j => .int (i / j)) hc)
theorem e_mod (ha : EE C a Γ μ (Is (.int i))) (hb : EE C b Γ μ (Is (.int j))) (hc : 0 < j) : EE C (.BinOp a .Mod b pos) Γ μ (Is (.int (i % j))) := e_op2 (fun X _ => op_mod) ha hb (opIC_of (c := fun _ j => 0 < j) (g := fun i j => .int (i % j)) hc)
theorem e_pow (ha : EE C a Γ μ (Is (.int i))) (hb : EE C b Γ μ (Is (.int j))) (hc : CPow i j) : EE C (.BinOp a .Pow b pos) Γ μ (Is (.int (i ^ j.toNat))) := e_op2 (fun X _ => op_pow) ha hb (opIC_of (g := fun i j => .int (i ^ j.toNat)) hc)
theorem c_lt (ha : EE C a Γ μ (Is (.int i))) (hb : EE C b Γ μ (Is (.int j))) : CM C .Lt a b Γ μ (decide (i < j)) := cmI (g := fun i j => decide (i < j)) (fun X _ => op_lt) (nomark _) ha hb
theorem c_le (ha : EE C a Γ μ (Is (.int i))) (hb : EE C b Γ μ (Is (.int j))) : CM C .LtE a b Γ μ (decide (i ≤ j)) := cmI (g := fun i j => decide (i ≤ j)) (fun X _ => op_le) (nomark _) ha hb
theorem c_gt (ha : EE C a Γ μ (Is (.int i))) (hb : EE C b Γ μ (Is (.int j))) : CM C .Gt a b Γ μ (decide (j < i)) := cmI (g := fun i j => decide (j < i)) (fun X _ => op_gt) (nomark _) ha hb
theorem c_ge (ha : EE C a Γ μ (Is (.int i))) (hb : EE C b Γ μ (Is (.int j))) : CM C .GtE a b Γ μ (decide (j ≤ i)) := cmI (g := fun i j => decide (j ≤ i)) (fun X _ => op_ge) (nomark _) ha hb
theorem c_eqS {x y : V} (ha : EE C a Γ μ (Is x)) (hb : EE C b Γ μ (Is y)) (hs : scal x y = true) : CM C .Eq a b Γ μ (decide (x = y)) := ⟨_, _, _, fun X _ => op_eq, nomark _, ha, hb, by
  intro x' y' H _ p1 p2 Q q
  cases p1
  cases p2
  exact ⟨hs, q⟩⟩
theorem c_neS {x y : V} (ha : EE C a Γ μ (Is x)) (hb : EE C b Γ μ (Is y)) (hs : scal x y = true) : CM C .NotEq a b Γ μ (!decide (x = y)) := ⟨_, _, _, fun X _ => op_ne, nomark _, ha, hb, by
  intro x' y' H _ p1 p2 Q q
  cases p1
  cases p2
  exact ⟨hs, q⟩⟩
theorem c_eq (ha : EE C a Γ μ (Is (.int i))) (hb : EE C b Γ μ (Is (.int j))) : CM C .Eq a b Γ μ (decide (i = j)) := (c_eqS ha hb rfl).is (by simp)
theorem c_ne (ha : EE C a Γ μ (Is (.int i))) (hb : EE C b Γ μ (Is (.int j))) : CM C .NotEq a b Γ μ (!decide (i = j)) := (c_neS ha hb rfl).is (by simp)
theorem c_isN {x : V} (ha : EE C a Γ μ (Is x)) (hb : EE C b Γ μ (Is .non)) : CM C .Is a b Γ μ (decide (x = .non)) := ⟨_, _, _, fun X _ => op_isN, nomark _, ha, hb, by
  intro x' y' H _ p1 p2 Q q
  cases p1
  exact ⟨p2, q⟩⟩
/-- tuples, lists of plain things -/
theorem c_eqD {d e : PyData} (ha : EE C a Γ μ A) (hb : EE C b Γ μ B) (hd : ∀ v h, A.p v h → Dp C.K h v d) (he : ∀ v h, B.p v h → Dp C.K h v e) (sd : SeqAt.shaped d = true) (se : SeqAt.shaped e = true) : CM C .Eq a b Γ μ (PyData.eqv d e) :=
  ⟨_, _, _, fun X hX => hX.K ▸ op_eqD hX.room.units, nomark _, ha, hb, fun x y H _ p1 p2 Q q => ⟨d, e, hd _ _ (A.mono _ _ _ (ext_hide _ _) p1), he _ _ (B.mono _ _ _ (ext_hide _ _) p2), sd, se, q⟩⟩
theorem c_neD {d e : PyData} (ha : EE C a Γ μ A) (hb : EE C b Γ μ B) (hd : ∀ v h, A.p v h → Dp C.K h v d) (he : ∀ v h, B.p v h → Dp C.K h v e) (sd : SeqAt.shaped d = true) (se : SeqAt.shaped e = true) : CM C .NotEq a b Γ μ (!PyData.eqv d e) :=
  ⟨_, _, _, fun X hX => hX.K ▸ op_neD hX.room.units, nomark _, ha, hb, fun x y H _ p1 p2 Q q => ⟨d, e, hd _ _ (A.mono _ _ _ (ext_hide _ _) p1), he _ _ (B.mono _ _ _ (ext_hide _ _) p2), sd, se, q⟩⟩
theorem e_neg (ha : EE C a Γ μ (Is (.int i))) : EE C (.UnaryOp .USub a pos) Γ μ (Is (.int (-i))) := fun σ H Q ok q =>
  tex (fun X hX => pe_un un_neg (TEx.pe hX)) (ha σ H _ ok fun x H1 k1 e1 p1 => ⟨i, p1, q _ H1 k1 e1 rfl⟩)
/-- two comparisons in a chain -/
theorem e_chain {op op' : CmpOp} {c : Expr} {g g' : Int → Int → Bool} {l : Int} (ho : ∀ X, XOk C X → OpR X (compareOp op) (rI0 fun i j => .bl (g i j))) (ho' : ∀ X, XOk C X → OpR X (compareOp op') (rI0 fun i j => .bl (g' i j)))
    (ha : EE C a Γ μ (Is (.int i))) (hb : EE C b Γ μ (Is (.int j))) (hc : EE C c Γ μ (Is (.int l))) (h1 : lastMarks [op, op'] [b, c] = false := by with_unfolding_all rfl) :
    EE C (.Compare a [op, op'] [b, c] pos) Γ μ (Is (.bl (g i j && g' j l))) := fun σ H Q ok q =>
  tex (fun X hX => pe_chain (ho X hX) (ho' X hX) (TEx.pe hX) (TEx.pe hX) (TEx.pe hX) h1) (ha σ H _ ok fun x H1 k1 e1 p1 => hb σ H1 _ k1 fun y H2 k2 e2 p2 => ⟨i, j, p1, p2, _, rfl, by
    cases hg : g i j with
    | true =>
      rw [if_pos rfl]
      refine hc σ H2 _ k2 fun z H3 k3 e3 p3 => ⟨j, l, p2, p3, ?_⟩
      have := q (.bl (g i j && g' j l)) H3 k3 ((e1.trans e2).trans e3) rfl
      rw [hg, Bool.true_and] at this
      exact this
    | false =>
      rw [if_neg (by decide)]
      have := q (.bl (g i j && g' j l)) H2 k2 (e1.trans e2) rfl
      rw [hg, Bool.false_and] at this
      exact this⟩)

/-! ### tests -/
theorem t_val {k : Bool} (h : EE C e Γ μ (Is (.bl k))) (he : ∀ (X : Cx) (whole : Sem Value), isTrue e X.env whole = (do let v ← whole; standAt e.pos; holding [v] (truthy v)) := by intro _ _; rfl) : ET C e Γ μ k := fun σ H Q ok q =>
  ttx (fun X hX => pt_val (TEx.pe hX) (he X)) (h σ H _ ok fun v H' o x p => ⟨k, p, q H' o x⟩)
theorem t_chain {op op' : CmpOp} {c : Expr} {g g' : Int → Int → Bool} {l : Int} (ho : ∀ X, XOk C X → OpR X (compareOp op) (rI0 fun i j => .bl (g i j))) (ho' : ∀ X, XOk C X → OpR X (compareOp op') (rI0 fun i j => .bl (g' i j)))
    (ha : EE C a Γ μ (Is (.int i))) (hb : EE C b Γ μ (Is (.int j))) (hc : EE C c Γ μ (Is (.int l))) (h1 : lastMarks [op, op'] [b, c] = false := by with_unfolding_all rfl) :
    ET C (.Compare a [op, op'] [b, c] pos) Γ μ (g i j && g' j l) := fun σ H Q ok q =>
  ttx (fun X hX => pt_chain (ho X hX) (ho' X hX) (TEx.pe hX) (TEx.pe hX) (TEx.pe hX) h1) (ha σ H _ ok fun x H1 k1 e1 p1 => hb σ H1 _ k1 fun y H2 k2 e2 p2 => ⟨i, j, p1, p2, _, rfl, by
    cases hg : g i j with
    | true =>
      rw [if_pos rfl]
      refine hc σ H2 _ k2 fun z H3 k3 e3 p3 => ⟨j, l, p2, p3, _, rfl, ?_⟩
      have := q H3 k3 ((e1.trans e2).trans e3)
      rw [hg, Bool.true_and] at this
      exact this
    | false =>
      rw [if_neg (by decide)]
      have := q H2 k2 (e1.trans e2)
      rw [hg, Bool.false_and] at this
      exact ⟨_, rfl, this⟩⟩)
theorem w_and1 {k : Bool} (h : ET C a Γ μ k) : EW C (.BoolOp .And [a] pos) Γ μ k := fun σ H Q ok q => twx (fun X hX => pw_and1 (TTx.pt hX)) (h σ H Q ok q)
theorem w_or1 {k : Bool} (h : ET C a Γ μ k) : EW C (.BoolOp .Or [a] pos) Γ μ k := fun σ H Q ok q => twx (fun X hX => pw_or1 (TTx.pt hX)) (h σ H Q ok q)
variable {rest : List Expr} {k l : Bool}
theorem w_and (h : ET C a Γ μ k) (h2 : k = true → EW C (.BoolOp .And (b :: rest) pos) Γ μ l) : EW C (.BoolOp .And (a :: b :: rest) pos) Γ μ (k && l) := fun σ H Q ok q =>
  twx (fun X hX => pw_and (TTx.pt hX) (TWx.pw hX)) (h σ H _ ok fun H1 k1 e1 => by
    cases k with
    | true =>
      rw [if_pos rfl]
      exact h2 rfl σ H1 Q k1 fun H2 k2 e2 => q H2 k2 (e1.trans e2)
    | false =>
      rw [if_neg (by decide)]
      exact q H1 k1 e1)
theorem w_or (h : ET C a Γ μ k) (h2 : k = false → EW C (.BoolOp .Or (b :: rest) pos) Γ μ l) : EW C (.BoolOp .Or (a :: b :: rest) pos) Γ μ (k || l) := fun σ H Q ok q =>
  twx (fun X hX => pw_or (TTx.pt hX) (TWx.pw hX)) (h σ H _ ok fun H1 k1 e1 => by
    cases k with
    | true =>
      rw [if_pos rfl]
      exact q H1 k1 e1
    | false =>
      rw [if_neg (by decide)]
      exact h2 rfl σ H1 Q k1 fun H2 k2 e2 => q H2 k2 (e1.trans e2))
theorem t_w (h : EW C e Γ μ k) : ET C e Γ μ k := fun σ H Q ok q => ttx (fun X hX => (TWx.pw hX).pt) (h σ H Q ok q)
theorem t_not (h : ET C a Γ μ k) : ET C (.UnaryOp .Not a pos) Γ μ (!k) := fun σ H Q ok q => ttx (fun X hX => pt_not (TTx.pt hX)) (h σ H _ ok fun H1 k1 e1 => q H1 k1 e1)
/-- as values -/
theorem e_one {op : BoolOp} (h : EE C a Γ μ P) : EE C (.BoolOp op [a] pos) Γ μ P := fun σ H Q ok q => tex (fun X hX => pe_one (TEx.pe hX)) (h σ H Q ok q)
theorem e_and (h : EE C a Γ μ (Is (.bl k))) (h2 : k = true → EE C (.BoolOp .And (b :: rest) pos) Γ μ (Is (.bl l))) : EE C (.BoolOp .And (a :: b :: rest) pos) Γ μ (Is (.bl (k && l))) := fun σ H Q ok q =>
  tex (fun X hX => pe_and (TEx.pe hX) (TEx.pe hX)) (h σ H _ ok fun v H1 k1 e1 p => ⟨k, p, by
    cases k with
    | true =>
      rw [if_pos rfl]
      exact h2 rfl σ H1 Q k1 fun v2 H2 k2 e2 p2 => q v2 H2 k2 (e1.trans e2) p2
    | false =>
      rw [if_neg (by decide)]
      exact q _ H1 k1 e1 rfl⟩)
theorem e_or (h : EE C a Γ μ (Is (.bl k))) (h2 : k = false → EE C (.BoolOp .Or (b :: rest) pos) Γ μ (Is (.bl l))) : EE C (.BoolOp .Or (a :: b :: rest) pos) Γ μ (Is (.bl (k || l))) := fun σ H Q ok q =>
  tex (fun X hX => pe_or (TEx.pe hX) (TEx.pe hX)) (h σ H _ ok fun v H1 k1 e1 p => ⟨k, p, by
    cases k with
    | true =>
      rw [if_pos rfl]
      exact q _ H1 k1 e1 rfl
    | false =>
      rw [if_neg (by decide)]
      exact h2 rfl σ H1 Q k1 fun v2 H2 k2 e2 p2 => q v2 H2 k2 (e1.trans e2) p2⟩)
theorem e_not (h : EE C a Γ μ (Is (.bl k))) : EE C (.UnaryOp .Not a pos) Γ μ (Is (.bl (!k))) := fun σ H Q ok q => tex (fun X hX => pe_not (TEx.pe hX)) (h σ H _ ok fun v H1 k1 e1 p => ⟨k, p, q _ H1 k1 e1 rfl⟩)
theorem e_if {c : Expr} (h : ET C c Γ μ k) (h1 : k = true → EE C a Γ μ P) (h2 : k = false → EE C b Γ μ P) : EE C (.IfExp c a b pos) Γ μ P := fun σ H Q ok q =>
  tex (fun X hX => pe_ifExp (TTx.pt hX) (TEx.pe hX) (TEx.pe hX)) (h σ H _ ok fun H1 k1 e1 => by
    cases k with
    | true =>
      rw [if_pos rfl]
      exact h1 rfl σ H1 Q k1 fun v2 H2 k2 e2 p2 => q v2 H2 k2 (e1.trans e2) p2
    | false =>
      rw [if_neg (by decide)]
      exact h2 rfl σ H1 Q k1 fun v2 H2 k2 e2 p2 => q v2 H2 k2 (e1.trans e2) p2)

/-! ### argument lists, displays -/
theorem a_nil : EA C [] Γ μ [] := fun σ H Q ok q => tax (fun X hX => pa_nil) (q [] H ok (Ext.refl _) True.intro)
theorem a_cons {Ps : List Rp} (h : EE C a Γ μ A) (h2 : EA C es Γ μ Ps) (hs : ∀ X : Cx, starEach (a :: es) X.env = (false, eval a X.env) :: starEach es X.env := by intro _; exact star_cons rfl) : EA C (a :: es) Γ μ (A :: Ps) := fun σ H Q ok q =>
  tax (fun X hX => pa_cons (TEx.pe hX) (TAx.pa hX) (hs X)) (h σ H _ ok fun v H1 k1 e1 p => h2 σ H1 _ k1 fun vs H2 k2 e2 p2 => q _ H2 k2 (e1.trans e2) ⟨A.mono _ _ _ e2 p, p2⟩)
theorem small_size {n : Nat} (h : n ≤ 100000) : n ≤ sizeLine := Nat.le_trans h (by decide)
def nth (Ps : List Rp) (i : Nat) : Rp := Ps.getD i Any
theorem AllP.els {h : Hp} {Ps : List Rp} {vs : List V} (p : AllP Ps vs h) : (Els Ps.length (nth Ps)).p vs h := ⟨p.length, fun i x q => by
  obtain ⟨P, h1, h2⟩ := p.get i x q
  unfold nth
  rw [List.getD_eq_getElem?_getD, h1]
  exact h2⟩
theorem Els.sub {n : Nat} {f g : Nat → Rp} (s : ∀ i, i < n → Sub (f i) (g i)) {xs : List V} {h : Hp} (p : (Els n f).p xs h) : (Els n g).p xs h := ⟨p.1, fun i x q => s i (by
  have := (List.getElem?_eq_some_iff.mp q).1
  rw [p.1] at this
  exact this) _ _ (p.2 i x q)⟩
theorem e_tupN {Ps : List Rp} {x1 : Nat} (h : EA C es Γ μ Ps) (hl : Ps.length ≤ 100000 := by show _ ≤ _; simp) : EE C (.Tuple es x1 pos) Γ μ (TupF C.K Ps.length (nth Ps)) := fun σ H Q ok q =>
  tex (fun X hX => pe_tup (TAx.pa hX)) (h σ H _ ok fun vs H1 k1 e1 p => ⟨small_size (p.length ▸ hl), fun a ha => by
    have g : Grow H1 (upd H1 a (.tup vs)) := Grow.new ha
    refine q _ _ (k1.grow g) (e1.trans (k1.ev g)) ⟨a, vs, rfl, .inl (.inl ?_), (Els _ _).mono _ _ _ (k1.ev g) p.els⟩
    show hide _ _ _ = _
    rw [hide_out, upd_same]
    intro z
    obtain ⟨xs, y⟩ := k1.hd.lsts a z
    rw [ha] at y
    cases y⟩)
theorem Tz.els {n : Nat} {f g : Nat → Rp} {K : PySem.W.Frag} (s : ∀ i, i < n → Sub (f i) (g i)) : Sub (TupF K n f) (TupF K n g) := fun v h ⟨a, xs, h1, h2, h3⟩ => ⟨a, xs, h1, h2, Els.sub s h3⟩
theorem e_tup2 {x1 : Nat} (h : EE C a Γ μ A) (h2 : EE C b Γ μ B) (hs : ∀ X : Cx, starEach [a, b] X.env = (false, eval a X.env) :: starEach [b] X.env := by intro _; exact star_cons rfl) (hs2 : ∀ X : Cx, starEach [b] X.env = (false, eval b X.env) :: starEach [] X.env := by intro _; exact star_cons rfl) :
    EE C (.Tuple [a, b] x1 pos) Γ μ (TupF C.K 2 (two A B)) := (e_tupN (a_cons h (a_cons h2 a_nil hs2) hs)).sub (Tz.els fun i hi => by
  match i, hi with
  | 0, _ => exact Sub.refl _
  | 1, _ => exact Sub.refl _)
theorem e_tup1 {x1 : Nat} (h : EE C a Γ μ A) (hs : ∀ X : Cx, starEach [a] X.env = (false, eval a X.env) :: starEach [] X.env := by intro _; exact star_cons rfl) :
    EE C (.Tuple [a] x1 pos) Γ μ (TupF C.K 1 (fun _ => A)) := (e_tupN (a_cons h a_nil hs)).sub (Tz.els fun i hi => by
  match i, hi with
  | 0, _ => exact Sub.refl _)
theorem new_list {σ : L2.St} {H1 : Hp} {c : LC} {vs : List V} {p : Addr} (k1 : Ok C.ts Γ μ σ H1) (h : c.p vs (view μ H1)) (hp : H1 p = none) : Ok C.ts Γ ((p, c) :: μ) σ (upd H1 p (.lst vs)) ∧ view ((p, c) :: μ) (upd H1 p (.lst vs)) = view μ H1 := by
  have ev : view ((p, c) :: μ) (upd H1 p (.lst vs)) = view μ H1 := hide_own hp
  have nin : p ∉ dom μ := fun z => by
    obtain ⟨xs, y⟩ := k1.hd.lsts p z
    rw [hp] at y
    cases y
  refine ⟨k1.step ⟨fun m hm => ?_, List.nodup_cons.mpr ⟨nin, k1.hd.nd⟩, fun P hP => by rw [ev]; exact k1.hd.tb P hP⟩ (by rw [ev]; exact Ext.refl _), ev⟩
  rcases List.mem_cons.mp hm with rfl | hm
  · exact ⟨vs, upd_same, by rw [ev]; exact h⟩
  · obtain ⟨xs, h1, h2⟩ := k1.hd.el m hm
    exact ⟨xs, by rw [upd_ne (ne_of_none h1 hp)]; exact h1, by rw [ev]; exact h2⟩
theorem n_list {Ps : List Rp} (h : EA C es Γ μ Ps) (hl : Ps.length ≤ 100000 := by show _ ≤ _; simp) : EN C (.List es pos) Γ μ (Els Ps.length (nth Ps)) := fun σ H Q ok q =>
  tex (fun X hX => pe_lst (TAx.pa hX)) (h σ H _ ok fun vs H1 k1 e1 p => ⟨small_size (p.length ▸ hl), fun a ha => by
    obtain ⟨o, ev⟩ := new_list k1 p.els ha
    exact q a _ o (by rw [ev]; exact e1)⟩)
theorem n_nil {f : Nat → Rp} : EN C (.List [] pos) Γ μ (Els 0 f) := (n_list a_nil).sub fun v h p => Els.sub (fun i hi => absurd hi (Nat.not_lt_zero i)) p
/-- an empty dict -/
theorem e_dict : EE C (.Dict [] [] pos) Γ μ (Tys C.K (.type "dict")) := fun σ H Q ok q =>
  tex (fun X hX => pe_dnewK) (fun p hp => by
    have g : Grow H (upd H p (.dK [])) := Grow.new hp
    refine q _ _ (ok.grow g) (ok.ev g) (.base (.dK (kvs := []) ?_))
    show hide _ _ _ = _
    rw [hide_out, upd_same]
    intro z
    obtain ⟨xs, y⟩ := ok.hd.lsts p z
    rw [hp] at y
    cases y)

/-! ### subscripts -/
theorem atI_of {xs : List V} {i : Int} {n : Nat} (hl : xs.length = n) (h : 0 ≤ i ∧ i < n) : ∃ v, atI xs i = some v ∧ xs[i.toNat]? = some v := by
  have hi : i.toNat < xs.length := by omega
  refine ⟨xs[i.toNat], ?_, List.getElem?_eq_getElem hi⟩
  unfold atI ixN
  rw [if_pos h.1, if_pos (by omega)]
  exact List.getElem?_eq_getElem hi
theorem atI_back {xs : List V} {i : Nat} {n : Nat} (hl : xs.length = n) (h : 1 ≤ i ∧ i ≤ n) : ∃ v, atI xs (-(i : Int)) = some v ∧ xs[n - i]? = some v := by
  have hi : n - i < xs.length := by omega
  refine ⟨xs[n - i], ?_, List.getElem?_eq_getElem hi⟩
  unfold atI ixN
  rw [if_neg (by omega), if_pos (by omega)]
  have e : (-(i : Int) + (xs.length : Int)).toNat = n - i := by omega
  rw [e]
  exact List.getElem?_eq_getElem hi
theorem e_ixT {n : Nat} {f : Nat → Rp} {i : Int} (ha : EE C a Γ μ (TupF C.K n f)) (hb : EE C b Γ μ (Is (.int i))) (hi : 0 ≤ i ∧ i < n) (hP : f i.toNat = P := by rfl) (hs : PlainIx b := by intro _ _; rfl) : EE C (.Subscript a b pos) Γ μ P := fun σ H Q ok q =>
  tex (fun X hX => pe_ix (hX.K ▸ ix_tup) (TEx.pe hX) (TEx.pe hX) hs) (ha σ H _ ok fun x H1 k1 e1 p1 => hb σ H1 _ k1 fun y H2 k2 e2 p2 => by
    obtain ⟨t, xs, h1, h2, h3⟩ := (TupF C.K n f).mono _ _ _ e2 p1
    obtain ⟨v, v1, v2⟩ := atI_of h3.1 hi
    exact ⟨t, xs, i, v, h1, p2, sqt_ext (ext_hide _ _) h2, v1, q _ H2 k2 (e1.trans e2) (by rw [← hP]; exact h3.2 _ _ v2)⟩)
theorem e_ixTb {n : Nat} {f : Nat → Rp} {i : Nat} (ha : EE C a Γ μ (TupF C.K n f)) (hb : EE C b Γ μ (Is (.int (-(i : Int))))) (hi : 1 ≤ i ∧ i ≤ n) (hP : f (n - i) = P := by rfl) (hs : PlainIx b := by intro _ _; rfl) : EE C (.Subscript a b pos) Γ μ P := fun σ H Q ok q =>
  tex (fun X hX => pe_ix (hX.K ▸ ix_tup) (TEx.pe hX) (TEx.pe hX) hs) (ha σ H _ ok fun x H1 k1 e1 p1 => hb σ H1 _ k1 fun y H2 k2 e2 p2 => by
    obtain ⟨t, xs, h1, h2, h3⟩ := (TupF C.K n f).mono _ _ _ e2 p1
    obtain ⟨v, v1, v2⟩ := atI_back h3.1 hi
    exact ⟨t, xs, _, v, h1, p2, sqt_ext (ext_hide _ _) h2, v1, q _ H2 k2 (e1.trans e2) (by rw [← hP]; exact h3.2 _ _ v2)⟩)
theorem e_ixL {n : Nat} {f : Nat → Rp} {i : Int} (ha : EE C a Γ μ (LstF C.K n f)) (hb : EE C b Γ μ (Is (.int i))) (hi : 0 ≤ i ∧ i < n) (hP : f i.toNat = P := by rfl) (hs : PlainIx b := by intro _ _; rfl) : EE C (.Subscript a b pos) Γ μ P := fun σ H Q ok q =>
  tex (fun X hX => pe_ix (hX.K ▸ ix_list) (TEx.pe hX) (TEx.pe hX) hs) (ha σ H _ ok fun x H1 k1 e1 p1 => hb σ H1 _ k1 fun y H2 k2 e2 p2 => by
    obtain ⟨t, xs, h1, h2, h3⟩ := (LstF C.K n f).mono _ _ _ e2 p1
    obtain ⟨v, v1, v2⟩ := atI_of h3.1 hi
    exact ⟨t, xs, i, v, h1, p2, sql_ext (ext_hide _ _) h2, v1, q _ H2 k2 (e1.trans e2) (by rw [← hP]; exact h3.2 _ _ v2)⟩)
/-- of a list that changes -/
theorem e_ixM {n : Nat} {f : Nat → Rp} {i : Int} {p : Addr} (hm : (p, Els n f) ∈ μ) (ha : EE C a Γ μ (Is (.ref p))) (hb : EE C b Γ μ (Is (.int i))) (hi : 0 ≤ i ∧ i < n) (hP : f i.toNat = P := by rfl) (hs : PlainIx b := by intro _ _; rfl) : EE C (.Subscript a b pos) Γ μ P := fun σ H Q ok q =>
  tex (fun X hX => pe_ix (hX.K ▸ ix_list) (TEx.pe hX) (TEx.pe hX) hs) (ha σ H _ ok fun x H1 k1 e1 p1 => hb σ H1 _ k1 fun y H2 k2 e2 p2 => by
    obtain ⟨xs, h2, h3⟩ := k2.hd.el _ hm
    obtain ⟨v, v1, v2⟩ := atI_of h3.1 hi
    exact ⟨p, xs, i, v, p1, p2, .inl (.inl h2), v1, q _ H2 k2 (e1.trans e2) (by rw [← hP]; exact h3.2 _ _ v2)⟩)

/-! ### built-in functions, classes -/
theorem e_cb {x : Str} {p : Pos} {id : String} {r : List V → Hp → VK → Prop} {As : List Rp} (hc : ∀ X, XOk C X → CallR X (.builtin id) r) (hg : C.sc.names.lookup x = some .globalImplicit) (hm : C.mg x = none) (hv : bootBuiltins x = some (.builtin id))
    (ha : EA C (e :: es) Γ μ As) (hr : ∀ vs σ H, Ok C.ts Γ μ σ H → AllP As vs (view μ H) → ∀ Q : VK, (∀ z H', Grow H H' → R.p z (view μ H') → Q z H') → r vs H Q) (hn : x ≠ "__name__" := by decide) (hdb : (x == ("__debug__" : Str)) = false := by decide)
    (he : ∀ X : Cx, starEach (e :: es) X.env = (false, eval e X.env) :: starEach es X.env := by intro _; exact star_cons rfl) (hpl : ∀ X : Cx, (backTo pos (starEach es X.env)).any (·.1) = false := by intro _; rfl) : EE C (.Call (.Name x p) (e :: es) [] pos) Γ μ R := fun σ H Q ok q =>
  tex (fun X hX => pe_callB (hc X hX) (gl_of hX hg) (by rw [hX.mg]; exact hm) hv (TAx.pa hX) hn hdb (he X) (hpl X)) (ha σ H _ ok fun vs H1 k1 e1 p1 => hr vs σ H1 k1 p1 Q fun z H2 g pz => q z H2 (k1.grow g) (e1.trans (k1.ev g)) pz)
theorem e_ct {x : Str} {p : Pos} {T : String} {r : List V → Hp → VK → Prop} {As : List Rp} (hc : ∀ X, XOk C X → CallR X (.type T) r) (hg : C.sc.names.lookup x = some .globalImplicit) (hm : C.mg x = none) (hv : bootBuiltins x = some (.type T))
    (ha : EA C (e :: es) Γ μ As) (hr : ∀ vs σ H, Ok C.ts Γ μ σ H → AllP As vs (view μ H) → ∀ Q : VK, (∀ z H', Grow H H' → R.p z (view μ H') → Q z H') → r vs H Q) (hn : x ≠ "__name__" := by decide) (hdb : (x == ("__debug__" : Str)) = false := by decide)
    (he : ∀ X : Cx, starEach (e :: es) X.env = (false, eval e X.env) :: starEach es X.env := by intro _; exact star_cons rfl) (hpl : ∀ X : Cx, (backTo pos (starEach es X.env)).any (·.1) = false := by intro _; rfl) : EE C (.Call (.Name x p) (e :: es) [] pos) Γ μ R := fun σ H Q ok q =>
  tex (fun X hX => pe_callTy (hc X hX) (gl_of hX hg) (by rw [hX.mg]; exact hm) hv (TAx.pa hX) hn hdb (he X) (hpl X)) (ha σ H _ ok fun vs H1 k1 e1 p1 => hr vs σ H1 k1 p1 Q fun z H2 g pz => q z H2 (k1.grow g) (e1.trans (k1.ev g)) pz)
theorem e_gcd {p : Pos} {x y : Int} {b : Expr} (hg : C.sc.names.lookup ("gcd" : Str) = some .globalImplicit) (hm : C.mg ("gcd" : Str) = some (.builtin "math.gcd")) (ha : EE C a Γ μ (Is (.int x))) (hb : EE C b Γ μ (Is (.int y)))
    (he : ∀ X : Cx, starEach [a, b] X.env = (false, eval a X.env) :: starEach [b] X.env := by intro _; exact star_cons rfl) (he2 : ∀ X : Cx, starEach [b] X.env = (false, eval b X.env) :: starEach [] X.env := by intro _; exact star_cons rfl) (hpl : ∀ X : Cx, (backTo pos (starEach [b] X.env)).any (·.1) = false := by intro _; rfl) :
    EE C (.Call (.Name "gcd" p) [a, b] [] pos) Γ μ (Is (.int ((Nat.gcd x.natAbs y.natAbs : Nat) : Int))) := fun σ H Q ok q =>
  tex (fun X hX => pe_callBfun cr_gcd (gl_of hX hg) (by rw [hX.mg]; exact hm) (TAx.pa hX) (by decide) (he X) (hpl X)) (a_cons ha (a_cons hb a_nil he2) he σ H _ ok fun vs H1 k1 e1 p1 => by
    obtain ⟨v, w, rfl, p1, p2⟩ := p1.pair
    exact ⟨x, y, by rw [show v = _ from p1, show w = _ from p2], q _ H1 k1 e1 rfl⟩)

/-! ### own functions -/
def Cal (S : Sta) (k : Nat) (x : Str) (sp : Sp) : Prop := ∃ (f : Addr) (fd : FuncData) (ps : List Str), FnOk S.P S.w S.K S.mg S.base CX0 k f fd ps sp ∧ S.mg x = some (.ref f) ∧ PySem.W.keepIn S.K (.ref f) = true ∧ Binds S.K fd ps []
def spOf (S : Sta) {ι : Type} (As : ι → List Rp) (cond : ι → Mu → Prop) (R : ι → Rp) : Sp := fun vs H Q _ => ∃ x μ, Holds S.ts μ H ∧ cond x μ ∧ AllP (As x) vs (view μ H) ∧ ∀ v H', Holds S.ts μ H' → Ext (view μ H) (view μ H') → (R x).p v (view μ H') → Q v H'
theorem e_call {ι : Type} {As : ι → List Rp} {cond : ι → Mu → Prop} {Rs : ι → Rp} {kk : Nat} {nm : Str} {p : Pos} {S : Sta} (F : Cal S kk nm (spOf S As cond Rs)) (x : ι) (ha : EA C (e :: es) Γ μ (As x)) (hc : cond x μ)
    (hg : C.sc.names.lookup nm = some .globalImplicit) (hS : S = C.toSta := by rfl) (hk : Nat.ble kk C.k = true := by rfl) (hdb : (nm == ("__debug__" : Str)) = false := by decide)
    (he : ∀ X : Cx, starEach (e :: es) X.env = (false, eval e X.env) :: starEach es X.env := by intro _; exact star_cons rfl) (hpl : ∀ X : Cx, (backTo pos (starEach es X.env)).any (·.1) = false := by intro _; rfl) : EE C (.Call (.Name nm p) (e :: es) [] pos) Γ μ (Rs x) := fun σ H Q ok q => by
  subst hS
  obtain ⟨f, fd, ps, F, m, kp, bd⟩ := F
  refine tex (t := tCall (spOf C.toSta As cond Rs) [] E0 (TAx C (e :: es))) (fun X hX => ?_) (ha σ H _ ok fun vs H1 k1 e1 p1 => ?_)
  · have F' : FnOk X.prog X.w X.K X.mg X.base CX0 kk f fd ps (spOf C.toSta As cond Rs) := by rw [hX.prog, hX.w, hX.K, hX.mg, hX.base]; exact F
    exact pe_call F' (hX.room.mono (Nat.le_of_ble_eq_true hk)) (gl_of hX hg) (by rw [hX.mg]; exact m) (by rw [hX.K]; exact kp) (by rw [hX.K]; exact bd) .nil pass0 (TAx.pa hX) hdb (he X) (hpl X)
  · rw [List.append_nil]
    exact ⟨x, μ, k1.hd, hc, p1, fun v H2 h2 e2 pv => q v H2 (k1.step h2 e2) (e1.trans e2) pv⟩
end
end Lay
set_option Elab.async false
set_option linter.all false
set_option maxRecDepth 100000
set_option maxHeartbeats 4000000

namespace Lay
open PySem PySem.Spec PyProof.Rows L2 Gx
section
variable {C : Ctx} {a b e : Expr} {es : List Expr} {Γ : Sl} {μ : Mu} {A B P R : Rp} {pos : Pos}

/-! ### iterators -/
theorem i_range1 {tg : Expr} {p : Pos} {j : Int} (ha : EE C a Γ μ (Is (.int j))) (hj : 0 ≤ j ∧ j < 1000000) (hg : C.sc.names.lookup ("range" : Str) = some .globalImplicit) (hm : C.mg ("range" : Str) = none)
    (hs : ∀ X : Cx, starEach [a] X.env = [(false, eval a X.env)] := by intro _; exact star_one rfl) (hs2 : ∀ X : Cx, starEach [a] X.env = (false, eval a X.env) :: starEach [] X.env := by intro _; exact star_cons rfl) :
    EI C tg (.Call (.Name "range" p) [a] [] pos) Γ μ j.toNat (fun i => Is (.int (i : Int))) := fun σ H R' ok q =>
  tix (fun X hX => pi_range1 (gl_of hX hg) (by rw [hX.mg]; exact hm) (TAx.pa hX) (hs X)) (a_cons ha a_nil hs2 σ H _ ok fun vs H1 k1 e1 p1 => by
    obtain ⟨v, rfl, c1⟩ := p1.one
    · refine ⟨j, by rw [show v = _ from c1], by omega, by omega, q _ H1 k1 e1 fun M H2 _ _ => ⟨Nat.le_refl _, fun i hi => ⟨hi, fun x H' hy => ?_⟩⟩⟩
      obtain ⟨rfl, rfl⟩ := hy
      exact ⟨Grow.refl _, by show V.int _ = V.int _; rw [Int.zero_add]⟩)
theorem i_range3 {tg c d : Expr} {p : Pos} {j l : Int} (ha : EE C a Γ μ (Is (.int j))) (hc : EE C c Γ μ (Is (.int l))) (hd : EE C d Γ μ (Is (.int (-1)))) (hj : -1000000 ≤ j ∧ j < 1000000) (hl : -1000000 ≤ l ∧ l < 1000000)
    (hg : C.sc.names.lookup ("range" : Str) = some .globalImplicit) (hm : C.mg ("range" : Str) = none)
    (hs : ∀ X : Cx, starEach [a, c, d] X.env = (false, eval a X.env) :: starEach [c, d] X.env := by intro _; exact star_cons rfl) (hs2 : ∀ X : Cx, starEach [c, d] X.env = (false, eval c X.env) :: starEach [d] X.env := by intro _; exact star_cons rfl)
    (hs3 : ∀ X : Cx, starEach [d] X.env = (false, eval d X.env) :: starEach [] X.env := by intro _; exact star_cons rfl) (hpl : ∀ X : Cx, (backTo pos (starEach [c, d] X.env)).any (·.1) = false := by intro _; rfl) :
    EI C tg (.Call (.Name "range" p) [a, c, d] [] pos) Γ μ (j - l).toNat (fun i => Is (.int (j - (i : Int)))) := fun σ H R' ok q =>
  tix (fun X hX => pi_range3 (gl_of hX hg) (by rw [hX.mg]; exact hm) (TAx.pa hX) (hs X) (hpl X)) (a_cons ha (a_cons hc (a_cons hd a_nil hs3) hs2) hs σ H _ ok fun vs H1 k1 e1 p1 => by
    obtain ⟨v, v2, v3, rfl, c1, c2, c3⟩ := p1.trip
    · refine ⟨j, l, -1, (j - l).toNat, by rw [show v = _ from c1, show v2 = _ from c2, show v3 = _ from c3], RgC.neg (by omega) (by omega) (by omega) (by omega), q _ H1 k1 e1 fun M H2 _ _ => ⟨Nat.le_refl _, fun i hi => ⟨hi, fun x H' hy => ?_⟩⟩⟩
      obtain ⟨rfl, rfl⟩ := hy
      exact ⟨Grow.refl _, by show V.int _ = V.int _; rw [show j + (i : Int) * -1 = j - (i : Int) by omega]⟩)
theorem get_lt {xs : List V} {n i : Nat} (hl : xs.length = n) (hi : i < n) : ∃ x, xs[i]? = some x := ⟨xs[i], List.getElem?_eq_getElem (by omega)⟩
theorem i_list {tg : Expr} {n : Nat} {f : Nat → Rp} (h : EE C e Γ μ (LstF C.K n f)) : EI C tg e Γ μ n f := fun σ H R' ok q =>
  tix (fun X hX => hX.K ▸ pi_list (TEx.pe hX)) (h σ H _ ok fun v H1 k1 e1 p1 => by
    obtain ⟨t, xs, rfl, h2, h3⟩ := p1
    refine ⟨t, rfl, ⟨xs, sql_ext (ext_hide _ _) h2⟩, q _ H1 k1 e1 fun M H2 _ ex => ?_⟩
    have h2' : SqL C.K (hide M H2) t xs := sql_ext ex h2
    have full := sql_ext (ext_hide M H2) h2'
    refine ⟨⟨xs, full, Nat.le_of_eq h3.1⟩, fun i hi => ?_⟩
    obtain ⟨x, hx⟩ := get_lt h3.1 hi
    refine ⟨⟨xs, x, full, hx⟩, fun y H' hy => ?_⟩
    obtain ⟨rfl, hy⟩ := hy
    exact ⟨Grow.refl _, (f i).mono _ _ _ ex (h3.2 i y (hy xs full))⟩)
theorem i_tup {tg : Expr} {n : Nat} {f : Nat → Rp} (h : EE C e Γ μ (TupF C.K n f)) : EI C tg e Γ μ n f := fun σ H R' ok q =>
  tix (fun X hX => hX.K ▸ pi_tup (TEx.pe hX)) (h σ H _ ok fun v H1 k1 e1 p1 => by
    obtain ⟨t, xs, rfl, h2, h3⟩ := p1
    refine ⟨t, rfl, ⟨xs, sqt_ext (ext_hide _ _) h2⟩, q _ H1 k1 e1 fun M H2 _ ex => ?_⟩
    have h2' : SqT C.K (hide M H2) t xs := sqt_ext ex h2
    have full := sqt_ext (ext_hide M H2) h2'
    refine ⟨⟨xs, full, Nat.le_of_eq h3.1⟩, fun i hi => ?_⟩
    obtain ⟨x, hx⟩ := get_lt h3.1 hi
    refine ⟨⟨xs, x, full, hx⟩, fun y H' hy => ?_⟩
    obtain ⟨rfl, hy⟩ := hy
    exact ⟨Grow.refl _, (f i).mono _ _ _ ex (h3.2 i y (hy xs full))⟩)
/-- a pair that an iterator lays -/
theorem pair_new {K : PySem.W.Frag} {M : List Addr} {H : Hp} {T : Addr} {x y : V} (hT : H T = none) (hl : Lsts M H) (hx : A.p x (hide M H)) (hy : B.p y (hide M H)) : Grow H (upd H T (.tup [x, y])) ∧ (TupF K 2 (two A B)).p (.ref T) (hide M (upd H T (.tup [x, y]))) := by
  have g : Grow H (upd H T (.tup [x, y])) := Grow.new hT
  have ev := g.view hl
  refine ⟨g, T, [x, y], rfl, .inl (.inl ?_), rfl, fun i z q => ?_⟩
  · rw [hide_out, upd_same]
    intro z
    obtain ⟨xs, y⟩ := hl T z
    rw [hT] at y
    cases y
  · match i, q with
    | 0, q => cases q; exact A.mono _ _ _ ev hx
    | 1, q => cases q; exact B.mono _ _ _ ev hy
    | i + 2, q => cases q
theorem i_enum {tpos p : Pos} {elts : List Expr} {kk n : Nat} {f : Nat → Rp} (h : EE C a Γ μ (TupF C.K n f)) (hg : C.sc.names.lookup ("enumerate" : Str) = some .globalImplicit) (hm : C.mg ("enumerate" : Str) = none)
    (hs : ∀ X : Cx, starEach [a] X.env = [(false, eval a X.env)] := by intro _; exact star_one rfl) (hs2 : ∀ X : Cx, starEach [a] X.env = (false, eval a X.env) :: starEach [] X.env := by intro _; exact star_cons rfl) :
    EI C (.Tuple elts kk tpos) (.Call (.Name "enumerate" p) [a] [] pos) Γ μ n (fun i => TupF C.K 2 (two (Is (.int (i : Int))) (f i))) := fun σ H R' ok q =>
  tix (t := Mr.iEnumT C.K (TAx C [a])) (fun X hX => by
    have h := Mr.pi_enumT (X := X) (elts := elts) (kk := kk) (tpos := tpos) (p := p) (pos := pos) (gl_of hX hg) (by rw [hX.mg]; exact hm) (TAx.pa (es := [a]) hX) (hs X)
    rw [hX.K] at h
    exact h) (a_cons h a_nil hs2 σ H _ ok fun vs H1 k1 e1 p1 => by
    obtain ⟨v, rfl, c1⟩ := p1.one
    · obtain ⟨t, xs, rfl, h2, h3⟩ := c1
      refine ⟨t, xs, rfl, sqt_ext (ext_hide _ _) h2, q _ H1 k1 e1 fun M H2 hl ex => ?_⟩
      have h2' : SqT C.K (hide M H2) t xs := sqt_ext ex h2
      have full := sqt_ext (ext_hide M H2) h2'
      refine ⟨⟨xs, full, Nat.le_of_eq h3.1⟩, fun i hi => ?_⟩
      obtain ⟨x, hx⟩ := get_lt h3.1 hi
      refine ⟨⟨xs, x, full, hx⟩, fun y H' hy => ?_⟩
      obtain ⟨T, x', rfl, hT, rfl, hy⟩ := hy
      exact pair_new (K := C.K) (A := Is (.int (i : Int))) (B := f i) hT hl rfl ((f i).mono _ _ _ ex (h3.2 i x' (hy xs full))))
theorem i_zipT {tpos p : Pos} {elts : List Expr} {kk n : Nat} {f g : Nat → Rp} (h : EE C a Γ μ (TupF C.K n f)) (h' : EE C b Γ μ (TupF C.K n g)) (hg : C.sc.names.lookup ("zip" : Str) = some .globalImplicit) (hm : C.mg ("zip" : Str) = none)
    (hs : ∀ X : Cx, starEach [a, b] X.env = (false, eval a X.env) :: starEach [b] X.env := by intro _; exact star_cons rfl) (hs2 : ∀ X : Cx, starEach [b] X.env = (false, eval b X.env) :: starEach [] X.env := by intro _; exact star_cons rfl) (hpl : ∀ X : Cx, (backTo pos (starEach [b] X.env)).any (·.1) = false := by intro _; rfl) :
    EI C (.Tuple elts kk tpos) (.Call (.Name "zip" p) [a, b] [] pos) Γ μ n (fun i => TupF C.K 2 (two (f i) (g i))) := fun σ H R' ok q =>
  tix (t := RZ.iZipA C.K (TAx C [a, b])) (fun X hX => by
    have h := RZ.pi_zipA (X := X) (elts := elts) (kk := kk) (tpos := tpos) (p := p) (pos := pos) (gl_of hX hg) (by rw [hX.mg]; exact hm) (TAx.pa (es := [a, b]) hX) (hs X) (hpl X)
    rw [hX.K] at h
    exact h) (a_cons h (a_cons h' a_nil hs2) hs σ H _ ok fun vs H1 k1 e1 p1 => by
    obtain ⟨v, w, rfl, c1, c2⟩ := p1.pair
    · obtain ⟨t, xs, rfl, h2, h3⟩ := c1
      obtain ⟨u, ys, rfl, h4, h5⟩ := c2
      refine ⟨t, u, xs, ys, rfl, .inr ⟨sqt_ext (ext_hide _ _) h2, sqt_ext (ext_hide _ _) h4, q _ H1 k1 e1 fun M H2 hl ex => ?_⟩⟩
      have full := sqt_ext (ext_hide M H2) (sqt_ext ex h2)
      have full2 := sqt_ext (ext_hide M H2) (sqt_ext ex h4)
      refine ⟨⟨xs, ys, full, full2, .inl (Nat.le_of_eq h3.1)⟩, fun i hi => ?_⟩
      obtain ⟨x, hx⟩ := get_lt h3.1 hi
      obtain ⟨y, hy⟩ := get_lt h5.1 hi
      refine ⟨⟨xs, ys, x, y, full, full2, hx, hy⟩, fun z H' hz => ?_⟩
      obtain ⟨T, x', y', rfl, hT, rfl, hx', hy'⟩ := hz
      exact pair_new (K := C.K) (A := f i) (B := g i) hT hl ((f i).mono _ _ _ ex (h3.2 i x' (hx' xs full))) ((g i).mono _ _ _ ex (h5.2 i y' (hy' ys full2))))
theorem i_zipL {tpos p : Pos} {elts : List Expr} {kk n : Nat} {f g : Nat → Rp} (h : EE C a Γ μ (LstF C.K n f)) (h' : EE C b Γ μ (LstF C.K n g)) (hg : C.sc.names.lookup ("zip" : Str) = some .globalImplicit) (hm : C.mg ("zip" : Str) = none)
    (hs : ∀ X : Cx, starEach [a, b] X.env = (false, eval a X.env) :: starEach [b] X.env := by intro _; exact star_cons rfl) (hs2 : ∀ X : Cx, starEach [b] X.env = (false, eval b X.env) :: starEach [] X.env := by intro _; exact star_cons rfl) (hpl : ∀ X : Cx, (backTo pos (starEach [b] X.env)).any (·.1) = false := by intro _; rfl) :
    EI C (.Tuple elts kk tpos) (.Call (.Name "zip" p) [a, b] [] pos) Γ μ n (fun i => TupF C.K 2 (two (f i) (g i))) := fun σ H R' ok q =>
  tix (t := RZ.iZipA C.K (TAx C [a, b])) (fun X hX => by
    have h := RZ.pi_zipA (X := X) (elts := elts) (kk := kk) (tpos := tpos) (p := p) (pos := pos) (gl_of hX hg) (by rw [hX.mg]; exact hm) (TAx.pa (es := [a, b]) hX) (hs X) (hpl X)
    rw [hX.K] at h
    exact h) (a_cons h (a_cons h' a_nil hs2) hs σ H _ ok fun vs H1 k1 e1 p1 => by
    obtain ⟨v, w, rfl, c1, c2⟩ := p1.pair
    · obtain ⟨t, xs, rfl, h2, h3⟩ := c1
      obtain ⟨u, ys, rfl, h4, h5⟩ := c2
      refine ⟨t, u, xs, ys, rfl, .inl ⟨sql_ext (ext_hide _ _) h2, sql_ext (ext_hide _ _) h4, q _ H1 k1 e1 fun M H2 hl ex => ?_⟩⟩
      have full := sql_ext (ext_hide M H2) (sql_ext ex h2)
      have full2 := sql_ext (ext_hide M H2) (sql_ext ex h4)
      refine ⟨⟨xs, ys, full, full2, .inl (Nat.le_of_eq h3.1)⟩, fun i hi => ?_⟩
      obtain ⟨x, hx⟩ := get_lt h3.1 hi
      obtain ⟨y, hy⟩ := get_lt h5.1 hi
      refine ⟨⟨xs, ys, x, y, full, full2, hx, hy⟩, fun z H' hz => ?_⟩
      obtain ⟨T, x', y', rfl, hT, rfl, hx', hy'⟩ := hz
      exact pair_new (K := C.K) (A := f i) (B := g i) hT hl ((f i).mono _ _ _ ex (h3.2 i x' (hx' xs full))) ((g i).mono _ _ _ ex (h5.2 i y' (hy' ys full2))))
theorem i_zipM {tpos p : Pos} {elts : List Expr} {kk n : Nat} {f g : Nat → Rp} (h : EE C a Γ μ (TupF C.K n f)) (h' : EE C b Γ μ (LstF C.K n g)) (hg : C.sc.names.lookup ("zip" : Str) = some .globalImplicit) (hm : C.mg ("zip" : Str) = none)
    (hs : ∀ X : Cx, starEach [a, b] X.env = (false, eval a X.env) :: starEach [b] X.env := by intro _; exact star_cons rfl) (hs2 : ∀ X : Cx, starEach [b] X.env = (false, eval b X.env) :: starEach [] X.env := by intro _; exact star_cons rfl) (hpl : ∀ X : Cx, (backTo pos (starEach [b] X.env)).any (·.1) = false := by intro _; rfl) :
    EI C (.Tuple elts kk tpos) (.Call (.Name "zip" p) [a, b] [] pos) Γ μ n (fun i => TupF C.K 2 (two (f i) (g i))) := fun σ H R' ok q =>
  tix (t := Mr.iZipM C.K (TAx C [a, b])) (fun X hX => by
    have h := Mr.pi_zipM (X := X) (elts := elts) (kk := kk) (tpos := tpos) (p := p) (pos := pos) (gl_of hX hg) (by rw [hX.mg]; exact hm) (TAx.pa (es := [a, b]) hX) (hs X) (hpl X)
    rw [hX.K] at h
    exact h) (a_cons h (a_cons h' a_nil hs2) hs σ H _ ok fun vs H1 k1 e1 p1 => by
    obtain ⟨v, w, rfl, c1, c2⟩ := p1.pair
    · obtain ⟨t, xs, rfl, h2, h3⟩ := c1
      obtain ⟨u, ys, rfl, h4, h5⟩ := c2
      refine ⟨t, u, xs, ys, rfl, sqt_ext (ext_hide _ _) h2, sql_ext (ext_hide _ _) h4, q _ H1 k1 e1 fun M H2 hl ex => ?_⟩
      have full := sqt_ext (ext_hide M H2) (sqt_ext ex h2)
      have full2 := sql_ext (ext_hide M H2) (sql_ext ex h4)
      refine ⟨⟨xs, ys, full, full2, .inl ⟨h3.1, Nat.le_of_eq h5.1.symm⟩⟩, fun i hi => ?_⟩
      obtain ⟨x, hx⟩ := get_lt h3.1 hi
      obtain ⟨y, hy⟩ := get_lt h5.1 hi
      refine ⟨⟨xs, ys, x, y, full, full2, hx, hy⟩, fun z H' hz => ?_⟩
      obtain ⟨T, x', y', rfl, hT, rfl, hx', hy'⟩ := hz
      exact pair_new (K := C.K) (A := f i) (B := g i) hT hl ((f i).mono _ _ _ ex (h3.2 i x' (hx' xs full))) ((g i).mono _ _ _ ex (h5.2 i y' (hy' ys full2))))
theorem EI.sub {tg iter : Expr} {n : Nat} {f g : Nat → Rp} (h : EI C tg iter Γ μ n f) (s : ∀ i, i < n → Sub (f i) (g i)) : EI C tg iter Γ μ n g := fun σ H R' ok q => h σ H R' ok fun J H' k1 e1 it => q J H' k1 e1 fun M H2 hl ex => by
  obtain ⟨h1, h2⟩ := it M H2 hl ex
  exact ⟨h1, fun i hi => ⟨(h2 i hi).1, fun x H' hy => ⟨((h2 i hi).2 x H' hy).1, s i hi _ _ ((h2 i hi).2 x H' hy).2⟩⟩⟩

/-! ### targets -/
def TGx (C : Ctx) (tg : Expr) : TG := fun v σ H Q => ∀ (X : Cx) (pins : List (Addr × Obj)) (s : Shared) (u : Value), XOk C X → Inv X pins σ H s → RelV v u → wpAny (model X.prog X.w) X.A (assign tg X.env u) (fun _ s' => ∃ σ' H', Inv X pins σ' H' s' ∧ Q σ' H') X.xe s
theorem TGx.pg {X : Cx} {tg : Expr} (hX : XOk C X) : PG X tg (TGx C tg) := ⟨fun pins s σ H v u Q I r h => h X pins s u hX I r⟩
theorem tgx {tg : Expr} {g : TG} {v : V} {σ : L2.St} {H : Hp} {Q : L2.St → Hp → Prop} (h : ∀ X, XOk C X → PG X tg g) (q : g v σ H Q) : TGx C tg v σ H Q := fun X pins s u hX I r => (h X hX).run pins s σ H v u Q I r q
/-- a target takes a thing that is P and sets slots among js, as f says -/
def TT1 (C : Ctx) (tg : Expr) (P : Rp) (f : Sl → Sl) (js : List Nat) : Prop := ∀ x σ H Γ μ (Q : L2.St → Hp → Prop), Ok C.ts Γ μ σ H → P.p x (view μ H) → (∀ σ', Ok C.ts (f Γ) μ σ' H → σ'.length = σ.length → (∀ i, i ∉ js → σ'[i]? = σ[i]?) → Q σ' H) → TGx C tg x σ H Q
theorem TT1.sub {tg : Expr} {f : Sl → Sl} {js : List Nat} (h : TT1 C tg P f js) (s : Sub R P) : TT1 C tg R f js := fun x σ H Γ μ Q ok p q => h x σ H Γ μ Q ok (s _ _ p) q
theorem TT1.js {tg : Expr} {f : Sl → Sl} {js js' : List Nat} (h : TT1 C tg P f js) (s : ∀ i ∈ js, i ∈ js') : TT1 C tg P f js' := fun x σ H Γ μ Q ok p q => h x σ H Γ μ Q ok p fun σ' k l d => q σ' k l fun i hi => d i fun z => hi (s i z)
theorem pgn {X : Cx} (hX : XOk C X) {i : Nat} {x : Str} {px : Pos} (hi : C.N[i]? = some x) (hx : Loc C.sc x) (hf : C.top = true ∨ C.sc.names.lookup x = some .local) : PG X (.Name x px) (gName i) :=
  pg_name (by rw [hX.N]; exact hX.nd) (by rw [hX.N]; exact hi) (by rw [hX.sc]; exact hx) (by rcases hf with h | h; exact .inl (hX.fn h x); exact .inr (by rw [hX.sc]; exact h))
theorem g_name {i : Nat} {x : Str} {px : Pos} (hi : C.N[i]? = some x := by rfl) (hx : Loc C.sc x := by first | exact Or.inl rfl | exact Or.inr rfl) (hf : C.top = true ∨ C.sc.names.lookup x = some .local := by first | exact Or.inl rfl | exact Or.inr rfl) : TT1 C (.Name x px) P (fun Γ => Γ.set i (some P)) [i] :=
  fun v σ H Γ μ Q ok p q => tgx (fun X hX => pgn hX hi hx hf) (q _ (ok.set p) (List.length_set) fun j hj => by
    rw [List.getElem?_set, if_neg (fun z => hj (by rw [z]; exact List.mem_cons_self))])
theorem g_pair {i j : Nat} {x y : Str} {px py pt : Pos} {kt : Nat} (hi : C.N[i]? = some x := by rfl) (hj : C.N[j]? = some y := by rfl) (hx : Loc C.sc x := by first | exact Or.inl rfl | exact Or.inr rfl) (hy : Loc C.sc y := by first | exact Or.inl rfl | exact Or.inr rfl)
    (hf : C.top = true ∨ C.sc.names.lookup x = some .local := by first | exact Or.inl rfl | exact Or.inr rfl) (hf2 : C.top = true ∨ C.sc.names.lookup y = some .local := by first | exact Or.inl rfl | exact Or.inr rfl) :
    TT1 C (.Tuple [.Name x px, .Name y py] kt pt) (TupF C.K 2 (two A B)) (fun Γ => (Γ.set i (some A)).set j (some B)) [i, j] :=
  fun v σ H Γ μ Q ok p q => by
    obtain ⟨t, xs, rfl, h2, h3, h4⟩ := p
    match xs, h3 with
    | [u, w], _ =>
      refine tgx (fun X hX => hX.K ▸ pg_tup hX.calm (pgs_cons (pgn hX hi hx hf) (pgs_cons (pgn hX hj hy hf2) pgs_nil))) ⟨t, _, rfl, sqt_ext (ext_hide _ _) h2, rfl, u, _, rfl, w, _, rfl, rfl, q _ ((ok.set (h4 0 u rfl)).set (h4 1 w rfl)) (by rw [List.length_set, List.length_set]) fun l hl => ?_⟩
      rw [List.getElem?_set, if_neg (fun z => hl (by rw [z]; exact List.mem_cons_of_mem _ List.mem_cons_self)), List.getElem?_set, if_neg (fun z => hl (by rw [z]; exact List.mem_cons_self))]
def three {α : Sort _} (A B D : α) : Nat → α
  | 0 => A
  | 1 => B
  | _ + 2 => D
theorem g_three {i j l : Nat} {D : Rp} {x y z : Str} {px py pz pt : Pos} {kt : Nat} (hi : C.N[i]? = some x := by rfl) (hj : C.N[j]? = some y := by rfl) (hl : C.N[l]? = some z := by rfl) (hx : Loc C.sc x := by first | exact Or.inl rfl | exact Or.inr rfl) (hy : Loc C.sc y := by first | exact Or.inl rfl | exact Or.inr rfl)
    (hz : Loc C.sc z := by first | exact Or.inl rfl | exact Or.inr rfl) (hf : C.top = true ∨ C.sc.names.lookup x = some .local := by first | exact Or.inl rfl | exact Or.inr rfl) (hf2 : C.top = true ∨ C.sc.names.lookup y = some .local := by first | exact Or.inl rfl | exact Or.inr rfl) (hf3 : C.top = true ∨ C.sc.names.lookup z = some .local := by first | exact Or.inl rfl | exact Or.inr rfl) :
    TT1 C (.Tuple [.Name x px, .Name y py, .Name z pz] kt pt) (TupF C.K 3 (three A B D)) (fun Γ => ((Γ.set i (some A)).set j (some B)).set l (some D)) [i, j, l] :=
  fun v σ H Γ μ Q ok p q => by
    obtain ⟨t, xs, rfl, h2, h3, h4⟩ := p
    match xs, h3 with
    | [u, w, r], _ =>
      refine tgx (fun X hX => hX.K ▸ pg_tup hX.calm (pgs_cons (pgn hX hi hx hf) (pgs_cons (pgn hX hj hy hf2) (pgs_cons (pgn hX hl hz hf3) pgs_nil)))) ⟨t, _, rfl, sqt_ext (ext_hide _ _) h2, rfl, u, _, rfl, w, _, rfl, r, _, rfl, rfl, q _ (((ok.set (h4 0 u rfl)).set (h4 1 w rfl)).set (h4 2 r rfl)) (by rw [List.length_set, List.length_set, List.length_set]) fun m hm => ?_⟩
      rw [List.getElem?_set, if_neg (fun z => hm (by rw [z]; simp)), List.getElem?_set, if_neg (fun z => hm (by rw [z]; simp)), List.getElem?_set, if_neg (fun z => hm (by rw [z]; simp))]

/-! ### comprehensions -/
def relS (scope sc : Scope) : Scope := { scope with names := scope.names.map fun (n, k) => if (k == .free && sc.kind == .function && sc.names.lookup n == some .cell) then (n, .cell) else (n, k) }
abbrev Ctx.blk (C : Ctx) (scope : Scope) : Ctx := { C with sc := relS scope C.sc, top := false }
theorem XOk.blk {X : Cx} (hX : XOk C X) {scope : Scope} {s : Shared} {H : Hp} {D : Addr} {cl : List (Str × Addr)} {fp : List Addr} : XOk (C.blk scope) (X.blk s H scope (compEnvC scope cl D X.env) fp) where
  prog := hX.prog
  w := hX.w
  K := hX.K
  mg := hX.mg
  base := hX.base
  N := hX.N
  sc := by
    show relabel scope X.env = relS scope C.sc
    rw [← hX.sc]
    rfl
  room := hX.room
  calm := hX.calm
  fn := fun z => by cases z
  xe := rfl
  code := hX.code
  nd := hX.nd
theorem wipe_back {σ σ2 : L2.St} {vs js : List Nat} (hl : σ2.length = (wipe σ vs).length) (h : ∀ i, i ∉ js → σ2[i]? = (wipe σ vs)[i]?) (hj : ∀ i ∈ js, i ∈ vs) : wipe σ2 vs = wipe σ vs := by
  apply List.ext_getElem?
  intro i
  rw [wipe_at, wipe_at]
  rw [wipe_length] at hl
  by_cases q : i ∈ vs ∧ i < σ.length
  · rw [if_pos (by rw [hl]; exact q), if_pos q]
  · rw [if_neg (by rw [hl]; exact q), if_neg q]
    by_cases z : i ∈ js
    · have hv := hj i z
      have hn : ¬ i < σ.length := fun y => q ⟨hv, y⟩
      rw [List.getElem?_eq_none (by omega), List.getElem?_eq_none (by omega)]
    · rw [h i z, wipe_at, if_neg q]
theorem mut_at {ts : List Addr} {μ1 μ2 : Mu} {p : Addr} {c c' : LC} {H : Hp} {ys : List V} (h : Holds ts (μ1 ++ (p, c) :: μ2) H) (hy : c'.p ys (view (μ1 ++ (p, c) :: μ2) H)) :
    Holds ts (μ1 ++ (p, c') :: μ2) (upd H p (.lst ys)) ∧ view (μ1 ++ (p, c') :: μ2) (upd H p (.lst ys)) = view (μ1 ++ (p, c) :: μ2) H := by
  have ed : dom (μ1 ++ (p, c') :: μ2) = dom (μ1 ++ (p, c) :: μ2) := by simp [dom]
  have ev : view (μ1 ++ (p, c') :: μ2) (upd H p (.lst ys)) = view (μ1 ++ (p, c) :: μ2) H := by
    show hide _ _ = hide _ _
    rw [ed]
    exact hide_mut (by simp [dom])
  refine ⟨⟨fun m hm => ?_, by rw [ed]; exact h.nd, fun P hP => by rw [ev]; exact h.tb P hP⟩, ev⟩
  rw [ev]
  have nd := h.nd
  have key : m ∈ μ1 ++ μ2 ∨ m = (p, c') := by
    rcases List.mem_append.mp hm with q | q
    · exact .inl (List.mem_append_left _ q)
    · rcases List.mem_cons.mp q with q | q
      · exact .inr q
      · exact .inl (List.mem_append_right _ q)
  rcases key with q | rfl
  · have hm' : m ∈ μ1 ++ (p, c) :: μ2 := by
      rcases List.mem_append.mp q with q | q
      · exact List.mem_append_left _ q
      · exact List.mem_append_right _ (List.mem_cons_of_mem _ q)
    obtain ⟨xs, h1, h2⟩ := h.el m hm'
    refine ⟨xs, ?_, h2⟩
    rw [upd_ne]
    · exact h1
    · intro z
      have nd' : (μ1.map (·.1) ++ p :: μ2.map (·.1)).Nodup := by simpa [dom] using nd
      rw [List.nodup_append] at nd'
      obtain ⟨_, n2, n3⟩ := nd'
      rcases List.mem_append.mp q with q | q
      · exact n3 m.1 (List.mem_map.mpr ⟨m, q, rfl⟩) p List.mem_cons_self z
      · exact (List.nodup_cons.mp n2).1 (by rw [← z]; exact List.mem_map.mpr ⟨m, q, rfl⟩)
  · exact ⟨ys, upd_same, hy⟩
def cnt (t : Nat → Bool) (n : Nat) : Nat := ((List.range n).filter t).length
theorem cnt_le (t : Nat → Bool) (n : Nat) : cnt t n ≤ n := by
  have h := List.length_filter_le t (List.range n)
  rw [List.length_range] at h
  exact h
theorem cnt_succ (t : Nat → Bool) (n : Nat) : cnt t (n + 1) = cnt t n + (if t n = true then 1 else 0) := by
  unfold cnt
  rw [List.range_succ, List.filter_append, List.length_append, List.filter_cons]
  split <;> simp [*]
theorem cnt_all {t : Nat → Bool} {n : Nat} (h : ∀ i, i < n → t i = true) : cnt t n = n := by
  unfold cnt
  rw [List.filter_eq_self.mpr (fun i hi => h i (List.mem_range.mp hi)), List.length_range]
/-- a comprehension's reading, by types: the i-th thing that stays is R (its place) -/
theorem lc_typed {tg iter elt : Expr} {scope : Scope} {own : List (Str × Nat)} {n : Nat} {Pi : Nat → Rp} {ft : Nat → Sl → Sl} {js : List Nat} {tt : TT} {t : Nat → Bool} {Rf : Nat → Rp}
    (hi : EI C tg iter Γ μ n Pi) (hn : n ≤ 1000) (ht : ∀ i, i < n → TT1 (C.blk scope) tg (Pi i) (ft i) js) (hjs : ∀ j ∈ js, j ∈ own.map (·.2))
    (hq : ∀ i, i < n → ∀ D, ∀ σ H (Q : Bool → Hp → Prop), Ok C.ts (ft i (wipeG Γ (own.map (·.2)))) ((D, Els (cnt t i) Rf) :: μ) σ H → (∀ H', Ok C.ts (ft i (wipeG Γ (own.map (·.2)))) ((D, Els (cnt t i) Rf) :: μ) σ H' → Ext (view ((D, Els (cnt t i) Rf) :: μ) H) (view ((D, Els (cnt t i) Rf) :: μ) H') → Q (t i) H') → tt σ H Q)
    (he : ∀ i, i < n → t i = true → ∀ D, EE (C.blk scope) elt (ft i (wipeG Γ (own.map (·.2)))) ((D, Els (cnt t i) Rf) :: μ) (Rf (cnt t i)))
    {σ : L2.St} {H : Hp} {Q : VK} (ok : Ok C.ts Γ μ σ H) (q : ∀ p H', Ok C.ts Γ ((p, Els (cnt t n) Rf) :: μ) σ H' → Ext (view μ H) (view ((p, Els (cnt t n) Rf) :: μ) H') → Q (.ref p) H') :
    tLc (TIx C tg iter) (TGx (C.blk scope) tg) tt (TEx (C.blk scope) elt) (own.map (·.2)) σ H Q := by
  refine hi σ H _ ok fun J H1 k1 e1 it D hD => ?_
  have st : ∀ i, Els (cnt t i) Rf = Els (cnt t i) Rf := fun i => rfl
  obtain ⟨o0, ev0⟩ := new_list (c := Els (cnt t 0) Rf) (vs := []) k1 ⟨rfl, fun i x z => by simp at z⟩ hD
  refine ⟨fun i m H' => i + m = n ∧ Ok C.ts Γ ((D, Els (cnt t i) Rf) :: μ) σ H' ∧ Ext (view μ H1) (view ((D, Els (cnt t i) Rf) :: μ) H'), ⟨n, by omega, o0, by rw [ev0]; exact Ext.refl _⟩, fun i m H' ⟨hm, o, ex⟩ => ?_⟩
  obtain ⟨i1, i2⟩ := it _ H' o.hd.lsts ex
  by_cases hin : i < n
  · obtain ⟨go, yl⟩ := i2 i hin
    refine .inr ⟨go, fun H'' => Ok C.ts Γ ((D, Els (cnt t (i + 1)) Rf) :: μ) σ H'' ∧ Ext (view μ H1) (view ((D, Els (cnt t (i + 1)) Rf) :: μ) H''), fun H'' ⟨a1, a2⟩ => ⟨m - 1, by omega, by omega, a1, a2⟩, fun x H2 hy => ?_⟩
    obtain ⟨g, px⟩ := yl x H2 hy
    have o2 := o.grow g
    have e2 := o.ev g
    refine ht i hin x (wipe σ (own.map (·.2))) H2 _ _ _ (o2.wipe _) px ?_
    intro σ2 k2 l2 d2
    refine ⟨wipe_back l2 d2 hjs, hq i hin D σ2 H2 _ k2 ?_⟩
    intro H3 k3 e3
    have ext3 : Ext (view μ H1) (view ((D, Els (cnt t i) Rf) :: μ) H3) := (ex.trans e2).trans e3
    cases hti : t i with
    | false =>
      rw [if_neg (by decide)]
      have ec : cnt t (i + 1) = cnt t i := by rw [cnt_succ, hti]; rfl
      rw [ec]
      exact ⟨o2.step k3.hd e3, ext3⟩
    | true =>
      rw [if_pos rfl]
      refine he i hin hti D σ2 H3 _ k3 fun y H4 k4 e4 py => ?_
      obtain ⟨acc, a1, a2, a3⟩ := k4.hd.el _ List.mem_cons_self
      have hc := cnt_le t i
      refine ⟨acc, a1, Nat.lt_of_lt_of_le (show acc.length < 100000 by have : acc.length = cnt t i := a2; omega) (by decide), ?_⟩
      have ec : cnt t (i + 1) = cnt t i + 1 := by rw [cnt_succ, hti]; rfl
      rw [ec]
      obtain ⟨h5, ev5⟩ := mut_at (μ1 := []) (c' := Els (cnt t i + 1) Rf) (ys := acc ++ [y]) k4.hd ⟨by have : acc.length = cnt t i := a2; rw [List.length_append, this]; rfl, fun l z hz => by
        have hl : acc.length = cnt t i := a2
        rw [List.getElem?_append] at hz
        split at hz
        · exact a3 l z hz
        · have hle : l - acc.length = 0 := by
            rcases Nat.eq_zero_or_pos (l - acc.length) with w | w
            · exact w
            · rw [List.getElem?_eq_none (by show 1 ≤ _; omega)] at hz
              cases hz
          rw [hle] at hz
          cases hz
          have hll : l = cnt t i := by omega
          rw [hll]
          exact py⟩
      have ev5' : view ((D, Els (cnt t i + 1) Rf) :: μ) (upd H4 D (.lst (acc ++ [y]))) = view ((D, Els (cnt t i) Rf) :: μ) H4 := ev5
      exact ⟨o2.step h5 (by rw [ev5']; exact e3.trans e4), by rw [ev5']; exact ext3.trans e4⟩
  · have hin' : i = n := by omega
    subst hin'
    exact .inl ⟨i1, q D H' o (e1.trans ex)⟩
theorem tt_yes {D : Addr} {c : LC} {Γ' : Sl} {ts : List Addr} : ∀ σ H (Q : Bool → Hp → Prop), Ok ts Γ' ((D, c) :: μ) σ H → (∀ H', Ok ts Γ' ((D, c) :: μ) σ H' → Ext (view ((D, c) :: μ) H) (view ((D, c) :: μ) H') → Q true H') → tYes σ H Q := fun σ H Q ok q => q H ok (Ext.refl _)
theorem cnt_true (n : Nat) : cnt (fun _ => true) n = n := cnt_all fun _ _ => rfl
theorem n_lc {tg iter elt : Expr} {scope : Scope} {own : List (Str × Nat)} {n : Nat} {Pi : Nat → Rp} {ft : Nat → Sl → Sl} {js : List Nat} {Rf : Nat → Rp}
    (hi : EI C tg iter Γ μ n Pi) (hn : n ≤ 1000) (ht : ∀ i, i < n → TT1 (C.blk scope) tg (Pi i) (ft i) js) (hjs : ∀ j ∈ js, j ∈ own.map (·.2))
    (he : ∀ i, i < n → ∀ D, EE (C.blk scope) elt (ft i (wipeG Γ (own.map (·.2)))) ((D, Els i Rf) :: μ) (Rf i)) (bk : BlkOk C.N C.sc scope own := by first | (dsimp only; exact blkOk_by (by decide +kernel)) | exact blkOk_by (by decide +kernel)) (hs : ∀ (X : Cx) (x : Value), foldedSetIterable iter X.env x = pure x := by intro _ _; rfl) : EN C (.ListComp elt [⟨tg, iter, [], 0⟩] scope pos) Γ μ (Els n Rf) := fun σ H Q ok q =>
  tex (fun X hX => pe_lc hX.calm (by rw [hX.N]; exact hX.nd) (TIx.pi hX) (by rw [hX.N, hX.sc]; exact bk) (fun s H D cl fp => TGx.pg hX.blk) (fun s H D cl fp => pts_nil) (fun s H D cl fp => TEx.pe hX.blk) (hs X))
    (lc_typed (t := fun _ => true) hi hn ht hjs (fun i hin D => tt_yes) (fun i hin _ D => by rw [cnt_true]; exact he i hin D) ok fun p H' k x => by rw [cnt_true] at k x; exact q p H' k x)
/-- .. with a test: only how many stay -/
theorem n_lcIf {tg iter elt c : Expr} {scope : Scope} {own : List (Str × Nat)} {n : Nat} {Pi : Nat → Rp} {ft : Nat → Sl → Sl} {js : List Nat} {Rf : Rp} {t : Nat → Bool}
    (hi : EI C tg iter Γ μ n Pi) (hn : n ≤ 1000) (ht : ∀ i, i < n → TT1 (C.blk scope) tg (Pi i) (ft i) js) (hjs : ∀ j ∈ js, j ∈ own.map (·.2))
    (hc : ∀ i, i < n → ∀ D m, ET (C.blk scope) c (ft i (wipeG Γ (own.map (·.2)))) ((D, Els m fun _ => Rf) :: μ) (t i))
    (he : ∀ i, i < n → t i = true → ∀ D m, EE (C.blk scope) elt (ft i (wipeG Γ (own.map (·.2)))) ((D, Els m fun _ => Rf) :: μ) Rf) (bk : BlkOk C.N C.sc scope own := by first | (dsimp only; exact blkOk_by (by decide +kernel)) | exact blkOk_by (by decide +kernel)) (hs : ∀ (X : Cx) (x : Value), foldedSetIterable iter X.env x = pure x := by intro _ _; rfl) : EN C (.ListComp elt [⟨tg, iter, [c], 0⟩] scope pos) Γ μ (Els (cnt t n) fun _ => Rf) := fun σ H Q ok q =>
  tex (fun X hX => pe_lc hX.calm (by rw [hX.N]; exact hX.nd) (TIx.pi hX) (by rw [hX.N, hX.sc]; exact bk) (fun s H D cl fp => TGx.pg hX.blk) (fun s H D cl fp => pts_one (TTx.pt hX.blk)) (fun s H D cl fp => TEx.pe hX.blk) (hs X))
    (lc_typed (t := t) hi hn ht hjs (fun i hin D => hc i hin D _) (fun i hin h D => he i hin h D _) ok q)
end
end Lay
set_option Elab.async false
set_option linter.all false
set_option maxRecDepth 100000
set_option maxHeartbeats 4000000

namespace Lay
open PySem PySem.Spec PyProof.Rows L2 Gx

/-! ### statements -/
/-- one content says more than another -/
def Imp (c d : LC) : Prop := ∀ xs h, c.p xs h → d.p xs h
theorem Imp.refl (c : LC) : Imp c c := fun _ _ h => h
structure Bs where
  μ : Mu
  V : Hp
structure St (C : Ctx) (b : Bs) (Γ : Sl) (μ : Mu) (σ : L2.St) (H : Hp) : Prop where
  ok : Ok C.ts Γ μ σ H
  ex : Ext b.V (view μ H)
  sub : ∀ e ∈ b.μ, ∃ c, (e.1, c) ∈ μ ∧ Imp c e.2
  nd : (dom b.μ).Nodup
structure Fin (C : Ctx) (b : Bs) (R : Rp) (v : V) (H : Hp) : Prop where
  hd : Holds C.ts b.μ H
  ex : Ext b.V (view b.μ H)
  r : R.p v (view b.μ H)
def TSx (C : Ctx) (sts : List Stmt) : TS := fun D σ H => ∀ (X : Cx) (pins : List (Addr × Obj)) (s : Shared), XOk C X → Inv X pins σ H s → wpAny (model X.prog X.w) X.A (execs sts X.env) (SP X pins D) X.xe s
abbrev Nx := Sl → Mu → Prop
def GS (C : Ctx) (b : Bs) (sts : List Stmt) (Γ : Sl) (μ : Mu) (N : Nx) (R : Rp) : Prop := ∀ σ H (D : Ends), St C b Γ μ σ H → (∀ Γ' μ' σ' H', N Γ' μ' → St C b Γ' μ' σ' H' → Ext (view μ H) (view μ' H') → D.nx σ' H') → (∀ v H', Fin C b R v H' → D.rt v H') → TSx C sts D σ H
def Done : Nx := fun _ _ => False
section
variable {C : Ctx} {bs : Bs} {a b e : Expr} {es : List Expr} {rest sts : List Stmt} {st : Stmt} {Γ Γ' : Sl} {μ μ' : Mu} {A B P R : Rp} {pos : Pos} {N N' : Nx} {σ : L2.St} {H H' : Hp} {D : Ends}
theorem TSx.pss {X : Cx} (hX : XOk C X) : PSs X sts (TSx C sts) := ⟨fun pins s σ H D I h => h X pins s hX I⟩
theorem tsx {t : TS} (h : ∀ X, XOk C X → PSs X sts t) (q : t D σ H) : TSx C sts D σ H := fun X pins s hX I => (h X hX).run pins s σ H D I q
theorem tsc {t : TS} (h : ∀ X, XOk C X → PS X st t) (q : t { D with nx := TSx C rest D } σ H) : TSx C (st :: rest) D σ H := tsx (fun X hX => pss_cons (h X hX) (TSx.pss hX)) q
theorem St.step (k : St C bs Γ μ σ H) (o : Ok C.ts Γ μ σ H') (x : Ext (view μ H) (view μ H')) : St C bs Γ μ σ H' := ⟨o, k.ex.trans x, k.sub, k.nd⟩
theorem St.fin (k : St C bs Γ μ σ H) {v : V} (h : R.p v (view μ H)) : Fin C bs R v H := by
  have l : Ext (view μ H) (view bs.μ H) := ext_less fun x hx => by
    obtain ⟨m, hm, rfl⟩ := List.mem_map.mp hx
    obtain ⟨c, h1, _⟩ := k.sub m hm
    exact List.mem_map.mpr ⟨_, h1, rfl⟩
  exact ⟨⟨fun m hm => by
    obtain ⟨c, h0, hi⟩ := k.sub m hm
    obtain ⟨xs, h1, h2⟩ := k.ok.hd.el _ h0
    exact ⟨xs, h1, m.2.mono _ _ _ l (hi _ _ h2)⟩, k.nd, fun T hT => l.tab 2 T (k.ok.hd.tb T hT)⟩, k.ex.trans l, R.mono _ _ _ l h⟩
/-- what is wanted behind, from a later heap -/
theorem up {V1 V2 : Hp} (n : ∀ Γ' μ' σ' H', N Γ' μ' → St C bs Γ' μ' σ' H' → Ext V1 (view μ' H') → D.nx σ' H') (e : Ext V1 V2) : ∀ Γ' μ' σ' H', N Γ' μ' → St C bs Γ' μ' σ' H' → Ext V2 (view μ' H') → D.nx σ' H' := fun Γ' μ' σ' H' a b c => n Γ' μ' σ' H' a b (e.trans c)
theorem gs_nil (h : N Γ μ) : GS C bs [] Γ μ N R := fun σ H D k n r => tsx (fun X hX => pss_nil) (n Γ μ σ H h k (Ext.refl _))
theorem GS.mono (h : GS C bs sts Γ μ N R) (s : ∀ Γ μ, N Γ μ → N' Γ μ) : GS C bs sts Γ μ N' R := fun σ H D k n r => h σ H D k (fun Γ' μ' σ' H' z => n Γ' μ' σ' H' (s _ _ z)) r
/-- name = e -/
theorem gs_set {i : Nat} {x : Str} {px : Pos} (he : EE C e Γ μ P) (k : GS C bs rest (Γ.set i (some P)) μ N R) (hi : C.N[i]? = some x := by rfl) (hx : Loc C.sc x := by first | exact Or.inl rfl | exact Or.inr rfl) (ht : C.top = true := by rfl)
    (hs : ∀ X : Cx, X.env.scope = C.sc → swapsWith e (some (.Name x px)) pos.line X.env = pure false := by intro _ _; rfl) : GS C bs (.Assign [.Name x px] e pos :: rest) Γ μ N R := fun σ H D kk n r =>
  tsc (fun X hX => ps_set (by rw [hX.N]; exact hX.nd) (by rw [hX.N]; exact hi) (by rw [hX.sc]; exact hx) (TEx.pe hX) (hs X hX.sc) (.inl (hX.fn ht x))) (he σ H _ kk.ok fun v H1 k1 e1 p => k _ _ D ⟨k1.set p, kk.ex.trans e1, kk.sub, kk.nd⟩ (up n e1) r)
theorem sw_cell {x : Str} {elt : Expr} {gens : List Comprehension} {scope : Scope} {p px : Pos} {l : Nat} {X : Cx} (hsc : X.env.scope = C.sc) (hx : C.sc.names.lookup x = some .cell) : swapsWith (.ListComp elt gens scope p) (some (.Name x px)) l X.env = pure false := by
  have h : X.env.kindOf x = some .cell := by unfold Env.kindOf; rw [hsc]; exact hx
  show (pure (X.env.blockKind == ScopeKind.function && X.env.kindOf x == some NameKind.local && px.line == p.line && !(scope.names.any fun (n, k) => n == x && (k == .local || k == .cell))) : Sem Bool) = pure false
  rw [h]
  have h2 : ((some NameKind.cell : Option NameKind) == some NameKind.local) = false := by decide
  rw [h2, Bool.and_false, Bool.false_and, Bool.false_and]
theorem St.new {p : Addr} {c : LC} (kk : St C bs Γ μ σ H) (k1 : Ok C.ts Γ ((p, c) :: μ) σ H') (e1 : Ext (view μ H) (view ((p, c) :: μ) H')) : St C bs Γ ((p, c) :: μ) σ H' := ⟨k1, kk.ex.trans e1, fun m hm => let ⟨c, h1, h2⟩ := kk.sub m hm; ⟨c, List.mem_cons_of_mem _ h1, h2⟩, kk.nd⟩
theorem St.set {i : Nat} {v : V} (k : St C bs Γ μ σ H) (p : P.p v (view μ H)) : St C bs (Γ.set i (some P)) μ (σ.set i (some v)) H := ⟨k.ok.set p, k.ex, k.sub, k.nd⟩
theorem St.fresh {p : Addr} {c : LC} (k : St C bs Γ μ σ H) (o : Ok C.ts Γ ((p, c) :: μ) σ H') : p ∉ dom bs.μ := fun z => by
  obtain ⟨m, hm, rfl⟩ := List.mem_map.mp z
  obtain ⟨c, h1, _⟩ := k.sub m hm
  exact (List.nodup_cons.mp o.hd.nd).1 (List.mem_map.mpr ⟨_, h1, rfl⟩)
/-- name = a new list that will change -/
theorem gs_setN {i : Nat} {x : Str} {px : Pos} {c : LC} (he : EN C e Γ μ c) (k : ∀ p, p ∉ dom bs.μ → GS C bs rest (Γ.set i (some (Is (.ref p)))) ((p, c) :: μ) N R) (hi : C.N[i]? = some x := by rfl) (hx : Loc C.sc x := by first | exact Or.inl rfl | exact Or.inr rfl) (ht : C.top = true := by rfl)
    (hs : ∀ X : Cx, X.env.scope = C.sc → swapsWith e (some (.Name x px)) pos.line X.env = pure false := by intro _ _; rfl) : GS C bs (.Assign [.Name x px] e pos :: rest) Γ μ N R := fun σ H D kk n r =>
  tsc (fun X hX => ps_set (by rw [hX.N]; exact hX.nd) (by rw [hX.N]; exact hi) (by rw [hX.sc]; exact hx) (TEx.pe hX) (hs X hX.sc) (.inl (hX.fn ht x))) (he σ H _ kk.ok fun p H1 k1 e1 => k p (kk.fresh k1) _ _ D ((kk.new k1 e1).set rfl) (up n e1) r)
/-- name = [..], the name a local -/
theorem gs_setLc {i : Nat} {x : Str} {px : Pos} {tg iter elt : Expr} {scope : Scope} {own : List (Str × Nat)} {n : Nat} {Pi : Nat → Rp} {ft : Nat → Sl → Sl} {js : List Nat} {Rf : Nat → Rp} {lpos : Pos}
    (hi : EI C tg iter Γ μ n Pi) (hn : n ≤ 1000) (ht : ∀ i, i < n → TT1 (C.blk scope) tg (Pi i) (ft i) js) (hjs : ∀ j ∈ js, j ∈ own.map (·.2))
    (he : ∀ i, i < n → ∀ D, EE (C.blk scope) elt (ft i (wipeG Γ (own.map (·.2)))) ((D, Els i Rf) :: μ) (Rf i)) (k : ∀ p, p ∉ dom bs.μ → GS C bs rest (Γ.set i (some (Is (.ref p)))) ((p, Els n Rf) :: μ) N R)
    (bk : BlkOk C.N C.sc scope own := by first | (dsimp only; exact blkOk_by (by decide +kernel)) | exact blkOk_by (by decide +kernel)) (hy : C.N[i]? = some x := by rfl) (hx : C.sc.names.lookup x = some .local := by rfl) (hkf : C.sc.kind = .function := by rfl)
    (hsw : ∀ X : Cx, X.env.scope = C.sc → swapsWith (.ListComp elt [⟨tg, iter, [], 0⟩] scope lpos) (some (.Name x px)) pos.line X.env = pure true) (hs : ∀ (X : Cx) (x : Value), foldedSetIterable iter X.env x = pure x := by intro _ _; rfl) :
    GS C bs (.Assign [.Name x px] (.ListComp elt [⟨tg, iter, [], 0⟩] scope lpos) pos :: rest) Γ μ N R := fun σ H D kk nx r =>
  tsc (fun X hX => ps_setLc (i := i) hX.calm (by rw [hX.N]; exact hX.nd) (by rw [hX.N]; exact hy) (by rw [hX.sc]; exact hx) (hsw X hX.sc) (TIx.pi hX) (by rw [hX.N, hX.sc]; exact bk) (fun s H D cl fp => TGx.pg hX.blk) (fun s H D cl fp => pts_nil) (fun s H D cl fp => TEx.pe hX.blk) (hs X))
    (lc_typed (t := fun _ => true) hi hn ht hjs (fun i hin D => tt_yes) (fun i hin _ D => by rw [cnt_true]; exact he i hin D) kk.ok fun p H1 k1 e1 => by
      rw [cnt_true] at k1 e1
      exact k p (kk.fresh k1) _ _ D ((kk.new k1 e1).set rfl) (up nx e1) r)
theorem sw_local {x : Str} {elt : Expr} {gens : List Comprehension} {scope : Scope} {p px : Pos} {l : Nat} {X : Cx} (hsc : X.env.scope = C.sc) (hx : C.sc.names.lookup x = some .local) (hkf : C.sc.kind = .function) (hl : (px.line == p.line) = true) (hn : (scope.names.any fun (n, k) => n == x && (k == .local || k == .cell)) = false) :
    swapsWith (.ListComp elt gens scope p) (some (.Name x px)) l X.env = pure true := by
  have h : X.env.kindOf x = some .local := by unfold Env.kindOf; rw [hsc]; exact hx
  have h3 : (X.env.blockKind == ScopeKind.function) = true := by
    unfold Env.blockKind
    rw [hsc, hkf]
    decide
  show (pure (X.env.blockKind == ScopeKind.function && X.env.kindOf x == some NameKind.local && px.line == p.line && !(scope.names.any fun (n, k) => n == x && (k == .local || k == .cell))) : Sem Bool) = pure true
  rw [h, h3, hl, hn]
  have h2 : ((some NameKind.local : Option NameKind) == some NameKind.local) = true := by decide
  rw [h2]
  rfl
/-- target = e -/
theorem gs_tgt {tg : Expr} {f : Sl → Sl} {js : List Nat} (he : EE C e Γ μ P) (ht : TT1 C tg P f js) (k : GS C bs rest (f Γ) μ N R)
    (hs : ∀ X : Cx, X.env.scope = C.sc → swapsWithSole [tg] e pos.line X.env = pure false := by intro _ _; rfl) (hw : ∀ env : Env, env.scope = C.sc → swappedStores [tg] e env = pure none := by intro _ _; rfl) (hz : ∀ X : Cx, (assignEach [tg] X.env).map (·.2) = [assign tg X.env] := by intro _; rfl) : GS C bs (.Assign [tg] e pos :: rest) Γ μ N R := fun σ H D kk n r =>
  tsc (fun X hX => ps_asg (TEx.pe hX) (TGx.pg hX) (hs X hX.sc) (hw X.env hX.sc) (hz X)) (he σ H _ kk.ok fun v H1 k1 e1 p => ht v σ H1 Γ μ _ k1 p fun σ' k2 l2 d2 => k _ _ D ⟨k2, kk.ex.trans e1, kk.sub, kk.nd⟩ (up n e1) r)
/-- x, y = a, b -/
theorem gs_par2 {i j : Nat} {x y : Str} {px py pt pt2 : Pos} {kt k2 : Nat} (ha : EE C a Γ μ A) (hb : EE C b Γ μ B) (k : GS C bs rest ((Γ.set i (some A)).set j (some B)) μ N R) (hw : ∀ env : Env, env.scope = C.sc → swappedStores [.Tuple [.Name x px, .Name y py] kt pt] (.Tuple [a, b] k2 pt2) env = pure (some [x, y]))
    (hi : C.N[i]? = some x := by rfl) (hj : C.N[j]? = some y := by rfl) (hx : C.sc.names.lookup x = some .local := by rfl) (hy : C.sc.names.lookup y = some .local := by rfl) (hij : i ≠ j := by decide)
    (he : ∀ X : Cx, starEach [a, b] X.env = (false, eval a X.env) :: starEach [b] X.env := by intro _; exact star_cons rfl) (he2 : ∀ X : Cx, starEach [b] X.env = (false, eval b X.env) :: starEach [] X.env := by intro _; exact star_cons rfl) :
    GS C bs (.Assign [.Tuple [.Name x px, .Name y py] kt pt] (.Tuple [a, b] k2 pt2) pos :: rest) Γ μ N R := fun σ H D kk n r =>
  tsc (fun X hX => ps_par (i := i) (j := j) hX.calm (by rw [hX.N]; exact hX.nd) (by rw [hX.N]; exact hi) (by rw [hX.N]; exact hj) hij (by rw [hX.sc]; exact hx) (by rw [hX.sc]; exact hy) (TAx.pa hX) (hw X.env hX.sc) rfl) (a_cons ha (a_cons hb a_nil he2) he σ H _ kk.ok fun vs H1 k1 e1 p => by
    obtain ⟨v, w, rfl, c⟩ := p.pair
    exact ⟨v, w, rfl, k _ _ D ((kk.step k1 e1).set c.1 |>.set c.2) (up n e1) r⟩)
theorem gs_par3 {i j l : Nat} {x y z : Str} {c : Expr} {Q : Rp} {px py pz pt pt2 : Pos} {kt k2 : Nat} (ha : EE C a Γ μ A) (hb : EE C b Γ μ B) (hc : EE C c Γ μ Q) (k : GS C bs rest (((Γ.set i (some A)).set j (some B)).set l (some Q)) μ N R) (hw : ∀ env : Env, env.scope = C.sc → swappedStores [.Tuple [.Name x px, .Name y py, .Name z pz] kt pt] (.Tuple [a, b, c] k2 pt2) env = pure (some [x, y, z]))
    (hi : C.N[i]? = some x := by rfl) (hj : C.N[j]? = some y := by rfl) (hl : C.N[l]? = some z := by rfl) (hx : C.sc.names.lookup x = some .local := by rfl) (hy : C.sc.names.lookup y = some .local := by rfl) (hz : C.sc.names.lookup z = some .local := by rfl) (hij : i ≠ j := by decide) (hil : i ≠ l := by decide) (hjl : j ≠ l := by decide)
    (he : ∀ X : Cx, starEach [a, b, c] X.env = (false, eval a X.env) :: starEach [b, c] X.env := by intro _; exact star_cons rfl) (he2 : ∀ X : Cx, starEach [b, c] X.env = (false, eval b X.env) :: starEach [c] X.env := by intro _; exact star_cons rfl) (he3 : ∀ X : Cx, starEach [c] X.env = (false, eval c X.env) :: starEach [] X.env := by intro _; exact star_cons rfl) :
    GS C bs (.Assign [.Tuple [.Name x px, .Name y py, .Name z pz] kt pt] (.Tuple [a, b, c] k2 pt2) pos :: rest) Γ μ N R := fun σ H D kk n r =>
  tsc (fun X hX => ps_par3 (i := i) (j := j) (l := l) hX.calm (by rw [hX.N]; exact hX.nd) (by rw [hX.N]; exact hi) (by rw [hX.N]; exact hj) (by rw [hX.N]; exact hl) hij hil hjl (by rw [hX.sc]; exact hx) (by rw [hX.sc]; exact hy) (by rw [hX.sc]; exact hz) (TAx.pa hX) (hw X.env hX.sc) rfl) (a_cons ha (a_cons hb (a_cons hc a_nil he3) he2) he σ H _ kk.ok fun vs H1 k1 e1 p => by
    obtain ⟨v, w, u, rfl, c⟩ := p.trip
    exact ⟨v, w, u, rfl, k _ _ D (((kk.step k1 e1).set c.1 |>.set c.2.1).set c.2.2) (up n e1) r⟩)
/-- x, y, z = a, b, a new list -/
theorem args3N {c : Expr} {Ql : LC} (ha : EE C a Γ μ A) (hb : EE C b Γ μ B) (hc : EN C c Γ μ Ql)
    (he : ∀ X : Cx, starEach [a, b, c] X.env = (false, eval a X.env) :: starEach [b, c] X.env) (he2 : ∀ X : Cx, starEach [b, c] X.env = (false, eval b X.env) :: starEach [c] X.env) (he3 : ∀ X : Cx, starEach [c] X.env = (false, eval c X.env) :: starEach [] X.env)
    {Q : List V → Hp → Prop} (ok : Ok C.ts Γ μ σ H) (q : ∀ v w p H', Ok C.ts Γ ((p, Ql) :: μ) σ H' → Ext (view μ H) (view ((p, Ql) :: μ) H') → A.p v (view ((p, Ql) :: μ) H') → B.p w (view ((p, Ql) :: μ) H') → Q [v, w, .ref p] H') : TAx C [a, b, c] σ H Q :=
  tax (fun X hX => pa_cons (TEx.pe hX) (pa_cons (TEx.pe hX) (pa_cons (TEx.pe hX) pa_nil (he3 X)) (he2 X)) (he X)) (ha σ H _ ok fun v H1 k1 e1 p1 => hb σ H1 _ k1 fun w H2 k2 e2 p2 => hc σ H2 _ k2 fun p H3 k3 e3 => q v w p H3 k3 ((e1.trans e2).trans e3) (A.mono _ _ _ (e2.trans e3) p1) (B.mono _ _ _ e3 p2))
theorem gs_par3N {i j l : Nat} {x y z : Str} {c : Expr} {Ql : LC} {px py pz pt pt2 : Pos} {kt k2 : Nat} (ha : EE C a Γ μ A) (hb : EE C b Γ μ B) (hc : EN C c Γ μ Ql) (k : ∀ p, p ∉ dom bs.μ → GS C bs rest (((Γ.set i (some A)).set j (some B)).set l (some (Is (.ref p)))) ((p, Ql) :: μ) N R) (hw : ∀ env : Env, env.scope = C.sc → swappedStores [.Tuple [.Name x px, .Name y py, .Name z pz] kt pt] (.Tuple [a, b, c] k2 pt2) env = pure (some [x, y, z]))
    (hi : C.N[i]? = some x := by rfl) (hj : C.N[j]? = some y := by rfl) (hl : C.N[l]? = some z := by rfl) (hx : C.sc.names.lookup x = some .local := by rfl) (hy : C.sc.names.lookup y = some .local := by rfl) (hz : C.sc.names.lookup z = some .local := by rfl) (hij : i ≠ j := by decide) (hil : i ≠ l := by decide) (hjl : j ≠ l := by decide)
    (he : ∀ X : Cx, starEach [a, b, c] X.env = (false, eval a X.env) :: starEach [b, c] X.env := by intro _; exact star_cons rfl) (he2 : ∀ X : Cx, starEach [b, c] X.env = (false, eval b X.env) :: starEach [c] X.env := by intro _; exact star_cons rfl) (he3 : ∀ X : Cx, starEach [c] X.env = (false, eval c X.env) :: starEach [] X.env := by intro _; exact star_cons rfl) :
    GS C bs (.Assign [.Tuple [.Name x px, .Name y py, .Name z pz] kt pt] (.Tuple [a, b, c] k2 pt2) pos :: rest) Γ μ N R := fun σ H D kk n r =>
  tsc (fun X hX => ps_par3 (i := i) (j := j) (l := l) hX.calm (by rw [hX.N]; exact hX.nd) (by rw [hX.N]; exact hi) (by rw [hX.N]; exact hj) (by rw [hX.N]; exact hl) hij hil hjl (by rw [hX.sc]; exact hx) (by rw [hX.sc]; exact hy) (by rw [hX.sc]; exact hz) (TAx.pa hX) (hw X.env hX.sc) rfl)
    (args3N ha hb hc he he2 he3 kk.ok fun v w p H1 k1 e1 p1 p2 => ⟨v, w, _, rfl, k p (kk.fresh k1) _ _ D ((((kk.new k1 e1).set p1).set p2).set rfl) (up n e1) r⟩)
/-- .. not by swapped stores: the tuple is laid first -/
theorem gs_tup3N {i j l : Nat} {x y z : Str} {c : Expr} {Ql : LC} {px py pz pt pt2 : Pos} {kt k2 : Nat} (ha : EE C a Γ μ A) (hb : EE C b Γ μ B) (hc : EN C c Γ μ Ql) (k : ∀ p, p ∉ dom bs.μ → GS C bs rest (((Γ.set i (some A)).set j (some B)).set l (some (Is (.ref p)))) ((p, Ql) :: μ) N R)
    (hw : ∀ env : Env, env.scope = C.sc → swappedStores [.Tuple [.Name x px, .Name y py, .Name z pz] kt pt] (.Tuple [a, b, c] k2 pt2) env = pure none)
    (hi : C.N[i]? = some x := by rfl) (hj : C.N[j]? = some y := by rfl) (hl : C.N[l]? = some z := by rfl) (hx : Loc C.sc x := by first | exact Or.inl rfl | exact Or.inr rfl) (hy : Loc C.sc y := by first | exact Or.inl rfl | exact Or.inr rfl) (hz : Loc C.sc z := by first | exact Or.inl rfl | exact Or.inr rfl) (hf : C.top = true := by rfl)
    (he : ∀ X : Cx, starEach [a, b, c] X.env = (false, eval a X.env) :: starEach [b, c] X.env := by intro _; exact star_cons rfl) (he2 : ∀ X : Cx, starEach [b, c] X.env = (false, eval b X.env) :: starEach [c] X.env := by intro _; exact star_cons rfl) (he3 : ∀ X : Cx, starEach [c] X.env = (false, eval c X.env) :: starEach [] X.env := by intro _; exact star_cons rfl) :
    GS C bs (.Assign [.Tuple [.Name x px, .Name y py, .Name z pz] kt pt] (.Tuple [a, b, c] k2 pt2) pos :: rest) Γ μ N R := fun σ H D kk n r =>
  tsc (t := tAsg (tTup (TAx C [a, b, c])) (gTup C.K 3 (gCons (gName i) (gCons (gName j) (gCons (gName l) gNil))))) (fun X hX => ps_asg (pe_tup (TAx.pa hX)) (hX.K ▸ pg_tup hX.calm (pgs_cons (pgn hX hi hx (.inl hf)) (pgs_cons (pgn hX hj hy (.inl hf)) (pgs_cons (pgn hX hl hz (.inl hf)) pgs_nil)))) rfl (hw X.env hX.sc))
    (args3N ha hb hc he he2 he3 kk.ok fun v w p H1 k1 e1 p1 p2 => ⟨by show 3 ≤ sizeLine; decide, fun t htn => by
      have g : Grow H1 (upd H1 t (.tup [v, w, .ref p])) := Grow.new htn
      have ev := k1.ev g
      exact ⟨t, _, rfl, .inl (.inl upd_same), rfl, v, _, rfl, w, _, rfl, _, _, rfl, rfl, k p (kk.fresh k1) _ _ D (((((kk.new k1 e1).step (k1.grow g) ev).set (A.mono _ _ _ ev p1)).set (B.mono _ _ _ ev p2)).set rfl) (up n (e1.trans ev)) r⟩⟩)
/-- if -/
theorem gs_if {c : Expr} {sa sb : List Stmt} {k : Bool} (h : ET C c Γ μ k) (h1 : k = true → GS C bs sa Γ μ N' R) (h2 : k = false → GS C bs sb Γ μ N' R) (h3 : ∀ Γ' μ', N' Γ' μ' → GS C bs rest Γ' μ' N R) : GS C bs (.If c sa sb pos :: rest) Γ μ N R := fun σ H D kk n r => by
  cases k with
  | true =>
    exact tsc (t := tIfS (TTx C c) (TSx C sa) tNever) (fun X hX => ps_if (TTx.pt hX) (TSx.pss hX) pss_never) (h σ H _ kk.ok fun H1 k1 e1 => by
      rw [if_pos rfl]
      exact h1 rfl σ H1 _ (kk.step k1 e1) (fun Γ' μ' σ' H' z k2 x2 => h3 Γ' μ' z σ' H' D k2 (up n (e1.trans x2)) r) r)
  | false =>
    exact tsc (t := tIfS (TTx C c) tNever (TSx C sb)) (fun X hX => ps_if (TTx.pt hX) pss_never (TSx.pss hX)) (h σ H _ kk.ok fun H1 k1 e1 => by
      rw [if_neg (by decide)]
      exact h2 rfl σ H1 _ (kk.step k1 e1) (fun Γ' μ' σ' H' z k2 x2 => h3 Γ' μ' z σ' H' D k2 (up n (e1.trans x2)) r) r)
/-- if c: return .. (or raise ..) -/
theorem gs_out {c : Expr} {sa : List Stmt} {k : Bool} (h : ET C c Γ μ k) (h1 : k = true → GS C bs sa Γ μ Done R) (h3 : k = false → GS C bs rest Γ μ N R) : GS C bs (.If c sa [] pos :: rest) Γ μ N R :=
  gs_if (N' := fun Γ' μ' => k = false ∧ Γ' = Γ ∧ μ' = μ) h (fun q => (h1 q).mono fun _ _ z => z.elim) (fun q => gs_nil ⟨q, rfl, rfl⟩) fun Γ' μ' ⟨q, z1, z2⟩ => by rw [z1, z2]; exact h3 q
theorem gs_ret (h : EE C e Γ μ R) : GS C bs (.Return (some e) pos :: rest) Γ μ N R := fun σ H D kk n r =>
  tsc (fun X hX => ps_ret (TEx.pe hX)) (h σ H _ kk.ok fun v H1 k1 e1 p => r v H1 ((kk.step k1 e1).fin p))
/-- loops -/
theorem gs_for {tg iter : Expr} {body : List Stmt} {n : Nat} {Pi : Nat → Rp} {ft : Nat → Sl → Sl} {js : List Nat} (L : Nat → Nx) (hi : EI C tg iter Γ μ n Pi) (ht : ∀ i, i < n → TT1 C tg (Pi i) (ft i) js) (h0 : L 0 Γ μ)
    (hb : ∀ i, i < n → ∀ Γ' μ', L i Γ' μ' → GS C bs body (ft i Γ') μ' (L (i + 1)) R) (hr : ∀ Γ' μ', L n Γ' μ' → GS C bs rest Γ' μ' N R) (hs : ∀ (X : Cx) (x : Value), foldedSetIterable iter X.env x = pure x := by intro _ _; rfl) : GS C bs (.For tg iter body [] pos :: rest) Γ μ N R := fun σ H D kk nx r =>
  tsc (fun X hX => ps_for (by rw [hX.xe]; exact PassesOwn.never) hX.calm (TIx.pi hX) (TGx.pg hX) (TSx.pss (sts := body) hX) (hs X)) (hi σ H _ kk.ok fun J H1 k1 e1 it => by
    refine ⟨fun i m σ' H' => i + m = n ∧ ∃ Γ' μ', L i Γ' μ' ∧ St C bs Γ' μ' σ' H' ∧ Ext (view μ H1) (view μ' H'), ⟨n, by omega, Γ, μ, h0, kk.step k1 e1, Ext.refl _⟩, fun i m σ' H' ⟨hm, Γ', μ', hL, k2, ex⟩ => ?_⟩
    obtain ⟨i1, i2⟩ := it _ H' k2.ok.hd.lsts ex
    by_cases hin : i < n
    · obtain ⟨go, yl⟩ := i2 i hin
      refine .inr ⟨go, fun σ'' H'' => ∃ Γ'' μ'', L (i + 1) Γ'' μ'' ∧ St C bs Γ'' μ'' σ'' H'' ∧ Ext (view μ H1) (view μ'' H''), fun σ'' H'' ⟨Γ'', μ'', a1, a2, a3⟩ => ⟨m - 1, by omega, by omega, Γ'', μ'', a1, a2, a3⟩, fun x H2 hy => ?_⟩
      obtain ⟨g, px⟩ := yl x H2 hy
      have o2 := k2.ok.grow g
      have e2 := k2.ok.ev g
      refine ht i hin x σ' H2 Γ' μ' _ o2 px fun σ2 k3 l3 d3 => ?_
      -- the body, from its own start
      refine hb i hin Γ' μ' hL σ2 H2 _ ⟨k3, k2.ex.trans e2, k2.sub, k2.nd⟩ (fun Γ'' μ'' σ'' H'' hL2 k4 x4 => ⟨Γ'', μ'', hL2, k4, (ex.trans e2).trans x4⟩) r
    · have hin' : i = n := by omega
      subst hin'
      exact .inl ⟨i1, hr Γ' μ' hL σ' H' D k2 (up nx (e1.trans ex)) r⟩)
end
end Lay
set_option Elab.async false
set_option linter.all false
set_option maxRecDepth 100000
set_option maxHeartbeats 4000000

namespace Lay
open PySem PySem.Spec PyProof.Rows L2 Gx
section
variable {C : Ctx} {bs : Bs} {a b e : Expr} {es : List Expr} {rest sts : List Stmt} {st : Stmt} {Γ Γ' : Sl} {μ μ' : Mu} {A B P R : Rp} {pos : Pos} {N N' : Nx} {σ : L2.St} {H H' : Hp} {D : Ends}

/-! ### what the slots hold, weaker -/
def LeG : Sl → Sl → Prop
  | [], [] => True
  | none :: a, _ :: b => LeG a b
  | some P :: a, some Q :: b => Sub Q P ∧ LeG a b
  | _, _ => False
theorem LeG.at : ∀ {a b : Sl}, LeG a b → a.length = b.length ∧ ∀ (i : Nat) P, a[i]? = some (some P) → ∃ Q, b[i]? = some (some Q) ∧ Sub Q P
  | [], [], _ => ⟨rfl, fun i P h => by simp at h⟩
  | none :: a, q :: b, h => by
    obtain ⟨l, f⟩ := LeG.at (a := a) (b := b) (by cases q <;> exact h)
    exact ⟨by rw [List.length_cons, List.length_cons, l], fun i P hi => match i, hi with
      | 0, hi => by cases hi
      | i + 1, hi => f i P hi⟩
  | some P0 :: a, some Q :: b, h => by
    obtain ⟨l, f⟩ := LeG.at (a := a) (b := b) h.2
    exact ⟨by rw [List.length_cons, List.length_cons, l], fun i P hi => match i, hi with
      | 0, hi => ⟨Q, rfl, by cases hi; exact h.1⟩
      | i + 1, hi => f i P hi⟩
  | some _ :: _, none :: _, h => h.elim
  | [], _ :: _, h => h.elim
  | none :: _, [], h => h.elim
  | some _ :: _, [], h => h.elim
theorem Ok.le {ts : List Addr} (k : Ok ts Γ μ σ H) (h : LeG Γ' Γ) : Ok ts Γ' μ σ H := by
  obtain ⟨l, f⟩ := h.at
  refine ⟨by rw [k.len, l], fun i P hi => ?_, k.hd⟩
  obtain ⟨Q, h1, h2⟩ := f i P hi
  obtain ⟨v, h3, h4⟩ := k.sl i Q h1
  exact ⟨v, h3, h2 _ _ h4⟩
theorem gs_le (h : LeG Γ' Γ) (k : GS C bs sts Γ' μ N R) : GS C bs sts Γ μ N R := fun σ H D kk n r => k σ H D ⟨kk.ok.le h, kk.ex, kk.sub, kk.nd⟩ n r
def At (G : Sl) (M : Mu) (I : Prop) : Nx := fun Γ μ => LeG G Γ ∧ μ = M ∧ I
/-- a loop by what the slots and the changing lists hold at its turns -/
theorem gs_loop {tg iter : Expr} {body : List Stmt} {n : Nat} {Pi : Nat → Rp} {ft : Nat → Sl → Sl} {js : List Nat} (G : Nat → Sl) (M : Nat → Mu) (I : Nat → Prop) (hi : EI C tg iter Γ μ n Pi) (ht : ∀ i, i < n → TT1 C tg (Pi i) (ft i) js) (h0 : LeG (G 0) Γ) (hm : μ = M 0) (hI : I 0)
    (hb : ∀ i, i < n → I i → GS C bs body (ft i (G i)) (M i) (At (G (i + 1)) (M (i + 1)) (I (i + 1))) R) (hr : I n → GS C bs rest (G n) (M n) N R) (hle : ∀ i Γ, i < n → LeG (G i) Γ → LeG (ft i (G i)) (ft i Γ)) (hs : ∀ (X : Cx) (x : Value), foldedSetIterable iter X.env x = pure x := by intro _ _; rfl) : GS C bs (.For tg iter body [] pos :: rest) Γ μ N R :=
  gs_for (fun i => At (G i) (M i) (I i)) hi ht ⟨h0, hm, hI⟩ (fun i hin Γ' μ' ⟨l, m, y⟩ => by rw [m]; exact gs_le (hle i Γ' hin l) (hb i hin y)) (fun Γ' μ' ⟨l, m, y⟩ => by rw [m]; exact gs_le l (hr y)) hs
theorem LeG.set : ∀ {a b : Sl} (i : Nat) (P : Option Rp), LeG a b → LeG (a.set i P) (b.set i P)
  | [], [], _, _, _ => True.intro
  | none :: a, q :: b, 0, P, h => by
    cases P with
    | none => exact (by cases q <;> exact h)
    | some P => exact ⟨Sub.refl _, (by cases q <;> exact h)⟩
  | none :: a, q :: b, i + 1, P, h => LeG.set (a := a) (b := b) i P (by cases q <;> exact h)
  | some P0 :: a, some Q :: b, 0, P, h => by
    cases P with
    | none => exact h.2
    | some P => exact ⟨Sub.refl _, h.2⟩
  | some P0 :: a, some Q :: b, i + 1, P, h => ⟨h.1, LeG.set (a := a) (b := b) i P h.2⟩
  | some _ :: _, none :: _, _, _, h => h.elim
  | [], _ :: _, _, _, h => h.elim
  | none :: _, [], _, _, h => h.elim
  | some _ :: _, [], _, _, h => h.elim
theorem gs_while {c : Expr} {body : List Stmt} (L : Nat → Nx) (m0 : Nat) (h0 : L m0 Γ μ)
    (h : ∀ m Γ' μ', L m Γ' μ' → ∃ k, ET C c Γ' μ' k ∧ (k = true → GS C bs body Γ' μ' (fun Γ'' μ'' => ∃ m', m' < m ∧ L m' Γ'' μ'') R) ∧ (k = false → GS C bs rest Γ' μ' N R)) : GS C bs (.While c body [] pos :: rest) Γ μ N R := fun σ H D kk nx r =>
  tsc (fun X hX => ps_while (by rw [hX.xe]; exact PassesOwn.never) (TTx.pt hX) (TSx.pss hX)) (by
    refine ⟨fun m σ' H' => ∃ Γ' μ', L m Γ' μ' ∧ St C bs Γ' μ' σ' H' ∧ Ext (view μ H) (view μ' H'), ⟨m0, Γ, μ, h0, kk, Ext.refl _⟩, fun m σ' H' ⟨Γ', μ', hL, k2, ex⟩ => ?_⟩
    obtain ⟨k, ht, h1, h2⟩ := h m Γ' μ' hL
    refine ht σ' H' _ k2.ok fun H1 k1 e1 => ?_
    cases k with
    | true =>
      rw [if_pos rfl]
      refine ⟨fun σ'' H'' => ∃ m', m' < m ∧ ∃ Γ'' μ'', L m' Γ'' μ'' ∧ St C bs Γ'' μ'' σ'' H'' ∧ Ext (view μ H) (view μ'' H''), fun σ'' H'' z => z, ?_⟩
      exact h1 rfl σ' H1 _ (k2.step k1 e1) (fun Γ'' μ'' σ'' H'' ⟨m', hm, hL2⟩ k4 x4 => ⟨m', hm, Γ'', μ'', hL2, k4, (ex.trans e1).trans x4⟩) r
    | false =>
      rw [if_neg (by decide)]
      exact h2 rfl σ' H1 D (k2.step k1 e1) (up nx (ex.trans e1)) r)
/-- a slot that holds some x with P x -/
theorem gs_ex {α : Type} {Px : α → Rp} (i : Nat) (hi : Γ[i]? = some (some (Ex Px))) (k : ∀ x, GS C bs sts (Γ.set i (some (Px x))) μ N R) : GS C bs sts Γ μ N R := fun σ H D kk n r => by
  obtain ⟨v, h1, x, h2⟩ := kk.ok.sl i _ hi
  exact k x σ H D ⟨kk.ok.retype ⟨v, h1, h2⟩, kk.ex, kk.sub, kk.nd⟩ n r
theorem gs_and {F : Prop} (i : Nat) (hi : Γ[i]? = some (some (And P F))) (k : F → GS C bs sts (Γ.set i (some P)) μ N R) : GS C bs sts Γ μ N R := fun σ H D kk n r => by
  obtain ⟨v, h1, h2, h3⟩ := kk.ok.sl i _ hi
  exact k h3 σ H D ⟨kk.ok.retype ⟨v, h1, h2⟩, kk.ex, kk.sub, kk.nd⟩ n r
theorem e_ex {α : Type} {Px : α → Rp} (i : Nat) (hi : Γ[i]? = some (some (Ex Px))) (k : ∀ x, EE C e (Γ.set i (some (Px x))) μ R) : EE C e Γ μ R := fun σ H Q ok q => by
  obtain ⟨v, h1, x, h2⟩ := ok.sl i _ hi
  exact k x σ H Q (ok.retype ⟨v, h1, h2⟩) fun v H' o x p => q v H' (ok.step o.hd x) x p
theorem e_le (h : LeG Γ' Γ) (k : EE C e Γ' μ R) : EE C e Γ μ R := fun σ H Q ok q => k σ H Q (ok.le h) fun v H' o x p => q v H' (ok.step o.hd x) x p
theorem et_ex {α : Type} {Px : α → Rp} {c : Bool} (i : Nat) (hi : Γ[i]? = some (some (Ex Px))) (k : ∀ x, ET C e (Γ.set i (some (Px x))) μ c) : ET C e Γ μ c := fun σ H Q ok q => by
  obtain ⟨v, h1, x, h2⟩ := ok.sl i _ hi
  exact k x σ H Q (ok.retype ⟨v, h1, h2⟩) fun H' o x => q H' (ok.step o.hd x) x
/-- a changing list's things: one choice for each place -/
theorem gs_skolem {α : Type} [Inhabited α] {Px : Nat → α → Rp} {p : Addr} {n : Nat} {μ1 μ2 : Mu} (k : ∀ f : Nat → α, GS C bs sts Γ (μ1 ++ (p, Els n fun i => Px i (f i)) :: μ2) N R) : GS C bs sts Γ (μ1 ++ (p, Els n fun i => Ex (Px i)) :: μ2) N R := fun σ H D kk nx r => by
  obtain ⟨xs, h1, h2, h3⟩ := kk.ok.hd.el (p, Els n fun i => Ex (Px i)) (by simp)
  have : ∀ i : Nat, ∃ y : α, ∀ x, xs[i]? = some x → (Px i y).p x (view (μ1 ++ (p, Els n fun i => Ex (Px i)) :: μ2) H) := fun i => by
    cases hx : xs[i]? with
    | none => exact ⟨default, fun x z => by cases z⟩
    | some x =>
      obtain ⟨y, hy⟩ := h3 i x hx
      exact ⟨y, fun x' z => by cases z; exact hy⟩
  have ⟨f, hf⟩ := Classical.axiomOfChoice this
  have ed : dom (μ1 ++ (p, Els n fun i => Px i (f i)) :: μ2) = dom (μ1 ++ (p, Els n fun i => Ex (Px i)) :: μ2) := by simp [dom]
  have ev : view (μ1 ++ (p, Els n fun i => Px i (f i)) :: μ2) H = view (μ1 ++ (p, Els n fun i => Ex (Px i)) :: μ2) H := by
    show hide _ _ = hide _ _
    rw [ed]
  have hd : Holds C.ts (μ1 ++ (p, Els n fun i => Px i (f i)) :: μ2) H := ⟨fun m hm => by
    rw [ev]
    rcases List.mem_append.mp hm with q | q
    · exact kk.ok.hd.el m (List.mem_append_left _ q)
    · rcases List.mem_cons.mp q with q | q
      · rw [q]; exact ⟨xs, h1, h2, fun i x z => hf i x z⟩
      · exact kk.ok.hd.el m (List.mem_append_right _ (List.mem_cons_of_mem _ q)), by rw [ed]; exact kk.ok.hd.nd, fun T hT => by rw [ev]; exact kk.ok.hd.tb T hT⟩
  refine k f σ H D ⟨kk.ok.step hd (by rw [ev]; exact Ext.refl _), by rw [ev]; exact kk.ex, fun m hm => ?_, kk.nd⟩ (fun Γ' μ' σ' H' z1 z2 z3 => nx Γ' μ' σ' H' z1 z2 (by rw [← ev]; exact z3)) r
  obtain ⟨c, q, hi⟩ := kk.sub m hm
  rcases List.mem_append.mp q with q | q
  · exact ⟨c, List.mem_append_left _ q, hi⟩
  · rcases List.mem_cons.mp q with q | q
    · cases q
      exact ⟨_, List.mem_append_right _ List.mem_cons_self, fun xs h z => hi _ _ ⟨z.1, fun i x y => ⟨f i, z.2 i x y⟩⟩⟩
    · exact ⟨c, List.mem_append_right _ (List.mem_cons_of_mem _ q), hi⟩

/-! ### changing lists -/
theorem sub_at {μ1 μ2 : Mu} {p : Addr} {c d : LC} {q : Addr} (hp : p ≠ q) (h : (q, d) ∈ μ1 ++ (p, c) :: μ2) : (q, d) ∈ μ1 ++ μ2 := by
  rcases List.mem_append.mp h with z | z
  · exact List.mem_append_left _ z
  · rcases List.mem_cons.mp z with z | z
    · cases z; exact absurd rfl hp
    · exact List.mem_append_right _ z
/-- what the base asks of a list that changes -/
def Keeps (bs : Bs) (p : Addr) (c : LC) : Prop := (dom bs.μ).Nodup → ∀ e ∈ bs.μ, e.1 = p → Imp c e.2
theorem Keeps.of (hp : p ∉ dom bs.μ) {c : LC} : Keeps bs p c := fun _ e he z => absurd (List.mem_map.mpr ⟨e, he, z⟩) hp
theorem nodup_val {l : Mu} (nd : (dom l).Nodup) {p : Addr} {c d : LC} (h1 : (p, c) ∈ l) (h2 : (p, d) ∈ l) : c = d := by
  induction l with
  | nil => cases h1
  | cons x l ih =>
    obtain ⟨n1, n2⟩ := List.nodup_cons.mp nd
    rcases List.mem_cons.mp h1 with z1 | z1
    · rcases List.mem_cons.mp h2 with z2 | z2
      · rw [← z1] at z2; cases z2; rfl
      · exact absurd (List.mem_map.mpr ⟨_, z2, by rw [← z1]⟩) n1
    · rcases List.mem_cons.mp h2 with z2 | z2
      · exact absurd (List.mem_map.mpr ⟨_, z1, by rw [← z2]⟩) n1
      · exact ih n2 z1 z2
theorem Keeps.at {p : Addr} {c d : LC} (h : (p, d) ∈ bs.μ) (hi : Imp c d) : Keeps bs p c := fun nd e he z => by
  obtain ⟨q, d'⟩ := e
  cases (show q = p from z)
  rw [nodup_val nd he h]
  exact hi
theorem St.mut {μ1 μ2 : Mu} {p : Addr} {c c' : LC} {ys : List V} (hp : Keeps bs p c') (k : St C bs Γ (μ1 ++ (p, c) :: μ2) σ H) (hy : c'.p ys (view (μ1 ++ (p, c) :: μ2) H)) :
    St C bs Γ (μ1 ++ (p, c') :: μ2) σ (upd H p (.lst ys)) ∧ view (μ1 ++ (p, c') :: μ2) (upd H p (.lst ys)) = view (μ1 ++ (p, c) :: μ2) H := by
  obtain ⟨h, ev⟩ := mut_at (c' := c') k.ok.hd hy
  refine ⟨⟨k.ok.step h (by rw [ev]; exact Ext.refl _), by rw [ev]; exact k.ex, fun m hm => ?_, k.nd⟩, ev⟩
  obtain ⟨d, q, hi⟩ := k.sub m hm
  by_cases z : m.1 = p
  · exact ⟨c', by rw [z]; exact List.mem_append_right _ List.mem_cons_self, hp k.nd m hm z⟩
  · have q' := sub_at (fun y => z y.symm) q
    refine ⟨d, ?_, hi⟩
    rcases List.mem_append.mp q' with q' | q'
    · exact List.mem_append_left _ q'
    · exact List.mem_append_right _ (List.mem_cons_of_mem _ q')
theorem els_snoc {n : Nat} {f : Nat → Rp} {acc : List V} {y : V} {h : Hp} (q : (Els n f).p acc h) (p : (f n).p y h) : (Els (n + 1) f).p (acc ++ [y]) h := ⟨by rw [List.length_append, q.1]; rfl, fun l z hz => by
  have hl : acc.length = n := q.1
  rw [List.getElem?_append] at hz
  split at hz
  · exact q.2 l z hz
  · have hle : l - acc.length = 0 := by
      rcases Nat.eq_zero_or_pos (l - acc.length) with w | w
      · exact w
      · rw [List.getElem?_eq_none (by show 1 ≤ _; omega)] at hz
        cases hz
    rw [hle] at hz
    cases hz
    have hll : l = n := by omega
    rw [hll]
    exact p⟩
/-- x.append(e) -/
theorem gs_append {o : Expr} {ap cp : Pos} {n : Nat} {f : Nat → Rp} {p : Addr} (μ1 μ2 : Mu) (hμ : μ = μ1 ++ (p, Els n f) :: μ2) (ho : EE C o Γ μ (Is (.ref p))) (he : EE C e Γ μ A) (hA : Sub A (f n)) (hn : n ≤ 10000) (hp : p ∉ dom bs.μ) (k : GS C bs rest Γ (μ1 ++ (p, Els (n + 1) f) :: μ2) N R)
    (hbase : ∀ X : Cx, attributeBase o "append" X.env (eval o X.env) = eval o X.env := by intro _; rfl)
    (hfew : ∀ X : Cx, ((backTo cp (starEach [e] X.env)).all (fun x => !x.1) && (backToKw cp (keywordEach [] X.env)).all (fun x => x.1.isSome) && decide (([e] : List Expr).length + ([] : List Keyword).length + (if ([] : List Keyword).isEmpty then 0 else 1) < 30)) = true := by intro _; rfl)
    (hline : (ap.endLine == cp.line) = true := by rfl) (hs : ∀ X : Cx, starEach [e] X.env = (false, eval e X.env) :: starEach [] X.env := by intro _; exact star_cons rfl) :
    GS C bs (.Expr (.Call (.Attribute o "append" ap) [e] [] cp) pos :: rest) Γ μ N R := fun σ H D kk nx r => by
  subst hμ
  refine tsc (t := tDrop (tBM C.K "list" rAppend (TEx C o) (TAx C [e]))) (fun X hX => ps_expr (hX.K ▸ pe_bm PySem.F.plainAttrs_list PySem.F.slot_list_append PySem.F.type_list_append mt_append (TEx.pe hX) (TAx.pa hX) (hbase X) (hfew X) hline (hs X) rfl)) ?_
  refine ho σ H _ kk.ok fun v H1 k1 e1 p1 => ?_
  cases p1
  have hl : ∀ {H2 : Hp}, Ok C.ts Γ (μ1 ++ (p, Els n f) :: μ2) σ H2 → ∃ xs, H2 p = some (.lst xs) ∧ (Els n f).p xs (view (μ1 ++ (p, Els n f) :: μ2) H2) := fun k => k.hd.el (p, Els n f) (by simp)
  obtain ⟨xs1, h1, _⟩ := hl k1
  refine ⟨.inl ⟨rfl, xs1, .inl (.inl h1)⟩, ?_⟩
  refine a_cons he a_nil hs σ H1 _ k1 fun vs H2 k2 e2 p2 => ?_
  obtain ⟨v, rfl, c2⟩ := p2.one
  obtain ⟨xs, h2, h3⟩ := hl k2
  refine ⟨p, xs, v, rfl, rfl, h2, Nat.lt_of_lt_of_le (show xs.length < 100000 by have : xs.length = n := h3.1; omega) (by decide), ?_⟩
  have k3 := kk.step k2 (e1.trans e2)
  obtain ⟨k4, ev⟩ := k3.mut (c' := Els (n + 1) f) (Keeps.of hp) (els_snoc h3 (hA _ _ c2))
  exact k σ _ D k4 (up nx (by rw [ev]; exact e1.trans e2)) r
/-- x.insert(0, e) -/
theorem gs_insert {o z : Expr} {ap cp : Pos} {n : Nat} {f g : Nat → Rp} {p : Addr} (μ1 μ2 : Mu) (hμ : μ = μ1 ++ (p, Els n f) :: μ2) (ho : EE C o Γ μ (Is (.ref p))) (hz : EE C z Γ μ (Is (.int 0))) (he : EE C e Γ μ A) (hA : Sub A (g 0)) (hg : ∀ i, Sub (f i) (g (i + 1))) (hn : n ≤ 10000) (hp : p ∉ dom bs.μ) (k : GS C bs rest Γ (μ1 ++ (p, Els (n + 1) g) :: μ2) N R)
    (hbase : ∀ X : Cx, attributeBase o "insert" X.env (eval o X.env) = eval o X.env := by intro _; rfl)
    (hfew : ∀ X : Cx, ((backTo cp (starEach [z, e] X.env)).all (fun x => !x.1) && (backToKw cp (keywordEach [] X.env)).all (fun x => x.1.isSome) && decide (([z, e] : List Expr).length + ([] : List Keyword).length + (if ([] : List Keyword).isEmpty then 0 else 1) < 30)) = true := by intro _; rfl)
    (hline : (ap.endLine == cp.line) = true := by rfl) (hs : ∀ X : Cx, starEach [z, e] X.env = (false, eval z X.env) :: starEach [e] X.env := by intro _; exact star_cons rfl) (hs2 : ∀ X : Cx, starEach [e] X.env = (false, eval e X.env) :: starEach [] X.env := by intro _; exact star_cons rfl) (hpl : ∀ X : Cx, (backTo cp (starEach [e] X.env)).any (·.1) = false := by intro _; rfl) :
    GS C bs (.Expr (.Call (.Attribute o "insert" ap) [z, e] [] cp) pos :: rest) Γ μ N R := fun σ H D kk nx r => by
  subst hμ
  refine tsc (t := tDrop (tBM C.K "list" (fun x vs H Q => ∃ (l : Addr) (xs : List V) (i : Int) (y : V), x = .ref l ∧ vs = [.int i, y] ∧ H l = some (.lst xs) ∧ xs.length < sizeLine ∧ 0 ≤ i ∧ i < 2 ^ 63 ∧
    Q .non (upd H l (.lst (xs.take i.toNat ++ [y] ++ xs.drop i.toNat)))) (TEx C o) (TAx C [z, e]))) (fun X hX => ps_expr (hX.K ▸ pe_bm PySem.F.plainAttrs_list PySem.F.slot_list_insert PySem.F.type_list_insert mt_insert (TEx.pe hX) (TAx.pa hX) (hbase X) (hfew X) hline (hs X) (hpl X))) ?_
  refine ho σ H _ kk.ok fun v H1 k1 e1 p1 => ?_
  cases p1
  have hl : ∀ {H2 : Hp}, Ok C.ts Γ (μ1 ++ (p, Els n f) :: μ2) σ H2 → ∃ xs, H2 p = some (.lst xs) ∧ (Els n f).p xs (view (μ1 ++ (p, Els n f) :: μ2) H2) := fun k => k.hd.el (p, Els n f) (by simp)
  obtain ⟨xs1, h1, _⟩ := hl k1
  refine ⟨.inl ⟨rfl, xs1, .inl (.inl h1)⟩, ?_⟩
  refine a_cons hz (a_cons he a_nil hs2) hs σ H1 _ k1 fun vs H2 k2 e2 p2 => ?_
  obtain ⟨w, v, rfl, c3, c2⟩ := p2.pair
  cases c3
  obtain ⟨xs, h2, h3⟩ := hl k2
  refine ⟨p, xs, 0, v, rfl, rfl, h2, Nat.lt_of_lt_of_le (show xs.length < 100000 by have : xs.length = n := h3.1; omega) (by decide), by decide, by decide, ?_⟩
  have k3 := kk.step k2 (e1.trans e2)
  obtain ⟨k4, ev⟩ := k3.mut (c' := Els (n + 1) g) (ys := v :: xs) (Keeps.of hp) ⟨by rw [List.length_cons, h3.1], fun i x hx => match i, hx with
    | 0, hx => by cases hx; exact hA _ _ c2
    | i + 1, hx => hg i _ _ (h3.2 i x hx)⟩
  exact k σ _ D k4 (up nx (ev ▸ e1.trans e2)) r
/-- x[j] = e -/
theorem gs_setItem {o z : Expr} {sp' : Pos} {n : Nat} {f g : Nat → Rp} {p : Addr} {j : Int} (μ1 μ2 : Mu) (hμ : μ = μ1 ++ (p, Els n f) :: μ2) (he : EE C e Γ μ A) (ho : EE C o Γ μ (Is (.ref p))) (hz : EE C z Γ μ (Is (.int j))) (hj : 0 ≤ j ∧ j < n) (hA : Sub A (g j.toNat)) (hg : ∀ i, i ≠ j.toNat → Sub (f i) (g i)) (hp : Keeps bs p (Els n g))
    (k : GS C bs rest Γ (μ1 ++ (p, Els n g) :: μ2) N R) (hs : ∀ X : Cx, X.env.scope = C.sc → swapsWithSole [.Subscript o z sp'] e pos.line X.env = pure false := by intro _ _; rfl) (hw : ∀ X : Cx, X.env.scope = C.sc → swappedStores [.Subscript o z sp'] e X.env = pure none := by intro _ _; rfl)
    (hx : ∀ X : Cx, (assignEach [.Subscript o z sp'] X.env).map (·.2) = [assign (.Subscript o z sp') X.env] := by intro _; rfl) (hpg : ∀ (X : Cx), XOk C X → PG X (.Subscript o z sp') (gSub (TEx C o) (TEx C z) rSetL) := by intro X hX; exact pg_sub (TEx.pe hX) (TEx.pe hX) set_list) :
    GS C bs (.Assign [.Subscript o z sp'] e pos :: rest) Γ μ N R := fun σ H D kk nx r => by
  subst hμ
  refine tsc (t := tAsg (TEx C e) (gSub (TEx C o) (TEx C z) rSetL)) (fun X hX => ps_asg (TEx.pe hX) (hpg X hX) (hs X hX.sc) (hw X hX.sc) (hx X)) ?_
  refine he σ H _ kk.ok fun v H1 k1 e1 p1 => ?_
  refine ho σ H1 _ k1 fun w H2 k2 e2 p2 => ?_
  cases p2
  refine hz σ H2 _ k2 fun w H3 k3 e3 p3 => ?_
  cases p3
  obtain ⟨xs, h2, h3⟩ := k3.hd.el (p, Els n f) (by simp)
  have hl : xs.length = n := h3.1
  have hx' : ixN xs.length j = some j.toNat := by
    unfold ixN
    rw [if_pos hj.1, if_pos (by omega)]
  refine ⟨p, xs, j, j.toNat, rfl, rfl, h2, hx', ?_⟩
  have kk3 := kk.step k3 ((e1.trans e2).trans e3)
  obtain ⟨k4, ev⟩ := kk3.mut (c' := Els n g) (ys := xs.set j.toNat v) hp ⟨by rw [List.length_set, h3.1], fun i x hx => by
    rw [List.getElem?_set] at hx
    by_cases hi : j.toNat = i
    · rw [if_pos hi] at hx
      split at hx
      · cases hx
        rw [← hi]
        exact hA _ _ (A.mono _ _ _ (e2.trans e3) p1)
      · cases hx
    · rw [if_neg hi] at hx
      exact hg i (fun z => hi z.symm) _ _ (h3.2 i x hx)⟩
  exact k σ _ D k4 (up nx (by rw [ev]; exact (e1.trans e2).trans e3)) r
theorem view_free {μ1 μ2 : Mu} {p : Addr} {c : LC} : Ext (view (μ1 ++ (p, c) :: μ2) H) (view (μ1 ++ μ2) H) := ext_less fun a ha => by
  obtain ⟨m, hm, rfl⟩ := List.mem_map.mp ha
  refine List.mem_map.mpr ⟨m, ?_, rfl⟩
  rcases List.mem_append.mp hm with q | q
  · exact List.mem_append_left _ q
  · exact List.mem_append_right _ (List.mem_cons_of_mem _ q)
theorem Holds.free {ts : List Addr} {μ1 μ2 : Mu} {p : Addr} {c : LC} (h : Holds ts (μ1 ++ (p, c) :: μ2) H) : Holds ts (μ1 ++ μ2) H := by
  refine ⟨fun m hm => ?_, ?_, fun T hT => view_free.tab 2 T (h.tb T hT)⟩
  · obtain ⟨xs, h1, h2⟩ := h.el m (by
      rcases List.mem_append.mp hm with q | q
      · exact List.mem_append_left _ q
      · exact List.mem_append_right _ (List.mem_cons_of_mem _ q))
    exact ⟨xs, h1, m.2.mono _ _ _ view_free h2⟩
  · have nd := h.nd
    have e : dom (μ1 ++ (p, c) :: μ2) = dom μ1 ++ p :: dom μ2 := by simp [dom]
    have e2 : dom (μ1 ++ μ2) = dom μ1 ++ dom μ2 := by simp [dom]
    rw [e] at nd
    rw [e2]
    exact nd.sublist (List.Sublist.append (List.Sublist.refl _) (List.sublist_cons_self _ _))
theorem St.free {μ1 μ2 : Mu} {p : Addr} {c : LC} (hp : p ∉ dom bs.μ) (k : St C bs Γ (μ1 ++ (p, c) :: μ2) σ H) : St C bs Γ (μ1 ++ μ2) σ H :=
  ⟨k.ok.step k.ok.hd.free view_free, k.ex.trans view_free, fun m hm => let ⟨d, h1, h2⟩ := k.sub m hm; ⟨d, sub_at (fun z => hp (List.mem_map.mpr ⟨m, hm, z.symm⟩)) h1, h2⟩, k.nd⟩
/-- the list changes no more: the slot that holds it -/
theorem gs_freeze {p : Addr} {c : LC} (i : Nat) (μ1 μ2 : Mu) (hμ : μ = μ1 ++ (p, c) :: μ2) (hi : Γ[i]? = some (some (Is (.ref p)))) (hp : p ∉ dom bs.μ) (k : GS C bs sts (Γ.set i (some (Fz C.K c))) (μ1 ++ μ2) N R) : GS C bs sts Γ μ N R := fun σ H D kk nx r => by
  subst hμ
  have k2 := kk.free hp
  obtain ⟨v, h1, h2⟩ := kk.ok.sl i _ hi
  obtain ⟨xs, h3, h4⟩ := kk.ok.hd.el (p, c) (by simp)
  have nin : p ∉ dom (μ1 ++ μ2) := fun z => by
    have nd := kk.ok.hd.nd
    have e : dom (μ1 ++ (p, c) :: μ2) = dom μ1 ++ p :: dom μ2 := by simp [dom]
    have e2 : dom (μ1 ++ μ2) = dom μ1 ++ dom μ2 := by simp [dom]
    rw [e, List.nodup_append] at nd
    rw [e2] at z
    rcases List.mem_append.mp z with z | z
    · exact nd.2.2 p z p List.mem_cons_self rfl
    · exact (List.nodup_cons.mp nd.2.1).1 z
  refine k σ H D ⟨k2.ok.retype ⟨v, h1, p, xs, h2, .inl (.inl ?_), c.mono _ _ _ view_free h4⟩, k2.ex, k2.sub, k2.nd⟩ (up nx view_free) r
  show hide _ _ _ = _
  rw [hide_out nin]
  exact h3
/-- a content that says less -/
theorem gs_content {p : Addr} {c d : LC} (μ1 μ2 : Mu) (hμ : μ = μ1 ++ (p, c) :: μ2) (h : Imp c d) (hp : Keeps bs p d) (k : GS C bs sts Γ (μ1 ++ (p, d) :: μ2) N R) : GS C bs sts Γ μ N R := fun σ H D kk nx r => by
  subst hμ
  have ed : dom (μ1 ++ (p, d) :: μ2) = dom (μ1 ++ (p, c) :: μ2) := by simp [dom]
  have ev : view (μ1 ++ (p, d) :: μ2) H = view (μ1 ++ (p, c) :: μ2) H := by
    show hide _ _ = hide _ _
    rw [ed]
  have hd : Holds C.ts (μ1 ++ (p, d) :: μ2) H := ⟨fun m hm => by
    rw [ev]
    rcases List.mem_append.mp hm with q | q
    · exact kk.ok.hd.el m (List.mem_append_left _ q)
    · rcases List.mem_cons.mp q with q | q
      · obtain ⟨xs, h1, h2⟩ := kk.ok.hd.el (p, c) (by simp)
        rw [q]; exact ⟨xs, h1, h _ _ h2⟩
      · exact kk.ok.hd.el m (List.mem_append_right _ (List.mem_cons_of_mem _ q)), by rw [ed]; exact kk.ok.hd.nd, fun T hT => by rw [ev]; exact kk.ok.hd.tb T hT⟩
  refine k σ H D ⟨kk.ok.step hd (by rw [ev]; exact Ext.refl _), by rw [ev]; exact kk.ex, fun m hm => ?_, kk.nd⟩ (fun Γ' μ' σ' H' z1 z2 z3 => nx Γ' μ' σ' H' z1 z2 (by rw [← ev]; exact z3)) r
  obtain ⟨e, q, hi⟩ := kk.sub m hm
  by_cases z : m.1 = p
  · exact ⟨d, by rw [z]; exact List.mem_append_right _ List.mem_cons_self, hp kk.nd m hm z⟩
  · have q' := sub_at (fun y => z y.symm) q
    refine ⟨e, ?_, hi⟩
    rcases List.mem_append.mp q' with q' | q'
    · exact List.mem_append_left _ q'
    · exact List.mem_append_right _ (List.mem_cons_of_mem _ q')
theorem gs_drop {p : Addr} {c : LC} (μ1 μ2 : Mu) (hμ : μ = μ1 ++ (p, c) :: μ2) (hp : p ∉ dom bs.μ) (k : GS C bs sts Γ (μ1 ++ μ2) N R) : GS C bs sts Γ μ N R := fun σ H D kk nx r => by
  subst hμ
  exact k σ H D (kk.free hp) (up nx view_free) r
end
end Lay
set_option Elab.async false
set_option linter.all false
set_option maxRecDepth 100000
set_option maxHeartbeats 4000000

namespace Lay
open PySem PySem.Spec PyProof.Rows L2 Gx
abbrev GlS (C : Ctx) (x : Str) : Prop := C.sc.names.lookup x = some .globalImplicit
section
variable {C : Ctx} {bs : Bs} {a b e : Expr} {es : List Expr} {rest sts : List Stmt} {st : Stmt} {Γ Γ' : Sl} {μ μ' : Mu} {A B P R : Rp} {pos p : Pos} {N N' : Nx} {σ : L2.St} {H H' : Hp} {D : Ends}

/-! ### more built-ins -/
theorem e_len {n : Nat} {f : Nat → Rp} (ha : EE C a Γ μ A) (hA : ∀ v h, A.p v h → (LstF C.K n f).p v h ∨ (TupF C.K n f).p v h) (hg : GlS C "len") (hm : C.mg ("len" : Str) = none) (he : ∀ X : Cx, starEach [a] X.env = (false, eval a X.env) :: starEach [] X.env := by intro _; exact star_cons rfl) (hpl : ∀ X : Cx, (backTo pos (starEach [] X.env)).any (·.1) = false := by intro _; rfl) :
    EE C (.Call (.Name "len" p) [a] [] pos) Γ μ (Is (.int (n : Int))) :=
  e_cb (r := fun xs H Q => ∃ p ys, xs = [.ref p] ∧ (SqL C.K H p ys ∨ SqT C.K H p ys) ∧ Q (.int ys.length) H) (fun X hX => hX.K ▸ call_len_seq) hg hm boot_len (a_cons ha a_nil he) (fun vs σ H k q Q z => by
    obtain ⟨v, rfl, c⟩ := q.one
    rcases hA _ _ c with ⟨t, xs, rfl, h2, h3⟩ | ⟨t, xs, rfl, h2, h3⟩
    · exact ⟨t, xs, rfl, .inl (sql_ext (ext_hide _ _) h2), z _ H (Grow.refl _) (by rw [h3.1]; rfl)⟩
    · exact ⟨t, xs, rfl, .inr (sqt_ext (ext_hide _ _) h2), z _ H (Grow.refl _) (by rw [h3.1]; rfl)⟩) (by decide) (by decide) he hpl
theorem e_lenT {n : Nat} {f : Nat → Rp} (ha : EE C a Γ μ (TupF C.K n f)) (hg : GlS C "len") (hm : C.mg ("len" : Str) = none) (he : ∀ X : Cx, starEach [a] X.env = (false, eval a X.env) :: starEach [] X.env := by intro _; exact star_cons rfl) :
    EE C (.Call (.Name "len" p) [a] [] pos) Γ μ (Is (.int (n : Int))) := e_len ha (fun _ _ h => .inr h) hg hm he
theorem e_lenL {n : Nat} {f : Nat → Rp} (ha : EE C a Γ μ (LstF C.K n f)) (hg : GlS C "len") (hm : C.mg ("len" : Str) = none) (he : ∀ X : Cx, starEach [a] X.env = (false, eval a X.env) :: starEach [] X.env := by intro _; exact star_cons rfl) :
    EE C (.Call (.Name "len" p) [a] [] pos) Γ μ (Is (.int (n : Int))) := e_len ha (fun _ _ h => .inl h) hg hm he
theorem e_abs {i : Int} (ha : EE C a Γ μ (Is (.int i))) (hg : GlS C "abs") (hm : C.mg ("abs" : Str) = none) (he : ∀ X : Cx, starEach [a] X.env = (false, eval a X.env) :: starEach [] X.env := by intro _; exact star_cons rfl) :
    EE C (.Call (.Name "abs" p) [a] [] pos) Γ μ (Is (.int (if i < 0 then -i else i))) :=
  e_cb (fun X hX => call_abs) hg hm (by decide +kernel) (a_cons ha a_nil he) (fun vs σ H k q Q z => by
    obtain ⟨v, rfl, c⟩ := q.one
    cases c
    exact ⟨i, rfl, z _ H (Grow.refl _) rfl⟩) (by decide) (by decide) he (fun _ => rfl)
theorem e_toInt {i : Int} (ha : EE C a Γ μ (Is (.int i))) (hg : GlS C "int") (hm : C.mg ("int" : Str) = none) (he : ∀ X : Cx, starEach [a] X.env = (false, eval a X.env) :: starEach [] X.env := by intro _; exact star_cons rfl) :
    EE C (.Call (.Name "int" p) [a] [] pos) Γ μ (Is (.int i)) :=
  e_ct (fun X hX => call_int1) hg hm boot_int (a_cons ha a_nil he) (fun vs σ H k q Q z => by
    obtain ⟨v, rfl, c⟩ := q.one
    cases c
    exact .inl ⟨i, rfl, z _ H (Grow.refl _) rfl⟩) (by decide) (by decide) he (fun _ => rfl)
theorem ints_of {n : Nat} {f : Nat → Int} {xs : List V} {h : Hp} (q : (Els n fun i => Is (.int (f i))).p xs h) : xs = ((List.range n).map f).map V.int := by
  apply List.ext_getElem?
  intro i
  by_cases hi : i < n
  · obtain ⟨x, hx⟩ := get_lt q.1 hi
    have := q.2 i x hx
    rw [hx, show x = .int (f i) from this]
    simp [hi]
  · rw [List.getElem?_eq_none (by rw [q.1]; omega), List.getElem?_eq_none (by simp; omega)]
def sumF (n : Nat) (f : Nat → Int) : Int := ((List.range n).map f).sum
theorem e_sumT {n : Nat} {f : Nat → Int} (ha : EE C a Γ μ (TupF C.K n fun i => Is (.int (f i)))) (hg : GlS C "sum") (hm : C.mg ("sum" : Str) = none) (he : ∀ X : Cx, starEach [a] X.env = (false, eval a X.env) :: starEach [] X.env := by intro _; exact star_cons rfl) :
    EE C (.Call (.Name "sum" p) [a] [] pos) Γ μ (Is (.int (sumF n f))) :=
  e_cb (r := Mr.rSumT C.K) (fun X hX => hX.K ▸ Mr.cr_sumT hX.calm) hg hm boot_sum (a_cons ha a_nil he) (fun vs σ H k q Q z => by
    obtain ⟨v, rfl, c⟩ := q.one
    obtain ⟨t, xs, rfl, h2, h3⟩ := c
    exact ⟨t, (List.range n).map f, rfl, by rw [← ints_of h3]; exact sqt_ext (ext_hide _ _) h2, z _ H (Grow.refl _) rfl⟩) (by decide) (by decide) he (fun _ => rfl)
theorem e_sumM {n : Nat} {f : Nat → Int} {l : Addr} (hl : (l, Els n fun i => Is (.int (f i))) ∈ μ) (ha : EE C a Γ μ (Is (.ref l))) (hg : GlS C "sum") (hm : C.mg ("sum" : Str) = none) (he : ∀ X : Cx, starEach [a] X.env = (false, eval a X.env) :: starEach [] X.env := by intro _; exact star_cons rfl) :
    EE C (.Call (.Name "sum" p) [a] [] pos) Γ μ (Is (.int (sumF n f))) :=
  e_cb (r := rSum C.K) (fun X hX => hX.K ▸ cr_sum hX.calm) hg hm boot_sum (a_cons ha a_nil he) (fun vs σ H k q Q z => by
    obtain ⟨v, rfl, c⟩ := q.one
    cases c
    obtain ⟨xs, h2, h3⟩ := k.hd.el _ hl
    exact ⟨l, (List.range n).map f, rfl, by rw [← ints_of h3]; exact .inl (.inl h2), z _ H (Grow.refl _) rfl⟩) (by decide) (by decide) he (fun _ => rfl)
def anyF (n : Nat) (f : Nat → Int) : Bool := ((List.range n).map f).any fun n => n != 0
theorem e_anyT {n : Nat} {f : Nat → Int} (ha : EE C a Γ μ (TupF C.K n fun i => Is (.int (f i)))) (hg : GlS C "any") (hm : C.mg ("any" : Str) = none) (he : ∀ X : Cx, starEach [a] X.env = (false, eval a X.env) :: starEach [] X.env := by intro _; exact star_cons rfl) :
    EE C (.Call (.Name "any" p) [a] [] pos) Γ μ (Is (.bl (anyF n f))) :=
  e_cb (r := Mr.rAnyT C.K) (fun X hX => hX.K ▸ Mr.cr_anyT hX.calm) hg hm boot_any (a_cons ha a_nil he) (fun vs σ H k q Q z => by
    obtain ⟨v, rfl, c⟩ := q.one
    obtain ⟨t, xs, rfl, h2, h3⟩ := c
    exact ⟨t, (List.range n).map f, rfl, by rw [← ints_of h3]; exact sqt_ext (ext_hide _ _) h2, z _ H (Grow.refl _) rfl⟩) (by decide) (by decide) he (fun _ => rfl)
/-- isinstance(a, c), c a built-in class -/
theorem e_isi {c : Expr} {n : String} {k : Bool} (ha : EE C a Γ μ A) (hA : ∀ v h, A.p v h → ∃ t, TyX C.K h v t ∧ PySem.W.kitOne C.K t (.type n) = some k) (hc : EE C c Γ μ (Is (.ty n))) (hg : GlS C "isinstance") (hm : C.mg ("isinstance" : Str) = none)
    (he : ∀ X : Cx, starEach [a, c] X.env = (false, eval a X.env) :: starEach [c] X.env := by intro _; exact star_cons rfl) (he2 : ∀ X : Cx, starEach [c] X.env = (false, eval c X.env) :: starEach [] X.env := by intro _; exact star_cons rfl) (hpl : ∀ X : Cx, (backTo pos (starEach [c] X.env)).any (·.1) = false := by intro _; rfl) :
    EE C (.Call (.Name "isinstance" p) [a, c] [] pos) Γ μ (Is (.bl k)) :=
  e_cb (r := rIsi C.K) (fun X hX => hX.K ▸ call_isi) hg hm boot_isinstance (a_cons ha (a_cons hc a_nil he2) he) (fun vs σ H ok q Q z => by
    obtain ⟨v, w, rfl, c1, c2⟩ := q.pair
    cases c2
    obtain ⟨t, h1, h2⟩ := hA _ _ c1
    exact ⟨v, _, t, _, k, rfl, .ty n, tyx_ext (ext_hide _ _) h1, h2, z _ H (Grow.refl _) rfl⟩) (by decide) (by decide) he hpl
theorem ty_int {K : PySem.W.Frag} {n : String} {i : Int} {k : Bool} (h : PySem.W.kitOne K (.type "int") (.type n) = some k := by rfl) : ∀ v h, (Is (.int i)).p v h → ∃ t, TyX K h v t ∧ PySem.W.kitOne K t (.type n) = some k := fun v hp z => by
  cases z
  exact ⟨_, .base (.int i), h⟩
theorem ty_bl {K : PySem.W.Frag} {n : String} {i k : Bool} (h : PySem.W.kitOne K (.type "bool") (.type n) = some k := by rfl) : ∀ v h, (Is (.bl i)).p v h → ∃ t, TyX K h v t ∧ PySem.W.kitOne K t (.type n) = some k := fun v hp z => by
  cases z
  exact ⟨_, .base (.bl i), h⟩
theorem tyx_tup {K : PySem.W.Frag} {h : Hp} {t : Addr} {xs : List V} (q : SqT K h t xs) : TyX K h (.ref t) (.type "tuple") := by
  rcases q with (q | ⟨o, q⟩) | ⟨o, its, n, q, c, _⟩
  · exact .base (.tup q)
  · exact .fTuple q
  · exact .kTuple q c
theorem ty_tup {K : PySem.W.Frag} {c : LC} {n : String} {k : Bool} (h : PySem.W.kitOne K (.type "tuple") (.type n) = some k := by rfl) : ∀ v h, (Tz K c).p v h → ∃ t, TyX K h v t ∧ PySem.W.kitOne K t (.type n) = some k := fun v hp ⟨t, xs, e, q, _⟩ => by
  rw [e]
  exact ⟨_, tyx_tup q, h⟩
theorem ty_no {K : PySem.W.Frag} : ∀ v h, (NoTup K).p v h → ∃ t, TyX K h v t ∧ PySem.W.kitOne K t (.type "tuple") = some false := fun v h z => z
/-- isinstance(a, (c, d)) of a bool: tuple, list -/
theorem e_isiTB {c : Expr} {k : Bool} (ha : EE C a Γ μ (Is (.bl k))) (hc : EE C c Γ μ (TupF C.K 2 (two (Is (.ty "tuple")) (Is (.ty "list"))))) (hg : GlS C "isinstance") (hm : C.mg ("isinstance" : Str) = none)
    (hnew : ∀ σ H (Q : VK), Ok C.ts Γ μ σ H → (∀ t H', Ok C.ts Γ μ σ H' → Ext (view μ H) (view μ H') → H' t = some (.tup [.ty "tuple", .ty "list"]) → Q (.ref t) H') → TEx C c σ H Q)
    (he : ∀ X : Cx, starEach [a, c] X.env = (false, eval a X.env) :: starEach [c] X.env := by intro _; exact star_cons rfl) (he2 : ∀ X : Cx, starEach [c] X.env = (false, eval c X.env) :: starEach [] X.env := by intro _; exact star_cons rfl) (hpl : ∀ X : Cx, (backTo pos (starEach [c] X.env)).any (·.1) = false := by intro _; rfl) :
    EE C (.Call (.Name "isinstance" p) [a, c] [] pos) Γ μ (Is (.bl false)) := fun σ H Q ok q =>
  tex (t := tCB (rIsiT C.K) (tCons (TEx C a) (tCons (TEx C c) tNil))) (fun X hX => pe_callB (hX.K ▸ call_isiT) (gl_of hX hg) (by rw [hX.mg]; exact hm) boot_isinstance (pa_cons (TEx.pe hX) (pa_cons (TEx.pe hX) pa_nil (he2 X)) (he X)) (by decide) (by decide) (he X) (hpl X))
    (ha σ H _ ok fun v H1 k1 e1 p1 => by
      cases p1
      exact hnew σ H1 _ k1 fun t H2 k2 e2 h2 => ⟨.bl k, t, _, .type "bool", [.type "tuple", .type "list"], false, rfl, h2, .cons (.ty _) (.cons (.ty _) .nil), .base (.bl k), rfl, q _ H2 k2 (e1.trans e2) rfl⟩)
theorem new_pair {c d : Expr} {x y : V} {k : Nat} (hc : EE C c Γ μ (Is x)) (hd : EE C d Γ μ (Is y)) (he : ∀ X : Cx, starEach [c, d] X.env = (false, eval c X.env) :: starEach [d] X.env := by intro _; exact star_cons rfl) (he2 : ∀ X : Cx, starEach [d] X.env = (false, eval d X.env) :: starEach [] X.env := by intro _; exact star_cons rfl) :
    ∀ σ H (Q : VK), Ok C.ts Γ μ σ H → (∀ t H', Ok C.ts Γ μ σ H' → Ext (view μ H) (view μ H') → H' t = some (.tup [x, y]) → Q (.ref t) H') → TEx C (.Tuple [c, d] k pos) σ H Q := fun σ H Q ok q =>
  tex (fun X hX => pe_tup (TAx.pa hX)) (a_cons hc (a_cons hd a_nil he2) he σ H _ ok fun vs H1 k1 e1 p1 => by
    obtain ⟨v, w, rfl, c1, c2⟩ := p1.pair
    cases c1
    cases c2
    refine ⟨by show 2 ≤ sizeLine; decide, fun t ht => ?_⟩
    have g : Grow H1 (upd H1 t (.tup [x, y])) := Grow.new ht
    exact q t _ (k1.grow g) (e1.trans (k1.ev g)) upd_same)

/-! ### tuple(..), list(..), slices, sums of tuples -/
theorem tup_new {H1 : Hp} {xs : List V} {c : LC} {t : Addr} (k1 : Ok C.ts Γ μ σ H1) (h : c.p xs (view μ H1)) (ht : H1 t = none) : (Tz C.K c).p (.ref t) (view μ (upd H1 t (.tup xs))) := by
  have g : Grow H1 (upd H1 t (.tup xs)) := Grow.new ht
  refine ⟨t, xs, rfl, .inl (.inl ?_), c.mono _ _ _ (k1.ev g) h⟩
  show hide _ _ _ = _
  rw [hide_out, upd_same]
  intro z
  obtain ⟨ys, y⟩ := k1.hd.lsts t z
  rw [ht] at y
  cases y
theorem e_tuple {c : LC} (ha : EE C a Γ μ A) (hA : ∀ v h, A.p v h → (Fz C.K c).p v h ∨ (Tz C.K c).p v h) (hg : GlS C "tuple") (hm : C.mg ("tuple" : Str) = none) (he : ∀ X : Cx, starEach [a] X.env = (false, eval a X.env) :: starEach [] X.env := by intro _; exact star_cons rfl) :
    EE C (.Call (.Name "tuple" p) [a] [] pos) Γ μ (Tz C.K c) :=
  e_ct (r := fun xs H Q => ∃ p ys, xs = [.ref p] ∧ ((SqL C.K H p ys ∧ ∀ l, H l = none → Q (.ref l) (upd H l (.tup ys))) ∨ (SqT C.K H p ys ∧ Q (.ref p) H))) (fun X hX => hX.K ▸ call_tuple_of) hg hm boot_tuple (a_cons ha a_nil he) (fun vs σ H k q Q z => by
    obtain ⟨v, rfl, c1⟩ := q.one
    rcases hA _ _ c1 with ⟨t, xs, rfl, h2, h3⟩ | ⟨t, xs, rfl, h2, h3⟩
    · exact ⟨t, xs, rfl, .inl ⟨sql_ext (ext_hide _ _) h2, fun l hl => z _ _ (Grow.new hl) (tup_new k h3 hl)⟩⟩
    · exact ⟨t, xs, rfl, .inr ⟨sqt_ext (ext_hide _ _) h2, z _ H (Grow.refl _) ⟨t, xs, rfl, h2, h3⟩⟩⟩) (by decide) (by decide) he (fun _ => rfl)
theorem e_tupleL {c : LC} (ha : EE C a Γ μ (Fz C.K c)) (hg : GlS C "tuple") (hm : C.mg ("tuple" : Str) = none) (he : ∀ X : Cx, starEach [a] X.env = (false, eval a X.env) :: starEach [] X.env := by intro _; exact star_cons rfl) : EE C (.Call (.Name "tuple" p) [a] [] pos) Γ μ (Tz C.K c) := e_tuple ha (fun _ _ h => .inl h) hg hm he
/-- of a list that changes -/
theorem e_tupleM {c : LC} {l : Addr} (hl : (l, c) ∈ μ) (ha : EE C a Γ μ (Is (.ref l))) (hg : GlS C "tuple") (hm : C.mg ("tuple" : Str) = none) (he : ∀ X : Cx, starEach [a] X.env = (false, eval a X.env) :: starEach [] X.env := by intro _; exact star_cons rfl) :
    EE C (.Call (.Name "tuple" p) [a] [] pos) Γ μ (Tz C.K c) :=
  e_ct (r := fun xs H Q => ∃ p ys, xs = [.ref p] ∧ ((SqL C.K H p ys ∧ ∀ l, H l = none → Q (.ref l) (upd H l (.tup ys))) ∨ (SqT C.K H p ys ∧ Q (.ref p) H))) (fun X hX => hX.K ▸ call_tuple_of) hg hm boot_tuple (a_cons ha a_nil he) (fun vs σ H k q Q z => by
    obtain ⟨v, rfl, c1⟩ := q.one
    cases c1
    obtain ⟨xs, h2, h3⟩ := k.hd.el _ hl
    exact ⟨l, xs, rfl, .inl ⟨.inl (.inl h2), fun l hl => z _ _ (Grow.new hl) (tup_new k h3 hl)⟩⟩) (by decide) (by decide) he (fun _ => rfl)
/-- list(t) -/
theorem n_listT {c : LC} (ha : EE C a Γ μ (Tz C.K c)) (hg : GlS C "list") (hm : C.mg ("list" : Str) = none) (he : ∀ X : Cx, starEach [a] X.env = (false, eval a X.env) :: starEach [] X.env := by intro _; exact star_cons rfl) :
    EN C (.Call (.Name "list" p) [a] [] pos) Γ μ c := fun σ H Q ok q =>
  tex (t := tCB (fun xs H Q => ∃ p ys, xs = [.ref p] ∧ (SqL C.K H p ys ∨ SqT C.K H p ys) ∧ ∀ l, H l = none → Q (.ref l) (upd H l (.lst ys))) (TAx C [a])) (fun X hX => pe_callTy (hX.K ▸ call_list_of) (gl_of hX hg) (by rw [hX.mg]; exact hm) boot_list (TAx.pa hX) (by decide) (by decide) (he X) rfl)
    (a_cons ha a_nil he σ H _ ok fun vs H1 k1 e1 p1 => by
      obtain ⟨v, rfl, c1⟩ := p1.one
      obtain ⟨t, xs, rfl, h2, h3⟩ := c1
      refine ⟨t, xs, rfl, .inr (sqt_ext (ext_hide _ _) h2), fun l hl => ?_⟩
      obtain ⟨o, ev⟩ := new_list k1 h3 hl
      exact q l _ o (by rw [ev]; exact e1))
/-- t + u -/
theorem e_cat {c d r : LC} (ha : EE C a Γ μ (Tz C.K c)) (hb : EE C b Γ μ (Tz C.K d)) (hr : ∀ xs ys h, c.p xs h → d.p ys h → r.p (xs ++ ys) h ∧ xs.length + ys.length ≤ 100000) : EE C (.BinOp a .Add b pos) Γ μ (Tz C.K r) := fun σ H Q ok q =>
  tex (t := tOp (rCatA C.K) (TEx C a) (TEx C b)) (fun X hX => hX.K ▸ pe_op op_catA (TEx.pe hX) (TEx.pe hX)) (ha σ H _ ok fun v H1 k1 e1 p1 => hb σ H1 _ k1 fun w H2 k2 e2 p2 => by
    obtain ⟨t, xs, rfl, h2, h3⟩ := (Tz C.K c).mono _ _ _ e2 p1
    obtain ⟨u, ys, rfl, h4, h5⟩ := p2
    obtain ⟨hq, hz⟩ := hr xs ys _ h3 h5
    have ex := e1.trans e2
    refine ⟨t, u, xs, ys, rfl, rfl, sqt_ext (ext_hide _ _) h2, sqt_ext (ext_hide _ _) h4, small_size hz, fun z => ?_, fun _ z => ?_, fun _ _ l hl => ?_⟩
    · rw [z] at hq
      exact q _ H2 k2 ex ⟨u, ys, rfl, h4, hq⟩
    · rw [z, List.append_nil] at hq
      exact q _ H2 k2 ex ⟨t, xs, rfl, h2, hq⟩
    · have g : Grow H2 (upd H2 l (.tup (xs ++ ys))) := Grow.new hl
      exact q _ _ (k2.grow g) (ex.trans (k2.ev g)) (tup_new k2 hq hl))
/-- an end of a slice -/
def EO (C : Ctx) (o : Option Expr) (Γ : Sl) (μ : Mu) (i : Option Int) : Prop := match o, i with
  | none, none => True
  | some e, some i => EE C e Γ μ (Is (.int i))
  | _, _ => False
theorem e_slice {c r : LC} {lo hi : Option Expr} {i j : Option Int} {p2 : Pos} (ha : EE C a Γ μ (Tz C.K c)) (hl : EO C lo Γ μ i) (hh : EO C hi Γ μ j) (hr : ∀ xs h, c.p xs h → r.p (cutV xs i j) h) : EE C (.Subscript a (.Slice lo hi none p2) pos) Γ μ (Tz C.K r) := fun σ H Q ok q => by
  have fin : ∀ (H2 : Hp) v, Ok C.ts Γ μ σ H2 → Ext (view μ H) (view μ H2) → (Tz C.K c).p v (view μ H2) → rSlA C.K v i j H2 Q := fun H2 v k2 ex pv => by
    obtain ⟨t, xs, rfl, h2, h3⟩ := pv
    have hq := hr xs _ h3
    refine ⟨t, xs, rfl, sqt_ext (ext_hide _ _) h2, fun z => ?_, fun _ l hl => ?_⟩
    · have e1 : cutV xs i j = xs := by
        unfold cutV
        rw [z.1, z.2, List.drop_zero, Nat.sub_zero, List.take_length]
      rw [e1] at hq
      exact q _ H2 k2 ex ⟨t, xs, rfl, h2, hq⟩
    · have g : Grow H2 (upd H2 l (.tup (cutV xs i j))) := Grow.new hl
      exact q _ _ (k2.grow g) (ex.trans (k2.ev g)) (tup_new k2 hq hl)
  match lo, i, hl with
  | none, none, _ =>
    match hi, j, hh with
    | none, none, _ => exact tex (t := tSl (rSlA C.K) (TEx C a) tNoPart tNoPart) (fun X hX => hX.K ▸ pe_slice sl_tupA (TEx.pe hX) po_none po_none) (ha σ H _ ok fun v H1 k1 e1 p1 => fin H1 v k1 e1 p1)
    | some h, some j, hh => exact tex (t := tSl (rSlA C.K) (TEx C a) tNoPart (tPart (TEx C h))) (fun X hX => hX.K ▸ pe_slice sl_tupA (TEx.pe hX) po_none (po_some (TEx.pe hX))) (ha σ H _ ok fun v H1 k1 e1 p1 => hh σ H1 _ k1 fun w H2 k2 e2 p2 => ⟨j, p2, fin H2 v k2 (e1.trans e2) ((Tz C.K c).mono _ _ _ e2 p1)⟩)
  | some l, some i, hl =>
    match hi, j, hh with
    | none, none, _ => exact tex (t := tSl (rSlA C.K) (TEx C a) (tPart (TEx C l)) tNoPart) (fun X hX => hX.K ▸ pe_slice sl_tupA (TEx.pe hX) (po_some (TEx.pe hX)) po_none) (ha σ H _ ok fun v H1 k1 e1 p1 => hl σ H1 _ k1 fun w H2 k2 e2 p2 => ⟨i, p2, fin H2 v k2 (e1.trans e2) ((Tz C.K c).mono _ _ _ e2 p1)⟩)
    | some h, some j, hh => exact tex (t := tSl (rSlA C.K) (TEx C a) (tPart (TEx C l)) (tPart (TEx C h))) (fun X hX => hX.K ▸ pe_slice sl_tupA (TEx.pe hX) (po_some (TEx.pe hX)) (po_some (TEx.pe hX))) (ha σ H _ ok fun v H1 k1 e1 p1 => hl σ H1 _ k1 fun w H2 k2 e2 p2 => ⟨i, p2, hh σ H2 _ k2 fun u H3 k3 e3 p3 => ⟨j, p3, fin H3 v k3 ((e1.trans e2).trans e3) ((Tz C.K c).mono _ _ _ (e2.trans e3) p1)⟩⟩)
/-- t[::-1] -/
theorem e_rev {c r : LC} {k : Nat} {p1 p2 p3 : Pos} (ha : EE C a Γ μ (Tz C.K c)) (hr : ∀ xs h, c.p xs h → r.p xs.reverse h) : EE C (.Subscript a (.Slice none none (some (.UnaryOp .USub (.Constant (.int 1) k p1) p2)) p3) pos) Γ μ (Tz C.K r) := fun σ H Q ok q =>
  tex (t := Mr.tRevT C.K (TEx C a)) (fun X hX => hX.K ▸ Mr.pe_revT (TEx.pe hX)) (ha σ H _ ok fun v H1 k1 e1 p1 => by
    obtain ⟨t, xs, rfl, h2, h3⟩ := p1
    refine ⟨t, xs, rfl, sqt_ext (ext_hide _ _) h2, fun l hl => ?_⟩
    have g : Grow H1 (upd H1 l (.tup xs.reverse)) := Grow.new hl
    exact q _ _ (k1.grow g) (e1.trans (k1.ev g)) (tup_new k1 (hr xs _ h3) hl))
theorem rep_flat (n : Nat) (x : V) : (List.replicate n [x]).flatten = List.replicate n x := by
  induction n with
  | zero => rfl
  | succ n ih => rw [List.replicate_succ, List.flatten_cons, ih, List.replicate_succ]; rfl
/-- (x,) * n -/
theorem e_rep {n : Nat} {P : Rp} (ha : EE C a Γ μ (TupF C.K 1 fun _ => P)) (hb : EE C b Γ μ (Is (.int (n : Int)))) (hn : 1 ≤ n ∧ n ≤ 1000) : EE C (.BinOp a .Mult b pos) Γ μ (TupF C.K n fun _ => P) := fun σ H Q ok q =>
  tex (t := tOp (Mr.rRepA C.K) (TEx C a) (TEx C b)) (fun X hX => hX.K ▸ pe_op Mr.op_repA (TEx.pe hX) (TEx.pe hX)) (ha σ H _ ok fun v H1 k1 e1 p1 => hb σ H1 _ k1 fun w H2 k2 e2 p2 => by
    cases p2
    obtain ⟨t, xs, rfl, h2, h3, h4⟩ := (TupF C.K 1 fun _ => P).mono _ _ _ e2 p1
    match xs, h3 with
    | [x], _ =>
      have hx := h4 0 x rfl
      refine ⟨t, n, [x], rfl, rfl, sqt_ext (ext_hide _ _) h2, by simp, by omega, by omega, by simp, fun z => ?_, fun z l hl => ?_⟩
      · have : n = 1 := by omega
        subst this
        exact q _ H2 k2 (e1.trans e2) ⟨t, [x], rfl, h2, rfl, h4⟩
      · have g : Grow H2 (upd H2 l (.tup (List.replicate (n : Int).toNat [x]).flatten)) := Grow.new hl
        refine q _ _ (k2.grow g) ((e1.trans e2).trans (k2.ev g)) (tup_new k2 (c := Els n fun _ => P) ?_ hl)
        have ef : (List.replicate (n : Int).toNat [x]).flatten = List.replicate n x := by
          rw [Int.toNat_natCast]
          exact rep_flat n x
        rw [ef]
        refine ⟨List.length_replicate, fun i y hy => ?_⟩
        rw [List.getElem?_replicate] at hy
        split at hy
        · cases hy; exact hx
        · cases hy)
/-- list(range(a)) + [None] -/
theorem n_stops {p1 p2 p3 p4 : Pos} {k : Nat} {n : Nat} (ha : EE C a Γ μ (Is (.int (n : Int)))) (hn : n ≤ 1000) (hg : GlS C "list") (hm : C.mg ("list" : Str) = none) (hg2 : GlS C "range") (hm2 : C.mg ("range" : Str) = none)
    (he : ∀ X : Cx, starEach [a] X.env = (false, eval a X.env) :: starEach [] X.env := by intro _; exact star_cons rfl) :
    EN C (.BinOp (.Call (.Name "list" p1) [.Call (.Name "range" p2) [a] [] p3] [] p4) .Add (.List [.Constant .none k p] p) pos) Γ μ (Els (n + 1) fun i => if i < n then Is (.int (i : Int)) else Is .non) := fun σ H Q ok q =>
  tex (t := tOp rCat (tLstRg (tRg1 (TEx C a))) (tLst (tCons (tC .non) tNil))) (fun X hX => pe_op op_cat (pe_listRg hX.calm (gl_of hX hg) (by rw [hX.mg]; exact hm) (prg_1 (gl_of hX hg2) (by rw [hX.mg]; exact hm2) (TEx.pe hX) (he X)) rfl) (pe_lst (pa_cons pe_non pa_nil)))
    (ha σ H _ ok fun v H1 k1 e1 p1 => by
      refine ⟨n, p1, RgOk.of_le (by omega) (by omega) (by omega) (by omega), fun l hl => ?_⟩
      refine ⟨by show 1 ≤ sizeLine; decide, fun m hm => ?_⟩
      have nl : l ≠ m := fun z => by
        rw [← z, upd_same] at hm
        cases hm
      refine ⟨l, m, _, _, rfl, rfl, by rw [upd_ne nl, upd_same], upd_same, small_size (by rw [rgV_length]; show _ + 1 ≤ _; omega), fun r hr => ?_⟩
      have g1 : Grow H1 (upd H1 l (.lst (rgV 0 n))) := Grow.new hl
      have k2 := k1.grow g1
      have g2 : Grow (upd H1 l (.lst (rgV 0 n))) (upd (upd H1 l (.lst (rgV 0 n))) m (.lst [.non])) := Grow.new hm
      have k3 := k2.grow g2
      obtain ⟨o, ev⟩ := new_list (c := Els (n + 1) fun i => if i < n then Is (.int (i : Int)) else Is .non) (vs := rgV 0 n ++ [.non]) k3 ⟨by rw [List.length_append, rgV_length]; show _ + 1 = _; omega, fun i x hx => by
        rw [List.getElem?_append, rgV_length] at hx
        have ez : ((n : Int) - 0).toNat = n := by omega
        rw [ez] at hx
        split at hx
        · rename_i hi
          show Rp.p (if i < n then _ else _) _ _
          rw [if_pos hi]
          unfold rgV at hx
          rw [ez, List.getElem?_map, List.getElem?_range hi] at hx
          cases hx
          show V.int _ = V.int _
          rw [Int.zero_add]
        · rename_i hi
          show Rp.p (if i < n then _ else _) _ _
          rw [if_neg hi]
          have : i - n = 0 := by
            rcases Nat.eq_zero_or_pos (i - n) with w | w
            · exact w
            · rw [List.getElem?_eq_none (by show 1 ≤ _; omega)] at hx
              cases hx
          rw [this] at hx
          cases hx
          rfl⟩ hr
      exact q r _ o (by rw [ev]; exact (e1.trans (k1.ev g1)).trans (k2.ev g2)))
end
end Lay
set_option Elab.async false
set_option linter.all false
set_option maxRecDepth 100000
set_option maxHeartbeats 4000000

namespace Lay
open PySem PySem.Spec PyProof.Rows L2 Gx
section
variable {C : Ctx} {bs : Bs} {a b e : Expr} {es : List Expr} {rest sts : List Stmt} {st : Stmt} {Γ Γ' : Sl} {μ μ' : Mu} {A B P R : Rp} {pos p : Pos} {N N' : Nx} {σ : L2.St} {H H' : Hp} {D : Ends}

/-! ### all(..), any(..) of generator expressions -/
/-- a judgement where the heap also holds F -/
def EF (C : Ctx) (F : Hp → Prop) (e : Expr) (Γ : Sl) (μ : Mu) (P : Rp) : Prop := ∀ σ H (Q : VK), Ok C.ts Γ μ σ H → F (view μ H) → (∀ v H', Ok C.ts Γ μ σ H' → Ext (view μ H) (view μ H') → P.p v (view μ H') → Q v H') → TEx C e σ H Q
theorem EE.ef {F : Hp → Prop} (h : EE C e Γ μ P) : EF C F e Γ μ P := fun σ H Q ok _ q => h σ H Q ok q
abbrev Ctx.gen (C : Ctx) (scope : Scope) (k : Nat) (c : Addr) : Ctx := { C with sc := scope, top := false, k := k, code := .ref c }
theorem XOk.gen {X : Cx} (hX : XOk C X) {scope : Scope} {k : Nat} {A : Around} {s : Shared} {H : Hp} {Dl c : Addr} {fp : List Addr} (hr : Room k A) : XOk (C.gen scope k c) (gCx X A s H (gEnv X scope Dl (.ref c)) fp) where
  prog := hX.prog
  w := hX.w
  K := hX.K
  mg := hX.mg
  base := hX.base
  N := hX.N
  sc := rfl
  room := hr
  calm := rfl
  fn := fun z => by cases z
  xe := rfl
  code := rfl
  nd := hX.nd
/-- what is known of the code's table -/
def CdT (C : Ctx) (c T : Addr) (m : Nat) : Hp → Prop := fun h => CodeAt C.base h c T ∧ Tb (m + 1) h T
def CdN (c T : Addr) (m : Nat) : Hp → Prop := fun h => h c = some (CdO c T) ∧ Tb m h T
theorem CdN.cdt {c T : Addr} {m : Nat} {h : Hp} (x : CdN c T (m + 1) h) : CdT C c T m h := ⟨.inr x.1, x.2⟩
theorem CdT.ext {c T : Addr} {m : Nat} {h h' : Hp} (e : Ext h h') (x : CdT C c T m h) : CdT C c T m h' := ⟨by
  rcases x.1 with q | q
  · exact .inl q
  · exact .inr (e.obj c _ q fun ps z => cdO_ne ps z), e.tab _ _ x.2⟩
theorem tn_name {X : Cx} {j : Nat} {x : Str} {px : Pos} {scope : Scope} (hX : XOk C X) (hi : C.N[j]? = some x) (hx : scope.names.lookup x = some .local) {A : Around} {s : Shared} {H : Hp} {Dl : Addr} {cd : Value} {fp : List Addr} : PG (gCx X A s H (gEnv X scope Dl cd) fp) (.Name x px) (gName j) :=
  pg_name (by rw [hX.N]; exact hX.nd) (by rw [hX.N]; exact hi) (.inl hx) (.inr hx)
theorem gx_turns {elt : Expr} {Cg : Ctx} {F' : Hp → Prop} {n : Nat} {Pi : Nat → Rp} {js : List Nat} {g : TG} {ft : Nat → Sl → Sl} {vs : List Nat} {fin : Bool} {t : Nat → Bool} {J : It} {H1 H2 : Hp} {Q : VK} (hts : Cg.ts = C.ts)
    (hg : ∀ i, i < n → ∀ x σ H Γ μ (Q : L2.St → Hp → Prop), Ok C.ts Γ μ σ H → (Pi i).p x (view μ H) → (∀ σ', Ok C.ts (ft i Γ) μ σ' H → σ'.length = σ.length → (∀ l, l ∉ js → σ'[l]? = σ[l]?) → Q σ' H) → g x σ H Q) (hjs : ∀ j ∈ js, j ∈ vs)
    (hF : ∀ H H', Ext H H' → F' H → F' H') (it : ItOk J n Pi (view μ H1)) (o : Ok C.ts Γ μ σ H2) (e2 : Ext (view μ H1) (view μ H2)) (f2 : F' (view μ H2))
    (he : ∀ i, i < n → EF Cg F' elt (ft i (wipeG Γ vs)) μ (Is (.bl (t i))))
    (q : ∀ H', Ok C.ts Γ μ σ H' → Ext (view μ H2) (view μ H') → Q (.bl (if fin then (List.range n).any t else (List.range n).all t)) H') :
    ∃ W : Nat → Nat → Hp → Prop, (∃ m, W 0 m H2) ∧ tTurns J g (TEx Cg elt) vs fin σ Q W := by
  refine ⟨fun i m H' => i + m = n ∧ Ok C.ts Γ μ σ H' ∧ Ext (view μ H2) (view μ H') ∧ ∀ l, l < i → t l = !fin, ⟨n, by omega, o, Ext.refl _, fun l hl => absurd hl (Nat.not_lt_zero l)⟩, fun i m H' ⟨hm, k, ex, hall⟩ => ?_⟩
  obtain ⟨i1, i2⟩ := it _ H' k.hd.lsts (e2.trans ex)
  by_cases hin : i < n
  · obtain ⟨go, yl⟩ := i2 i hin
    refine .inr ⟨go, fun x H3 hy => ?_⟩
    obtain ⟨gr, px⟩ := yl x H3 hy
    have k3 := k.grow gr
    have e3 := k.ev gr
    refine hg i hin x (wipe σ vs) H3 _ _ _ (k3.wipe vs) px ?_
    intro σ2 k4 l2 d2
    refine ⟨wipe_back l2 d2 hjs, ?_⟩
    refine he i hin σ2 H3 _ (by rw [hts]; exact k4) (hF _ _ (ex.trans e3) f2) fun y H4 k5 e5 py => ⟨t i, py, ?_⟩
    rw [hts] at k5
    have ke : Ok C.ts Γ μ σ H4 := k3.step k5.hd e5
    have ext : Ext (view μ H2) (view μ H4) := (ex.trans e3).trans e5
    by_cases ht : t i = fin
    · rw [if_pos ht]
      have := q H4 ke ext
      cases fin with
      | true =>
        have e : (List.range n).any t = true := List.any_eq_true.mpr ⟨i, List.mem_range.mpr hin, ht⟩
        rw [if_pos rfl, e] at this
        exact this
      | false =>
        have e : (List.range n).all t = false := by
          cases h : (List.range n).all t with
          | false => rfl
          | true => rw [List.all_eq_true.mp h i (List.mem_range.mpr hin)] at ht; cases ht
        rw [if_neg (by decide), e] at this
        exact this
    · rw [if_neg ht]
      refine ⟨m - 1, by omega, by omega, ke, ext, fun l hl => ?_⟩
      rcases Nat.lt_succ_iff_lt_or_eq.mp hl with z | z
      · exact hall l z
      · rw [z]
        cases h1 : t i <;> cases fin <;> first | rfl | exact absurd h1 ht
  · have hin' : i = n := by omega
    subst hin'
    refine .inl ⟨i1, ?_⟩
    have := q H' k ex
    cases fin with
    | true =>
      have e : (List.range i).any t = false := by
        cases h : (List.range i).any t with
        | false => rfl
        | true =>
          obtain ⟨l, hl, z⟩ := List.any_eq_true.mp h
          rw [hall l (List.mem_range.mp hl)] at z
          cases z
      rw [if_pos rfl, e] at this
      exact this
    | false =>
      have e : (List.range i).all t = true := List.all_eq_true.mpr fun l hl => hall l (List.mem_range.mp hl)
      rw [if_neg (by decide), e] at this
      exact this
def allN (n : Nat) (t : Nat → Bool) : Bool := (List.range n).all t
def anyN (n : Nat) (t : Nat → Bool) : Bool := (List.range n).any t
theorem e_allF {F : Hp → Prop} {iter elt : Expr} {scope : Scope} {own : List (Str × Nat)} {gpos px : Pos} {n m k j : Nat} {x : Str} {Pi : Nat → Rp} {t : Nat → Bool} {c T : Addr} (hcode : C.code = .ref c) (bm : BM C.base C.mg) (hF : ∀ H H', Ext H H' → F H → F H') (hT : ∀ h, F h → (∀ P ∈ C.ts, Tb 2 h P) → CdT C c T m h)
    (hgl : GlS C "all") (hm : C.mg ("all" : Str) = none) 
    (hi : EI C (.Name x px) iter Γ μ n Pi)
    (he : ∀ i, i < n → ∀ c' T', EF (C.gen scope k c') (CdN c' T' m) elt ((wipeG Γ (own.map (·.2))).set j (some (Pi i))) μ (Is (.bl (t i))))
    (hk : Nat.ble (k + 1) C.k = true := by rfl) (hco : scope.isCoroutine = false := by rfl) (hcell : ∀ y ∈ scope.names, y.2 ≠ .cell := by decide +kernel) (hdot : scope.names.lookup (".0" : Str) = some NameKind.local := by rfl)
    (bk : BlkOk C.N C.sc scope own := by first | (dsimp only; exact blkOk_by (by decide +kernel)) | exact blkOk_by (by decide +kernel)) (hx : C.N[j]? = some x := by rfl) (hxl : scope.names.lookup x = some .local := by rfl) (hj : j ∈ own.map (·.2) := by decide)
    (hs : ∀ (X : Cx) (v : Value), genFold iter X.env v = pure v := by intro _ _; rfl) (hst : ∀ X : Cx, starEach [.GeneratorExp elt [⟨.Name x px, iter, [], 0⟩] scope gpos] X.env = (false, eval (.GeneratorExp elt [⟨.Name x px, iter, [], 0⟩] scope gpos) X.env) :: starEach [] X.env := by intro _; exact star_cons rfl) :
    EF C F (.Call (.Name "all" p) [.GeneratorExp elt [⟨.Name x px, iter, [], 0⟩] scope gpos] [] pos) Γ μ (Is (.bl (allN n t))) := fun σ H Q ok f0 q =>
  tex (t := tGx C.base c T m (TIx C (.Name x px) iter) (gName j) (fun c' T' => TEx (C.gen scope k c') elt) (own.map (·.2)) false) (fun X hX => by
    have h := pe_allG (X := X) (c := c) (P := T) (n := m) (k := k) (elt := elt) (tg := .Name x px) (iter := iter) (scope := scope) (p := p) (pos := pos) (gpos := gpos) (own := own) (te := fun c' T' => TEx (C.gen scope k c') elt) (hX.room.mono (Nat.le_of_ble_eq_true hk)) (gl_of hX hgl) (by rw [hX.mg]; exact hm) hX.calm (by rw [hX.N]; exact hX.nd) hco hcell hdot (by rw [hX.N, hX.sc]; exact bk)
      (by rw [hX.code]; exact hcode) (by rw [hX.base, hX.mg]; exact bm) (TIx.pi hX) (hs X) (fun A s H D cd fp => tn_name hX hx hxl) (fun A s H D c' P' fp hr => TEx.pe (hX.gen hr)) (by decide +kernel) (hst X)
    rw [hX.base] at h
    exact h)
    (hi σ H _ ok fun J H1 k1 e1 it => by
      have f1 := hF _ _ e1 f0
      have cd := hT _ f1 k1.hd.tb
      refine ⟨?_, (ext_hide _ _).tab _ _ cd.2, fun c' T' H2 ex hc' ht' => ?_⟩
      · rcases cd.1 with z | z
        · exact .inl z
        · exact .inr (of_hide z).1
      · have ls : Lsts (dom μ) H2 := fun l hl => by
          obtain ⟨xs, y⟩ := k1.hd.lsts l hl
          exact ⟨xs, ex.obj l _ y fun ps z => by cases z⟩
        have ev := ext_both ls ex
        have same : ∀ l ∈ dom μ, H2 l = H1 l := fun l hl => by
          obtain ⟨xs, y⟩ := k1.hd.lsts l hl
          rw [y]
          exact ex.obj l _ y fun ps z => by cases z
        have o2 : Ok C.ts Γ μ σ H2 := k1.step (k1.hd.step same ev) ev
        refine gx_turns (C := C) (Cg := C.gen scope k c') (F' := CdN c' T' m) (μ := μ) (H1 := H1) (n := n) (Pi := Pi) (js := [j]) (ft := fun i G => G.set j (some (Pi i))) (t := t) (fin := false) rfl (fun i hi x σ H Γ μ Q ok px q => q _ (ok.set px) List.length_set fun l hl => ?_) (fun l hl => ?_) (fun H H' ee z => ⟨ee.obj _ _ z.1 fun ps y => cdO_ne ps y, ee.tab _ _ z.2⟩) it o2 ev ⟨?_, tb_hide ls _ _ ht'⟩ (fun i hin => he i hin c' T') fun H' k' x' => ?_
        · rw [List.getElem?_set, if_neg (fun z => hl (by rw [z]; exact List.mem_cons_self))]
        · rcases List.mem_cons.mp hl with rfl | z
          · exact hj
          · cases z
        · show hide _ _ _ = _
          rw [hide_out]
          · exact hc'
          · intro z
            obtain ⟨xs, y⟩ := ls c' z
            rw [hc'] at y
            unfold CdO at y
            cases y
        · rw [if_neg (by decide)]
          exact q _ H' k' ((e1.trans ev).trans x') rfl)
theorem e_all {iter elt : Expr} {scope : Scope} {own : List (Str × Nat)} {gpos px : Pos} {n m k j : Nat} {x : Str} {Pi : Nat → Rp} {t : Nat → Bool} {c T : Addr} (hcode : C.code = .ref c) (bm : BM C.base C.mg) (hT : ∀ h, (∀ P ∈ C.ts, Tb 2 h P) → CdT C c T m h)
    (hgl : GlS C "all") (hm : C.mg ("all" : Str) = none) 
    (hi : EI C (.Name x px) iter Γ μ n Pi)
    (he : ∀ i, i < n → ∀ c' T', EF (C.gen scope k c') (CdN c' T' m) elt ((wipeG Γ (own.map (·.2))).set j (some (Pi i))) μ (Is (.bl (t i))))
    (hk : Nat.ble (k + 1) C.k = true := by rfl) (hco : scope.isCoroutine = false := by rfl) (hcell : ∀ y ∈ scope.names, y.2 ≠ .cell := by decide +kernel) (hdot : scope.names.lookup (".0" : Str) = some NameKind.local := by rfl)
    (bk : BlkOk C.N C.sc scope own := by first | (dsimp only; exact blkOk_by (by decide +kernel)) | exact blkOk_by (by decide +kernel)) (hx : C.N[j]? = some x := by rfl) (hxl : scope.names.lookup x = some .local := by rfl) (hj : j ∈ own.map (·.2) := by decide)
    (hs : ∀ (X : Cx) (v : Value), genFold iter X.env v = pure v := by intro _ _; rfl) (hst : ∀ X : Cx, starEach [.GeneratorExp elt [⟨.Name x px, iter, [], 0⟩] scope gpos] X.env = (false, eval (.GeneratorExp elt [⟨.Name x px, iter, [], 0⟩] scope gpos) X.env) :: starEach [] X.env := by intro _; exact star_cons rfl) :
    EE C (.Call (.Name "all" p) [.GeneratorExp elt [⟨.Name x px, iter, [], 0⟩] scope gpos] [] pos) Γ μ (Is (.bl (allN n t))) := fun σ H Q ok q =>
  e_allF (F := fun _ => True) hcode bm (fun _ _ _ _ => True.intro) (fun h _ => hT h) hgl hm hi he hk hco hcell hdot bk hx hxl hj hs hst σ H Q ok True.intro q
/-- any(.. for a, b in ..) -/
theorem e_anyG {iter elt : Expr} {scope : Scope} {own : List (Str × Nat)} {gpos px py pt : Pos} {n m k j l kt : Nat} {x y : Str} {f g : Nat → Rp} {t : Nat → Bool} {c T : Addr} (hcode : C.code = .ref c) (bm : BM C.base C.mg) (hT : ∀ h, (∀ P ∈ C.ts, Tb 2 h P) → CdT C c T m h)
    (hgl : GlS C "any") (hm : C.mg ("any" : Str) = none) 
    (hi : EI C (.Tuple [.Name x px, .Name y py] kt pt) iter Γ μ n (fun i => TupF C.K 2 (two (f i) (g i))))
    (he : ∀ i, i < n → ∀ c', EE (C.gen scope k c') elt (((wipeG Γ (own.map (·.2))).set j (some (f i))).set l (some (g i))) μ (Is (.bl (t i))))
    (hk : Nat.ble (k + 1) C.k = true := by rfl) (hco : scope.isCoroutine = false := by rfl) (hcell : ∀ y ∈ scope.names, y.2 ≠ .cell := by decide +kernel) (hdot : scope.names.lookup (".0" : Str) = some NameKind.local := by rfl)
    (bk : BlkOk C.N C.sc scope own := by first | (dsimp only; exact blkOk_by (by decide +kernel)) | exact blkOk_by (by decide +kernel)) (hx : C.N[j]? = some x := by rfl) (hxl : scope.names.lookup x = some .local := by rfl) (hj : j ∈ own.map (·.2) := by decide) (hy : C.N[l]? = some y := by rfl) (hyl : scope.names.lookup y = some .local := by rfl) (hl : l ∈ own.map (·.2) := by decide)
    (hs : ∀ (X : Cx) (v : Value), genFold iter X.env v = pure v := by intro _ _; rfl) (hst : ∀ X : Cx, starEach [.GeneratorExp elt [⟨.Tuple [.Name x px, .Name y py] kt pt, iter, [], 0⟩] scope gpos] X.env = (false, eval (.GeneratorExp elt [⟨.Tuple [.Name x px, .Name y py] kt pt, iter, [], 0⟩] scope gpos) X.env) :: starEach [] X.env := by intro _; exact star_cons rfl) :
    EE C (.Call (.Name "any" p) [.GeneratorExp elt [⟨.Tuple [.Name x px, .Name y py] kt pt, iter, [], 0⟩] scope gpos] [] pos) Γ μ (Is (.bl (anyN n t))) := fun σ H Q ok q =>
  tex (t := tGx C.base c T m (TIx C (.Tuple [.Name x px, .Name y py] kt pt) iter) (gTup C.K 2 (gCons (gName j) (gCons (gName l) gNil))) (fun c' T' => TEx (C.gen scope k c') elt) (own.map (·.2)) true) (fun X hX => by
    have h := pe_anyG (X := X) (c := c) (P := T) (n := m) (k := k) (elt := elt) (tg := .Tuple [.Name x px, .Name y py] kt pt) (iter := iter) (scope := scope) (p := p) (pos := pos) (gpos := gpos) (own := own) (gt := gTup X.K 2 (gCons (gName j) (gCons (gName l) gNil))) (te := fun c' T' => TEx (C.gen scope k c') elt) (hX.room.mono (Nat.le_of_ble_eq_true hk)) (gl_of hX hgl) (by rw [hX.mg]; exact hm) hX.calm (by rw [hX.N]; exact hX.nd) hco hcell hdot (by rw [hX.N, hX.sc]; exact bk)
      (by rw [hX.code]; exact hcode) (by rw [hX.base, hX.mg]; exact bm) (TIx.pi hX) (hs X) (fun A s H D cd fp => pg_tup (X := gCx X A s H (gEnv X scope D cd) fp) rfl (pgs_cons (tn_name hX hx hxl) (pgs_cons (tn_name hX hy hyl) pgs_nil))) (fun A s H D c' P' fp hr => TEx.pe (hX.gen hr)) (hst X)
    rw [hX.base, hX.K] at h
    exact h)
    (hi σ H _ ok fun J H1 k1 e1 it => by
      have cd := hT _ k1.hd.tb
      refine ⟨?_, (ext_hide _ _).tab _ _ cd.2, fun c' T' H2 ex hc' ht' => ?_⟩
      · rcases cd.1 with z | z
        · exact .inl z
        · exact .inr (of_hide z).1
      · have ls : Lsts (dom μ) H2 := fun l hl => by
          obtain ⟨xs, y⟩ := k1.hd.lsts l hl
          exact ⟨xs, ex.obj l _ y fun ps z => by cases z⟩
        have ev := ext_both ls ex
        have same : ∀ l ∈ dom μ, H2 l = H1 l := fun l hl => by
          obtain ⟨xs, y⟩ := k1.hd.lsts l hl
          rw [y]
          exact ex.obj l _ y fun ps z => by cases z
        have o2 : Ok C.ts Γ μ σ H2 := k1.step (k1.hd.step same ev) ev
        refine gx_turns (C := C) (Cg := C.gen scope k c') (F' := fun _ => True) (μ := μ) (H1 := H1) (n := n) (Pi := fun i => TupF C.K 2 (two (f i) (g i))) (js := [j, l]) (ft := fun i G => (G.set j (some (f i))).set l (some (g i))) (t := t) (fin := true) rfl (fun i hi x σ H Γ μ Q ok px q => ?_) (fun u hu => ?_) (fun _ _ _ _ => True.intro) it o2 ev True.intro (fun i hin => (he i hin c').ef) fun H' k' x' => ?_
        · obtain ⟨u, xs, rfl, h2, h3, h4⟩ := px
          match xs, h3 with
          | [v, w], _ =>
            refine ⟨u, _, rfl, sqt_ext (ext_hide _ _) h2, rfl, v, _, rfl, w, _, rfl, rfl, q _ ((ok.set (h4 0 v rfl)).set (h4 1 w rfl)) (by rw [List.length_set, List.length_set]) fun r hr => ?_⟩
            rw [List.getElem?_set, if_neg (fun z => hr (by rw [z]; simp)), List.getElem?_set, if_neg (fun z => hr (by rw [z]; simp))]
        · rcases List.mem_cons.mp hu with rfl | z
          · exact hj
          · rcases List.mem_cons.mp z with rfl | z
            · exact hl
            · cases z
        · rw [if_pos rfl]
          exact q _ H' k' ((e1.trans ev).trans x') rfl)

/-! ### own functions -/
/-- where a def stands -/
structure FunA (S : Sta) (x : Str) (st : Stmt) (cdv : Value) (f : Addr) : Prop where
  ex : ∃ (oc : Value) (od an : Option Addr) (kV doc pm ct : Value) (osl : Array (Option Value)), S.K.lookup f = some ⟨oc, od, .func (PySem.W.fnOf x x (defArgs st) (defBody st) (defScope st) .none kV doc pm an cdv ct), osl⟩
  cd : PySem.W.codeIn S.K cdv x = true
  kp : PySem.W.keepIn S.K (.ref f) = true
  mg : S.mg x = some (.ref f)
def starts (N : List Str) (Ps : List Rp) : Sl := Ps.map some ++ List.replicate (N.length - Ps.length) none
theorem AllP.start {h : Hp} {N : List Str} {Ps : List Rp} {vs : List V} (q : AllP Ps vs h) : ∀ (i : Nat) P, (starts N Ps)[i]? = some (some P) → ∃ v, (L2.start N vs)[i]? = some (some v) ∧ P.p v h := fun i P hi => by
  unfold starts at hi
  unfold L2.start
  have hl := q.length
  rw [List.getElem?_append] at hi ⊢
  rw [List.length_map] at hi ⊢
  rw [hl]
  split at hi
  · rename_i lt
    rw [if_pos lt]
    rw [List.getElem?_map] at hi ⊢
    obtain ⟨v, hv⟩ := get_lt hl lt
    obtain ⟨P', h1, h2⟩ := q.get i v hv
    rw [h1] at hi
    cases hi
    exact ⟨v, by rw [hv]; rfl, h2⟩
  · rw [List.getElem?_replicate] at hi
    split at hi
    · cases hi
    · cases hi
/-- a def, by types -/
theorem cal_of {S : Sta} {x : Str} {st : Stmt} {cdv : Value} {f : Addr} {N ps : List Str} {k : Nat} {ι : Type} {As : ι → List Rp} {cond : ι → Mu → Prop} {R : ι → Rp} (F : FunA S x st cdv f) (Sc : FnScope N ps (defScope st)) (hN : ps.length ≤ N.length)
    (hb : ∀ (kV doc pm : Value) (an : Option Addr) (ct : Value) (us : List Value), us.length = ps.length → bindArgs (PySem.W.fnOf x x (defArgs st) (defBody st) (defScope st) .none kV doc pm an cdv ct) ⟨us, []⟩ = pure (ps.zip us)) (hl : ∀ y, (As y).length = ps.length)
    (body : ∀ (b : Bs) (y : ι), cond y b.μ → GS { S with N := N, sc := defScope st, k := k, code := cdv, top := true } b (defBody st) (starts N (As y)) b.μ (fun _ _ => Sub (Is .non) (R y)) (R y)) : Cal S (k + 1) x (spOf S As cond R) := by
  obtain ⟨oc, od, an, kV, doc, pm, ct, osl, lk⟩ := F.ex
  refine ⟨f, _, ps, fn_of lk F.cd Sc (fun vs H Q E ⟨y, μ, _, _, q, _⟩ => by rw [q.length, hl]) (fun A outer s H vs Q E hr hsp => ?_), F.mg, F.kp, .all (hb kV doc pm an ct)⟩
  obtain ⟨y, μ, hh, hc, q, fin⟩ := hsp
  have hX : XOk { S with N := N, sc := defScope st, k := k, code := cdv, top := true } (cxOf CX0 S.P S.w S.K S.mg S.base N x (defScope st) f cdv A outer s H E).nox := ⟨rfl, rfl, rfl, rfl, rfl, rfl, rfl, hr, rfl, fun _ _ => rfl, rfl, rfl, Sc.nd⟩
  refine ⟨_, (TSx.pss (sts := defBody st) hX).nox, ?_⟩
  refine body ⟨μ, view μ H⟩ y hc (L2.start N vs) H _ ⟨⟨?_, q.start, hh⟩, Ext.refl _, fun e he => ⟨e.2, he, Imp.refl _⟩, hh.nd⟩ (fun Γ' μ' σ' H' sb k' _ => ?_) (fun v H' fn => fin v H' fn.hd fn.ex fn.r)
  · unfold L2.start starts
    rw [List.length_append, List.length_append, List.length_map, List.length_map, List.length_replicate, List.length_replicate, q.length]
  · have := k'.fin (R := R y) (v := .non) (sb _ _ rfl)
    exact fin .non H' this.hd this.ex this.r
end
end Lay
set_option linter.all false
/-! rationals and their size -/
namespace Rb
/-- one more than the log: |x| < 2 ^ sz x -/
def sz (x : Int) : Nat := x.natAbs.log2 + 1
theorem lt_sz (x : Int) : x.natAbs < 2 ^ sz x := Nat.lt_log2_self
theorem sz_le {x : Int} {n : Nat} (h : x.natAbs < 2 ^ n) (h0 : 0 < n) : sz x ≤ n := by
  unfold sz
  by_cases hx : x.natAbs = 0
  · rw [hx]; show 0 + 1 ≤ n; omega
  · have := (Nat.log2_lt hx).mpr h
    omega
theorem sz_pos (x : Int) : 0 < sz x := Nat.succ_pos _
theorem sz_mul (x y : Int) : sz (x * y) ≤ sz x + sz y := by
  refine sz_le ?_ (by have := sz_pos x; omega)
  rw [Int.natAbs_mul, Nat.pow_add]
  exact Nat.mul_lt_mul_of_lt_of_le (lt_sz x) (Nat.le_of_lt (lt_sz y)) (Nat.two_pow_pos _)
theorem sz_mono {x y : Int} (h : x.natAbs ≤ y.natAbs) : sz x ≤ sz y := sz_le (Nat.lt_of_le_of_lt h (lt_sz y)) (sz_pos y)
theorem sz_add {x y : Int} {n : Nat} (hx : sz x ≤ n) (hy : sz y ≤ n) : sz (x + y) ≤ n + 1 := by
  refine sz_le ?_ (by omega)
  have h1 := Nat.lt_of_lt_of_le (lt_sz x) (Nat.pow_le_pow_right (by decide : 0 < 2) hx)
  have h2 := Nat.lt_of_lt_of_le (lt_sz y) (Nat.pow_le_pow_right (by decide : 0 < 2) hy)
  have := Int.natAbs_add_le x y
  rw [Nat.pow_succ]
  omega
theorem sz_neg (x : Int) : sz (-x) = sz x := by unfold sz; rw [Int.natAbs_neg]
theorem sz_sub {x y : Int} {n : Nat} (hx : sz x ≤ n) (hy : sz y ≤ n) : sz (x - y) ≤ n + 1 := by
  rw [Int.sub_eq_add_neg]
  exact sz_add hx (by rw [sz_neg]; exact hy)
/-- numerator and denominator below 2 ^ n -/
def Bd (n : Nat) (q : Rat) : Prop := sz q.num ≤ n ∧ sz (q.den : Int) ≤ n
theorem Bd.mono {m n : Nat} {q : Rat} (h : Bd m q) (l : m ≤ n) : Bd n q := ⟨Nat.le_trans h.1 l, Nat.le_trans h.2 l⟩
theorem den_pos (q : Rat) : (0 : Int) < q.den := by have := q.den_nz; omega
def gc (t b : Int) : Int := ((Nat.gcd t.natAbs b.natAbs : Nat) : Int)
theorem gc_pos {t b : Int} (hb : 0 < b) : 0 < gc t b := by
  unfold gc
  have := Nat.gcd_pos_of_pos_right t.natAbs (n := b.natAbs) (by omega)
  omega
theorem gc_dvd {t b : Int} : gc t b ∣ t := Int.natAbs_dvd_natAbs.mp (by unfold gc; rw [Int.natAbs_natCast]; exact Nat.gcd_dvd_left _ _)
theorem gc_dvd' {t b : Int} : gc t b ∣ b := Int.natAbs_dvd_natAbs.mp (by unfold gc; rw [Int.natAbs_natCast]; exact Nat.gcd_dvd_right _ _)
/-- t / b in lowest terms -/
theorem div_num {t b : Int} (hb : 0 < b) : (Rat.divInt t b).num = t / gc t b := by
  rw [Rat.num_divInt, Int.sign_eq_one_of_pos hb, Int.one_mul]
  unfold gc
  rw [Nat.gcd_comm]
  rfl
theorem div_den {t b : Int} (hb : 0 < b) : ((Rat.divInt t b).den : Int) = b / gc t b := by
  rw [Rat.den_divInt, if_neg (by omega)]
  unfold gc
  rw [Nat.gcd_comm, Int.natCast_ediv]
  have : ((b.natAbs : Nat) : Int) = b := by omega
  rw [this]
  rfl
theorem num_den (q : Rat) : Rat.divInt q.num q.den = q := Rat.num_divInt_den q
theorem add_div (x y : Rat) : x + y = Rat.divInt (x.num * y.den + y.num * x.den) (x.den * y.den) := by
  have := Rat.divInt_add_divInt x.num y.num (Int.ne_of_gt (den_pos x)) (Int.ne_of_gt (den_pos y))
  rw [num_den, num_den] at this
  exact this
theorem sub_div (x y : Rat) : x - y = Rat.divInt (x.num * y.den - y.num * x.den) (x.den * y.den) := by
  have := Rat.divInt_sub_divInt x.num y.num (Int.ne_of_gt (den_pos x)) (Int.ne_of_gt (den_pos y))
  rw [num_den, num_den] at this
  exact this
theorem mul_div (x y : Rat) : x * y = Rat.divInt (x.num * y.num) (x.den * y.den) := by
  have := Rat.divInt_mul_divInt x.num y.num (d₁ := (x.den : Int)) (d₂ := (y.den : Int))
  rw [num_den, num_den] at this
  exact this
theorem den_mul_pos (x y : Rat) : (0 : Int) < x.den * y.den := Int.mul_pos (den_pos x) (den_pos y)
theorem div_le {t g : Int} (hg : 0 < g) : (t / g).natAbs ≤ t.natAbs := by
  rcases Int.lt_or_le t 0 with h | h
  · have h1 : t ≤ t / g := by
      rw [Int.le_ediv_iff_mul_le hg]
      have : t * g ≤ t * 1 := Int.mul_le_mul_of_nonpos_left (by omega) (by omega)
      omega
    have h2 : t / g < 0 := Int.ediv_neg_of_neg_of_pos h hg
    omega
  · have h1 : t / g ≤ t := Int.ediv_le_self g h
    have h2 : 0 ≤ t / g := Int.ediv_nonneg h (by omega)
    omega
theorem bd_div {t b : Int} {n : Nat} (hb : 0 < b) (h1 : sz t ≤ n) (h2 : sz b ≤ n) : Bd n (Rat.divInt t b) := by
  have g := gc_pos (t := t) hb
  refine ⟨?_, ?_⟩
  · rw [div_num hb]; exact Nat.le_trans (sz_mono (div_le g)) h1
  · rw [div_den hb]; exact Nat.le_trans (sz_mono (div_le g)) h2
theorem sz_cross {m n : Nat} {x y : Rat} (hx : Bd m x) (hy : Bd n y) : sz (x.num * y.den) ≤ m + n := Nat.le_trans (sz_mul _ _) (Nat.add_le_add hx.1 hy.2)
theorem sz_nums {m n : Nat} {x y : Rat} (hx : Bd m x) (hy : Bd n y) : sz (x.num * y.num) ≤ m + n := Nat.le_trans (sz_mul _ _) (Nat.add_le_add hx.1 hy.1)
theorem sz_dens {m n : Nat} {x y : Rat} (hx : Bd m x) (hy : Bd n y) : sz ((x.den : Int) * y.den) ≤ m + n := Nat.le_trans (sz_mul _ _) (Nat.add_le_add hx.2 hy.2)
theorem bd_add {m n : Nat} {x y : Rat} (hx : Bd m x) (hy : Bd n y) : Bd (m + n + 1) (x + y) := by
  rw [add_div]
  refine bd_div (den_mul_pos x y) (sz_add (sz_cross hx hy) ?_) (Nat.le_succ_of_le (sz_dens hx hy))
  have := sz_cross hy hx
  omega
theorem bd_sub {m n : Nat} {x y : Rat} (hx : Bd m x) (hy : Bd n y) : Bd (m + n + 1) (x - y) := by
  rw [sub_div]
  refine bd_div (den_mul_pos x y) (sz_sub (sz_cross hx hy) ?_) (Nat.le_succ_of_le (sz_dens hx hy))
  have := sz_cross hy hx
  omega
theorem bd_mul {m n : Nat} {x y : Rat} (hx : Bd m x) (hy : Bd n y) : Bd (m + n) (x * y) := by
  rw [mul_div]
  exact bd_div (den_mul_pos x y) (sz_nums hx hy) (sz_dens hx hy)
theorem ofInt_num (i : Int) : (i : Rat).num = i := Rat.num_intCast i
theorem ofInt_den (i : Int) : (i : Rat).den = 1 := Rat.den_intCast i
theorem bd_int {i : Int} {n : Nat} (h : sz i ≤ n) : Bd n (i : Rat) := ⟨by rw [ofInt_num]; exact h, by rw [ofInt_den]; exact Nat.le_trans (show sz (1 : Int) ≤ sz i by unfold sz; show 0 + 1 ≤ _; omega) h⟩
theorem sz_small {i : Int} {n : Nat} (h : -(2 ^ n : Nat) < i ∧ i < (2 ^ n : Nat)) (h0 : 0 < n) : sz i ≤ n := sz_le (by omega) h0
theorem lt_iff (x y : Rat) : (x < y) ↔ x.num * y.den < y.num * x.den := Rat.lt_iff x y
/-- a pair of ints that is a rational in lowest terms -/
theorem of_pair {n d : Int} (hd : 0 < d) (hg : gc n d = 1) : (Rat.divInt n d).num = n ∧ ((Rat.divInt n d).den : Int) = d := by
  rw [div_num hd, div_den hd, hg, Int.ediv_one, Int.ediv_one]
  exact ⟨rfl, rfl⟩
theorem ratio_same {n d : Int} (hd : 0 < d) : (n / gc n d = n ∧ d / gc n d = d) ↔ gc n d = 1 := by
  refine ⟨fun ⟨_, h⟩ => ?_, fun h => by rw [h, Int.ediv_one, Int.ediv_one]; exact ⟨rfl, rfl⟩⟩
  have g := gc_pos (t := n) hd
  have := Int.ediv_mul_cancel (gc_dvd' (t := n) (b := d))
  rw [h] at this
  have h3 : d * gc n d = d * 1 := by omega
  exact Int.eq_of_mul_eq_mul_left (by omega) h3
theorem gc_num_den (q : Rat) : gc q.num q.den = 1 := by
  unfold gc
  have := q.reduced
  unfold Nat.Coprime at this
  have h : ((q.den : Int)).natAbs = q.den := by omega
  rw [h, this]
  rfl
end Rb
set_option linter.all false
/-! the model and what the program computes, in plain Lean -/
namespace K74
open Rb
open Lay (sumF allN anyN)
def sumQ : Nat → (Nat → Rat) → Rat
  | 0, _ => 0
  | n + 1, f => sumQ n f + f n
def mx (x y : Rat) : Rat := if x < y then y else x
structure Md where
  n : Nat
  Y : Nat
  st : Nat → Nat → Nat → Int
  mv : Nat → Nat → Nat → Int
  sg : Nat → Nat → Int
structure Good (M : Md) : Prop where
  n : 1 ≤ M.n ∧ M.n ≤ 2
  Y : 1 ≤ M.Y ∧ M.Y ≤ 2
  st : ∀ y j k, 0 ≤ M.st y j k ∧ M.st y j k ≤ 20
  mv : ∀ y j k, -1000 ≤ M.mv y j k ∧ M.mv y j k ≤ 1000
  sg : ∀ y j, -1000 ≤ M.sg y j ∧ M.sg y j ≤ 1000
  pos : ∀ y j, y < M.Y → j < M.n → 0 < sumF M.n (M.st y j)
def Off (o : Nat → Nat → Int) : Prop := ∀ y j, -1000 ≤ o y j ∧ o y j ≤ 1000
structure Rate (r : Rat) : Prop where
  num : -1000 ≤ r.num ∧ r.num ≤ 1000
  den : (r.den : Int) ≤ 1000
  low : -(r.den : Int) < r.num
def ch (M : Md) (y j k : Nat) : Rat := Rat.divInt (M.st y j k) (sumF M.n (M.st y j))
def dc (r : Rat) : Rat := (r + 1)⁻¹
def here (M : Md) (later : Nat → Rat) (y j : Nat) : Rat := sumQ M.n fun k => ch M y j k * ((M.mv y j k : Rat) + later k)
def stay (M : Md) (r : Rat) (later : Nat → Rat) (y j : Nat) : Rat := (M.sg y j : Rat) + dc r * here M later y j
/-- the best, t years from the end -/
def best (M : Md) (r : Rat) (o : Nat → Nat → Int) : Nat → Nat → Rat
  | 0, j => mx (o M.Y j) (M.sg M.Y j)
  | t + 1, j => mx (o (M.Y - (t + 1)) j) (stay M r (best M r o t) (M.Y - (t + 1)) j)
def cor (M : Md) (r : Rat) (o : Nat → Nat → Int) (y j k : Nat) : Rat := ((M.mv y j k : Rat) + best M r o (M.Y - (y + 1)) k) - here M (best M r o (M.Y - (y + 1))) y j
def gk (M : Md) (r : Rat) (o : Nat → Nat → Int) (v : Nat → Nat → Nat → Rat) (found : Nat → Rat) (y j : Nat) : Nat → Rat
  | 0 => (o y j : Rat)
  | k + 1 => if 0 < M.st y j k then mx (gk M r o v found y j k) ((M.sg y j : Rat) + dc r * (((M.mv y j k : Rat) + found k) - v y j k)) else gk M r o v found y j k
def great (M : Md) (r : Rat) (o : Nat → Nat → Int) (v : Nat → Nat → Nat → Rat) : Nat → Nat → Rat
  | 0, j => mx (o M.Y j) (M.sg M.Y j)
  | t + 1, j => gk M r o v (great M r o v t) (M.Y - (t + 1)) j M.n
/-! ### any value -/
inductive At where
  | i (z : Int)
  | b (k : Bool)
instance : Inhabited At := ⟨.i 0⟩
abbrev D1 := Option (List At)
abbrev D2 := Option (List D1)
abbrev D3 := Option (List D2)
abbrev D4 := Option (List D3)
def isR : D1 → Option Rat
  | some [.i n, .i d] => if 0 < d ∧ gc n d = 1 then some (Rat.divInt n d) else none
  | _ => none
def valR (d : D1) : Rat := (isR d).getD 0
def el {β : Type} (d : Option (List (Option β))) (i : Nat) : Option β := (d.getD []).getD i none
def lenIs {β : Type} (d : Option (List β)) (n : Nat) : Bool := match d with
  | some l => decide (l.length = n)
  | none => false
def rowOK (M : Md) (y j : Nat) (d : D2) : Bool := lenIs d M.n && (allN M.n (fun k => (isR (el d k)).isSome) && decide (sumQ M.n (fun k => ch M y j k * valR (el d k)) = 0))
def yearOK (M : Md) (y : Nat) (d : D3) : Bool := lenIs d M.n && allN M.n fun j => rowOK M y j (el d j)
def areC (M : Md) (d : D4) : Bool := lenIs d M.Y && allN M.Y fun y => yearOK M y (el d y)
def vOf (d : D4) (y j k : Nat) : Rat := valR (el (el (el d y) j) k)
def shows (M : Md) (r : Rat) (o : Nat → Nat → Int) (d : D4) : Bool := areC M d && !(anyN M.n fun j => decide (best M r o M.Y j < great M r o (vOf d) M.Y j))
/-! ### the law's side -/
/-- what follows the path p, t years long, of the chance q -/
def nexts (M : Md) (t : Nat) (p : List Nat × Rat) (m : Nat) : List (List Nat × Rat) := ((List.range m).filter fun k => decide (0 < M.st t (p.1.getD t 0) k)).map fun k => (p.1 ++ [k], p.2 * ch M t (p.1.getD t 0) k)
def pathsL (M : Md) (start : Nat) : Nat → List (List Nat × Rat)
  | 0 => [([start], 1)]
  | t + 1 => (pathsL M start t).flatMap fun p => nexts M t p M.n
def dpow (r : Rat) : Nat → Rat
  | 0 => 1
  | t + 1 => dpow r t * dc r
def lost (r : Rat) (v : Nat → Nat → Nat → Rat) (p : List Nat) : Nat → Rat
  | 0 => 0
  | t + 1 => lost r v p t + dpow r (t + 1) * v t (p.getD t 0) (p.getD (t + 1) 0)
/-- paid ahead of time t -/
def paidT (M : Md) (r : Rat) (p : List Nat) : Nat → Rat
  | 0 => 0
  | t + 1 => (paidT M r p t + dpow r t * (M.sg t (p.getD t 0) : Rat)) + (if t < M.Y then dpow r (t + 1) * (M.mv t (p.getD t 0) (p.getD (t + 1) 0) : Rat) else 0)
def paid (M : Md) (r : Rat) (o : Nat → Nat → Int) (p : List Nat) : Option Nat → Rat
  | some s => paidT M r p s + dpow r s * (o s (p.getD s 0) : Rat)
  | none => paidT M r p (M.Y + 1)
def stops (Y : Nat) : List (Option Nat) := (List.range (Y + 1)).map some ++ [none]
def bad (M : Md) (r : Rat) (o : Nat → Nat → Int) (v : Nat → Nat → Nat → Rat) (j : Nat) (p : List Nat) (s : Option Nat) : Bool := decide (best M r o M.Y j < paid M r o p s + -(lost r v p (s.getD M.Y)))
def lawSays (M : Md) (r : Rat) (o : Nat → Nat → Int) (d : D4) : Bool := areC M d && allN M.n fun j => (pathsL M j M.Y).all fun p => (stops M.Y).all fun s => !bad M r o (vOf d) j p.1 s
end K74
set_option Elab.async false
set_option linter.all false
set_option maxRecDepth 100000
set_option maxHeartbeats 4000000

namespace K74
open PySem PySem.Spec PyProof.Rows L2 Gx Lay Rb
def topS (i : Nat) : Stmt := PySem.Challenge.pw_actuarium_k74_whole_corrections_judged.main.body.getD i (.Pass ⟨0, 0, 0, 0⟩)
abbrev RatP (K : PySem.W.Frag) (q : Rat) : Rp := TupF K 2 (two (Is (.int q.num)) (Is (.int (q.den : Int))))
/-- the built-in names that no module writes; the constants -/
structure Bl (S : Sta) : Prop where
  range : S.mg ("range" : Str) = none
  len : S.mg ("len" : Str) = none
  zip : S.mg ("zip" : Str) = none
  enumerate : S.mg ("enumerate" : Str) = none
  sum : S.mg ("sum" : Str) = none
  any : S.mg ("any" : Str) = none
  all : S.mg ("all" : Str) = none
  abs : S.mg ("abs" : Str) = none
  int : S.mg ("int" : Str) = none
  bool : S.mg ("bool" : Str) = none
  tuple : S.mg ("tuple" : Str) = none
  list : S.mg ("list" : Str) = none
  isinstance : S.mg ("isinstance" : Str) = none
  gcd : S.mg ("gcd" : Str) = some (.builtin "math.gcd")
  rate : ∃ t, S.mg ("MOST_RATE" : Str) = some (.int 1000 t)
  years : ∃ t, S.mg ("MOST_YEARS" : Str) = some (.int 8 t)
  states : ∃ t, S.mg ("MOST_STATES" : Str) = some (.int 4 t)
  weight : ∃ t, S.mg ("MOST_WEIGHT" : Str) = some (.int 20 t)
  paid : ∃ t, S.mg ("MOST_PAID" : Str) = some (.int 1000 t)
section
variable {C : Lay.Ctx} {a b e : Expr} {Γ : Sl} {μ : Mu} {pos : Pos} {i j : Int}
theorem e_mulS (ha : EE C a Γ μ (Is (.int i))) (hb : EE C b Γ μ (Is (.int j))) (hc : sz i + sz j ≤ 900000) : EE C (.BinOp a .Mult b pos) Γ μ (Is (.int (i * j))) := e_mul ha hb (by unfold CMulW; unfold sz at hc; omega)
theorem e_fdivS (ha : EE C a Γ μ (Is (.int i))) (hb : EE C b Γ μ (Is (.int j))) (hc : 0 < j ∧ sz j ≤ 9000) : EE C (.BinOp a .FloorDiv b pos) Γ μ (Is (.int (i / j))) := e_fdiv ha hb ⟨hc.1, by have := hc.2; unfold sz at this; omega⟩
theorem e_globI {x : Str} {k : Int} (hg : GlS C x) (hm : ∃ t, C.mg x = some (.int k t)) (hd : (x == ("__debug__" : Str)) = false := by decide) : EE C (.Name x pos) Γ μ (Is (.int k)) := by
  obtain ⟨t, h⟩ := hm
  exact e_glob hg h ⟨t, rfl⟩ hd
end
section
variable {C : Lay.Ctx} {bs : Bs} {a b c e : Expr} {es rest' : List Expr} {rest sts : List Stmt} {Γ : Sl} {μ : Mu} {pos p : Pos} {i j : Int} {A P R : Rp} {N : Nx} {k : Bool}
/-- checks that pass -/
theorem w_orF1 (h : ET C a Γ μ false) : EW C (.BoolOp .Or [a] pos) Γ μ false := w_or1 h
theorem w_orF (h : ET C a Γ μ false) (h2 : EW C (.BoolOp .Or (b :: rest') pos) Γ μ false) : EW C (.BoolOp .Or (a :: b :: rest') pos) Γ μ false := w_or (l := false) h fun _ => h2
theorem t_notT (h : ET C a Γ μ true) : ET C (.UnaryOp .Not a pos) Γ μ false := t_not h
theorem c_neF (ha : EE C a Γ μ (Is (.int i))) (hb : EE C b Γ μ (Is (.int j))) (h : i = j) : CM C .NotEq a b Γ μ false := (c_ne ha hb).is (by simp [h])
theorem gs_pass {sa : List Stmt} (h : ET C c Γ μ false) (k : GS C bs rest Γ μ N R) : GS C bs (.If c sa [] pos :: rest) Γ μ N R := gs_out (k := false) h (fun h => by cases h) fun _ => k
theorem gs_expr (he : EE C e Γ μ P) (k : GS C bs rest Γ μ N R) (hs : ∀ X : Cx, swapsWith e none pos.line X.env = pure false := by intro _; rfl) : GS C bs (.Expr e pos :: rest) Γ μ N R := fun σ H D kk n r =>
  tsc (fun X hX => ps_expr (TEx.pe hX) (hs X)) (he σ H _ kk.ok fun v H1 k1 e1 _ => k σ H1 D (kk.step k1 e1) (up n e1) r)
theorem i_rangeN {tg : Expr} {n : Nat} (ha : EE C a Γ μ (Is (.int (n : Int)))) (hj : n < 1000000) (hg : GlS C "range") (hm : C.mg ("range" : Str) = none)
    (hs : ∀ X : Cx, starEach [a] X.env = [(false, eval a X.env)] := by intro _; exact star_one rfl) (hs2 : ∀ X : Cx, starEach [a] X.env = (false, eval a X.env) :: starEach [] X.env := by intro _; exact star_cons rfl) :
    EI C tg (.Call (.Name "range" p) [a] [] pos) Γ μ n (fun i => Is (.int (i : Int))) := by
  have h := i_range1 (tg := tg) (p := p) (pos := pos) ha (by omega) hg hm hs hs2
  rw [Int.toNat_natCast] at h
  exact h
/-- range(n - 1, -1, -1) -/
theorem i_down {tg d l : Expr} {n : Nat} (ha : EE C a Γ μ (Is (.int ((n : Int) - 1)))) (hc : EE C l Γ μ (Is (.int (-1)))) (hd : EE C d Γ μ (Is (.int (-1)))) (hj : n < 1000000) (hg : GlS C "range") (hm : C.mg ("range" : Str) = none)
    (hs : ∀ X : Cx, starEach [a, l, d] X.env = (false, eval a X.env) :: starEach [l, d] X.env := by intro _; exact star_cons rfl) (hs2 : ∀ X : Cx, starEach [l, d] X.env = (false, eval l X.env) :: starEach [d] X.env := by intro _; exact star_cons rfl)
    (hs3 : ∀ X : Cx, starEach [d] X.env = (false, eval d X.env) :: starEach [] X.env := by intro _; exact star_cons rfl) (hpl : ∀ X : Cx, (backTo pos (starEach [l, d] X.env)).any (·.1) = false := by intro _; rfl) :
    EI C tg (.Call (.Name "range" p) [a, l, d] [] pos) Γ μ n (fun i => Is (.int ((n - (i + 1) : Nat) : Int))) := by
  have h := i_range3 (tg := tg) (p := p) (pos := pos) ha hc hd (by omega) (by omega) hg hm hs hs2 hs3 hpl
  rw [show ((n : Int) - 1 - -1).toNat = n by omega] at h
  exact h.sub fun i hi v h z => z.trans (by rw [show ((n - (i + 1) : Nat) : Int) = (n : Int) - 1 - i by omega])
theorem allN_true (n : Nat) : allN n (fun _ => true) = true := List.all_eq_true.mpr fun _ _ => rfl
end
theorem ratP_eq {K : PySem.W.Frag} {q q' : Rat} (h : q = q') : Sub (RatP K q) (RatP K q') := by rw [h]; exact Sub.refl _
/-- (i, 1) -/
theorem int_ratP {K : PySem.W.Frag} {i : Int} : Sub (TupF K 2 (two (Is (.int i)) (Is (.int 1)))) (RatP K (i : Rat)) := Tz.els fun l hl => by
  match l, hl with
  | 0, _ => exact fun v h z => z.trans (by rw [ofInt_num])
  | 1, _ => exact fun v h z => z.trans (by rw [ofInt_den]; rfl)
theorem pair_ratP {K : PySem.W.Frag} {i j : Int} {q : Rat} (h1 : q.num = i) (h2 : (q.den : Int) = j) : Sub (TupF K 2 (two (Is (.int i)) (Is (.int j)))) (RatP K q) := by
  rw [← h1, ← h2]; exact Sub.refl _
/-- of ints as predicates -/
abbrev II (f : Nat → Int) : Nat → Rp := fun i => Is (.int (f i))
abbrev T1 (K : PySem.W.Frag) (n : Nat) (f : Nat → Int) : Rp := TupF K n (II f)
abbrev T2 (K : PySem.W.Frag) (m n : Nat) (f : Nat → Nat → Int) : Rp := TupF K m fun i => T1 K n (f i)
abbrev T3 (K : PySem.W.Frag) (l m n : Nat) (f : Nat → Nat → Nat → Int) : Rp := TupF K l fun i => T2 K m n (f i)
abbrev MdP (K : PySem.W.Frag) (M : Md) : Rp := TupF K 2 (two (T3 K M.Y M.n M.n M.st) (TupF K 2 (two (T2 K (M.Y + 1) M.n M.sg) (T3 K M.Y M.n M.n M.mv))))
abbrev OfP (K : PySem.W.Frag) (M : Md) (o : Nat → Nat → Int) : Rp := T2 K (M.Y + 1) M.n o
abbrev LR (K : PySem.W.Frag) (n : Nat) (f : Nat → Rat) : Rp := LstF K n fun i => RatP K (f i)
abbrev TR (K : PySem.W.Frag) (n : Nat) (f : Nat → Rat) : Rp := TupF K n fun i => RatP K (f i)

/-! ### promises -/
abbrev spRatio (S : Sta) : Sp := spOf S (ι := Int × Int) (fun y => [Is (.int y.1), Is (.int y.2)]) (fun y _ => 0 < y.2 ∧ sz y.2 ≤ 9000) (fun y => RatP S.K (Rat.divInt y.1 y.2))
abbrev sp2 (S : Sta) (f : Rat → Rat → Rat) : Sp := spOf S (ι := Rat × Rat) (fun y => [RatP S.K y.1, RatP S.K y.2]) (fun y _ => Bd 4000 y.1 ∧ Bd 4000 y.2) (fun y => RatP S.K (f y.1 y.2))
abbrev spLess (S : Sta) : Sp := spOf S (ι := Rat × Rat) (fun y => [RatP S.K y.1, RatP S.K y.2]) (fun y _ => Bd 4000 y.1 ∧ Bd 4000 y.2) (fun y => Is (.bl (decide (y.1 < y.2))))
abbrev spTotal (S : Sta) : Sp := spOf S (ι := Nat × (Nat → Rat)) (fun y => [LR S.K y.1 y.2]) (fun y _ => y.1 ≤ 2 ∧ ∀ i, i < y.1 → Bd 1300 (y.2 i)) (fun y => RatP S.K (sumQ y.1 y.2))
abbrev spPower (S : Sta) : Sp := spOf S (ι := Rat) (fun y => [RatP S.K y, Is (.int (-1))]) (fun y _ => 0 < y ∧ Bd 4000 y) (fun y => RatP S.K (y⁻¹))
abbrev spGrowth (S : Sta) : Sp := spOf S (ι := Rat) (fun y => [RatP S.K y]) (fun y _ => Bd 4000 y) (fun y => RatP S.K (y + 1))
abbrev spIsIn (S : Sta) : Sp := spOf S (ι := Int × Int × Int) (fun y => [Is (.int y.1), Is (.int y.2.1), Is (.int y.2.2)]) (fun _ _ => True) (fun y => Is (.bl (decide (y.2.1 ≤ y.1) && decide (y.1 ≤ y.2.2))))
end K74
namespace K74
open PySem PySem.Spec PyProof.Rows L2 Gx Lay Rb
/-- any value: of a type that is no tuple, or a tuple of such -/
def DP (K : PySem.W.Frag) {α : Type} [Inhabited α] (P : α → Rp) : Option (List α) → Rp
  | none => NoTup K
  | some l => TupF K l.length fun i => P (l.getD i default)
def AtP : At → Rp
  | .i z => Is (.int z)
  | .b k => Is (.bl k)
abbrev DP1 (K : PySem.W.Frag) : D1 → Rp := DP K AtP
abbrev DP2 (K : PySem.W.Frag) : D2 → Rp := DP K (DP1 K)
abbrev DP3 (K : PySem.W.Frag) : D3 → Rp := DP K (DP2 K)
abbrev DP4 (K : PySem.W.Frag) : D4 → Rp := DP K (DP3 K)
/-- a def's code object and its table -/
structure Gn (S : Sta) (c T : Addr) : Prop where
  bm : BM S.base S.mg
  hd : PySem.W.CodeHd S.base c T
  mem : T ∈ S.ts
theorem Gn.cdt {C : Lay.Ctx} {c T : Addr} (g : Gn C.toSta c T) : ∀ h, (∀ P ∈ C.ts, Tb 2 h P) → CdT C c T 1 h := fun h a => ⟨.inl g.hd, a T g.mem⟩
abbrev spGreater (S : Sta) : Sp := spOf S (ι := Rat × Rat) (fun y => [RatP S.K y.1, RatP S.K y.2]) (fun y _ => Bd 4000 y.1 ∧ Bd 4000 y.2) (fun y => RatP S.K (mx y.1 y.2))
abbrev spChance (S : Sta) : Sp := spOf S (ι := Md × Nat × Nat × Nat) (fun y => [MdP S.K y.1, Is (.int (y.2.1 : Int)), Is (.int (y.2.2.1 : Int)), Is (.int (y.2.2.2 : Int))]) (fun y _ => Good y.1 ∧ y.2.1 < y.1.Y ∧ y.2.2.1 < y.1.n ∧ y.2.2.2 < y.1.n) (fun y => RatP S.K (ch y.1 y.2.1 y.2.2.1 y.2.2.2))
abbrev spSquare (S : Sta) : Sp := spOf S (ι := Nat × (Nat → Nat → Int) × Int × Int) (fun y => [T2 S.K y.1 y.1 y.2.1, Is (.int (y.1 : Int)), Is (.int y.2.2.1), Is (.int y.2.2.2)]) (fun y _ => ∀ i j, y.2.2.1 ≤ y.2.1 i j ∧ y.2.1 i j ≤ y.2.2.2) (fun _ => Is (.bl true))
abbrev spRows (S : Sta) : Sp := spOf S (ι := Nat × Nat × (Nat → Nat → Int)) (fun y => [T2 S.K y.1 y.2.1 y.2.2, Is (.int (y.1 : Int)), Is (.int (y.2.1 : Int))]) (fun y _ => ∀ i j, -1000 ≤ y.2.2 i j ∧ y.2.2 i j ≤ 1000) (fun _ => Is (.bl true))
abbrev spSteps (S : Sta) : Sp := spOf S (ι := Md) (fun M => [T3 S.K M.Y M.n M.n M.st]) (fun M _ => Good M) (fun _ => Is (.bl true))
abbrev spNeedModel (S : Sta) : Sp := spOf S (ι := Md) (fun M => [MdP S.K M]) (fun M _ => Good M) (fun _ => Is .non)
abbrev spNeedRate (S : Sta) : Sp := spOf S (ι := Rat) (fun r => [RatP S.K r]) (fun r _ => Rate r) (fun _ => Is .non)
abbrev spNeedOffers (S : Sta) : Sp := spOf S (ι := Md × Rat × (Nat → Nat → Int)) (fun y => [MdP S.K y.1, RatP S.K y.2.1, OfP S.K y.1 y.2.2]) (fun y _ => Good y.1 ∧ Rate y.2.1 ∧ Off y.2.2) (fun _ => Is .non)
abbrev spIsRatio (S : Sta) : Sp := spOf S (ι := D1) (fun d => [DP1 S.K d]) (fun _ _ => True) (fun d => Is (.bl (isR d).isSome))
end K74
set_option Elab.async false
set_option linter.all false
set_option maxRecDepth 100000
set_option maxHeartbeats 4000000

namespace K74
open PySem PySem.Spec PyProof.Rows L2 Gx Lay Rb
variable {S : Sta} {cdv : Value} {f : Addr}
abbrev s_ratio : Stmt := topS 7
theorem sc_ratio : FnScope ["top", "bottom", "common"] ["top", "bottom"] (defScope s_ratio) := ⟨rfl, rfl, rfl, by decide +kernel, rfl, by decide +kernel, by decide +kernel⟩
theorem m_ratio (F : FunA S "ratio" s_ratio cdv f) (B : Bl S) : Cal S 1 "ratio" (spRatio S) := by
  refine cal_of F sc_ratio (by decide) (fun kV doc pm an ct us hl => by match us, hl with | [_, _], _ => rfl) (fun _ => rfl) ?_
  rintro b ⟨t, d⟩ ⟨h1, h2⟩
  dsimp only at h1 h2
  have g0 := gc_pos (t := t) h1
  have gb : 0 < gc t d ∧ sz (gc t d) ≤ 9000 := ⟨g0, Nat.le_trans (sz_mono (x := gc t d) (y := d) (by have := Int.le_of_dvd h1 (gc_dvd' (t := t)); omega)) h2⟩
  refine gs_set (i := 2) (P := Is (.int (gc t d))) (e_if (t_cmp (c_gt (e_var (i := 1)) e_int)) (fun _ => e_gcd rfl B.gcd (e_var (i := 0)) (e_var (i := 1))) (fun h => absurd h1 (by simpa using h))) ?_
  refine gs_ret ((e_tup2 (e_fdivS (e_var (i := 0)) (e_var (i := 2)) gb) (e_fdivS (e_var (i := 1)) (e_var (i := 2)) gb)).sub (pair_ratP (div_num h1) (div_den h1)))
abbrev s_plus : Stmt := topS 8
theorem sc_plus : FnScope ["one", "other"] ["one", "other"] (defScope s_plus) := ⟨rfl, rfl, rfl, by decide +kernel, rfl, by decide +kernel, by decide +kernel⟩
theorem m_plus (F : FunA S "plus" s_plus cdv f) (c_ratio : Cal S 1 "ratio" (spRatio S)) : Cal S 2 "plus" (sp2 S fun x y => x + y) := by
  refine cal_of F sc_plus (by decide) (fun kV doc pm an ct us hl => by match us, hl with | [_, _], _ => rfl) (fun _ => rfl) ?_
  rintro b ⟨x, y⟩ ⟨⟨h1, h2⟩, h3, h4⟩
  dsimp only at h1 h2 h3 h4
  refine gs_ret ?_
  refine EE.sub (e_call c_ratio (_, _) (a_cons (e_add (e_mulS (e_ixT (e_var (i := 0)) e_int (by omega)) (e_ixT (e_var (i := 1)) e_int (by omega)) ?a1) (e_mulS (e_ixT (e_var (i := 1)) e_int (by omega)) (e_ixT (e_var (i := 0)) e_int (by omega)) ?a2)) (a_cons (e_mulS (e_ixT (e_var (i := 0)) e_int (by omega)) (e_ixT (e_var (i := 1)) e_int (by omega)) ?a3) a_nil)) ?a4 rfl) ?a5
  case a1 => show sz x.num + sz (y.den : Int) ≤ _; omega
  case a2 => show sz y.num + sz (x.den : Int) ≤ _; omega
  case a3 => show sz (x.den : Int) + sz (y.den : Int) ≤ _; omega
  case a4 => exact ⟨den_mul_pos x y, Nat.le_trans (sz_mul _ _) (by show sz (x.den : Int) + sz (y.den : Int) ≤ _; omega)⟩
  case a5 => exact ratP_eq (add_div x y).symm
abbrev s_minus : Stmt := topS 9
theorem sc_minus : FnScope ["one", "other"] ["one", "other"] (defScope s_minus) := ⟨rfl, rfl, rfl, by decide +kernel, rfl, by decide +kernel, by decide +kernel⟩
theorem m_minus (F : FunA S "minus" s_minus cdv f) (c_ratio : Cal S 1 "ratio" (spRatio S)) : Cal S 2 "minus" (sp2 S fun x y => x - y) := by
  refine cal_of F sc_minus (by decide) (fun kV doc pm an ct us hl => by match us, hl with | [_, _], _ => rfl) (fun _ => rfl) ?_
  rintro b ⟨x, y⟩ ⟨⟨h1, h2⟩, h3, h4⟩
  dsimp only at h1 h2 h3 h4
  refine gs_ret ?_
  refine EE.sub (e_call c_ratio (_, _) (a_cons (e_sub (e_mulS (e_ixT (e_var (i := 0)) e_int (by omega)) (e_ixT (e_var (i := 1)) e_int (by omega)) ?a1) (e_mulS (e_ixT (e_var (i := 1)) e_int (by omega)) (e_ixT (e_var (i := 0)) e_int (by omega)) ?a2)) (a_cons (e_mulS (e_ixT (e_var (i := 0)) e_int (by omega)) (e_ixT (e_var (i := 1)) e_int (by omega)) ?a3) a_nil)) ?a4 rfl) ?a5
  case a1 => show sz x.num + sz (y.den : Int) ≤ _; omega
  case a2 => show sz y.num + sz (x.den : Int) ≤ _; omega
  case a3 => show sz (x.den : Int) + sz (y.den : Int) ≤ _; omega
  case a4 => exact ⟨den_mul_pos x y, Nat.le_trans (sz_mul _ _) (by show sz (x.den : Int) + sz (y.den : Int) ≤ _; omega)⟩
  case a5 => exact ratP_eq (sub_div x y).symm
abbrev s_by : Stmt := topS 10
theorem sc_by : FnScope ["one", "other"] ["one", "other"] (defScope s_by) := ⟨rfl, rfl, rfl, by decide +kernel, rfl, by decide +kernel, by decide +kernel⟩
theorem m_by (F : FunA S "by" s_by cdv f) (c_ratio : Cal S 1 "ratio" (spRatio S)) : Cal S 2 "by" (sp2 S fun x y => x * y) := by
  refine cal_of F sc_by (by decide) (fun kV doc pm an ct us hl => by match us, hl with | [_, _], _ => rfl) (fun _ => rfl) ?_
  rintro b ⟨x, y⟩ ⟨⟨h1, h2⟩, h3, h4⟩
  dsimp only at h1 h2 h3 h4
  refine gs_ret ?_
  refine EE.sub (e_call c_ratio (_, _) (a_cons (e_mulS (e_ixT (e_var (i := 0)) e_int (by omega)) (e_ixT (e_var (i := 1)) e_int (by omega)) ?a1) (a_cons (e_mulS (e_ixT (e_var (i := 0)) e_int (by omega)) (e_ixT (e_var (i := 1)) e_int (by omega)) ?a3) a_nil)) ?a4 rfl) ?a5
  case a1 => show sz x.num + sz y.num ≤ _; omega
  case a3 => show sz (x.den : Int) + sz (y.den : Int) ≤ _; omega
  case a4 => exact ⟨den_mul_pos x y, Nat.le_trans (sz_mul _ _) (by show sz (x.den : Int) + sz (y.den : Int) ≤ _; omega)⟩
  case a5 => exact ratP_eq (mul_div x y).symm
abbrev s_less : Stmt := topS 11
theorem sc_less : FnScope ["one", "other"] ["one", "other"] (defScope s_less) := ⟨rfl, rfl, rfl, by decide +kernel, rfl, by decide +kernel, by decide +kernel⟩
theorem m_less (F : FunA S "less" s_less cdv f) : Cal S 1 "less" (spLess S) := by
  refine cal_of F sc_less (by decide) (fun kV doc pm an ct us hl => by match us, hl with | [_, _], _ => rfl) (fun _ => rfl) ?_
  rintro b ⟨x, y⟩ ⟨⟨h1, h2⟩, h3, h4⟩
  dsimp only at h1 h2 h3 h4
  refine gs_ret (EE.is (e_cmp (c_lt (e_mulS (e_ixT (e_var (i := 0)) e_int (by omega)) (e_ixT (e_var (i := 1)) e_int (by omega)) ?a1) (e_mulS (e_ixT (e_var (i := 1)) e_int (by omega)) (e_ixT (e_var (i := 0)) e_int (by omega)) ?a2))) ?a5)
  case a1 => show sz x.num + sz (y.den : Int) ≤ _; omega
  case a2 => show sz y.num + sz (x.den : Int) ≤ _; omega
  case a5 => exact congrArg V.bl (decide_eq_decide.mpr (lt_iff x y).symm)
abbrev s_total : Stmt := topS 12
theorem sc_total : FnScope ["some", "found", "one"] ["some"] (defScope s_total) := ⟨rfl, rfl, rfl, by decide +kernel, rfl, by decide +kernel, by decide +kernel⟩
theorem m_total (F : FunA S "total" s_total cdv f) (c_plus : Cal S 2 "plus" (sp2 S fun x y => x + y)) : Cal S 3 "total" (spTotal S) := by
  refine cal_of F sc_total (by decide) (fun kV doc pm an ct us hl => by match us, hl with | [_], _ => rfl) (fun _ => rfl) ?_
  rintro b ⟨n, g⟩ ⟨h1, h2⟩
  dsimp only at h1 h2
  have hb : ∀ i, i ≤ n → Bd (1 + 1301 * i) (sumQ i g) := fun i => by
    induction i with
    | zero => exact fun _ => ⟨show sz (0 : Int) ≤ 1 by decide, show sz (1 : Int) ≤ 1 by decide⟩
    | succ i ih => exact fun hi => (bd_add (ih (by omega)) (h2 i (by omega))).mono (by omega)
  refine gs_set (i := 1) ((e_tup2 e_int e_int).sub (pair_ratP (q := sumQ 0 g) rfl rfl)) ?_
  refine gs_loop (fun i => [some (LR S.K n g), some (RatP S.K (sumQ i g)), none]) (fun i => b.μ) (fun i => True) (i_list (e_var (i := 0))) (fun i hi => g_name (i := 2)) ⟨Sub.refl _, Sub.refl _, True.intro⟩ rfl True.intro (fun i hi hI => ?_) (fun hI => ?_) (fun i Γ _ l => l.set _ _)
  · refine gs_set (i := 1) (e_call c_plus (_, _) (a_cons (e_var (i := 1)) (a_cons (e_var (i := 2)) a_nil)) ?a4 rfl) ?_
    case a4 => exact ⟨(hb i (by omega)).mono (by omega), (h2 i hi).mono (by omega)⟩
    exact gs_nil ⟨⟨Sub.refl _, Sub.refl _, True.intro⟩, rfl, True.intro⟩
  exact gs_ret (e_var (i := 1))
end K74
set_option Elab.async false
set_option linter.all false
set_option maxRecDepth 100000
set_option maxHeartbeats 4000000

namespace K74
open PySem PySem.Spec PyProof.Rows L2 Gx Lay Rb
variable {S : Sta} {cdv : Value} {f : Addr}
abbrev s_power : Stmt := topS 13
theorem sc_power : FnScope ["one", "times", "found", "base", "turn"] ["one", "times"] (defScope s_power) := ⟨rfl, rfl, rfl, by decide +kernel, rfl, by decide +kernel, by decide +kernel⟩
theorem inv_eq {x : Rat} (h : 0 < x) : Rat.divInt (x.den : Int) x.num = x⁻¹ ∧ 0 < x.num := by
  have hn : 0 < x.num := by
    have := (lt_iff 0 x).mp h
    have e : (0 : Rat).num = 0 := rfl
    have e2 : (0 : Rat).den = 1 := rfl
    rw [e, e2] at this
    omega
  refine ⟨?_, hn⟩
  have := Rat.inv_divInt x.num x.den
  rw [num_den] at this
  exact this.symm
theorem m_power (F : FunA S "power" s_power cdv f) (B : Bl S) (c_ratio : Cal S 1 "ratio" (spRatio S)) (c_by : Cal S 2 "by" (sp2 S fun x y => x * y)) : Cal S 3 "power" (spPower S) := by
  refine cal_of F sc_power (by decide) (fun kV doc pm an ct us hl => by match us, hl with | [_, _], _ => rfl) (fun _ => rfl) ?_
  rintro b x ⟨h0, h1, h2⟩
  obtain ⟨e1, hn⟩ := inv_eq h0
  have bx : Bd 4000 (x⁻¹) := by
    rw [← e1]
    exact bd_div hn h2 h1
  refine gs_par2 (i := 2) (j := 3) ((e_tup2 e_int e_int).sub (pair_ratP (q := 1) rfl rfl)) (e_if (P := RatP S.K (x⁻¹)) (t_cmp (c_ge (e_var (i := 1)) e_int)) (fun h => by cases h) (fun h => (EE.sub (e_call c_ratio (_, _) (a_cons (e_ixT (e_var (i := 0)) e_int (by omega)) (a_cons (e_ixT (e_var (i := 0)) e_int (by omega)) a_nil)) ?a1 rfl) ?a2))) ?_ (by intro env h; cases env; cases h; rfl)
  case a1 => exact ⟨hn, Nat.le_trans h1 (by omega)⟩
  case a2 => exact ratP_eq e1
  refine gs_loop (n := 1) (fun i => [some (RatP S.K x), some (Is (.int (-1))), some (RatP S.K (if i = 0 then 1 else x⁻¹)), some (RatP S.K (x⁻¹)), none]) (fun i => b.μ) (fun i => True) (i_range1 (j := 1) (EE.is (e_abs (i := -1) (e_var (i := 1)) rfl B.abs) rfl) (by omega) rfl B.range) (fun i hi => g_name (i := 4)) ⟨Sub.refl _, Sub.refl _, Sub.refl _, Sub.refl _, True.intro⟩ rfl True.intro (fun i hi hI => ?_) (fun hI => ?_) (fun i Γ _ l => l.set _ _)
  · have hi0 : i = 0 := by omega
    subst hi0
    refine gs_set (i := 2) (e_call c_by (_, _) (a_cons (e_var (i := 2)) (a_cons (e_var (i := 3)) a_nil)) ?a3 rfl) ?_
    case a3 => exact ⟨⟨show sz (1 : Int) ≤ 4000 by decide, show sz (1 : Int) ≤ 4000 by decide⟩, bx⟩
    exact gs_nil ⟨⟨Sub.refl _, Sub.refl _, ratP_eq (show (1 : Rat) * x⁻¹ = x⁻¹ from Rat.one_mul _), Sub.refl _, True.intro⟩, rfl, True.intro⟩
  exact gs_ret (e_var (i := 2))
abbrev s_is_in : Stmt := topS 17
theorem sc_is_in : FnScope ["value", "least", "most"] ["value", "least", "most"] (defScope s_is_in) := ⟨rfl, rfl, rfl, by decide +kernel, rfl, by decide +kernel, by decide +kernel⟩
theorem m_is_in (F : FunA S "is_in" s_is_in cdv f) (B : Bl S) : Cal S 1 "is_in" (spIsIn S) := by
  refine cal_of F sc_is_in (by decide) (fun kV doc pm an ct us hl => by match us, hl with | [_, _, _], _ => rfl) (fun _ => rfl) ?_
  rintro b ⟨x, lo, hi⟩ _
  refine gs_ret (EE.is (e_and (k := true) (e_isi (e_var (i := 0)) (ty_int rfl) (e_ty rfl B.int boot_int) rfl B.isinstance) fun h => (e_and (k := true) (EE.is (e_not (e_isi (e_var (i := 0)) (ty_int rfl) (e_ty rfl B.bool boot_bool) rfl B.isinstance)) rfl) fun h => (e_one (e_chain (g := fun i j => decide (i ≤ j)) (g' := fun i j => decide (i ≤ j)) (fun X _ => op_le) (fun X _ => op_le) (e_var (i := 1)) (e_var (i := 0)) (e_var (i := 2)))))) rfl)
abbrev s_growth : Stmt := topS 19
theorem sc_growth : FnScope ["rate"] ["rate"] (defScope s_growth) := ⟨rfl, rfl, rfl, by decide +kernel, rfl, by decide +kernel, by decide +kernel⟩
theorem m_growth (F : FunA S "growth" s_growth cdv f) (c_ratio : Cal S 1 "ratio" (spRatio S)) : Cal S 2 "growth" (spGrowth S) := by
  refine cal_of F sc_growth (by decide) (fun kV doc pm an ct us hl => by match us, hl with | [_], _ => rfl) (fun _ => rfl) ?_
  rintro b r ⟨h1, h2⟩
  refine gs_ret ?_
  refine EE.sub (e_call c_ratio (_, _) (a_cons (e_add (e_ixT (e_var (i := 0)) e_int (by omega)) (e_ixT (e_var (i := 0)) e_int (by omega))) (a_cons (e_ixT (e_var (i := 0)) e_int (by omega)) a_nil)) ?a1 rfl) ?a2
  case a1 => exact ⟨den_pos r, Nat.le_trans h2 (by omega)⟩
  case a2 =>
    refine ratP_eq ?_
    show Rat.divInt (r.num + r.den) r.den = r + 1
    rw [add_div]
    have e1 : (1 : Rat).num = 1 := rfl
    have e2 : (1 : Rat).den = 1 := rfl
    rw [e1, e2]
    have : ((1 : Nat) : Int) = 1 := rfl
    rw [this, Int.mul_one, Int.mul_one, Int.one_mul]
abbrev s_greater : Stmt := topS 33
theorem sc_greater : FnScope ["one", "other"] ["one", "other"] (defScope s_greater) := ⟨rfl, rfl, rfl, by decide +kernel, rfl, by decide +kernel, by decide +kernel⟩
theorem m_greater (F : FunA S "greater" s_greater cdv f) (c_less : Cal S 1 "less" (spLess S)) : Cal S 2 "greater" (spGreater S) := by
  refine cal_of F sc_greater (by decide) (fun kV doc pm an ct us hl => by match us, hl with | [_, _], _ => rfl) (fun _ => rfl) ?_
  rintro b ⟨x, y⟩ hb
  refine gs_ret (e_if (t_val (e_call c_less (_, _) (a_cons (e_var (i := 0)) (a_cons (e_var (i := 1)) a_nil)) hb rfl)) (fun h => EE.sub (e_var (i := 1)) (ratP_eq ?a1)) (fun h => EE.sub (e_var (i := 0)) (ratP_eq ?a2)))
  case a1 => exact (if_pos (of_decide_eq_true h)).symm
  case a2 => exact (if_neg (of_decide_eq_false h)).symm
abbrev s_chance : Stmt := topS 29
theorem sc_chance : FnScope ["model", "year", "j", "k", "row"] ["model", "year", "j", "k"] (defScope s_chance) := ⟨rfl, rfl, rfl, by decide +kernel, rfl, by decide +kernel, by decide +kernel⟩
theorem sumF_small {M : Md} (g : Good M) {y j : Nat} : sumF M.n (M.st y j) ≤ 40 := by
  have h := g.st y j
  have := g.n
  have h0 := h 0
  have h1 := h 1
  have hn : M.n = 1 ∨ M.n = 2 := by omega
  rcases hn with e | e <;> rw [e] <;> simp [sumF, List.range_succ] <;> omega
theorem m_chance (F : FunA S "chance" s_chance cdv f) (B : Bl S) (c_ratio : Cal S 1 "ratio" (spRatio S)) : Cal S 2 "chance" (spChance S) := by
  refine cal_of F sc_chance (by decide) (fun kV doc pm an ct us hl => by match us, hl with | [_, _, _, _], _ => rfl) (fun _ => rfl) ?_
  rintro b ⟨M, y, j, k⟩ ⟨g, hy, hj, hk⟩
  dsimp only at g hy hj hk ⊢
  have p0 := g.pos y j hy hj
  have p1 := sumF_small g (y := y) (j := j)
  refine gs_set (i := 4) (e_ixT (e_ixT (e_ixT (e_var (i := 0)) e_int (by omega)) (e_var (i := 1)) (by omega)) (e_var (i := 2)) (by omega)) ?_
  refine gs_ret (e_call c_ratio (_, _) (a_cons (e_ixT (e_var (i := 4)) (e_var (i := 3)) (by omega)) (a_cons (e_sumT (e_var (i := 4)) rfl B.sum) a_nil)) ?a1 rfl)
  exact ⟨p0, Nat.le_trans (sz_small (n := 10) (by show _ < sumF M.n (M.st y j) ∧ sumF M.n (M.st y j) < _; omega) (by decide)) (by decide)⟩
end K74
set_option Elab.async false
set_option linter.all false
set_option maxRecDepth 100000
set_option maxHeartbeats 4000000

namespace K74
open PySem PySem.Spec PyProof.Rows L2 Gx Lay Rb
variable {S : Sta} {cdv : Value} {f c T : Addr}
abbrev s_is_square : Stmt := topS 25
theorem sc_is_square : FnScope ["value", "many", "least", "most", "row", "one"] ["value", "many", "least", "most"] (defScope s_is_square) := ⟨rfl, rfl, rfl, by decide +kernel, rfl, by decide +kernel, by decide +kernel⟩
theorem m_is_square (F : FunA S "is_square" s_is_square (.ref c) f) (B : Bl S) (g : Gn S c T) (c_is_in : Cal S 1 "is_in" (spIsIn S)) : Cal S 4 "is_square" (spSquare S) := by
  refine cal_of F sc_is_square (by decide) (fun kV doc pm an ct us hl => by match us, hl with | [_, _, _, _], _ => rfl) (fun _ => rfl) ?_
  rintro b ⟨n, m, lo, hi⟩ hb
  dsimp only at hb ⊢
  refine gs_pass (t_w (w_orF (t_notT (t_val (e_isi (e_var (i := 0)) ty_tup (e_ty rfl B.tuple boot_tuple) rfl B.isinstance))) (w_orF1 (t_cmp (c_neF (e_lenT (e_var (i := 0)) rfl B.len) (e_var (i := 1)) rfl))))) ?_
  refine gs_loop (fun i => [some (T2 S.K n n m), some (Is (.int (n : Int))), some (Is (.int lo)), some (Is (.int hi)), none, none]) (fun i => b.μ) (fun i => True) (i_tup (e_var (i := 0))) (fun i hi => g_name (i := 4)) ⟨Sub.refl _, Sub.refl _, Sub.refl _, Sub.refl _, True.intro⟩ rfl True.intro (fun i hi hI => ?_) (fun hI => ?_) (fun i Γ _ l => l.set _ _)
  · refine gs_pass (t_w (w_orF (t_notT (t_val (e_isi (e_var (i := 4)) ty_tup (e_ty rfl B.tuple boot_tuple) rfl B.isinstance))) (w_orF (t_cmp (c_neF (e_lenT (e_var (i := 4)) rfl B.len) (e_var (i := 1)) rfl)) (w_orF1 (t_notT (t_val (EE.is (e_all (t := fun _ => true) (own := [("one", 5)]) (j := 5) (k := 2) rfl g.bm g.cdt rfl B.all (i_tup (e_var (i := 4))) (fun l hl c' T' => EE.ef (EE.is (e_call c_is_in (_, _, _) (a_cons (e_var (i := 5)) (a_cons (e_var (i := 2)) (a_cons (e_var (i := 3)) a_nil))) True.intro rfl) ?a1))) ?a2))))))) ?_
    case a1 => simp [(hb i l).1, (hb i l).2]
    case a2 => rw [allN_true]
    exact gs_nil ⟨⟨Sub.refl _, Sub.refl _, Sub.refl _, Sub.refl _, True.intro⟩, rfl, True.intro⟩
  exact gs_ret e_bl
end K74
set_option Elab.async false
set_option linter.all false
set_option maxRecDepth 100000
set_option maxHeartbeats 4000000

namespace K74
open PySem PySem.Spec PyProof.Rows L2 Gx Lay Rb
variable {S : Sta} {cdv : Value} {f c T : Addr}
theorem efAnd {C : Lay.Ctx} {F : Hp → Prop} {a b : Expr} {rest : List Expr} {Γ : Sl} {μ : Mu} {pos : Pos} {l : Bool} (h : EE C a Γ μ (Is (.bl true))) (h2 : EF C F (.BoolOp .And (b :: rest) pos) Γ μ (Is (.bl l))) (hF : ∀ H H', Ext H H' → F H → F H') : EF C F (.BoolOp .And (a :: b :: rest) pos) Γ μ (Is (.bl l)) := fun σ H Q ok f q =>
  tex (fun X hX => pe_and (TEx.pe hX) (TEx.pe hX)) (h σ H _ ok fun v H1 k1 e1 p => ⟨true, p, by
    rw [if_pos rfl]
    exact h2 σ H1 Q k1 (hF _ _ e1 f) fun v2 H2 k2 e2 p2 => q v2 H2 k2 (e1.trans e2) p2⟩)
theorem efOne {C : Lay.Ctx} {F : Hp → Prop} {a : Expr} {op : BoolOp} {Γ : Sl} {μ : Mu} {pos : Pos} {P : Rp} (h : EF C F a Γ μ P) : EF C F (.BoolOp op [a] pos) Γ μ P := fun σ H Q ok f q => tex (fun X hX => pe_one (TEx.pe hX)) (h σ H Q ok f q)
theorem EF.is {C : Lay.Ctx} {F : Hp → Prop} {a : Expr} {Γ : Sl} {μ : Mu} {x y : V} (h : EF C F a Γ μ (Is x)) (e : x = y) : EF C F a Γ μ (Is y) := e ▸ h
abbrev s_are_steps : Stmt := topS 26
theorem sc_are_steps : FnScope ["value", "many", "year", "row"] ["value"] (defScope s_are_steps) := ⟨rfl, rfl, rfl, by decide +kernel, rfl, by decide +kernel, by decide +kernel⟩
theorem anyF_pos {n : Nat} {g : Nat → Int} (h : 0 < sumF n g) : anyF n g = true := by
  cases e : anyF n g with
  | true => rfl
  | false =>
    have : ∀ x ∈ (List.range n).map g, x = 0 := fun x hx => by
      unfold anyF at e
      have := List.any_eq_false.mp e x hx
      simpa using this
    have h0 : ∀ l : List Int, (∀ x ∈ l, x = 0) → l.sum = 0 := fun l => by
      induction l with
      | nil => intro _; rfl
      | cons x l ih =>
        intro hl
        rw [List.sum_cons, hl x List.mem_cons_self, ih fun y hy => hl y (List.mem_cons_of_mem _ hy)]
        rfl
    unfold sumF at h
    rw [h0 _ this] at h
    exact absurd h (by decide)
theorem m_are_steps (F : FunA S "are_steps" s_are_steps (.ref c) f) (B : Bl S) (g : Gn S c T) (c_is_square : Cal S 4 "is_square" (spSquare S)) : Cal S 8 "are_steps" (spSteps S) := by
  refine cal_of F sc_are_steps (by decide) (fun kV doc pm an ct us hl => by match us, hl with | [_], _ => rfl) (fun _ => rfl) ?_
  rintro b M gd
  have hn := gd.n
  have hY := gd.Y
  refine gs_pass (t_w (w_orF (t_notT (t_val (e_isi (e_var (i := 0)) ty_tup (e_ty rfl B.tuple boot_tuple) rfl B.isinstance))) (w_orF (t_notT (ET.is (t_chain (g := fun i j => decide (i ≤ j)) (g' := fun i j => decide (i ≤ j)) (fun X _ => op_le) (fun X _ => op_le) e_int (e_lenT (e_var (i := 0)) rfl B.len) (e_globI rfl B.years)) ?a1)) (w_orF1 (t_notT (t_val (e_isi (A := T2 S.K M.n M.n (M.st 0)) (e_ixT (e_var (i := 0)) e_int (by omega)) ty_tup (e_ty rfl B.tuple boot_tuple) rfl B.isinstance))))))) ?_
  case a1 => simp; omega
  refine gs_set (i := 1) (e_lenT (e_ixT (e_var (i := 0)) e_int (by omega)) rfl B.len) ?_
  refine gs_pass (t_notT (ET.is (t_chain (g := fun i j => decide (i ≤ j)) (g' := fun i j => decide (i ≤ j)) (fun X _ => op_le) (fun X _ => op_le) e_int (e_var (i := 1)) (e_globI rfl B.states)) ?a2)) ?_
  case a2 => simp; omega
  refine gs_ret (EE.is (e_all (t := fun _ => true) (m := 1) (own := [("year", 2)]) (j := 2) (k := 5) rfl g.bm g.cdt rfl B.all (i_tup (e_var (i := 0))) (fun i hi c' T' => efAnd (e_call c_is_square (_, _, _, _) (a_cons (e_var (i := 2)) (a_cons (e_var (i := 1)) (a_cons e_int (a_cons (e_globI rfl B.weight) a_nil)))) (fun l m => gd.st i l m) rfl)
    (efOne (EF.is (e_allF (t := fun _ => true) (c := c') (T := T') (m := 0) (own := [("row", 3)]) (j := 3) (k := 2) rfl g.bm ?e1 (fun h x _ => x.cdt) rfl B.all (i_tup (e_var (i := 2))) (fun l hl c'' T'' => EE.ef (EE.is (e_anyT (e_var (i := 3)) rfl B.any) (congrArg V.bl (anyF_pos (gd.pos i l hi hl)))))) (congrArg V.bl (allN_true _)))) ?e2)) (congrArg V.bl (allN_true _)))
  case e1 => exact fun H H' e x => ⟨e.obj _ _ x.1 fun ps z => cdO_ne ps z, e.tab _ _ x.2⟩
  case e2 => exact fun H H' e x => ⟨e.obj _ _ x.1 fun ps z => cdO_ne ps z, e.tab _ _ x.2⟩
abbrev s_are_rows : Stmt := topS 27
theorem sc_are_rows : FnScope ["value", "times", "many", "row", "one"] ["value", "times", "many"] (defScope s_are_rows) := ⟨rfl, rfl, rfl, by decide +kernel, rfl, by decide +kernel, by decide +kernel⟩
theorem m_are_rows (F : FunA S "are_rows" s_are_rows (.ref c) f) (B : Bl S) (g : Gn S c T) (c_is_in : Cal S 1 "is_in" (spIsIn S)) : Cal S 4 "are_rows" (spRows S) := by
  refine cal_of F sc_are_rows (by decide) (fun kV doc pm an ct us hl => by match us, hl with | [_, _, _], _ => rfl) (fun _ => rfl) ?_
  rintro b ⟨n, n2, m⟩ hb
  dsimp only at hb ⊢
  refine gs_pass (t_w (w_orF (t_notT (t_val (e_isi (e_var (i := 0)) ty_tup (e_ty rfl B.tuple boot_tuple) rfl B.isinstance))) (w_orF1 (t_cmp (c_neF (e_lenT (e_var (i := 0)) rfl B.len) (e_var (i := 1)) rfl))))) ?_
  refine gs_loop (fun i => [some (T2 S.K n n2 m), some (Is (.int (n : Int))), some (Is (.int (n2 : Int))), none, none]) (fun i => b.μ) (fun i => True) (i_tup (e_var (i := 0))) (fun i hi => g_name (i := 3)) ⟨Sub.refl _, Sub.refl _, Sub.refl _, True.intro⟩ rfl True.intro (fun i hi hI => ?_) (fun hI => ?_) (fun i Γ _ l => l.set _ _)
  · refine gs_pass (t_w (w_orF (t_notT (t_val (e_isi (e_var (i := 3)) ty_tup (e_ty rfl B.tuple boot_tuple) rfl B.isinstance))) (w_orF1 (t_cmp (c_neF (e_lenT (e_var (i := 3)) rfl B.len) (e_var (i := 2)) rfl))))) ?_
    refine gs_pass (t_notT (t_val (EE.is (e_all (t := fun _ => true) (m := 1) (own := [("one", 4)]) (j := 4) (k := 2) rfl g.bm g.cdt rfl B.all (i_tup (e_var (i := 3))) (fun l hl c' T' => EE.ef (EE.is (e_call c_is_in (_, _, _) (a_cons (e_var (i := 4)) (a_cons (e_sub e_int (e_globI rfl B.paid)) (a_cons (e_globI rfl B.paid) a_nil))) True.intro rfl) ?a1))) (congrArg V.bl (allN_true _))))) ?_
    case a1 =>
      have := hb i l
      show V.bl (decide ((0 : Int) - 1000 ≤ m i l) && decide (m i l ≤ 1000)) = V.bl true
      rw [decide_eq_true (show (0 : Int) - 1000 ≤ m i l by omega), decide_eq_true this.2]
      rfl
    exact gs_nil ⟨⟨Sub.refl _, Sub.refl _, Sub.refl _, True.intro⟩, rfl, True.intro⟩
  exact gs_ret e_bl
abbrev s_need_model : Stmt := topS 28
theorem sc_need_model : FnScope ["model", "years", "many", "paid", "year"] ["model"] (defScope s_need_model) := ⟨rfl, rfl, rfl, by decide +kernel, rfl, by decide +kernel, by decide +kernel⟩
theorem e_tup3 {C : Lay.Ctx} {a b d : Expr} {Γ : Sl} {μ : Mu} {pos : Pos} {A B D : Rp} {x1 : Nat} (h : EE C a Γ μ A) (h2 : EE C b Γ μ B) (h3 : EE C d Γ μ D) (hs : ∀ X : Cx, starEach [a, b, d] X.env = (false, eval a X.env) :: starEach [b, d] X.env := by intro _; exact star_cons rfl) (hs2 : ∀ X : Cx, starEach [b, d] X.env = (false, eval b X.env) :: starEach [d] X.env := by intro _; exact star_cons rfl) (hs3 : ∀ X : Cx, starEach [d] X.env = (false, eval d X.env) :: starEach [] X.env := by intro _; exact star_cons rfl) :
    EE C (.Tuple [a, b, d] x1 pos) Γ μ (TupF C.K 3 (three A B D)) := (e_tupN (a_cons h (a_cons h2 (a_cons h3 a_nil hs3) hs2) hs)).sub (Tz.els fun i hi => by
  match i, hi with
  | 0, _ => exact Sub.refl _
  | 1, _ => exact Sub.refl _
  | 2, _ => exact Sub.refl _)
theorem m_need_model (F : FunA S "need_model" s_need_model (.ref c) f) (B : Bl S) (g : Gn S c T) (c_are_steps : Cal S 8 "are_steps" (spSteps S)) (c_are_rows : Cal S 4 "are_rows" (spRows S)) (c_is_square : Cal S 4 "is_square" (spSquare S)) : Cal S 10 "need_model" (spNeedModel S) := by
  refine cal_of F sc_need_model (by decide) (fun kV doc pm an ct us hl => by match us, hl with | [_], _ => rfl) (fun _ => rfl) ?_
  rintro b M gd
  have hn := gd.n
  have hY := gd.Y
  refine gs_pass (t_w (w_orF (t_notT (t_val (e_isi (e_var (i := 0)) ty_tup (e_ty rfl B.tuple boot_tuple) rfl B.isinstance))) (w_orF (t_cmp (c_neF (e_lenT (e_var (i := 0)) rfl B.len) e_int rfl)) (w_orF1 (t_notT (t_val (e_call c_are_steps M (a_cons (e_ixT (e_var (i := 0)) e_int (by omega)) a_nil) gd rfl))))))) ?_
  refine gs_tgt (e_tup3 (A := Is (.int (M.Y : Int))) (B := Is (.int (M.n : Int))) (e_lenT (e_ixT (e_var (i := 0)) e_int (by omega)) rfl B.len) (e_lenT (e_ixT (e_ixT (e_var (i := 0)) e_int (by omega)) e_int (by omega)) rfl B.len) (e_ixT (e_var (i := 0)) e_int (by omega))) (g_three (i := 1) (j := 2) (l := 3)) ?_ (hw := by intro env h; cases env; cases h; rfl)
  refine gs_pass (t_w (w_orF (t_notT (t_val (e_isi (e_var (i := 3)) ty_tup (e_ty rfl B.tuple boot_tuple) rfl B.isinstance))) (w_orF (t_cmp (c_neF (e_lenT (e_var (i := 3)) rfl B.len) e_int rfl)) (w_orF1 (t_notT (t_val (e_call c_are_rows (M.Y + 1, M.n, M.sg) (a_cons (e_ixT (e_var (i := 3)) e_int (by omega)) (a_cons (EE.is (e_add (i := (M.Y : Int)) (j := 1) (e_var (i := 1)) e_int) rfl) (a_cons (e_var (i := 2)) a_nil))) gd.sg rfl))))))) ?_
  refine gs_pass (t_w (w_orF (t_notT (t_val (e_isi (A := T3 S.K M.Y M.n M.n M.mv) (e_ixT (e_var (i := 3)) e_int (by omega)) ty_tup (e_ty rfl B.tuple boot_tuple) rfl B.isinstance))) (w_orF1 (t_cmp (c_neF (e_lenT (e_ixT (e_var (i := 3)) e_int (by omega)) rfl B.len) (e_var (i := 1)) rfl))))) ?_
  refine gs_pass (t_notT (t_val (EE.is (e_all (t := fun _ => true) (m := 1) (own := [("year", 4)]) (j := 4) (k := 5) rfl g.bm g.cdt rfl B.all (i_tup (e_ixT (e_var (i := 3)) e_int (by omega))) (fun l hl c' T' => EE.ef (e_call c_is_square (M.n, M.mv l, 0 - 1000, 1000) (a_cons (e_var (i := 4)) (a_cons (e_var (i := 2)) (a_cons (e_sub e_int (e_globI rfl B.paid)) (a_cons (e_globI rfl B.paid) a_nil)))) (fun x y => gd.mv l x y) rfl))) (congrArg V.bl (allN_true _))))) ?_
  exact gs_nil (Sub.refl _)
end K74
set_option Elab.async false
set_option linter.all false
set_option maxRecDepth 100000
set_option maxHeartbeats 4000000

namespace K74
open PySem PySem.Spec PyProof.Rows L2 Gx Lay Rb
/-! ### sizes -/
theorem bd_of_int {i : Int} (h : -1000 ≤ i ∧ i ≤ 1000) : Bd 10 (i : Rat) := bd_int (sz_small (by omega) (by decide))
theorem bd_ch {M : Md} (g : Good M) {y j k : Nat} (hy : y < M.Y) (hj : j < M.n) : Bd 10 (ch M y j k) := by
  have h := g.st y j k
  have p0 := g.pos y j hy hj
  have p1 := sumF_small g (y := y) (j := j)
  exact bd_div p0 (sz_small (by omega) (by decide)) (sz_small (by omega) (by decide))
theorem pos_dc {r : Rat} (h : Rate r) : 0 < r + 1 := by
  have : (-1 : Rat) < r := by
    rw [lt_iff]
    have e1 : (-1 : Rat).num = -1 := rfl
    have e2 : (-1 : Rat).den = 1 := rfl
    rw [e1, e2]
    have := h.low
    omega
  grind
theorem bd_rate {r : Rat} (h : Rate r) : Bd 10 r := ⟨sz_small (by have := h.num; omega) (by decide), sz_small (by have := h.den; have := den_pos r; omega) (by decide)⟩
theorem bd_one : Bd 1 (1 : Rat) := ⟨show sz (1 : Int) ≤ 1 by decide, show sz (1 : Int) ≤ 1 by decide⟩
theorem bd_zero : Bd 1 (0 : Rat) := ⟨show sz (0 : Int) ≤ 1 by decide, show sz (1 : Int) ≤ 1 by decide⟩
theorem bd_inv {x : Rat} {n : Nat} (h0 : 0 < x) (h : Bd n x) : Bd n (x⁻¹) := by
  obtain ⟨e1, hn⟩ := inv_eq h0
  rw [← e1]
  exact bd_div hn h.2 h.1
theorem bd_dc {r : Rat} (h : Rate r) : Bd 20 (dc r) := bd_inv (pos_dc h) ((bd_add (bd_rate h) bd_one).mono (by decide))
theorem bd_sumQ {n b : Nat} {f : Nat → Rat} (hn : n ≤ 2) (h : ∀ i, i < n → Bd b (f i)) : Bd (2 * b + 3) (sumQ n f) := by
  match n, hn with
  | 0, _ => exact bd_zero.mono (by omega)
  | 1, _ => exact (bd_add bd_zero (h 0 (by omega))).mono (by omega)
  | 2, _ => exact (bd_add (bd_add bd_zero (h 0 (by omega))) (h 1 (by omega))).mono (by omega)
theorem bd_mx {n : Nat} {x y : Rat} (hx : Bd n x) (hy : Bd n y) : Bd n (mx x y) := by
  unfold mx
  split
  · exact hy
  · exact hx
theorem bd_here {M : Md} (g : Good M) {y j b : Nat} {l : Nat → Rat} (hy : y < M.Y) (hj : j < M.n) (hl : ∀ k, k < M.n → Bd b (l k)) : Bd (2 * b + 45) (here M l y j) := by
  refine (bd_sumQ (b := b + 21) g.n.2 fun k hk => ?_).mono (by omega)
  exact (bd_mul (bd_ch g hy hj) (bd_add (bd_of_int (g.mv y j k)) (hl k hk))).mono (by omega)
theorem bd_stay {M : Md} (g : Good M) {r : Rat} (hr : Rate r) {y j b : Nat} {l : Nat → Rat} (hy : y < M.Y) (hj : j < M.n) (hl : ∀ k, k < M.n → Bd b (l k)) : Bd (2 * b + 76) (stay M r l y j) :=
  (bd_add (bd_of_int (g.sg y j)) (bd_mul (bd_dc hr) (bd_here g hy hj hl))).mono (by omega)
theorem bd_best {M : Md} (g : Good M) {r : Rat} (hr : Rate r) {o : Nat → Nat → Int} (ho : Off o) : ∀ t, t ≤ M.Y → ∀ j, j < M.n → Bd (86 * (2 ^ t - 1) + 10 * 2 ^ t) (best M r o t j)
  | 0, _, j, hj => (bd_mx (bd_of_int (ho M.Y j)) (bd_of_int (g.sg M.Y j))).mono (by decide)
  | t + 1, ht, j, hj => by
    have ih := bd_best g hr ho t (by omega)
    have h2 : 1 ≤ 2 ^ t := Nat.one_le_two_pow
    refine bd_mx ((bd_of_int (ho _ j)).mono ?_) ((bd_stay g hr (by have := g.Y; omega) hj ih).mono ?_)
    · rw [Nat.pow_succ]; omega
    · rw [Nat.pow_succ]; omega
theorem bd_best' {M : Md} (g : Good M) {r : Rat} (hr : Rate r) {o : Nat → Nat → Int} (ho : Off o) {t j : Nat} (ht : t ≤ M.Y) (hj : j < M.n) : Bd 300 (best M r o t j) := by
  refine (bd_best g hr ho t ht j hj).mono ?_
  have := g.Y
  match t, (show t ≤ 2 by omega) with
  | 0, _ => decide
  | 1, _ => decide
  | 2, _ => decide

/-! ### promises -/
abbrev spStaying (S : Sta) : Sp := spOf S (ι := Md × Rat × (Nat → Rat) × Nat) (fun y => [MdP S.K y.1, RatP S.K y.2.1, LR S.K y.1.n y.2.2.1, Is (.int (y.2.2.2 : Int))]) (fun y _ => Good y.1 ∧ Rate y.2.1 ∧ (∀ k, k < y.1.n → Bd 300 (y.2.2.1 k)) ∧ y.2.2.2 < y.1.Y) (fun y => LR S.K y.1.n (stay y.1 y.2.1 y.2.2.1 y.2.2.2))
abbrev ιO := Md × Rat × (Nat → Nat → Int)
abbrev asO (S : Sta) (y : ιO) : List Rp := [MdP S.K y.1, RatP S.K y.2.1, OfP S.K y.1 y.2.2]
abbrev cdO (y : ιO) (_ : Mu) : Prop := Good y.1 ∧ Rate y.2.1 ∧ Off y.2.2
abbrev BestL (K : PySem.W.Frag) (y : ιO) : Rp := LstF K (y.1.Y + 1) fun t => LR K y.1.n (best y.1 y.2.1 y.2.2 (y.1.Y - t))
abbrev spTables (S : Sta) : Sp := spOf S (ι := ιO) (asO S) cdO (fun y => TupF S.K 2 (two (BestL S.K y) Any))
abbrev spBest (S : Sta) : Sp := spOf S (ι := ιO) (asO S) cdO (fun y => TupF S.K (y.1.Y + 1) fun t => TR S.K y.1.n (best y.1 y.2.1 y.2.2 (y.1.Y - t)))
abbrev CorP (K : PySem.W.Frag) (y : ιO) : Rp := TupF K y.1.Y fun t => TupF K y.1.n fun j => TR K y.1.n (cor y.1 y.2.1 y.2.2 t j)
abbrev spCor (S : Sta) : Sp := spOf S (ι := ιO) (asO S) cdO (fun y => CorP S.K y)

variable {S : Sta} {cdv : Value} {f c T : Addr}
/-! ### is_ratio, need_rate, need_offers -/
def isI : At → Bool
  | .i _ => true
  | .b _ => false
theorem ty_atInt {K : PySem.W.Frag} (x : At) : ∀ v h, (AtP x).p v h → ∃ t, TyX K h v t ∧ PySem.W.kitOne K t (.type "int") = some true := by
  cases x with
  | i z => exact ty_int rfl
  | b k => exact ty_bl rfl
theorem ty_atBool {K : PySem.W.Frag} (x : At) : ∀ v h, (AtP x).p v h → ∃ t, TyX K h v t ∧ PySem.W.kitOne K t (.type "bool") = some (!isI x) := by
  cases x with
  | i z => exact ty_int rfl
  | b k => exact ty_bl rfl
abbrev s_is_ratio : Stmt := topS 14
theorem sc_is_ratio : FnScope ["value", "one"] ["value"] (defScope s_is_ratio) := ⟨rfl, rfl, rfl, by decide +kernel, rfl, by decide +kernel, by decide +kernel⟩
theorem isR_len {l : List At} (h : l.length ≠ 2) : isR (some l) = none := by
  match l, h with
  | [], _ => rfl
  | [x], _ => cases x <;> rfl
  | [_, _], h => exact absurd rfl h
  | x :: y :: _ :: _, _ => cases x <;> cases y <;> rfl
theorem isR_pair {n d : Int} : (isR (some [.i n, .i d])).isSome = (decide (0 < d) && decide (((Nat.gcd n.natAbs d.natAbs : Nat) : Int) = 1)) := by
  show (if 0 < d ∧ gc n d = 1 then some (Rat.divInt n d) else none).isSome = _
  unfold gc
  by_cases h1 : 0 < d <;> by_cases h2 : ((Nat.gcd n.natAbs d.natAbs : Nat) : Int) = 1 <;> simp [h1, h2]
theorem m_is_ratio (F : FunA S "is_ratio" s_is_ratio (.ref c) f) (B : Bl S) (g : Gn S c T) : Cal S 4 "is_ratio" (spIsRatio S) := by
  refine cal_of F sc_is_ratio (by decide) (fun kV doc pm an ct us hl => by match us, hl with | [_], _ => rfl) (fun _ => rfl) ?_
  rintro b d _
  match d with
  | none => exact gs_out (k := true) (t_w (w_or (k := true) (l := false) (ET.is (t_not (t_val (e_isi (A := NoTup S.K) (e_var (i := 0)) ty_no (e_ty rfl B.tuple boot_tuple) rfl B.isinstance))) rfl) (fun h => by cases h))) (fun _ => gs_ret e_bl) (fun h => by cases h)
  | some l =>
    refine gs_out (k := !decide ((l.length : Int) = ((2 : Nat) : Int))) (t_w (w_or (k := false) (t_notT (t_val (e_isi (e_var (i := 0)) ty_tup (e_ty rfl B.tuple boot_tuple) rfl B.isinstance))) (fun _ => w_or1 (t_cmp (c_ne (e_lenT (e_var (i := 0)) rfl B.len) e_int))))) (fun h => ?_) (fun h => ?_)
    · have hl : l.length ≠ 2 := fun z => by rw [z] at h; simp at h
      refine gs_ret (EE.is e_bl ?_)
      rw [isR_len hl]
      rfl
    · have hl : l.length = 2 := by simp at h; omega
      obtain ⟨x, y, rfl⟩ : ∃ x y, l = [x, y] := by
        match l, hl with
        | [x, y], _ => exact ⟨x, y, rfl⟩
      refine gs_out (k := !(isI x && isI y)) (ET.is (t_not (t_val (e_all (t := fun i => isI ([x, y].getD i default)) (m := 1) (own := [("one", 1)]) (j := 1) (k := 2) rfl g.bm g.cdt rfl B.all (i_tup (e_var (i := 0))) (fun i hi c' T' => EE.ef (EE.is (e_and (k := true) (e_isi (e_var (i := 1)) (ty_atInt _) (e_ty rfl B.int boot_int) rfl B.isinstance) fun h => (e_one (e_not (e_isi (e_var (i := 1)) (ty_atBool _) (e_ty rfl B.bool boot_bool) rfl B.isinstance)))) ?a1))))) ?a2) (fun h => ?_) (fun h => ?_)
      case a1 => simp
      case a2 =>
        show (!(allN 2 _)) = _
        simp [allN, List.range_succ]
      · refine gs_ret (EE.is e_bl ?_)
        match x, y, h with
        | .b _, _, _ => rfl
        | .i _, .b _, _ => rfl
        | .i _, .i _, h => simp [isI] at h
      · match x, y, h with
        | .b _, _, h => simp [isI] at h
        | .i _, .b _, h => simp [isI] at h
        | .i n, .i d, _ =>
          refine gs_ret (EE.is (e_and (k := decide (0 < d)) (e_cmp (c_gt (e_ixT (e_var (i := 0)) e_int ⟨by decide, by show _ < (2 : Int); decide⟩) e_int)) fun h => (e_one (e_cmp (c_eq (e_gcd (x := n) (y := d) rfl B.gcd (e_ixT (e_var (i := 0)) e_int ⟨by decide, by show _ < (2 : Int); decide⟩) (e_ixT (e_var (i := 0)) e_int ⟨by decide, by show _ < (2 : Int); decide⟩)) e_int)))) ?_)
          exact congrArg V.bl isR_pair.symm
theorem rat_d1 {K : PySem.W.Frag} {q : Rat} : Sub (RatP K q) (DP1 K (some [.i q.num, .i q.den])) := Tz.els fun i hi => by
  match i, hi with
  | 0, _ => exact Sub.refl _
  | 1, _ => exact Sub.refl _
theorem isR_rat {q : Rat} : isR (some [.i q.num, .i (q.den : Int)]) = some q := by
  show (if 0 < (q.den : Int) ∧ gc q.num q.den = 1 then some (Rat.divInt q.num q.den) else none) = _
  rw [if_pos ⟨den_pos q, gc_num_den q⟩, num_den]
abbrev s_need_rate : Stmt := topS 18
theorem sc_need_rate : FnScope ["rate"] ["rate"] (defScope s_need_rate) := ⟨rfl, rfl, rfl, by decide +kernel, rfl, by decide +kernel, by decide +kernel⟩
theorem m_need_rate (F : FunA S "need_rate" s_need_rate cdv f) (B : Bl S) (c_is_ratio : Cal S 4 "is_ratio" (spIsRatio S)) : Cal S 5 "need_rate" (spNeedRate S) := by
  refine cal_of F sc_need_rate (by decide) (fun kV doc pm an ct us hl => by match us, hl with | [_], _ => rfl) (fun _ => rfl) ?_
  rintro b r hr
  have h1 := hr.num
  have h2 := hr.den
  have h3 := hr.low
  refine gs_pass (t_w (w_orF (t_notT (t_val (EE.is (e_call c_is_ratio (some [.i r.num, .i r.den]) (a_cons (EE.sub (e_var (i := 0)) rat_d1) a_nil) True.intro rfl) ?a1))) (w_orF (t_cmp (CM.is (c_gt (e_abs (i := r.num) (e_ixT (e_var (i := 0)) e_int (by decide)) rfl B.abs) (e_globI rfl B.rate)) ?a2)) (w_orF (t_cmp (CM.is (c_gt (i := (r.den : Int)) (e_ixT (e_var (i := 0)) e_int (by decide)) (e_globI rfl B.rate)) ?a3)) (w_orF1 (t_cmp (CM.is (c_le (i := r.num) (e_ixT (e_var (i := 0)) e_int (by decide)) (e_sub (j := (r.den : Int)) e_int (e_ixT (e_var (i := 0)) e_int (by decide)))) ?a4))))))) ?_
  case a1 => rw [isR_rat]; rfl
  case a2 => refine decide_eq_false ?_; split <;> omega
  case a3 => refine decide_eq_false ?_; omega
  case a4 => refine decide_eq_false ?_; omega
  exact gs_nil (Sub.refl _)
abbrev s_need_offers : Stmt := topS 31
theorem sc_need_offers : FnScope ["model", "rate", "offers"] ["model", "rate", "offers"] (defScope s_need_offers) := ⟨rfl, rfl, rfl, by decide +kernel, rfl, by decide +kernel, by decide +kernel⟩
theorem m_need_offers (F : FunA S "need_offers" s_need_offers cdv f) (B : Bl S) (c_need_model : Cal S 10 "need_model" (spNeedModel S)) (c_need_rate : Cal S 5 "need_rate" (spNeedRate S)) (c_are_rows : Cal S 4 "are_rows" (spRows S)) : Cal S 11 "need_offers" (spNeedOffers S) := by
  refine cal_of F sc_need_offers (by decide) (fun kV doc pm an ct us hl => by match us, hl with | [_, _, _], _ => rfl) (fun _ => rfl) ?_
  rintro b ⟨M, r, o⟩ ⟨g, hr, ho⟩
  dsimp only at g hr ho ⊢
  have hn := g.n
  have hY := g.Y
  refine gs_expr (e_call c_need_model M (a_cons (e_var (i := 0)) a_nil) g rfl) ?_
  refine gs_expr (e_call c_need_rate r (a_cons (e_var (i := 1)) a_nil) hr rfl) ?_
  refine gs_pass (t_notT (t_val (e_call c_are_rows (M.Y + 1, M.n, o) (a_cons (e_var (i := 2)) (a_cons (EE.is (e_add (i := (M.Y : Int)) (j := 1) (e_lenT (e_ixT (e_var (i := 0)) e_int (by omega)) rfl B.len) e_int) rfl) (a_cons (e_lenT (e_ixT (e_ixT (e_var (i := 0)) e_int (by omega)) e_int (by omega)) rfl B.len) a_nil))) ho rfl))) ?_
  exact gs_nil (Sub.refl _)
end K74
set_option Elab.async false
set_option linter.all false
set_option maxRecDepth 100000
set_option maxHeartbeats 4000000

namespace K74
open PySem PySem.Spec PyProof.Rows L2 Gx Lay Rb
variable {S : Sta} {cdv : Value} {f c T : Addr}
abbrev s_staying : Stmt := topS 32
theorem sc_staying : FnScope ["model", "rate", "later", "year", "many", "step", "found", "j", "some", "here", "k"] ["model", "rate", "later", "year"] (defScope s_staying) := ⟨rfl, rfl, rfl, by decide +kernel, rfl, by decide +kernel, by decide +kernel⟩
theorem m_staying (F : FunA S "staying" s_staying cdv f) (B : Bl S) (c_power : Cal S 3 "power" (spPower S)) (c_growth : Cal S 2 "growth" (spGrowth S)) (c_plus : Cal S 2 "plus" (sp2 S fun x y => x + y)) (c_by : Cal S 2 "by" (sp2 S fun x y => x * y)) (c_total : Cal S 3 "total" (spTotal S)) (c_chance : Cal S 2 "chance" (spChance S)) : Cal S 5 "staying" (spStaying S) := by
  refine cal_of F sc_staying (by decide) (fun kV doc pm an ct us hl => by match us, hl with | [_, _, _, _], _ => rfl) (fun _ => rfl) ?_
  rintro b ⟨M, r, l, y⟩ ⟨g, hr, hl, hy⟩
  dsimp only at g hr hl hy ⊢
  have hn := g.n
  have hY := g.Y
  have bd := bd_dc hr
  have bh : ∀ j, j < M.n → Bd 645 (here M l y j) := fun j hj => (bd_here g hy hj hl).mono (by omega)
  refine gs_par3N (i := 4) (j := 5) (l := 6) (Ql := Els 0 fun j => RatP S.K (stay M r l y j)) (e_lenT (e_ixT (e_ixT (e_var (i := 0)) e_int (by omega)) e_int (by omega)) rfl B.len) (e_call c_power (r + 1) (a_cons (e_call c_growth r (a_cons (e_var (i := 1)) a_nil) ?a1 rfl) (a_cons (e_neg e_int) a_nil)) ?a2 rfl) n_nil (fun p hp => ?_) (by intro env h; cases env; cases h; rfl)
  case a1 => exact (bd_rate hr).mono (by decide)
  case a2 => exact ⟨pos_dc hr, (bd_add (bd_rate hr) bd_one).mono (by decide)⟩
  refine gs_loop (fun j => [some (MdP S.K M), some (RatP S.K r), some (LR S.K M.n l), some (Is (.int (y : Int))), some (Is (.int (M.n : Int))), some (RatP S.K (dc r)), some (Is (.ref p)), none, none, none, none]) (fun j => (p, Els j fun j => RatP S.K (stay M r l y j)) :: b.μ) (fun i => True) (i_rangeN (e_var (i := 4)) (by omega) rfl B.range) (fun i hi => g_name (i := 7)) ⟨Sub.refl _, Sub.refl _, Sub.refl _, Sub.refl _, Sub.refl _, Sub.refl _, Sub.refl _, True.intro⟩ rfl True.intro (fun j hj hI => ?_) (fun hI => ?_) (fun i Γ _ l => l.set _ _)
  · have hj' : j < M.n := by omega
    refine gs_set (i := 8) (P := LR S.K M.n fun k => (M.mv y j k : Rat) + l k) (n_lc (n := M.n) (Rf := fun k => RatP S.K ((M.mv y j k : Rat) + l k)) (own := [("k", 10)]) (i_rangeN (e_var (i := 4)) (by omega) rfl B.range) (by omega) (fun i hi => g_name (i := 10)) (by decide) (fun k hk D => (e_call c_plus (_, _) (a_cons (EE.sub (e_tup2 (e_ixT (e_ixT (e_ixT (e_ixT (e_ixT (e_var (i := 0)) e_int (by omega)) e_int (by omega)) (e_var (i := 3)) (by omega)) (e_var (i := 7)) (by omega)) (e_var (i := 10)) (by omega)) e_int) int_ratP) (a_cons (e_ixL (e_var (i := 2)) (e_var (i := 10)) (by omega)) a_nil)) ?b1 rfl))).ee ?_ (hs := fun X h => sw_cell h rfl)
    case b1 => exact ⟨(bd_of_int (g.mv y j k)).mono (by decide), (hl k hk).mono (by decide)⟩
    refine gs_set (i := 9) (P := RatP S.K (here M l y j)) (e_call c_total (M.n, fun k => ch M y j k * ((M.mv y j k : Rat) + l k)) (a_cons (n_lc (n := M.n) (own := [("k", 10)]) (Rf := fun k => RatP S.K (ch M y j k * ((M.mv y j k : Rat) + l k))) (i_rangeN (e_var (i := 4)) (by omega) rfl B.range) (by omega) (fun i hi => g_name (i := 10)) (by decide) (fun k hk D => (e_call c_by (_, _) (a_cons (e_call c_chance (M, y, j, k) (a_cons (e_var (i := 0)) (a_cons (e_var (i := 3)) (a_cons (e_var (i := 7)) (a_cons (e_var (i := 10)) a_nil)))) ⟨g, hy, hj', hk⟩ rfl) (a_cons (e_ixL (e_var (i := 8)) (e_var (i := 10)) (by omega)) a_nil)) ?b2 rfl))).ee a_nil) ?b3 rfl) ?_
    case b2 => exact ⟨(bd_ch g hy hj').mono (by decide), (bd_add (bd_of_int (g.mv y j k)) (hl k hk)).mono (by decide)⟩
    case b3 => exact ⟨g.n.2, fun k hk => (bd_mul (bd_ch g hy hj') (bd_add (bd_of_int (g.mv y j k)) (hl k hk))).mono (by decide)⟩
    refine gs_append [] _ rfl (e_var (i := 6)) (e_call c_plus (_, _) (a_cons (EE.sub (e_tup2 (e_ixT (e_ixT (e_ixT (e_ixT (e_var (i := 0)) e_int (by omega)) e_int (by omega)) (e_var (i := 3)) (by omega)) (e_var (i := 7)) (by omega)) e_int) int_ratP) (a_cons (e_call c_by (_, _) (a_cons (e_var (i := 5)) (a_cons (e_var (i := 9)) a_nil)) ?b4 rfl) a_nil)) ?b5 rfl) (Sub.refl _) (by omega) hp ?_
    case b4 => exact ⟨bd.mono (by decide), (bh j hj').mono (by decide)⟩
    case b5 => exact ⟨(bd_of_int (g.sg y j)).mono (by decide), (bd_mul bd (bh j hj')).mono (by decide)⟩
    exact gs_nil ⟨⟨Sub.refl _, Sub.refl _, Sub.refl _, Sub.refl _, Sub.refl _, Sub.refl _, Sub.refl _, True.intro⟩, rfl, True.intro⟩
  refine gs_freeze 6 [] _ rfl rfl hp ?_
  exact gs_ret (e_var (i := 6))
end K74
set_option Elab.async false
set_option linter.all false
set_option maxRecDepth 100000
set_option maxHeartbeats 4000000

namespace K74
open PySem PySem.Spec PyProof.Rows L2 Gx Lay Rb
variable {S : Sta} {cdv : Value} {f c T : Addr}
def stayRow (M : Md) (r : Rat) (o : Nat → Nat → Int) : Nat → Nat → Rat
  | 0, j => (M.sg M.Y j : Rat)
  | t + 1, j => stay M r (best M r o t) (M.Y - (t + 1)) j
theorem best_eq (M : Md) (r : Rat) (o : Nat → Nat → Int) (t j : Nat) : best M r o t j = mx (o (M.Y - t) j) (stayRow M r o t j) := by
  cases t <;> rfl
theorem bd_stayRow {M : Md} (g : Good M) {r : Rat} (hr : Rate r) {o : Nat → Nat → Int} (ho : Off o) {t j : Nat} (ht : t ≤ M.Y) (hj : j < M.n) : Bd 700 (stayRow M r o t j) := by
  cases t with
  | zero => exact (bd_of_int (g.sg M.Y j)).mono (by decide)
  | succ t => exact (bd_stay g hr (by omega) hj fun k hk => bd_best' g hr ho (t := t) (by omega) hk).mono (by omega)
abbrev s_tables_of : Stmt := topS 34
theorem sc_tables_of : FnScope ["model", "rate", "offers", "stays", "best", "year", "one", "stay"] ["model", "rate", "offers"] (defScope s_tables_of) := ⟨rfl, rfl, rfl, by decide +kernel, rfl, by decide +kernel, by decide +kernel⟩
theorem m_tables_of (F : FunA S "tables_of" s_tables_of cdv f) (B : Bl S) (c_staying : Cal S 5 "staying" (spStaying S)) (c_greater : Cal S 2 "greater" (spGreater S)) : Cal S 6 "tables_of" (spTables S) := by
  refine cal_of F sc_tables_of (by decide) (fun kV doc pm an ct us hl => by match us, hl with | [_, _, _], _ => rfl) (fun _ => rfl) ?_
  rintro b ⟨M, r, o⟩ ⟨g, hr, ho⟩
  dsimp only at g hr ho ⊢
  have hn := g.n
  have hY := g.Y
  have bo : ∀ y j, Bd 4000 (o y j : Rat) := fun y j => (bd_of_int (ho y j)).mono (by decide)
  refine gs_setN (i := 3) (c := Els 1 (two (LR S.K M.n (stayRow M r o 0)) Any)) (EN.sub (n_list (a_cons (n_lc (n := M.n) (Rf := fun j => RatP S.K (stayRow M r o 0 j)) (own := [("one", 6)]) (i_tup (e_ixTb (i := 1) (f := fun t => T1 S.K M.n (M.sg t)) (e_ixT (e_ixT (e_var (i := 0)) e_int (by omega)) e_int (by omega)) (e_neg e_int) (by omega))) (by omega) (fun i hi => g_name (i := 6)) (by decide) (fun i hi D => EE.sub (e_tup2 (e_var (i := 6)) e_int) int_ratP)).ee a_nil)) ?a1) (fun ps hps => ?_)
  case a1 => exact fun v h q => Els.sub (fun i hi => by
    match i, hi with
    | 0, _ => exact Sub.refl _) q
  refine gs_setN (i := 4) (c := Els 1 fun t => LR S.K M.n (best M r o (0 - t))) (EN.sub (n_list (a_cons (n_lc (n := M.n) (Rf := fun j => RatP S.K (best M r o 0 j)) (own := [("one", 6), ("stay", 7)]) (i_zipM (e_ixTb (i := 1) (f := fun t => T1 S.K M.n (o t)) (e_var (i := 2)) (e_neg e_int) (by omega)) (e_ixM (n := 1) (f := two (LR S.K M.n (stayRow M r o 0)) Any) List.mem_cons_self (e_var (i := 3)) e_int (by omega)) rfl B.zip) (by omega) (fun i hi => g_pair (i := 6) (j := 7)) (by decide) (fun j hj D => e_call c_greater ((o M.Y j : Rat), stayRow M r o 0 j) (a_cons (EE.sub (e_tup2 (e_var (i := 6)) e_int) int_ratP) (a_cons (e_var (i := 7)) a_nil)) ?a2 rfl)).ee a_nil)) ?a3) (fun pb hpb => ?_)
  case a2 => exact ⟨bo _ _, (bd_stayRow g hr ho (Nat.zero_le _) hj).mono (by decide)⟩
  case a3 => exact fun v h q => Els.sub (fun i hi => by
    match i, hi with
    | 0, _ => exact Sub.refl _) q
  refine gs_loop (fun t => [some (MdP S.K M), some (RatP S.K r), some (OfP S.K M o), some (Is (.ref ps)), some (Is (.ref pb)), none, none, none]) (fun t => (pb, Els (t + 1) fun i => LR S.K M.n (best M r o (t - i))) :: (ps, Els (t + 1) (two (LR S.K M.n (stayRow M r o t)) Any)) :: b.μ) (fun i => True) (i_down (n := M.Y) (e_sub (e_lenT (e_ixT (e_var (i := 0)) e_int (by omega)) rfl B.len) e_int) (e_neg e_int) (e_neg e_int) (by omega) rfl B.range) (fun i hi => g_name (i := 5)) ⟨Sub.refl _, Sub.refl _, Sub.refl _, Sub.refl _, Sub.refl _, True.intro⟩ rfl True.intro (fun t ht hI => ?_) (fun hI => ?_) (fun i Γ _ l => l.set _ _)
  · refine gs_insert [(pb, _)] _ rfl (g := two (LR S.K M.n (stayRow M r o (t + 1))) Any) (e_var (i := 3)) e_int (e_call c_staying (M, r, best M r o t, M.Y - (t + 1)) (a_cons (e_var (i := 0)) (a_cons (e_var (i := 1)) (a_cons (e_ixM (n := t + 1) (f := fun i => LR S.K M.n (best M r o (t - i))) List.mem_cons_self (e_var (i := 4)) e_int (by omega)) (a_cons (e_var (i := 5)) a_nil)))) ?b1 rfl) (Sub.refl _) (fun i v h q => True.intro) (by omega) hps ?_
    case b1 => exact ⟨g, hr, fun k hk => bd_best' g hr ho (by omega) hk, by show M.Y - (t + 1) < M.Y; omega⟩
    refine gs_insert [] _ rfl (g := fun i => LR S.K M.n (best M r o (t + 1 - i))) (e_var (i := 4)) e_int (n_lc (n := M.n) (Rf := fun j => RatP S.K (best M r o (t + 1) j)) (own := [("one", 6), ("stay", 7)]) (i_zipM (e_ixT (f := fun t => T1 S.K M.n (o t)) (e_var (i := 2)) (e_var (i := 5)) (by omega)) (e_ixM (n := t + 2) (f := two (LR S.K M.n (stayRow M r o (t + 1))) Any) (List.mem_cons_of_mem _ List.mem_cons_self) (e_var (i := 3)) e_int (by omega)) rfl B.zip) (by omega) (fun i hi => g_pair (i := 6) (j := 7)) (by decide) (fun j hj D => e_call c_greater ((o (M.Y - (t + 1)) j : Rat), stayRow M r o (t + 1) j) (a_cons (EE.sub (e_tup2 (e_var (i := 6)) e_int) int_ratP) (a_cons (e_var (i := 7)) a_nil)) ?b2 rfl)).ee (Sub.refl _) ?b3 (by omega) hpb ?_
    case b2 => exact ⟨bo _ _, (bd_stayRow g hr ho (by omega) hj).mono (by decide)⟩
    case b3 => exact fun i => by rw [Nat.add_sub_add_right]; exact Sub.refl _
    exact gs_nil ⟨⟨Sub.refl _, Sub.refl _, Sub.refl _, Sub.refl _, Sub.refl _, True.intro⟩, rfl, True.intro⟩
  refine gs_freeze 4 [] _ rfl rfl hpb ?_
  refine gs_freeze 3 [] _ rfl rfl hps ?_
  exact gs_ret (EE.sub (e_tup2 (e_var (i := 4)) (e_var (i := 3))) (Tz.els fun i hi => by
    match i, hi with
    | 0, _ => exact Sub.refl _
    | 1, _ => exact fun _ _ _ => True.intro))
abbrev s_best_values : Stmt := topS 35
theorem sc_best_values : FnScope ["model", "rate", "offers", "row"] ["model", "rate", "offers"] (defScope s_best_values) := ⟨rfl, rfl, rfl, by decide +kernel, rfl, by decide +kernel, by decide +kernel⟩
theorem m_best_values (F : FunA S "best_values" s_best_values cdv f) (B : Bl S) (c_need_offers : Cal S 11 "need_offers" (spNeedOffers S)) (c_tables_of : Cal S 6 "tables_of" (spTables S)) : Cal S 12 "best_values" (spBest S) := by
  refine cal_of F sc_best_values (by decide) (fun kV doc pm an ct us hl => by match us, hl with | [_, _, _], _ => rfl) (fun _ => rfl) ?_
  rintro b ⟨M, r, o⟩ ⟨g, hr, ho⟩
  dsimp only at g hr ho ⊢
  have hn := g.n
  have hY := g.Y
  refine gs_expr (e_call c_need_offers (M, r, o) (a_cons (e_var (i := 0)) (a_cons (e_var (i := 1)) (a_cons (e_var (i := 2)) a_nil))) ⟨g, hr, ho⟩ rfl) ?_
  refine gs_ret (e_tupleL (n_lc (n := M.Y + 1) (Rf := fun t => TR S.K M.n (best M r o (M.Y - t))) (own := [("row", 3)]) (i_list (f := fun t => LR S.K M.n (best M r o (M.Y - t))) (e_ixT (e_call c_tables_of (M, r, o) (a_cons (e_var (i := 0)) (a_cons (e_var (i := 1)) (a_cons (e_var (i := 2)) a_nil))) ⟨g, hr, ho⟩ rfl) e_int (by omega))) (by omega) (fun i hi => g_name (i := 3)) (by decide) (fun i hi D => e_tupleL (e_var (i := 3)) rfl B.tuple)).ee rfl B.tuple)
abbrev s_corrections : Stmt := topS 36
theorem sc_corrections : FnScope ["model", "rate", "offers", "best", "many", "found", "year", "rows", "j", "some", "mean", "k", "one"] ["model", "rate", "offers"] (defScope s_corrections) := ⟨rfl, rfl, rfl, by decide +kernel, rfl, by decide +kernel, by decide +kernel⟩
theorem m_corrections (F : FunA S "corrections" s_corrections cdv f) (B : Bl S) (c_need_offers : Cal S 11 "need_offers" (spNeedOffers S)) (c_tables_of : Cal S 6 "tables_of" (spTables S)) (c_plus : Cal S 2 "plus" (sp2 S fun x y => x + y)) (c_minus : Cal S 2 "minus" (sp2 S fun x y => x - y)) (c_by : Cal S 2 "by" (sp2 S fun x y => x * y)) (c_total : Cal S 3 "total" (spTotal S)) (c_chance : Cal S 2 "chance" (spChance S)) : Cal S 12 "corrections" (spCor S) := by
  refine cal_of F sc_corrections (by decide) (fun kV doc pm an ct us hl => by match us, hl with | [_, _, _], _ => rfl) (fun _ => rfl) ?_
  rintro b ⟨M, r, o⟩ ⟨g, hr, ho⟩
  dsimp only at g hr ho ⊢
  have hn := g.n
  have hY := g.Y
  refine gs_expr (e_call c_need_offers (M, r, o) (a_cons (e_var (i := 0)) (a_cons (e_var (i := 1)) (a_cons (e_var (i := 2)) a_nil))) ⟨g, hr, ho⟩ rfl) ?_
  refine gs_tup3N (i := 3) (j := 4) (l := 5) (A := BestL S.K (M, r, o)) (Ql := Els 0 fun t => TupF S.K M.n fun j => TR S.K M.n (cor M r o t j)) (e_ixT (n := 2) (f := two (BestL S.K (M, r, o)) Any) (e_call c_tables_of (M, r, o) (a_cons (e_var (i := 0)) (a_cons (e_var (i := 1)) (a_cons (e_var (i := 2)) a_nil))) ⟨g, hr, ho⟩ rfl) e_int (by decide)) (e_lenT (n := M.n) (f := fun j => T1 S.K M.n (M.st 0 j)) (e_ixT (n := M.Y) (f := fun t => T2 S.K M.n M.n (M.st t)) (e_ixT (e_var (i := 0)) e_int (by omega)) e_int (by omega)) rfl B.len) n_nil (fun pf hpf => ?_) (by intro env h; cases env; cases h; rfl)
  refine gs_loop (fun t => [some (MdP S.K M), some (RatP S.K r), some (OfP S.K M o), some (BestL S.K (M, r, o)), some (Is (.int (M.n : Int))), some (Is (.ref pf)), none, none, none, none, none, none, none]) (fun t => (pf, Els t fun t => TupF S.K M.n fun j => TR S.K M.n (cor M r o t j)) :: b.μ) (fun i => True) (i_rangeN (n := M.Y) (e_lenT (e_ixT (e_var (i := 0)) e_int (by omega)) rfl B.len) (by omega) rfl B.range) (fun i hi => g_name (i := 6)) ⟨Sub.refl _, Sub.refl _, Sub.refl _, Sub.refl _, Sub.refl _, Sub.refl _, True.intro⟩ rfl True.intro (fun y hy hI => ?_) (fun hI => ?_) (fun i Γ _ l => l.set _ _)
  · have hl : ∀ k, k < M.n → Bd 300 (best M r o (M.Y - (y + 1)) k) := fun k hk => bd_best' g hr ho (by omega) hk
    have bh : ∀ j, j < M.n → Bd 645 (here M (best M r o (M.Y - (y + 1))) y j) := fun j hj => (bd_here g hy hj hl).mono (by omega)
    refine gs_setN (i := 7) (c := Els 0 fun j => TR S.K M.n (cor M r o y j)) n_nil (fun pr hpr => ?_)
    refine gs_loop (fun j => [some (MdP S.K M), some (RatP S.K r), some (OfP S.K M o), some (BestL S.K (M, r, o)), some (Is (.int (M.n : Int))), some (Is (.ref pf)), some (Is (.int (y : Int))), some (Is (.ref pr)), none, none, none, none, none]) (fun j => (pr, Els j fun j => TR S.K M.n (cor M r o y j)) :: (pf, Els y fun t => TupF S.K M.n fun j => TR S.K M.n (cor M r o t j)) :: b.μ) (fun i => True) (i_rangeN (n := M.n) (e_var (i := 4)) (by omega) rfl B.range) (fun i hi => g_name (i := 8)) ⟨Sub.refl _, Sub.refl _, Sub.refl _, Sub.refl _, Sub.refl _, Sub.refl _, Sub.refl _, Sub.refl _, True.intro⟩ rfl True.intro (fun j hj hI => ?_) (fun hI => ?_) (fun i Γ _ l => l.set _ _)
    · refine gs_set (i := 9) (P := LR S.K M.n fun k => (M.mv y j k : Rat) + best M r o (M.Y - (y + 1)) k) (n_lc (n := M.n) (Rf := fun k => RatP S.K ((M.mv y j k : Rat) + best M r o (M.Y - (y + 1)) k)) (own := [("k", 11)]) (i_rangeN (e_var (i := 4)) (by omega) rfl B.range) (by omega) (fun i hi => g_name (i := 11)) (by decide) (fun k hk D => (e_call c_plus (_, _) (a_cons (EE.sub (e_tup2 (e_ixT (e_ixT (e_ixT (e_ixT (e_ixT (e_var (i := 0)) e_int (by omega)) e_int (by omega)) (e_var (i := 6)) (by omega)) (e_var (i := 8)) (by omega)) (e_var (i := 11)) (by omega)) e_int) int_ratP) (a_cons (e_ixL (n := M.n) (f := fun k => RatP S.K (best M r o (M.Y - (y + 1)) k)) (e_ixL (n := M.Y + 1) (f := fun t => LR S.K M.n (best M r o (M.Y - t))) (e_var (i := 3)) (e_add (i := (y : Int)) (j := 1) (e_var (i := 6)) e_int) (by omega)) (e_var (i := 11)) (by omega)) a_nil)) ?b1 rfl))).ee ?_ (hs := fun X h => sw_cell h rfl)
      case b1 => exact ⟨(bd_of_int (g.mv y j k)).mono (by decide), (hl k hk).mono (by decide)⟩
      refine gs_set (i := 10) (P := RatP S.K (here M (best M r o (M.Y - (y + 1))) y j)) (e_call c_total (M.n, fun k => ch M y j k * ((M.mv y j k : Rat) + best M r o (M.Y - (y + 1)) k)) (a_cons (n_lc (n := M.n) (own := [("k", 11)]) (Rf := fun k => RatP S.K (ch M y j k * ((M.mv y j k : Rat) + best M r o (M.Y - (y + 1)) k))) (i_rangeN (e_var (i := 4)) (by omega) rfl B.range) (by omega) (fun i hi => g_name (i := 11)) (by decide) (fun k hk D => (e_call c_by (_, _) (a_cons (e_call c_chance (M, y, j, k) (a_cons (e_var (i := 0)) (a_cons (e_var (i := 6)) (a_cons (e_var (i := 8)) (a_cons (e_var (i := 11)) a_nil)))) ⟨g, hy, hj, hk⟩ rfl) (a_cons (e_ixL (e_var (i := 9)) (e_var (i := 11)) (by omega)) a_nil)) ?b2 rfl))).ee a_nil) ?b3 rfl) ?_
      case b2 => exact ⟨(bd_ch g hy hj).mono (by decide), (bd_add (bd_of_int (g.mv y j k)) (hl k hk)).mono (by decide)⟩
      case b3 => exact ⟨g.n.2, fun k hk => (bd_mul (bd_ch g hy hj) (bd_add (bd_of_int (g.mv y j k)) (hl k hk))).mono (by decide)⟩
      refine gs_append [] _ rfl (e_var (i := 7)) (e_tupleL (n_lc (n := M.n) (Rf := fun k => RatP S.K (cor M r o y j k)) (own := [("one", 12)]) (i_list (e_var (i := 9))) (by omega) (fun i hi => g_name (i := 12)) (by decide) (fun k hk D => (e_call c_minus (_, _) (a_cons (e_var (i := 12)) (a_cons (e_var (i := 10)) a_nil)) ?b4 rfl))).ee rfl B.tuple) (Sub.refl _) (by omega) hpr ?_
      case b4 => exact ⟨(bd_add (bd_of_int (g.mv y j k)) (hl k hk)).mono (by decide), (bh j hj).mono (by decide)⟩
      exact gs_nil ⟨⟨Sub.refl _, Sub.refl _, Sub.refl _, Sub.refl _, Sub.refl _, Sub.refl _, Sub.refl _, Sub.refl _, True.intro⟩, rfl, True.intro⟩
    · refine gs_append [(pr, _)] _ rfl (e_var (i := 5)) (e_tupleM (c := Els M.n fun j => TR S.K M.n (cor M r o y j)) List.mem_cons_self (e_var (i := 7)) rfl B.tuple) (Sub.refl _) (by omega) hpf ?_
      refine gs_drop [] _ rfl hpr ?_
      exact gs_nil ⟨⟨Sub.refl _, Sub.refl _, Sub.refl _, Sub.refl _, Sub.refl _, Sub.refl _, True.intro⟩, rfl, True.intro⟩
  exact gs_ret (e_tupleM (c := Els M.Y fun t => TupF S.K M.n fun j => TR S.K M.n (cor M r o t j)) List.mem_cons_self (e_var (i := 5)) rfl B.tuple)
end K74
set_option Elab.async false
set_option linter.all false
set_option maxRecDepth 100000
set_option maxHeartbeats 4000000

namespace K74
open PySem PySem.Spec PyProof.Rows L2 Gx Lay Rb
variable {S : Sta} {cdv : Value} {f c T : Addr}
theorem allN_false {n i : Nat} {t : Nat → Bool} (hi : i < n) (h : t i = false) : allN n t = false := by
  cases e : allN n t with
  | false => rfl
  | true => rw [List.all_eq_true.mp e i (List.mem_range.mpr hi)] at h; cases h
theorem allN_of {n : Nat} {t : Nat → Bool} (h : ∀ i, i < n → t i = true) : allN n t = true := List.all_eq_true.mpr fun i hi => h i (List.mem_range.mp hi)
theorem allN_at {n : Nat} {t : Nat → Bool} (h : allN n t = true) {i : Nat} (hi : i < n) : t i = true := List.all_eq_true.mp h i (List.mem_range.mpr hi)
def Small (d : D4) : Prop := ∀ y j k, Bd 400 (vOf d y j k)
abbrev spAre (S : Sta) : Sp := spOf S (ι := Md × D4) (fun y => [MdP S.K y.1, DP4 S.K y.2]) (fun y _ => Good y.1 ∧ Small y.2) (fun y => Is (.bl (areC y.1 y.2)))
theorem year_bad {M : Md} {d : D4} {y : Nat} (hy : y < M.Y) (h : yearOK M y (el d y) = false) : areC M d = false := by
  unfold areC
  rw [allN_false hy h, Bool.and_false]
theorem row_bad {M : Md} {y j : Nat} {d : D3} (hj : j < M.n) (h : rowOK M y j (el d j) = false) : yearOK M y d = false := by
  unfold yearOK
  rw [allN_false hj h, Bool.and_false]
theorem d1_rat {K : PySem.W.Frag} {d : D1} (h : (isR d).isSome = true) : Sub (DP1 K d) (RatP K (valR d)) := by
  match d with
  | none => cases h
  | some l =>
    by_cases hl : l.length = 2
    · match l, hl with
      | [.i n, .i e], _ =>
        have h' : 0 < e ∧ gc n e = 1 := by
          by_cases q : 0 < e ∧ gc n e = 1
          · exact q
          · have : isR (some [.i n, .i e]) = none := if_neg q
            rw [this] at h
            cases h
        have hv : valR (some [.i n, .i e]) = Rat.divInt n e := by
          unfold valR
          rw [show isR (some [.i n, .i e]) = some (Rat.divInt n e) from if_pos h']
          rfl
        rw [hv]
        obtain ⟨e1, e2⟩ := of_pair h'.1 h'.2
        exact Tz.els fun i hi => by
          match i, hi with
          | 0, _ => exact fun v h z => z.trans (by rw [e1])
          | 1, _ => exact fun v h z => z.trans (by rw [e2])
      | [.b _, .i _], _ => cases h
      | [.b _, .b _], _ => cases h
      | [.i _, .b _], _ => cases h
    · rw [isR_len hl] at h
      cases h
theorem areC_some (M : Md) (L : List D3) : areC M (some L) = (decide (L.length = M.Y) && allN M.Y fun y => yearOK M y (el (some L) y)) := rfl
theorem yearOK_some (M : Md) (y : Nat) (L : List D2) : yearOK M y (some L) = (decide (L.length = M.n) && allN M.n fun j => rowOK M y j (el (some L) j)) := rfl
theorem rowOK_some (M : Md) (y j : Nat) (L : List D1) : rowOK M y j (some L) = (decide (L.length = M.n) && (allN M.n (fun k => (isR (el (some L) k)).isSome) && decide (sumQ M.n (fun k => ch M y j k * valR (el (some L) k)) = 0))) := rfl
abbrev s_are_corrections : Stmt := topS 37
theorem sc_are_corrections : FnScope ["model", "value", "many", "year", "rows", "j", "row", "one", "k"] ["model", "value"] (defScope s_are_corrections) := ⟨rfl, rfl, rfl, by decide +kernel, rfl, by decide +kernel, by decide +kernel⟩
theorem bd_val {d : D4} (h : Small d) (y j k : Nat) : Bd 400 (valR (el (el (el d y) j) k)) := h y j k
theorem m_are_corrections (F : FunA S "are_corrections" s_are_corrections (.ref c) f) (B : Bl S) (g : Gn S c T) (c_is_ratio : Cal S 4 "is_ratio" (spIsRatio S)) (c_by : Cal S 2 "by" (sp2 S fun x y => x * y)) (c_total : Cal S 3 "total" (spTotal S)) (c_chance : Cal S 2 "chance" (spChance S)) : Cal S 8 "are_corrections" (spAre S) := by
  refine cal_of F sc_are_corrections (by decide) (fun kV doc pm an ct us hl => by match us, hl with | [_, _], _ => rfl) (fun _ => rfl) ?_
  rintro b ⟨M, d⟩ ⟨gd, hs⟩
  dsimp only at gd hs ⊢
  have hn := gd.n
  have hY := gd.Y
  refine gs_set (i := 2) (P := Is (.int (M.n : Int))) (e_lenT (e_ixT (e_ixT (e_var (i := 0)) e_int (by omega)) e_int (by omega)) rfl B.len) ?_
  match d, hs with
  | none, _ => exact gs_out (k := true) (t_w (w_or (k := true) (l := false) (ET.is (t_not (t_val (e_isi (A := NoTup S.K) (e_var (i := 1)) ty_no (e_ty rfl B.tuple boot_tuple) rfl B.isinstance))) rfl) (fun h => by cases h))) (fun _ => gs_ret e_bl) (fun h => by cases h)
  | some L, hs =>
    refine gs_out (k := !decide ((L.length : Int) = (M.Y : Int))) (t_w (w_or (k := false) (t_notT (t_val (e_isi (A := DP4 S.K (some L)) (e_var (i := 1)) ty_tup (e_ty rfl B.tuple boot_tuple) rfl B.isinstance))) (fun _ => w_or1 (t_cmp (c_ne (e_lenT (n := L.length) (f := fun i => DP3 S.K (L.getD i default)) (e_var (i := 1)) rfl B.len) (e_lenT (e_ixT (e_var (i := 0)) e_int (by omega)) rfl B.len)))))) (fun h => ?_) (fun h => ?_)
    · have hl : L.length ≠ M.Y := fun z => by rw [z] at h; simp at h
      refine gs_ret (EE.is e_bl ?_)
      rw [areC_some]
      rw [decide_eq_false hl]
      rfl
    · have hl : L.length = M.Y := by simp at h; omega
      refine gs_loop (fun i => [some (MdP S.K M), some (DP4 S.K (some L)), some (Is (.int (M.n : Int))), none, none, none, none, none, none]) (fun i => b.μ) (fun i => ∀ y, y < i → yearOK M y (el (some L) y) = true) (i_enum (n := L.length) (f := fun i => DP3 S.K (L.getD i default)) (e_var (i := 1)) rfl B.enumerate) (fun i hi => g_pair (i := 3) (j := 4)) ⟨Sub.refl _, Sub.refl _, Sub.refl _, True.intro⟩ rfl (fun y hy => absurd hy (Nat.not_lt_zero y)) (fun y hy hI => ?_) (fun hI => ?_) (fun i Γ _ l => (l.set _ _).set _ _)
      · have hy' : y < M.Y := by omega
        match he : L.getD y default with
        | none =>
          refine gs_out (k := true) (t_w (w_or (k := true) (l := false) (ET.is (t_not (t_val (e_isi (A := NoTup S.K) (EE.sub (e_var (i := 4)) ?a1) ty_no (e_ty rfl B.tuple boot_tuple) rfl B.isinstance))) rfl) (fun h => by cases h))) (fun _ => gs_ret (EE.is e_bl ?a2)) (fun h => by cases h)
          case a1 => exact Sub.refl _
          case a2 => rw [year_bad hy' (d := some L) (show yearOK M y (L.getD y default) = false by rw [he]; rfl)]
        | some R =>
          have hee : el (some L) y = some R := he
          refine gs_le (Γ' := [some (MdP S.K M), some (DP4 S.K (some L)), some (Is (.int (M.n : Int))), some (Is (.int (y : Int))), some (DP3 S.K (some R)), none, none, none, none]) ⟨Sub.refl _, Sub.refl _, Sub.refl _, Sub.refl _, by exact Sub.refl _, True.intro⟩ ?_
          refine gs_out (k := !decide ((R.length : Int) = (M.n : Int))) (t_w (w_or (k := false) (t_notT (t_val (e_isi (A := DP3 S.K (some R)) (e_var (i := 4)) ty_tup (e_ty rfl B.tuple boot_tuple) rfl B.isinstance))) (fun _ => w_or1 (t_cmp (c_ne (e_lenT (n := R.length) (f := fun i => DP2 S.K (R.getD i default)) (e_var (i := 4)) rfl B.len) (e_var (i := 2))))))) (fun h => ?_) (fun h => ?_)
          · have hl : R.length ≠ M.n := fun z => by rw [z] at h; simp at h
            refine gs_ret (EE.is e_bl ?_)
            rw [year_bad hy' (d := some L) ?_]
            rw [hee]
            rw [yearOK_some]
            rw [decide_eq_false hl]
            rfl
          · have hlR : R.length = M.n := by simp at h; omega
            refine gs_loop (fun i => [some (MdP S.K M), some (DP4 S.K (some L)), some (Is (.int (M.n : Int))), some (Is (.int (y : Int))), some (DP3 S.K (some R)), none, none, none, none]) (fun i => b.μ) (fun i => ∀ j, j < i → rowOK M y j (el (some R) j) = true) (i_enum (n := R.length) (f := fun i => DP2 S.K (R.getD i default)) (e_var (i := 4)) rfl B.enumerate) (fun i hi => g_pair (i := 5) (j := 6)) ⟨Sub.refl _, Sub.refl _, Sub.refl _, Sub.refl _, Sub.refl _, True.intro⟩ rfl (fun y hy => absurd hy (Nat.not_lt_zero y)) (fun j hj hJ => ?_) (fun hJ => ?_) (fun i Γ _ l => (l.set _ _).set _ _)
            · have hj' : j < M.n := by omega
              have bad : rowOK M y j (el (some R) j) = false → areC M (some L) = false := fun z => year_bad hy' (by rw [hee]; exact row_bad hj' z)
              match hr : R.getD j default with
              | none =>
                refine gs_out (k := true) (t_w (w_or (k := true) (l := false) (ET.is (t_not (t_val (e_isi (A := NoTup S.K) (EE.sub (e_var (i := 6)) ?a1) ty_no (e_ty rfl B.tuple boot_tuple) rfl B.isinstance))) rfl) (fun h => by cases h))) (fun _ => gs_ret (EE.is e_bl ?a2)) (fun h => by cases h)
                case a1 => exact Sub.refl _
                case a2 => rw [bad (show rowOK M y j (R.getD j default) = false by rw [hr]; rfl)]
              | some l =>
                have hre : el (some R) j = some l := hr
                refine gs_le (Γ' := [some (MdP S.K M), some (DP4 S.K (some L)), some (Is (.int (M.n : Int))), some (Is (.int (y : Int))), some (DP3 S.K (some R)), some (Is (.int (j : Int))), some (DP2 S.K (some l)), none, none]) ⟨Sub.refl _, Sub.refl _, Sub.refl _, Sub.refl _, Sub.refl _, Sub.refl _, by exact Sub.refl _, True.intro⟩ ?_
                refine gs_out (k := !decide ((l.length : Int) = (M.n : Int)) || !allN l.length (fun k => (isR (l.getD k default)).isSome)) (t_w (w_or (k := false) (t_notT (t_val (e_isi (A := DP2 S.K (some l)) (e_var (i := 6)) ty_tup (e_ty rfl B.tuple boot_tuple) rfl B.isinstance))) (fun _ => w_or (t_cmp (c_ne (e_lenT (n := l.length) (f := fun i => DP1 S.K (l.getD i default)) (e_var (i := 6)) rfl B.len) (e_var (i := 2)))) (fun _ => w_or1 (t_not (t_val (e_all (m := 1) (own := [("one", 7)]) (j := 7) (k := 4) rfl g.bm g.cdt rfl B.all (i_tup (n := l.length) (f := fun i => DP1 S.K (l.getD i default)) (e_var (i := 6))) (fun k hk c' T' => EE.ef (e_call c_is_ratio (l.getD k default) (a_cons (e_var (i := 7)) a_nil) True.intro rfl))))))))) (fun h => ?_) (fun h => ?_)
                · refine gs_ret (EE.is e_bl ?_)
                  rw [bad ?_]
                  rw [hre]
                  rw [rowOK_some]
                  by_cases q : l.length = M.n
                  · have h2 : allN M.n (fun k => (isR (l.getD k default)).isSome) = false := by
                      rw [q] at h
                      simpa using h
                    have h3 : allN M.n (fun k => (isR (el (some l) k)).isSome) = false := h2
                    rw [h3, Bool.false_and, Bool.and_false]
                  · rw [decide_eq_false q]
                    rfl
                · have hll : l.length = M.n := by
                    by_cases q : l.length = M.n
                    · exact q
                    · have q' : ¬ (l.length : Int) = (M.n : Int) := by omega
                      rw [decide_eq_false q'] at h
                      cases h
                  have hall : allN M.n (fun k => (isR (el (some l) k)).isSome) = true := by
                    rw [hll] at h
                    have : allN M.n (fun k => (isR (l.getD k default)).isSome) = true := by simpa using h
                    exact this
                  have bv : ∀ k, Bd 400 (valR (el (some l) k)) := fun k => by
                    have := bd_val hs y j k
                    rw [hee, hre] at this
                    exact this
                  refine gs_out (k := !decide ((sumQ M.n fun k => ch M y j k * valR (el (some l) k)).num = 0)) (t_cmp (c_ne (e_ixT (n := 2) (e_call c_total (M.n, fun k => ch M y j k * valR (el (some l) k)) (a_cons (n_lc (n := M.n) (own := [("k", 8)]) (Rf := fun k => RatP S.K (ch M y j k * valR (el (some l) k))) (i_rangeN (e_var (i := 2)) (by omega) rfl B.range) (by omega) (fun i hi => g_name (i := 8)) (by decide) (fun k hk D => (e_call c_by (_, _) (a_cons (e_call c_chance (M, y, j, k) (a_cons (e_var (i := 0)) (a_cons (e_var (i := 3)) (a_cons (e_var (i := 5)) (a_cons (e_var (i := 8)) a_nil)))) ⟨gd, hy', hj', hk⟩ rfl) (a_cons (EE.sub (e_ixT (n := l.length) (f := fun i => DP1 S.K (l.getD i default)) (P := DP1 S.K (el (some l) k)) (e_var (i := 6)) (e_var (i := 8)) (by omega)) (d1_rat (allN_at hall hk))) a_nil)) ?b2 rfl))).ee a_nil) ?b3 rfl) e_int (by decide)) e_int)) (fun h => ?_) (fun h => ?_)
                  case b2 => exact ⟨(bd_ch gd hy' hj').mono (by decide), (bv k).mono (by decide)⟩
                  case b3 => exact ⟨gd.n.2, fun k hk => (bd_mul (bd_ch gd hy' hj') (bv k)).mono (by decide)⟩
                  · refine gs_ret (EE.is e_bl ?_)
                    rw [bad ?_]
                    rw [hre]
                    have : ¬ sumQ M.n (fun k => ch M y j k * valR (el (some l) k)) = 0 := fun z => by
                      rw [z] at h
                      exact absurd h (by decide)
                    rw [rowOK_some]
                    rw [decide_eq_false this, Bool.and_false, Bool.and_false]
                  · refine gs_nil ⟨⟨Sub.refl _, Sub.refl _, Sub.refl _, Sub.refl _, Sub.refl _, True.intro⟩, rfl, fun j2 hj2 => ?_⟩
                    rcases Nat.lt_succ_iff_lt_or_eq.mp hj2 with z | z
                    · exact hJ j2 z
                    · rw [z, hre]
                      have : sumQ M.n (fun k => ch M y j k * valR (el (some l) k)) = 0 := by
                        refine Rat.num_eq_zero.mp ?_
                        simpa using h
                      rw [rowOK_some]
                      rw [decide_eq_true this, hall, decide_eq_true hll]
                      rfl
            · refine gs_nil ⟨⟨Sub.refl _, Sub.refl _, Sub.refl _, True.intro⟩, rfl, fun y2 hy2 => ?_⟩
              rcases Nat.lt_succ_iff_lt_or_eq.mp hy2 with z | z
              · exact hI y2 z
              · rw [z, hee]
                rw [yearOK_some]
                rw [decide_eq_true hlR, allN_of fun j hj => hJ j (by omega)]
                rfl
      · refine gs_ret (EE.is e_bl ?_)
        rw [areC_some]
        rw [decide_eq_true hl, allN_of fun y hy => hI y (by omega)]
        rfl
end K74
set_option Elab.async false
set_option linter.all false
set_option maxRecDepth 100000
set_option maxHeartbeats 4000000

namespace K74
open PySem PySem.Spec PyProof.Rows L2 Gx Lay Rb
variable {S : Sta} {cdv : Value} {f c T : Addr}
theorem bd_gk {M : Md} (g : Good M) {r : Rat} (hr : Rate r) {o : Nat → Nat → Int} (ho : Off o) {v : Nat → Nat → Nat → Rat} (hv : ∀ y j k, Bd 400 (v y j k)) {l : Nat → Rat} {b y j : Nat} (hl : ∀ k, k < M.n → Bd b (l k)) : ∀ k, k ≤ M.n → Bd (b + 443) (gk M r o v l y j k)
  | 0, _ => (bd_of_int (ho y j)).mono (by omega)
  | k + 1, hk => by
    have ih := bd_gk g hr ho hv hl (y := y) (j := j) k (by omega)
    unfold gk
    split
    · exact bd_mx ih ((bd_add (bd_of_int (g.sg y j)) (bd_mul (bd_dc hr) (bd_sub (bd_add (bd_of_int (g.mv y j k)) (hl k (by omega))) (hv y j k)))).mono (by omega))
    · exact ih
theorem bd_great {M : Md} (g : Good M) {r : Rat} (hr : Rate r) {o : Nat → Nat → Int} (ho : Off o) {v : Nat → Nat → Nat → Rat} (hv : ∀ y j k, Bd 400 (v y j k)) : ∀ t j, j < M.n → Bd (10 + 443 * t) (great M r o v t j)
  | 0, j, hj => (bd_mx (bd_of_int (ho M.Y j)) (bd_of_int (g.sg M.Y j))).mono (by omega)
  | t + 1, j, hj => (bd_gk g hr ho hv (l := great M r o v t) (b := 10 + 443 * t) (fun k hk => bd_great g hr ho hv t k hk) M.n (Nat.le_refl _)).mono (by omega)
abbrev VP (K : PySem.W.Frag) (M : Md) (v : Nat → Nat → Nat → Rat) : Rp := TupF K M.Y fun y => TupF K M.n fun j => TR K M.n (v y j)
abbrev spGP (S : Sta) : Sp := spOf S (ι := ιO × (Nat → Nat → Nat → Rat)) (fun y => [MdP S.K y.1.1, RatP S.K y.1.2.1, OfP S.K y.1.1 y.1.2.2, VP S.K y.1.1 y.2]) (fun y μ => cdO y.1 μ ∧ ∀ t j k, Bd 400 (y.2 t j k)) (fun y => LR S.K y.1.1.n (great y.1.1 y.1.2.1 y.1.2.2 y.2 y.1.1.Y))
abbrev s_greatest_paid : Stmt := topS 38
theorem sc_greatest_paid : FnScope ["model", "rate", "offers", "value", "many", "step", "last", "found", "year", "rows", "j", "here", "k", "part", "one", "stay"] ["model", "rate", "offers", "value"] (defScope s_greatest_paid) := ⟨rfl, rfl, rfl, by decide +kernel, rfl, by decide +kernel, by decide +kernel⟩
theorem m_greatest_paid (F : FunA S "greatest_paid" s_greatest_paid cdv f) (B : Bl S) (c_power : Cal S 3 "power" (spPower S)) (c_growth : Cal S 2 "growth" (spGrowth S)) (c_greater : Cal S 2 "greater" (spGreater S)) (c_plus : Cal S 2 "plus" (sp2 S fun x y => x + y)) (c_minus : Cal S 2 "minus" (sp2 S fun x y => x - y)) (c_by : Cal S 2 "by" (sp2 S fun x y => x * y)) : Cal S 4 "greatest_paid" (spGP S) := by
  refine cal_of F sc_greatest_paid (by decide) (fun kV doc pm an ct us hl => by match us, hl with | [_, _, _, _], _ => rfl) (fun _ => rfl) ?_
  rintro b ⟨⟨M, r, o⟩, v⟩ ⟨⟨g, hr, ho⟩, hv⟩
  dsimp only at g hr ho hv ⊢
  have hn := g.n
  have hY := g.Y
  have bd := bd_dc hr
  have bi : ∀ {i : Int}, (-1000 ≤ i ∧ i ≤ 1000) → Bd 4000 (i : Rat) := fun h => (bd_of_int h).mono (by decide)
  refine gs_par2 (i := 4) (j := 5) (e_lenT (e_ixT (e_ixT (e_var (i := 0)) e_int (by omega)) e_int (by omega)) rfl B.len) (e_call c_power (r + 1) (a_cons (e_call c_growth r (a_cons (e_var (i := 1)) a_nil) ?a1 rfl) (a_cons (e_neg e_int) a_nil)) ?a2 rfl) ?_ (by intro env h; cases env; cases h; rfl)
  case a1 => exact (bd_rate hr).mono (by decide)
  case a2 => exact ⟨pos_dc hr, (bd_add (bd_rate hr) bd_one).mono (by decide)⟩
  refine gs_set (i := 6) (e_ixTb (i := 1) (f := fun t => T1 S.K M.n (M.sg t)) (e_ixT (e_ixT (e_var (i := 0)) e_int (by omega)) e_int (by omega)) (e_neg e_int) (by omega)) ?_
  refine gs_setLc (i := 7) (n := M.n) (Rf := fun j => RatP S.K (great M r o v 0 j)) (own := [("one", 14), ("stay", 15)]) (i_zipT (e_ixTb (i := 1) (f := fun t => T1 S.K M.n (o t)) (e_var (i := 2)) (e_neg e_int) (by omega)) (e_var (i := 6)) rfl B.zip) (by omega) (fun i hi => g_pair (i := 14) (j := 15)) (by decide) (fun j hj D => e_call c_greater ((o M.Y j : Rat), (M.sg M.Y j : Rat)) (a_cons (EE.sub (e_tup2 (e_var (i := 14)) e_int) int_ratP) (a_cons (EE.sub (e_tup2 (e_var (i := 15)) e_int) int_ratP) a_nil)) ?a3 rfl) (fun pf hpf => ?_) (hsw := fun X h => sw_local h rfl rfl rfl rfl)
  case a3 => exact ⟨bi (ho _ _), bi (g.sg _ _)⟩
  refine gs_freeze 7 [] _ rfl rfl hpf ?_
  refine gs_loop (fun t => [some (MdP S.K M), some (RatP S.K r), some (OfP S.K M o), some (VP S.K M v), some (Is (.int (M.n : Int))), some (RatP S.K (dc r)), none, some (LR S.K M.n (great M r o v t)), none, none, none, none, none, none, none, none]) (fun t => b.μ) (fun i => True) (i_down (n := M.Y) (e_sub (e_lenT (e_ixT (e_var (i := 0)) e_int (by omega)) rfl B.len) e_int) (e_neg e_int) (e_neg e_int) (by omega) rfl B.range) (fun i hi => g_name (i := 8)) ⟨Sub.refl _, Sub.refl _, Sub.refl _, Sub.refl _, Sub.refl _, Sub.refl _, Sub.refl _, True.intro⟩ rfl True.intro (fun t ht hI => ?_) (fun hI => ?_) (fun i Γ _ l => l.set _ _)
  · have hy : M.Y - (t + 1) < M.Y := by omega
    have hg : ∀ k, k < M.n → Bd 900 (great M r o v t k) := fun k hk => (bd_great g hr ho hv t k hk).mono (by omega)
    have hgk : ∀ j k, k ≤ M.n → Bd 1400 (gk M r o v (great M r o v t) (M.Y - (t + 1)) j k) := fun j k hk => (bd_gk g hr ho hv hg k hk).mono (by decide)
    refine gs_setN (i := 9) (c := Els 0 fun j => RatP S.K (great M r o v (t + 1) j)) n_nil (fun pr hpr => ?_)
    refine gs_loop (fun j => [some (MdP S.K M), some (RatP S.K r), some (OfP S.K M o), some (VP S.K M v), some (Is (.int (M.n : Int))), some (RatP S.K (dc r)), none, some (LR S.K M.n (great M r o v t)), some (Is (.int ((M.Y - (t + 1) : Nat) : Int))), some (Is (.ref pr)), none, none, none, none, none, none]) (fun j => (pr, Els j fun j => RatP S.K (great M r o v (t + 1) j)) :: b.μ) (fun i => True) (i_rangeN (n := M.n) (e_var (i := 4)) (by omega) rfl B.range) (fun i hi => g_name (i := 10)) ⟨Sub.refl _, Sub.refl _, Sub.refl _, Sub.refl _, Sub.refl _, Sub.refl _, Sub.refl _, Sub.refl _, Sub.refl _, True.intro⟩ rfl True.intro (fun j hj hI => ?_) (fun hI => ?_) (fun i Γ _ l => l.set _ _)
    · refine gs_set (i := 11) (P := RatP S.K (gk M r o v (great M r o v t) (M.Y - (t + 1)) j 0)) (EE.sub (e_tup2 (e_ixT (e_ixT (f := fun t => T1 S.K M.n (o t)) (e_var (i := 2)) (e_var (i := 8)) (by omega)) (e_var (i := 10)) (by omega)) e_int) int_ratP) ?_
      refine gs_loop (fun k => [some (MdP S.K M), some (RatP S.K r), some (OfP S.K M o), some (VP S.K M v), some (Is (.int (M.n : Int))), some (RatP S.K (dc r)), none, some (LR S.K M.n (great M r o v t)), some (Is (.int ((M.Y - (t + 1) : Nat) : Int))), some (Is (.ref pr)), some (Is (.int (j : Int))), some (RatP S.K (gk M r o v (great M r o v t) (M.Y - (t + 1)) j k)), none, none, none, none]) (fun k => (pr, Els j fun j => RatP S.K (great M r o v (t + 1) j)) :: b.μ) (fun i => True) (i_rangeN (n := M.n) (e_var (i := 4)) (by omega) rfl B.range) (fun i hi => g_name (i := 12)) ⟨Sub.refl _, Sub.refl _, Sub.refl _, Sub.refl _, Sub.refl _, Sub.refl _, Sub.refl _, Sub.refl _, Sub.refl _, Sub.refl _, Sub.refl _, True.intro⟩ rfl True.intro (fun k hk hI => ?_) (fun hI => ?_) (fun i Γ _ l => l.set _ _)
      · refine gs_if (k := decide (0 < M.st (M.Y - (t + 1)) j k)) (N' := Lay.At [some (MdP S.K M), some (RatP S.K r), some (OfP S.K M o), some (VP S.K M v), some (Is (.int (M.n : Int))), some (RatP S.K (dc r)), none, some (LR S.K M.n (great M r o v t)), some (Is (.int ((M.Y - (t + 1) : Nat) : Int))), some (Is (.ref pr)), some (Is (.int (j : Int))), some (RatP S.K (gk M r o v (great M r o v t) (M.Y - (t + 1)) j (k + 1))), none, none, none, none] ((pr, Els j fun j => RatP S.K (great M r o v (t + 1) j)) :: b.μ) True)
          (t_cmp (c_gt (i := M.st (M.Y - (t + 1)) j k) (e_ixT (n := M.n) (f := II (M.st (M.Y - (t + 1)) j)) (e_ixT (n := M.n) (f := fun j => T1 S.K M.n (M.st (M.Y - (t + 1)) j)) (e_ixT (n := M.Y) (f := fun t => T2 S.K M.n M.n (M.st t)) (e_ixT (e_var (i := 0)) e_int (by decide)) (e_var (i := 8)) (by omega)) (e_var (i := 10)) (by omega)) (e_var (i := 12)) (by omega)) e_int)) (fun h => ?_) (fun h => ?_) (fun Γ' μ' h => gs_nil h)
        · have h' := of_decide_eq_true h
          refine gs_set (i := 13) (P := RatP S.K (((M.mv (M.Y - (t + 1)) j k : Rat) + great M r o v t k) - v (M.Y - (t + 1)) j k)) (e_call c_minus (_, _) (a_cons (e_call c_plus (_, _) (a_cons (EE.sub (e_tup2 (e_ixT (n := M.n) (f := II (M.mv (M.Y - (t + 1)) j)) (e_ixT (n := M.n) (f := fun j => T1 S.K M.n (M.mv (M.Y - (t + 1)) j)) (e_ixT (n := M.Y) (f := fun t => T2 S.K M.n M.n (M.mv t)) (e_ixT (e_ixT (e_var (i := 0)) e_int (by decide)) e_int (by decide)) (e_var (i := 8)) (by omega)) (e_var (i := 10)) (by omega)) (e_var (i := 12)) (by omega)) e_int) int_ratP) (a_cons (e_ixL (e_var (i := 7)) (e_var (i := 12)) (by omega)) a_nil)) ?b1 rfl) (a_cons (e_ixT (n := M.n) (f := fun k => RatP S.K (v (M.Y - (t + 1)) j k)) (e_ixT (n := M.n) (f := fun j => TR S.K M.n (v (M.Y - (t + 1)) j)) (e_ixT (n := M.Y) (f := fun y => TupF S.K M.n fun j => TR S.K M.n (v y j)) (e_var (i := 3)) (e_var (i := 8)) (by omega)) (e_var (i := 10)) (by omega)) (e_var (i := 12)) (by omega)) a_nil)) ?b2 rfl) ?_
          case b1 => exact ⟨bi (g.mv _ _ _), (hg k hk).mono (by decide)⟩
          case b2 => exact ⟨(bd_add (bd_of_int (g.mv _ _ _)) (hg k hk)).mono (by decide), (hv _ _ _).mono (by decide)⟩
          have bp : Bd 1320 (((M.mv (M.Y - (t + 1)) j k : Rat) + great M r o v t k) - v (M.Y - (t + 1)) j k) := (bd_sub (bd_add (bd_of_int (g.mv _ _ _)) (hg k hk)) (hv _ _ _)).mono (by decide)
          refine gs_set (i := 11) (P := RatP S.K (gk M r o v (great M r o v t) (M.Y - (t + 1)) j (k + 1))) (EE.sub (e_call c_greater (_, _) (a_cons (e_var (i := 11)) (a_cons (e_call c_plus (_, _) (a_cons (EE.sub (e_tup2 (e_ixT (n := M.n) (f := II (M.sg (M.Y - (t + 1)))) (e_ixT (n := M.Y + 1) (f := fun t => T1 S.K M.n (M.sg t)) (e_ixT (e_ixT (e_var (i := 0)) e_int (by decide)) e_int (by decide)) (e_var (i := 8)) (by omega)) (e_var (i := 10)) (by omega)) e_int) int_ratP) (a_cons (e_call c_by (_, _) (a_cons (e_var (i := 5)) (a_cons (e_var (i := 13)) a_nil)) ?b3 rfl) a_nil)) ?b4 rfl) a_nil)) ?b5 rfl) ?b6) ?_
          case b3 => exact ⟨bd.mono (by decide), bp.mono (by decide)⟩
          case b4 => exact ⟨bi (g.sg _ _), (bd_mul bd bp).mono (by decide)⟩
          case b5 => exact ⟨(hgk j k (by omega)).mono (by decide), (bd_add (bd_of_int (g.sg _ _)) (bd_mul bd bp)).mono (by decide)⟩
          case b6 => exact ratP_eq (if_pos h').symm
          exact gs_nil ⟨⟨Sub.refl _, Sub.refl _, Sub.refl _, Sub.refl _, Sub.refl _, Sub.refl _, Sub.refl _, Sub.refl _, Sub.refl _, Sub.refl _, Sub.refl _, True.intro⟩, rfl, True.intro⟩
        · have h' := of_decide_eq_false h
          exact gs_nil ⟨⟨Sub.refl _, Sub.refl _, Sub.refl _, Sub.refl _, Sub.refl _, Sub.refl _, Sub.refl _, Sub.refl _, Sub.refl _, Sub.refl _, ratP_eq (if_neg h').symm, True.intro⟩, rfl, True.intro⟩
      · refine gs_append [] _ rfl (e_var (i := 9)) (e_var (i := 11)) (Sub.refl _) (by omega) hpr ?_
        exact gs_nil ⟨⟨Sub.refl _, Sub.refl _, Sub.refl _, Sub.refl _, Sub.refl _, Sub.refl _, Sub.refl _, Sub.refl _, Sub.refl _, True.intro⟩, rfl, True.intro⟩
    · refine gs_set (i := 7) (e_var (i := 9)) ?_
      refine gs_freeze 7 [] _ rfl rfl hpr ?_
      exact gs_nil ⟨⟨Sub.refl _, Sub.refl _, Sub.refl _, Sub.refl _, Sub.refl _, Sub.refl _, Sub.refl _, True.intro⟩, rfl, True.intro⟩
  exact gs_ret (e_var (i := 7))
theorem areC_vp {K : PySem.W.Frag} {M : Md} {d : D4} (h : areC M d = true) : Sub (DP4 K d) (VP K M (vOf d)) := by
  match d with
  | none => cases h
  | some L =>
    rw [areC_some, Bool.and_eq_true] at h
    have hl : L.length = M.Y := of_decide_eq_true h.1
    show Lay.Sub (TupF K L.length fun i => DP3 K (L.getD i default)) _
    rw [hl]
    refine Tz.els fun y hy => ?_
    have h2 := allN_at h.2 hy
    match he : L.getD y default with
    | none =>
      have hee : el (some L) y = none := he
      rw [hee] at h2
      cases h2
    | some R =>
      have hee : el (some L) y = some R := he
      rw [hee, yearOK_some, Bool.and_eq_true] at h2
      have hl2 : R.length = M.n := of_decide_eq_true h2.1
      show Lay.Sub (TupF K R.length fun i => DP2 K (R.getD i default)) _
      rw [hl2]
      refine Tz.els fun j hj => ?_
      have h3 := allN_at h2.2 hj
      match hr : R.getD j default with
      | none =>
        have hre : el (some R) j = none := hr
        rw [hre] at h3
        cases h3
      | some l =>
        have hre : el (some R) j = some l := hr
        rw [hre, rowOK_some, Bool.and_eq_true, Bool.and_eq_true] at h3
        have hl3 : l.length = M.n := of_decide_eq_true h3.1
        show Lay.Sub (TupF K l.length fun i => DP1 K (l.getD i default)) _
        rw [hl3]
        refine Tz.els fun k hk => ?_
        have h4 : (isR (l.getD k default)).isSome = true := allN_at h3.2.1 hk
        have e : vOf (some L) y j k = valR (l.getD k default) := by
          unfold vOf
          rw [hee, hre]
          rfl
        show Lay.Sub _ (RatP K (vOf (some L) y j k))
        rw [e]
        exact d1_rat h4
abbrev spShows (S : Sta) : Sp := spOf S (ι := ιO × D4) (fun y => [MdP S.K y.1.1, RatP S.K y.1.2.1, OfP S.K y.1.1 y.1.2.2, DP4 S.K y.2]) (fun y μ => cdO y.1 μ ∧ Small y.2) (fun y => Is (.bl (shows y.1.1 y.1.2.1 y.1.2.2 y.2)))
abbrev s_shows_corrections : Stmt := topS 39
theorem sc_shows_corrections : FnScope ["model", "rate", "offers", "value", "best", "one", "paid"] ["model", "rate", "offers", "value"] (defScope s_shows_corrections) := ⟨rfl, rfl, rfl, by decide +kernel, rfl, by decide +kernel, by decide +kernel⟩
theorem m_shows_corrections (F : FunA S "shows_corrections" s_shows_corrections (.ref c) f) (B : Bl S) (g : Gn S c T) (c_need_offers : Cal S 11 "need_offers" (spNeedOffers S)) (c_are_corrections : Cal S 8 "are_corrections" (spAre S)) (c_tables_of : Cal S 6 "tables_of" (spTables S)) (c_greatest_paid : Cal S 4 "greatest_paid" (spGP S)) (c_less : Cal S 1 "less" (spLess S)) : Cal S 12 "shows_corrections" (spShows S) := by
  refine cal_of F sc_shows_corrections (by decide) (fun kV doc pm an ct us hl => by match us, hl with | [_, _, _, _], _ => rfl) (fun _ => rfl) ?_
  rintro b ⟨⟨M, r, o⟩, d⟩ ⟨⟨gd, hr, ho⟩, hs⟩
  dsimp only at gd hr ho hs ⊢
  have hn := gd.n
  have hY := gd.Y
  refine gs_expr (e_call c_need_offers (M, r, o) (a_cons (e_var (i := 0)) (a_cons (e_var (i := 1)) (a_cons (e_var (i := 2)) a_nil))) ⟨gd, hr, ho⟩ rfl) ?_
  refine gs_out (k := !areC M d) (t_not (t_val (e_call c_are_corrections (M, d) (a_cons (e_var (i := 0)) (a_cons (e_var (i := 3)) a_nil)) ⟨gd, hs⟩ rfl))) (fun h => ?_) (fun h => ?_)
  · refine gs_ret (EE.is e_bl ?_)
    have h' : areC M d = false := by simpa using h
    unfold shows
    rw [h', Bool.false_and]
  · have h' : areC M d = true := by simpa using h
    refine gs_le (Γ' := [some (MdP S.K M), some (RatP S.K r), some (OfP S.K M o), some (VP S.K M (vOf d)), none, none, none]) ⟨Sub.refl _, Sub.refl _, Sub.refl _, areC_vp h', True.intro⟩ ?_
    refine gs_set (i := 4) (P := LR S.K M.n (best M r o M.Y)) (e_ixL (n := M.Y + 1) (f := fun t => LR S.K M.n (best M r o (M.Y - t))) (e_ixT (n := 2) (f := two (BestL S.K (M, r, o)) Any) (e_call c_tables_of (M, r, o) (a_cons (e_var (i := 0)) (a_cons (e_var (i := 1)) (a_cons (e_var (i := 2)) a_nil))) ⟨gd, hr, ho⟩ rfl) e_int (by decide)) e_int (by omega)) ?_
    refine gs_ret (EE.is (e_not (e_anyG (m := 1) (own := [("one", 5), ("paid", 6)]) (j := 5) (l := 6) (k := 4) (t := fun j => decide (best M r o M.Y j < great M r o (vOf d) M.Y j)) rfl g.bm g.cdt rfl B.any (i_zipL (n := M.n) (f := fun j => RatP S.K (best M r o M.Y j)) (g := fun j => RatP S.K (great M r o (vOf d) M.Y j)) (e_var (i := 4)) (e_call c_greatest_paid ((M, r, o), vOf d) (a_cons (e_var (i := 0)) (a_cons (e_var (i := 1)) (a_cons (e_var (i := 2)) (a_cons (e_var (i := 3)) a_nil)))) ⟨⟨gd, hr, ho⟩, hs⟩ rfl) rfl B.zip) (fun j hj c' => e_call c_less (_, _) (a_cons (e_var (i := 5)) (a_cons (e_var (i := 6)) a_nil)) ?b1 rfl))) ?b2)
    case b1 => exact ⟨(bd_best' gd hr ho (Nat.le_refl _) hj).mono (by decide), (bd_great gd hr ho hs M.Y j hj).mono (by omega)⟩
    case b2 =>
      unfold shows
      rw [h', Bool.true_and]
end K74
set_option Elab.async false
set_option linter.all false
set_option maxRecDepth 100000
set_option maxHeartbeats 4000000

namespace K74
open PySem PySem.Spec PyProof.Rows L2 Gx Lay Rb
variable {S : Sta} {cdv : Value} {f c T : Addr}
theorem et_le {C : Lay.Ctx} {e : Expr} {Γ Γ' : Sl} {μ : Mu} {k : Bool} (h : LeG Γ' Γ) (q : ET C e Γ' μ k) : ET C e Γ μ k := fun σ H Q ok z => q σ H Q (ok.le h) fun H' o x => z H' (ok.step o.hd x) x
/-! ### the law's ratios -/
abbrev s_law_ratio : Stmt := topS 44
theorem sc_law_ratio : FnScope ["_law_top", "_law_bottom", "_law_one", "_law_other"] ["_law_top", "_law_bottom"] (defScope s_law_ratio) := ⟨rfl, rfl, rfl, by decide +kernel, rfl, by decide +kernel, by decide +kernel⟩
theorem m_law_ratio (F : FunA S "_law_ratio" s_law_ratio cdv f) (B : Bl S) : Cal S 1 "_law_ratio" (spRatio S) := by
  refine cal_of F sc_law_ratio (by decide) (fun kV doc pm an ct us hl => by match us, hl with | [_, _], _ => rfl) (fun _ => rfl) ?_
  rintro b ⟨t, d⟩ ⟨h1, h2⟩
  dsimp only at h1 h2 ⊢
  have g0 := gc_pos (t := t) h1
  have gb : 0 < gc t d ∧ sz (gc t d) ≤ 9000 := ⟨g0, Nat.le_trans (sz_mono (x := gc t d) (y := d) (by have := Int.le_of_dvd h1 (gc_dvd' (t := t)); omega)) h2⟩
  refine gs_par2 (i := 2) (j := 3) (A := Is (.int (t.natAbs : Int))) (B := Is (.int (d.natAbs : Int))) (EE.is (e_abs (i := t) (e_var (i := 0)) rfl B.abs) (congrArg V.int (by split <;> omega))) (EE.is (e_abs (i := d) (e_var (i := 1)) rfl B.abs) (congrArg V.int (by split <;> omega))) ?_ (by intro env h; cases env; cases h; rfl)
  refine gs_while (fun m Γ μ => ∃ x : Nat, Nat.gcd x m = Nat.gcd t.natAbs d.natAbs ∧ LeG [some (Is (.int t)), some (Is (.int d)), some (Is (.int (x : Int))), some (Is (.int (m : Int)))] Γ ∧ μ = b.μ) d.natAbs ⟨t.natAbs, rfl, ⟨Sub.refl _, Sub.refl _, Sub.refl _, Sub.refl _, True.intro⟩, rfl⟩ fun m Γ' μ' ⟨x, hx, le, hm⟩ => ?_
  subst hm
  refine ⟨!decide ((m : Int) = 0), et_le le (t_cmp (c_ne (e_var (i := 3)) e_int)), fun h => gs_le le ?_, fun h => gs_le le ?_⟩
  · have hm : 0 < m := by
      rcases Nat.eq_zero_or_pos m with z | z
      · rw [z] at h; simp at h
      · exact z
    refine gs_par2 (i := 2) (j := 3) (B := Is (.int ((x % m : Nat) : Int))) (e_var (i := 3)) (EE.is (e_mod (i := (x : Int)) (j := (m : Int)) (e_toInt (e_var (i := 2)) rfl B.int) (e_var (i := 3)) (by omega)) (congrArg V.int (Int.natCast_emod x m).symm)) ?_ (by intro env h; cases env; cases h; rfl)
    refine gs_nil ⟨x % m, Nat.mod_lt _ hm, m, ?_, ⟨Sub.refl _, Sub.refl _, Sub.refl _, Sub.refl _, True.intro⟩, rfl⟩
    rw [← hx, Nat.gcd_comm x m, Nat.gcd_rec m x, Nat.gcd_comm]
  · have hm : m = 0 := by simp at h; omega
    subst hm
    have hx' : (x : Int) = gc t d := by
      unfold gc
      rw [← hx, Nat.gcd_zero_right]
    rw [hx']
    refine gs_ret (e_if (k := decide (0 < d)) (t_cmp (c_gt (e_var (i := 1)) e_int)) (fun _ => (e_tup2 (e_fdivS (e_var (i := 0)) (e_var (i := 2)) gb) (e_fdivS (e_var (i := 1)) (e_var (i := 2)) gb)).sub (pair_ratP (div_num h1) (div_den h1))) (fun h => absurd h1 (of_decide_eq_false h)))
abbrev s_law_plus : Stmt := topS 45
theorem sc_law_plus : FnScope ["_law_one", "_law_other"] ["_law_one", "_law_other"] (defScope s_law_plus) := ⟨rfl, rfl, rfl, by decide +kernel, rfl, by decide +kernel, by decide +kernel⟩
theorem m_law_plus (F : FunA S "_law_plus" s_law_plus cdv f) (c_law_ratio : Cal S 1 "_law_ratio" (spRatio S)) : Cal S 2 "_law_plus" (sp2 S fun x y => x + y) := by
  refine cal_of F sc_law_plus (by decide) (fun kV doc pm an ct us hl => by match us, hl with | [_, _], _ => rfl) (fun _ => rfl) ?_
  rintro b ⟨x, y⟩ ⟨⟨h1, h2⟩, h3, h4⟩
  dsimp only at h1 h2 h3 h4
  refine gs_ret ?_
  refine EE.sub (e_call c_law_ratio (_, _) (a_cons (e_add (e_mulS (e_ixT (e_var (i := 0)) e_int (by omega)) (e_ixT (e_var (i := 1)) e_int (by omega)) ?a1) (e_mulS (e_ixT (e_var (i := 1)) e_int (by omega)) (e_ixT (e_var (i := 0)) e_int (by omega)) ?a2)) (a_cons (e_mulS (e_ixT (e_var (i := 0)) e_int (by omega)) (e_ixT (e_var (i := 1)) e_int (by omega)) ?a3) a_nil)) ?a4 rfl) ?a5
  case a1 => show sz x.num + sz (y.den : Int) ≤ _; omega
  case a2 => show sz y.num + sz (x.den : Int) ≤ _; omega
  case a3 => show sz (x.den : Int) + sz (y.den : Int) ≤ _; omega
  case a4 => exact ⟨den_mul_pos x y, Nat.le_trans (sz_mul _ _) (by show sz (x.den : Int) + sz (y.den : Int) ≤ _; omega)⟩
  case a5 => exact ratP_eq (add_div x y).symm
abbrev s_law_by : Stmt := topS 46
theorem sc_law_by : FnScope ["_law_one", "_law_other"] ["_law_one", "_law_other"] (defScope s_law_by) := ⟨rfl, rfl, rfl, by decide +kernel, rfl, by decide +kernel, by decide +kernel⟩
theorem m_law_by (F : FunA S "_law_by" s_law_by cdv f) (c_law_ratio : Cal S 1 "_law_ratio" (spRatio S)) : Cal S 2 "_law_by" (sp2 S fun x y => x * y) := by
  refine cal_of F sc_law_by (by decide) (fun kV doc pm an ct us hl => by match us, hl with | [_, _], _ => rfl) (fun _ => rfl) ?_
  rintro b ⟨x, y⟩ ⟨⟨h1, h2⟩, h3, h4⟩
  dsimp only at h1 h2 h3 h4
  refine gs_ret ?_
  refine EE.sub (e_call c_law_ratio (_, _) (a_cons (e_mulS (e_ixT (e_var (i := 0)) e_int (by omega)) (e_ixT (e_var (i := 1)) e_int (by omega)) ?a1) (a_cons (e_mulS (e_ixT (e_var (i := 0)) e_int (by omega)) (e_ixT (e_var (i := 1)) e_int (by omega)) ?a3) a_nil)) ?a4 rfl) ?a5
  case a1 => show sz x.num + sz y.num ≤ _; omega
  case a3 => show sz (x.den : Int) + sz (y.den : Int) ≤ _; omega
  case a4 => exact ⟨den_mul_pos x y, Nat.le_trans (sz_mul _ _) (by show sz (x.den : Int) + sz (y.den : Int) ≤ _; omega)⟩
  case a5 => exact ratP_eq (mul_div x y).symm
abbrev s_law_below : Stmt := topS 52
theorem sc_law_below : FnScope ["_law_one", "_law_other"] ["_law_one", "_law_other"] (defScope s_law_below) := ⟨rfl, rfl, rfl, by decide +kernel, rfl, by decide +kernel, by decide +kernel⟩
theorem m_law_below (F : FunA S "_law_below" s_law_below cdv f) : Cal S 1 "_law_below" (spLess S) := by
  refine cal_of F sc_law_below (by decide) (fun kV doc pm an ct us hl => by match us, hl with | [_, _], _ => rfl) (fun _ => rfl) ?_
  rintro b ⟨x, y⟩ ⟨⟨h1, h2⟩, h3, h4⟩
  dsimp only at h1 h2 h3 h4
  refine gs_ret (EE.is (e_cmp (c_lt (e_mulS (e_ixT (e_var (i := 0)) e_int (by omega)) (e_ixT (e_var (i := 1)) e_int (by omega)) ?a1) (e_mulS (e_ixT (e_var (i := 1)) e_int (by omega)) (e_ixT (e_var (i := 0)) e_int (by omega)) ?a2))) ?a5)
  case a1 => show sz x.num + sz (y.den : Int) ≤ _; omega
  case a2 => show sz y.num + sz (x.den : Int) ≤ _; omega
  case a5 => exact congrArg V.bl (decide_eq_decide.mpr (lt_iff x y).symm)
/-! ### alike, on two bools -/
abbrev spAlike (S : Sta) : Sp := spOf S (ι := Bool × Bool) (fun y => [Is (.bl y.1), Is (.bl y.2)]) (fun _ _ => True) (fun y => Is (.bl (decide (y.1 = y.2))))
abbrev s_law_alike : Stmt := topS 43
theorem sc_law_alike : FnScope ["_law_found", "_law_due", "_law_k"] ["_law_found", "_law_due"] (defScope s_law_alike) := ⟨rfl, rfl, rfl, by decide +kernel, rfl, by decide +kernel, by decide +kernel⟩
theorem m_law_alike (F : FunA S "_law_alike" s_law_alike cdv f) (B : Bl S) (hstr : S.mg ("str" : Str) = none) : Cal S 1 "_law_alike" (spAlike S) := by
  refine cal_of F sc_law_alike (by decide) (fun kV doc pm an ct us hl => by match us, hl with | [_, _], _ => rfl) (fun _ => rfl) ?_
  rintro b ⟨x, y⟩ _
  refine gs_pass (t_val (e_isiTB (k := y) (e_var (i := 1)) (e_tup2 (e_ty rfl B.tuple boot_tuple) (e_ty rfl B.list boot_list)) rfl B.isinstance (new_pair (e_ty rfl B.tuple boot_tuple) (e_ty rfl B.list boot_list)))) ?_
  refine gs_pass (t_w (w_orF (t_cmp (CM.is (c_isN (x := .bl y) (e_var (i := 1)) e_non) (decide_eq_false fun z => by cases z))) (w_orF1 (t_val (e_isi (e_var (i := 1)) (ty_bl (i := y) rfl) (e_ty rfl hstr boot_str) rfl B.isinstance))))) ?_
  refine gs_ret (EE.is (e_and (k := true) (e_isi (e_var (i := 0)) (ty_bl (i := x) rfl) (e_ty rfl B.int boot_int) rfl B.isinstance) fun h => (e_and (k := true) (EE.is (e_cmp (c_eqS (x := .bl true) (y := .bl true) (e_isi (e_var (i := 0)) (ty_bl (i := x) rfl) (e_ty rfl B.bool boot_bool) rfl B.isinstance) (e_isi (e_var (i := 1)) (ty_bl (i := y) rfl) (e_ty rfl B.bool boot_bool) rfl B.isinstance) rfl)) (by decide)) fun h => (e_one (e_cmp (c_eqS (x := .bl x) (y := .bl y) (e_var (i := 0)) (e_var (i := 1)) rfl))))) ?_)
  simp
/-! ### what a path is paid -/
theorem dc_pair {r : Rat} (h : Rate r) : (dc r).num = (r.den : Int) ∧ ((dc r).den : Int) = r.num + r.den := by
  have hp : 0 < r.num + (r.den : Int) := by have := h.low; omega
  have e1 : r + 1 = Rat.divInt (r.num + r.den) r.den := by
    rw [add_div]
    have e1 : (1 : Rat).num = 1 := rfl
    have e2 : (1 : Rat).den = 1 := rfl
    rw [e1, e2]
    have : ((1 : Nat) : Int) = 1 := rfl
    rw [this, Int.mul_one, Int.mul_one, Int.one_mul]
  unfold dc
  rw [e1, Rat.inv_divInt]
  refine of_pair hp ?_
  have h1 := gc_num_den r
  have : gc (r.den : Int) (r.num + r.den) = gc r.num r.den := by
    show ((Int.gcd (r.den : Int) (r.num + r.den) : Nat) : Int) = ((Int.gcd r.num r.den : Nat) : Int)
    rw [Int.gcd_add_self_right, Int.gcd_comm]
  rw [this, h1]
def stV : Option Nat → V
  | none => .non
  | some s => .int (s : Int)
abbrev PathP (K : PySem.W.Frag) (p : List Nat) : Rp := TupF K p.length fun i => Is (.int ((p.getD i 0 : Nat) : Int))
structure PathOk (M : Md) (p : List Nat) : Prop where
  len : p.length = M.Y + 1
  at' : ∀ t, t ≤ M.Y → p.getD t 0 < M.n
abbrev spPaid (S : Sta) : Sp := spOf S (ι := ιO × List Nat × Option Nat) (fun y => [MdP S.K y.1.1, OfP S.K y.1.1 y.1.2.2, PathP S.K y.2.1, Is (stV y.2.2), RatP S.K y.1.2.1]) (fun y μ => cdO y.1 μ ∧ PathOk y.1.1 y.2.1 ∧ ∀ s, y.2.2 = some s → s ≤ y.1.1.Y) (fun y => RatP S.K (paid y.1.1 y.1.2.1 y.1.2.2 y.2.1 y.2.2))
theorem bd_dpow {r : Rat} (h : Rate r) : ∀ t, Bd (1 + 20 * t) (dpow r t)
  | 0 => bd_one
  | t + 1 => (bd_mul (bd_dpow h t) (bd_dc h)).mono (by omega)
theorem bd_paidT {M : Md} (g : Good M) {r : Rat} (hr : Rate r) (p : List Nat) : ∀ t, t ≤ 3 → Bd (1 + 200 * t) (paidT M r p t)
  | 0, _ => bd_zero
  | t + 1, ht => by
    have ih := bd_paidT g hr p t (by omega)
    have h1 := bd_add ih (bd_mul (bd_dpow hr t) (bd_of_int (g.sg t (p.getD t 0))))
    unfold paidT
    split
    · exact (bd_add h1 (bd_mul (bd_dpow hr (t + 1)) (bd_of_int (g.mv t (p.getD t 0) (p.getD (t + 1) 0))))).mono (by omega)
    · exact (bd_add h1 bd_zero).mono (by omega)
abbrev s_law_paid : Stmt := topS 51
theorem sc_law_paid : FnScope ["_law_model", "_law_offers", "_law_path", "_law_stop", "_law_rate_here", "_law_found", "_law_here", "_law_years", "_law_time"] ["_law_model", "_law_offers", "_law_path", "_law_stop", "_law_rate_here"] (defScope s_law_paid) := ⟨rfl, rfl, rfl, by decide +kernel, rfl, by decide +kernel, by decide +kernel⟩
theorem m_law_paid (F : FunA S "_law_paid" s_law_paid cdv f) (B : Bl S) (c_law_plus : Cal S 2 "_law_plus" (sp2 S fun x y => x + y)) (c_law_by : Cal S 2 "_law_by" (sp2 S fun x y => x * y)) : Cal S 3 "_law_paid" (spPaid S) := by
  refine cal_of F sc_law_paid (by decide) (fun kV doc pm an ct us hl => by match us, hl with | [_, _, _, _, _], _ => rfl) (fun _ => rfl) ?_
  rintro b ⟨⟨M, r, o⟩, p, s⟩ ⟨⟨g, hr, ho⟩, hp, hs⟩
  dsimp only at g hr ho hp hs ⊢
  have hn := g.n
  have hY := g.Y
  have hl := hp.len
  obtain ⟨dn, dd⟩ := dc_pair hr
  have bi : ∀ {i : Int}, (-1000 ≤ i ∧ i ≤ 1000) → Bd 4000 (i : Rat) := fun h => (bd_of_int h).mono (by decide)
  refine gs_par3 (i := 5) (j := 6) (l := 7) ((e_tup2 e_int e_int).sub (pair_ratP (q := 0) rfl rfl)) ((e_tup2 e_int e_int).sub (pair_ratP (q := 1) rfl rfl)) (e_lenT (e_ixT (e_var (i := 0)) e_int (by omega)) rfl B.len) ?_ (by intro env h; cases env; cases h; rfl)
  refine gs_loop (fun t => [some (MdP S.K M), some (OfP S.K M o), some (PathP S.K p), some (Is (stV s)), some (RatP S.K r), some (RatP S.K (paidT M r p t)), some (RatP S.K (dpow r t)), some (Is (.int (M.Y : Int))), none]) (fun t => b.μ) (fun t => ∀ t', t' < t → s ≠ some t') (i_rangeN (n := M.Y + 1) (EE.is (e_add (i := (M.Y : Int)) (j := 1) (e_var (i := 7)) e_int) rfl) (by omega) rfl B.range) (fun i hi => g_name (i := 8)) ⟨Sub.refl _, Sub.refl _, Sub.refl _, Sub.refl _, Sub.refl _, Sub.refl _, Sub.refl _, Sub.refl _, True.intro⟩ rfl (fun t' h => absurd h (Nat.not_lt_zero _)) (fun t ht hI => ?_) (fun hI => ?_) (fun i Γ _ l => l.set _ _)
  · have pt : p.getD t 0 < M.n := hp.at' t (by omega)
    have bd1 : Bd 41 (dpow r t) := (bd_dpow hr t).mono (by omega)
    have bd2 : Bd 61 (dpow r (t + 1)) := (bd_dpow hr (t + 1)).mono (by omega)
    have bp := (bd_paidT g hr p t (by omega)).mono (show 1 + 200 * t ≤ 1000 by omega)
    have bp1 := (bd_add bp (bd_mul bd1 (bd_of_int (g.sg t (p.getD t 0)))))
    refine gs_out (k := decide (stV s = .int (t : Int))) (t_cmp (c_eqS (x := stV s) (y := .int (t : Int)) (e_var (i := 3)) (e_var (i := 8)) (by cases s <;> rfl))) (fun h => ?_) (fun h => ?_)
    · have hst : s = some t := by
        have h' := of_decide_eq_true h
        cases s with
        | none => cases h'
        | some s =>
          have : (s : Int) = (t : Int) := V.int.inj h'
          have : s = t := by omega
          rw [this]
      refine gs_ret (EE.sub (e_call c_law_plus (_, _) (a_cons (e_var (i := 5)) (a_cons (e_call c_law_by (_, _) (a_cons (e_var (i := 6)) (a_cons (EE.sub (e_tup2 (e_ixT (n := M.n) (f := II (o t)) (e_ixT (n := M.Y + 1) (f := fun t => T1 S.K M.n (o t)) (e_var (i := 1)) (e_var (i := 8)) (by omega)) (e_ixT (n := p.length) (f := fun i => Is (.int ((p.getD i 0 : Nat) : Int))) (P := Is (.int ((p.getD t 0 : Nat) : Int))) (e_var (i := 2)) (e_var (i := 8)) (by omega)) (by omega)) e_int) int_ratP) a_nil)) ?b1 rfl) a_nil)) ?b2 rfl) ?b3)
      case b1 => exact ⟨bd1.mono (by decide), bi (ho _ _)⟩
      case b2 => exact ⟨bp.mono (by decide), (bd_mul bd1 (bd_of_int (ho _ _))).mono (by decide)⟩
      case b3 => exact ratP_eq (by rw [hst]; rfl)
    · have hst : s ≠ some t := fun z => by
        rw [z] at h
        exact absurd rfl (of_decide_eq_false h)
      refine gs_set (i := 5) (P := RatP S.K (paidT M r p t + dpow r t * (M.sg t (p.getD t 0) : Rat))) (e_call c_law_plus (_, _) (a_cons (e_var (i := 5)) (a_cons (e_call c_law_by (_, _) (a_cons (e_var (i := 6)) (a_cons (EE.sub (e_tup2 (e_ixT (n := M.n) (f := II (M.sg t)) (e_ixT (n := M.Y + 1) (f := fun t => T1 S.K M.n (M.sg t)) (e_ixT (e_ixT (e_var (i := 0)) e_int (by decide)) e_int (by decide)) (e_var (i := 8)) (by omega)) (e_ixT (n := p.length) (f := fun i => Is (.int ((p.getD i 0 : Nat) : Int))) (P := Is (.int ((p.getD t 0 : Nat) : Int))) (e_var (i := 2)) (e_var (i := 8)) (by omega)) (by omega)) e_int) int_ratP) a_nil)) ?b1 rfl) a_nil)) ?b2 rfl) ?_
      case b1 => exact ⟨bd1.mono (by decide), bi (g.sg _ _)⟩
      case b2 => exact ⟨bp.mono (by decide), (bd_mul bd1 (bd_of_int (g.sg _ _))).mono (by decide)⟩
      refine gs_set (i := 6) (P := RatP S.K (dpow r (t + 1))) (e_call c_law_by (_, dc r) (a_cons (e_var (i := 6)) (a_cons (EE.sub (e_tup2 (e_ixT (e_var (i := 4)) e_int (by decide)) (e_add (e_ixT (e_var (i := 4)) e_int (by decide)) (e_ixT (e_var (i := 4)) e_int (by decide)))) (pair_ratP dn dd)) a_nil)) ?b1 rfl) ?_
      case b1 => exact ⟨bd1.mono (by decide), (bd_dc hr).mono (by decide)⟩
      refine gs_if (k := decide ((t : Int) < (M.Y : Int))) (N' := Lay.At [some (MdP S.K M), some (OfP S.K M o), some (PathP S.K p), some (Is (stV s)), some (RatP S.K r), some (RatP S.K (paidT M r p (t + 1))), some (RatP S.K (dpow r (t + 1))), some (Is (.int (M.Y : Int))), none] b.μ True) (t_cmp (c_lt (e_var (i := 8)) (e_var (i := 7)))) (fun h => ?_) (fun h => ?_) (fun Γ' μ' h => gs_nil ⟨h.1, h.2.1, fun t' ht' => ?_⟩)
      · have h' := of_decide_eq_true h
        have hty : t < M.Y := by omega
        have pt2 : p.getD (t + 1) 0 < M.n := hp.at' (t + 1) (by omega)
        refine gs_set (i := 5) (P := RatP S.K (paidT M r p (t + 1))) (EE.sub (e_call c_law_plus (_, _) (a_cons (e_var (i := 5)) (a_cons (e_call c_law_by (_, _) (a_cons (e_var (i := 6)) (a_cons (EE.sub (e_tup2 (e_ixT (n := M.n) (f := II (M.mv t (p.getD t 0))) (e_ixT (n := M.n) (f := fun j => T1 S.K M.n (M.mv t j)) (e_ixT (n := M.Y) (f := fun t => T2 S.K M.n M.n (M.mv t)) (e_ixT (e_ixT (e_var (i := 0)) e_int (by decide)) e_int (by decide)) (e_var (i := 8)) (by omega)) (e_ixT (n := p.length) (f := fun i => Is (.int ((p.getD i 0 : Nat) : Int))) (P := Is (.int ((p.getD t 0 : Nat) : Int))) (e_var (i := 2)) (e_var (i := 8)) (by omega)) (by omega)) (e_ixT (n := p.length) (f := fun i => Is (.int ((p.getD i 0 : Nat) : Int))) (P := Is (.int ((p.getD (t + 1) 0 : Nat) : Int))) (e_var (i := 2)) (e_add (i := (t : Int)) (j := 1) (e_var (i := 8)) e_int) (by omega)) (by omega)) e_int) int_ratP) a_nil)) ?c1 rfl) a_nil)) ?c2 rfl) ?c3) ?_
        case c1 => exact ⟨bd2.mono (by decide), bi (g.mv _ _ _)⟩
        case c2 => exact ⟨bp1.mono (by decide), (bd_mul bd2 (bd_of_int (g.mv _ _ _))).mono (by decide)⟩
        case c3 => exact ratP_eq (by show _ = paidT M r p t + dpow r t * (M.sg t (p.getD t 0) : Rat) + (if t < M.Y then _ else 0); rw [if_pos hty]; rfl)
        exact gs_nil ⟨⟨Sub.refl _, Sub.refl _, Sub.refl _, Sub.refl _, Sub.refl _, Sub.refl _, Sub.refl _, Sub.refl _, True.intro⟩, rfl, True.intro⟩
      · have h' := of_decide_eq_false h
        have hty : ¬ t < M.Y := by omega
        exact gs_nil ⟨⟨Sub.refl _, Sub.refl _, Sub.refl _, Sub.refl _, Sub.refl _, ratP_eq (by show _ = paidT M r p t + dpow r t * (M.sg t (p.getD t 0) : Rat) + (if t < M.Y then _ else 0); rw [if_neg hty, Rat.add_zero]), Sub.refl _, Sub.refl _, True.intro⟩, rfl, True.intro⟩
      · rcases Nat.lt_succ_iff_lt_or_eq.mp ht' with z | z
        · exact hI t' z
        · rw [z]; exact hst
  · have hs0 : s = none := by
      cases s with
      | none => rfl
      | some s => exact absurd rfl (hI s (by have := hs s rfl; omega))
    exact gs_ret (EE.sub (e_var (i := 5)) (ratP_eq (by rw [hs0]; rfl)))
end K74
set_option Elab.async false
set_option linter.all false
set_option maxRecDepth 100000
set_option maxHeartbeats 4000000

namespace K74
open PySem PySem.Spec PyProof.Rows L2 Gx Lay Rb
/-! ### the row of draws -/
def IntP (F : Int → Prop) : Rp := ⟨fun v _ => ∃ i, v = .int i ∧ F i, fun _ _ _ _ h => h⟩
def rowA (K : PySem.W.Frag) (m : Nat) (g : Nat → Int) : Nat → Rp
  | 0 => LstF K m (II g)
  | 1 => IntP fun z => 0 ≤ z
  | 2 => IntP fun z => 0 ≤ z ∧ z < 2147483648
  | _ + 3 => IntP fun _ => True
def RowC (K : PySem.W.Frag) (m : Nat) (g : Nat → Int) : LC := Els 4 (rowA K m g)
def rowE (K : PySem.W.Frag) (m : Nat) (g : Nat → Int) (z1 z2 z3 : Int) : Nat → Rp
  | 0 => LstF K m (II g)
  | 1 => Is (.int z1)
  | 2 => Is (.int z2)
  | 3 => Is (.int z3)
  | _ + 4 => Any
theorem rowE_imp {K : PySem.W.Frag} {m : Nat} {g : Nat → Int} {z1 z2 z3 : Int} (h1 : 0 ≤ z1) (h2 : 0 ≤ z2 ∧ z2 < 2147483648) : Imp (Els 4 (rowE K m g z1 z2 z3)) (RowC K m g) := fun xs h q => Els.sub (fun i hi => by
  match i, hi with
  | 0, _ => exact Sub.refl _
  | 1, _ => exact fun v h z => ⟨z1, z, h1⟩
  | 2, _ => exact fun v h z => ⟨z2, z, h2⟩
  | 3, _ => exact fun v h z => ⟨z3, z, True.intro⟩) q
section
variable {C : Lay.Ctx} {bs : Bs} {a b e : Expr} {sts : List Stmt} {Γ : Sl} {μ : Mu} {A P R : Rp} {pos : Pos} {N : Nx}
/-- a content told closer -/
theorem gs_tell {p : Addr} {c : LC} {μ1 μ2 : Mu} {Φ : LC → Prop} (h : ∀ xs hp, c.p xs hp → ∃ d, Φ d ∧ Imp d c ∧ d.p xs hp) (k : ∀ d, Φ d → GS C bs sts Γ (μ1 ++ (p, d) :: μ2) N R) : GS C bs sts Γ (μ1 ++ (p, c) :: μ2) N R := fun σ H D kk nx r => by
  obtain ⟨xs, h1, h2⟩ := kk.ok.hd.el (p, c) (by simp)
  obtain ⟨d, hd, hi, h3⟩ := h xs _ h2
  have ed : dom (μ1 ++ (p, d) :: μ2) = dom (μ1 ++ (p, c) :: μ2) := by simp [dom]
  have ev : view (μ1 ++ (p, d) :: μ2) H = view (μ1 ++ (p, c) :: μ2) H := by
    show hide _ _ = hide _ _
    rw [ed]
  have hd' : Holds C.ts (μ1 ++ (p, d) :: μ2) H := ⟨fun m hm => by
    rw [ev]
    rcases List.mem_append.mp hm with q | q
    · exact kk.ok.hd.el m (List.mem_append_left _ q)
    · rcases List.mem_cons.mp q with q | q
      · rw [q]; exact ⟨xs, h1, h3⟩
      · exact kk.ok.hd.el m (List.mem_append_right _ (List.mem_cons_of_mem _ q)), by rw [ed]; exact kk.ok.hd.nd, fun T hT => by rw [ev]; exact kk.ok.hd.tb T hT⟩
  refine k d hd σ H D ⟨kk.ok.step hd' (by rw [ev]; exact Ext.refl _), by rw [ev]; exact kk.ex, fun m hm => ?_, kk.nd⟩ (fun Γ' μ' σ' H' z1 z2 z3 => nx Γ' μ' σ' H' z1 z2 (by rw [← ev]; exact z3)) r
  obtain ⟨c', q, hi'⟩ := kk.sub m hm
  rcases List.mem_append.mp q with q | q
  · exact ⟨c', List.mem_append_left _ q, hi'⟩
  · rcases List.mem_cons.mp q with q | q
    · cases q
      exact ⟨d, List.mem_append_right _ List.mem_cons_self, fun xs h z => hi' _ _ (hi _ _ z)⟩
    · exact ⟨c', List.mem_append_right _ (List.mem_cons_of_mem _ q), hi'⟩
theorem gs_open {p : Addr} {m : Nat} {g : Nat → Int} {μ1 μ2 : Mu} (k : ∀ z1 z2 z3 : Int, 0 ≤ z1 → (0 ≤ z2 ∧ z2 < 2147483648) → GS C bs sts Γ (μ1 ++ (p, Els 4 (rowE C.K m g z1 z2 z3)) :: μ2) N R) : GS C bs sts Γ (μ1 ++ (p, RowC C.K m g) :: μ2) N R :=
  gs_tell (Φ := fun d => ∃ z1 z2 z3 : Int, 0 ≤ z1 ∧ (0 ≤ z2 ∧ z2 < 2147483648) ∧ d = Els 4 (rowE C.K m g z1 z2 z3)) (fun xs hp q => by
    obtain ⟨hl, hq⟩ := q
    obtain ⟨x1, e1⟩ := get_lt hl (show 1 < 4 by decide)
    obtain ⟨x2, e2⟩ := get_lt hl (show 2 < 4 by decide)
    obtain ⟨x3, e3⟩ := get_lt hl (show 3 < 4 by decide)
    obtain ⟨z1, f1, b1⟩ := hq 1 x1 e1
    obtain ⟨z2, f2, b2⟩ := hq 2 x2 e2
    obtain ⟨z3, f3, _⟩ := hq 3 x3 e3
    refine ⟨_, ⟨z1, z2, z3, b1, b2, rfl⟩, rowE_imp b1 b2, hl, fun i x hx => ?_⟩
    have hi : i < 4 := by rw [← hl]; exact (List.getElem?_eq_some_iff.mp hx).1
    match i, hi with
    | 0, _ => exact hq 0 x hx
    | 1, _ => rw [e1] at hx; cases hx; exact f1
    | 2, _ => rw [e2] at hx; cases hx; exact f2
    | 3, _ => rw [e3] at hx; cases hx; exact f3) fun d ⟨z1, z2, z3, b1, b2, e⟩ => by rw [e]; exact k z1 z2 z3 b1 b2
/-- x[i], the place told by a bound alone -/
abbrev NatB (n : Nat) : Rp := Ex fun z : Fin n => Is (.int ((z.val : Nat) : Int))
theorem natB_of {n : Nat} {i : Int} (h0 : 0 ≤ i) (h1 : i < n) : Sub (Is (.int i)) (NatB n) := fun v h z => ⟨⟨i.toNat, by omega⟩, z.trans (congrArg V.int (by show i = ((i.toNat : Nat) : Int); omega))⟩
theorem e_ixLX {n : Nat} {f : Nat → Rp} (ha : EE C a Γ μ (LstF C.K n f)) (hb : EE C b Γ μ (NatB n)) (hs : PlainIx b := by intro _ _; rfl) : EE C (.Subscript a b pos) Γ μ (Ex fun i : Fin n => f i.val) := fun σ H Q ok q =>
  tex (t := tOp (rIxL C.K) (TEx C a) (TEx C b)) (fun X hX => hX.K ▸ pe_ix ix_list (TEx.pe hX) (TEx.pe hX) hs) (ha σ H _ ok fun x H1 k1 e1 p1 => hb σ H1 _ k1 fun y H2 k2 e2 p2 => by
    obtain ⟨t, xs, h1, h2, h3⟩ := (LstF C.K n f).mono _ _ _ e2 p1
    obtain ⟨z, hz⟩ := p2
    obtain ⟨v, v1, v2⟩ := atI_of (i := ((z.val : Nat) : Int)) h3.1 (by have := z.isLt; omega)
    exact ⟨t, xs, _, v, h1, hz, sql_ext (ext_hide _ _) h2, v1, q _ H2 k2 (e1.trans e2) ⟨z, h3.2 _ _ v2⟩⟩)
end
abbrev spTaken (S : Sta) : Sp := spOf S (ι := Addr × Nat × (Nat → Int) × Nat) (fun y => [Is (.ref y.1), Is (.int (y.2.2.2 : Int))]) (fun y μ => (y.1, RowC S.K y.2.1 y.2.2.1) ∈ μ ∧ 0 < y.2.2.2 ∧ y.2.2.2 ≤ 1000) (fun y => NatB y.2.2.2)
abbrev spPick (S : Sta) : Sp := spOf S (ι := Addr × Nat × (Nat → Int) × Nat × (Nat → Rp)) (fun y => [Is (.ref y.1), LstF S.K y.2.2.2.1 y.2.2.2.2]) (fun y μ => (y.1, RowC S.K y.2.1 y.2.2.1) ∈ μ ∧ 0 < y.2.2.2.1 ∧ y.2.2.2.1 ≤ 1000) (fun y => Ex fun i : Fin y.2.2.2.1 => y.2.2.2.2 i.val)
abbrev spRate (S : Sta) : Sp := spOf S (ι := Addr × Nat × (Nat → Int)) (fun y => [Is (.ref y.1)]) (fun y μ => (y.1, RowC S.K y.2.1 y.2.2) ∈ μ) (fun y => Ex fun r : { r : Rat // Rate r } => RatP S.K r.val)
variable {S : Sta} {cdv : Value} {f c T : Addr}
theorem pow18 : CPow 10 18 := ⟨by decide, by decide, by decide⟩
abbrev s_law_taken : Stmt := topS 41
theorem sc_law_taken : FnScope ["_law_row", "_law_many", "_law_found", "_law_cell"] ["_law_row", "_law_many"] (defScope s_law_taken) := ⟨rfl, rfl, rfl, by decide +kernel, rfl, by decide +kernel, by decide +kernel⟩
theorem m_law_taken (F : FunA S "_law_taken" s_law_taken cdv f) (B : Bl S) : Cal S 1 "_law_taken" (spTaken S) := by
  refine cal_of F sc_law_taken (by decide) (fun kV doc pm an ct us hl => by match us, hl with | [_, _], _ => rfl) (fun _ => rfl) ?_
  rintro b ⟨p, m, g, n⟩ ⟨hm, hn, hn2⟩
  dsimp only at hm hn hn2 ⊢
  obtain ⟨μ1, μ2, hμ⟩ := List.append_of_mem hm
  have kp : ∀ z1 z2 z3 : Int, 0 ≤ z1 → (0 ≤ z2 ∧ z2 < 2147483648) → Keeps b p (Els 4 (rowE S.K m g z1 z2 z3)) := fun z1 z2 z3 h1 h2 => Keeps.at hm (rowE_imp h1 h2)
  have me : ∀ z1 z2 z3 : Int, (p, Els 4 (rowE S.K m g z1 z2 z3)) ∈ μ1 ++ (p, Els 4 (rowE S.K m g z1 z2 z3)) :: μ2 := fun _ _ _ => List.mem_append_right _ List.mem_cons_self
  rw [hμ]
  refine gs_open fun z1 z2 z3 h1 h2 => ?_
  have dn : (0 : Int) < (n : Int) ∧ sz (n : Int) ≤ 9000 := ⟨by omega, Nat.le_trans (sz_small (n := 10) (by omega) (by decide)) (by decide)⟩
  have md : ∀ x : Int, 0 ≤ x % (n : Int) ∧ x % (n : Int) < n := fun x => ⟨Int.emod_nonneg _ (by omega), Int.emod_lt_of_pos _ (by omega)⟩
  have ml : ∀ z : Int, (0 ≤ z ∧ z < 2147483648) → sz z + sz 48271 ≤ 900000 := fun z hz => by
    have := sz_small (i := z) (n := 31) (by omega) (by decide)
    have h2 : sz 48271 ≤ 17 := by decide
    omega
  have mp : ∀ x : Int, 0 ≤ x % 2147483647 ∧ x % 2147483647 < 2147483648 := fun x => by omega
  refine gs_out (k := decide (0 < z3)) (t_cmp (c_gt (e_ixM (i := 3) (me z1 z2 z3) (e_var (i := 0)) e_int (by decide)) e_int)) (fun h => ?_) (fun h => ?_)
  · refine gs_set (i := 2) (P := Is (.int (z3 % (n : Int)))) (e_mod (e_toInt (e_ixM (i := 3) (me z1 z2 z3) (e_var (i := 0)) e_int (by decide)) rfl B.int) (e_var (i := 1)) dn.1) ?_
    refine gs_setItem (j := 3) (g := rowE S.K m g z1 z2 (z3 / (n : Int))) μ1 μ2 rfl (e_fdivS (i := z3) (e_ixM (i := 3) (me z1 z2 z3) (e_var (i := 0)) e_int (by decide)) (e_var (i := 1)) dn) (e_var (i := 0)) e_int (by decide) (Sub.refl _) (fun i hi => ?a1) (kp _ _ _ h1 h2) ?_
    case a1 =>
      match i, hi with
      | 0, _ => exact Sub.refl _
      | 1, _ => exact Sub.refl _
      | 2, _ => exact Sub.refl _
      | 3, hi => exact absurd rfl hi
      | i + 4, _ => exact Sub.refl _
    exact gs_ret (EE.sub (e_var (i := 2)) (natB_of (md _).1 (md _).2))
  · refine gs_setItem (j := 1) (g := rowE S.K m g (z1 + 1) z2 z3) μ1 μ2 rfl (e_add (i := z1) (j := 1) (e_ixM (i := 1) (me z1 z2 z3) (e_var (i := 0)) e_int (by decide)) e_int) (e_var (i := 0)) e_int (by decide) (Sub.refl _) (fun i hi => ?a2) (kp _ _ _ (by omega) h2) ?_
    case a2 =>
      match i, hi with
      | 0, _ => exact Sub.refl _
      | 1, hi => exact absurd rfl hi
      | 2, _ => exact Sub.refl _
      | 3, _ => exact Sub.refl _
      | i + 4, _ => exact Sub.refl _
    refine gs_out (k := decide ((m : Int) < z1 + 1)) (t_cmp (c_gt (i := z1 + 1) (e_ixM (i := 1) (me (z1 + 1) z2 z3) (e_var (i := 0)) e_int (by decide)) (e_lenL (n := m) (f := II g) (e_ixM (i := 0) (me (z1 + 1) z2 z3) (e_var (i := 0)) e_int (by decide)) rfl B.len))) (fun h => ?_) (fun h => ?_)
    · refine gs_setItem (j := 2) (g := rowE S.K m g (z1 + 1) ((z2 * 48271 + 11) % 2147483647) z3) μ1 μ2 rfl (e_mod (e_toInt (e_add (e_mulS (i := z2) (e_ixM (i := 2) (me (z1 + 1) z2 z3) (e_var (i := 0)) e_int (by decide)) e_int (ml z2 h2)) e_int) rfl B.int) e_int (by decide)) (e_var (i := 0)) e_int (by decide) (Sub.refl _) (fun i hi => ?a3) (kp _ _ _ (by omega) (mp _)) ?_
      case a3 =>
        match i, hi with
        | 0, _ => exact Sub.refl _
        | 1, _ => exact Sub.refl _
        | 2, hi => exact absurd rfl hi
        | 3, _ => exact Sub.refl _
        | i + 4, _ => exact Sub.refl _
      exact gs_ret (EE.sub (e_mod (e_toInt (e_fdivS (i := (z2 * 48271 + 11) % 2147483647) (e_ixM (i := 2) (me (z1 + 1) ((z2 * 48271 + 11) % 2147483647) z3) (e_var (i := 0)) e_int (by decide)) e_int (by decide)) rfl B.int) (e_var (i := 1)) dn.1) (natB_of (md _).1 (md _).2))
    · have hz : z1 + 1 ≤ m := by have := of_decide_eq_false h; omega
      refine gs_set (i := 3) (P := Is (.int (g (z1 + 1 - 1).toNat))) (e_ixL (n := m) (f := II g) (e_ixM (i := 0) (me (z1 + 1) z2 z3) (e_var (i := 0)) e_int (by decide)) (e_sub (i := z1 + 1) (j := 1) (e_ixM (i := 1) (me (z1 + 1) z2 z3) (e_var (i := 0)) e_int (by decide)) e_int) (by omega)) ?_
      generalize g (z1 + 1 - 1).toNat = cell
      refine gs_setItem (j := 2) (g := rowE S.K m g (z1 + 1) ((z2 * 48271 + cell + 11) % 2147483647) z3) μ1 μ2 rfl (e_mod (e_toInt (e_add (e_add (e_mulS (i := z2) (e_ixM (i := 2) (me (z1 + 1) z2 z3) (e_var (i := 0)) e_int (by decide)) e_int (ml z2 h2)) (e_var (i := 3))) e_int) rfl B.int) e_int (by decide)) (e_var (i := 0)) e_int (by decide) (Sub.refl _) (fun i hi => ?a4) (kp _ _ _ (by omega) (mp _)) ?_
      case a4 =>
        match i, hi with
        | 0, _ => exact Sub.refl _
        | 1, _ => exact Sub.refl _
        | 2, hi => exact absurd rfl hi
        | 3, _ => exact Sub.refl _
        | i + 4, _ => exact Sub.refl _
      refine gs_if (N' := fun Γ μ => ∃ w3 : Int, LeG [some (Is (.ref p)), some (Is (.int (n : Int))), none, some (Is (.int cell))] Γ ∧ μ = μ1 ++ (p, Els 4 (rowE S.K m g (z1 + 1) ((z2 * 48271 + cell + 11) % 2147483647) w3)) :: μ2) (t_cmp (c_ge (e_var (i := 3)) (e_pow e_int e_int pow18))) (fun _ => ?_) (fun _ => gs_nil ⟨z3, ⟨Sub.refl _, Sub.refl _, Sub.refl _, True.intro⟩, rfl⟩) (fun Γ' μ' ⟨w3, hle, hm'⟩ => ?_)
      · refine gs_setItem (j := 3) (g := rowE S.K m g (z1 + 1) ((z2 * 48271 + cell + 11) % 2147483647) (cell / (n : Int))) μ1 μ2 rfl (e_fdivS (e_var (i := 3)) (e_var (i := 1)) dn) (e_var (i := 0)) e_int (by decide) (Sub.refl _) (fun i hi => ?a5) (kp _ _ _ (by omega) (mp _)) ?_
        case a5 =>
          match i, hi with
          | 0, _ => exact Sub.refl _
          | 1, _ => exact Sub.refl _
          | 2, _ => exact Sub.refl _
          | 3, hi => exact absurd rfl hi
          | i + 4, _ => exact Sub.refl _
        exact gs_nil ⟨_, ⟨Sub.refl _, Sub.refl _, Sub.refl _, True.intro⟩, rfl⟩
      · subst hm'
        refine gs_le hle ?_
        exact gs_ret (EE.sub (e_mod (e_toInt (e_var (i := 3)) rfl B.int) (e_var (i := 1)) dn.1) (natB_of (md _).1 (md _).2))
abbrev s_law_pick : Stmt := topS 42
theorem sc_law_pick : FnScope ["_law_row", "_law_things"] ["_law_row", "_law_things"] (defScope s_law_pick) := ⟨rfl, rfl, rfl, by decide +kernel, rfl, by decide +kernel, by decide +kernel⟩
theorem m_law_pick (F : FunA S "_law_pick" s_law_pick cdv f) (B : Bl S) (c_law_taken : Cal S 1 "_law_taken" (spTaken S)) : Cal S 2 "_law_pick" (spPick S) := by
  refine cal_of F sc_law_pick (by decide) (fun kV doc pm an ct us hl => by match us, hl with | [_, _], _ => rfl) (fun _ => rfl) ?_
  rintro b ⟨p, m, g, n, P⟩ ⟨hm, hn, hn2⟩
  dsimp only at hm hn hn2 ⊢
  exact gs_ret (e_ixLX (e_var (i := 1)) (e_call c_law_taken (p, m, g, n) (a_cons (e_var (i := 0)) (a_cons (e_lenL (n := n) (f := P) (e_var (i := 1)) rfl B.len) a_nil)) ⟨hm, hn, hn2⟩ rfl))
end K74
set_option Elab.async false
set_option linter.all false
set_option maxRecDepth 100000
set_option maxHeartbeats 400000

namespace K74
open PySem PySem.Spec PyProof.Rows L2 Gx Lay Rb
variable {S : Sta} {cdv : Value} {f c T : Addr}
abbrev s_law_rate : Stmt := topS 48
theorem sc_law_rate : FnScope ["_law_row"] ["_law_row"] (defScope s_law_rate) := ⟨rfl, rfl, rfl, by decide +kernel, rfl, by decide +kernel, by decide +kernel⟩
def AllS (R : Rp) : List Rp → Prop
  | [] => True
  | P :: Ps => Lay.Sub P R ∧ AllS R Ps
theorem AllS.at {R : Rp} : ∀ {Ps : List Rp} (_ : AllS R Ps) (i : Nat), i < Ps.length → Lay.Sub (nth Ps i) R
  | P :: Ps, h, 0, _ => h.1
  | P :: Ps, h, i + 1, hi => AllS.at (Ps := Ps) h.2 i (Nat.lt_of_succ_lt_succ hi)
theorem pick_sub {R : Rp} {Ps : List Rp} {n : Nat} (hn : n ≤ Ps.length) (h : AllS R Ps) : Lay.Sub (Ex fun i : Fin n => nth Ps i.val) R := fun v hp ⟨i, q⟩ => h.at i.val (Nat.lt_of_lt_of_le i.isLt hn) v hp q
theorem rate_is {K : PySem.W.Frag} {i j : Int} (r : Rat) (h1 : r.num = i) (h2 : (r.den : Int) = j) (hr : (-1000 ≤ i ∧ i ≤ 1000) ∧ j ≤ 1000 ∧ -j < i) : Sub (TupF K 2 (two (Is (.int i)) (Is (.int j)))) (Ex fun r : { r : Rat // Rate r } => RatP K r.val) :=
  fun v h q => ⟨⟨r, ⟨by rw [h1]; exact hr.1, by rw [h2]; exact hr.2.1, by rw [h1, h2]; exact hr.2.2⟩⟩, pair_ratP h1 h2 v h q⟩
theorem ac {C : Lay.Ctx} {a : Expr} {es : List Expr} {Γ : Sl} {μ : Mu} {A : Rp} {Ps : List Rp} (h : EE C a Γ μ A) (h2 : EA C es Γ μ Ps) (hst : isStar a = false := by rfl) : EA C (a :: es) Γ μ (A :: Ps) := a_cons h h2 fun X => star_cons hst
theorem n_listN {C : Lay.Ctx} {es : List Expr} {Γ : Sl} {μ : Mu} {pos : Pos} {Ps : List Rp} {n : Nat} (h : EA C es Γ μ Ps) (hn : Ps.length = n) (hl : n ≤ 100000) : EN C (.List es pos) Γ μ (Els n (nth Ps)) := by
  subst hn
  exact n_list h hl
theorem a_two {C : Lay.Ctx} {a b : Expr} {Γ : Sl} {μ : Mu} {A B : Rp} (h : EE C a Γ μ A) (h2 : EE C b Γ μ B) (hs : isStar a = false) (hs2 : isStar b = false) : EA C [a, b] Γ μ [A, B] := a_cons h (a_cons h2 a_nil (fun X => star_cons hs2)) (fun X => star_cons hs)
abbrev prI (K : PySem.W.Frag) (i j : Int) : Rp := TupF K 2 (two (Is (.int i)) (Is (.int j)))
theorem m_law_rate (F : FunA S "_law_rate" s_law_rate cdv f) (B : Bl S) (c_law_pick : Cal S 2 "_law_pick" (spPick S)) : Cal S 3 "_law_rate" (spRate S) := by
  refine cal_of F sc_law_rate (by decide) (fun kV doc pm an ct us hl => by match us, hl with | [_], _ => rfl) (fun _ => rfl) ?_
  rintro b ⟨p, m, g⟩ hm
  dsimp only at hm ⊢
  refine gs_ret ?_
  refine EE.sub (e_call c_law_pick (p, m, g, 10, nth [prI S.K (0) 1, prI S.K (1) 10, prI S.K (1) 20, prI S.K (1) 2, prI S.K (1) 1, prI S.K (-1) 2, prI S.K (-1) 10, prI S.K (3) 1, prI S.K (1) 3, prI S.K (7) 100]) ?args ⟨hm, Nat.succ_pos 9, (by decide : 10 ≤ 1000)⟩ rfl) ?_
  case args =>
    refine a_two (e_var (i := 0)) ?l rfl rfl
    case l =>
      refine (n_listN (Ps := [prI S.K (0) 1, prI S.K (1) 10, prI S.K (1) 20, prI S.K (1) 2, prI S.K (1) 1, prI S.K (-1) 2, prI S.K (-1) 10, prI S.K (3) 1, prI S.K (1) 3, prI S.K (7) 100]) ?ea rfl (Nat.le_of_ble_eq_true rfl)).ee
      case ea =>
        iterate 5
          refine ac ?_ ?_ ?_
          · exact e_tup2 e_int e_int
          rotate_left
          · rfl
        iterate 2
          refine ac ?_ ?_ ?_
          · exact e_tup2 (e_neg e_int) e_int
          rotate_left
          · rfl
        iterate 3
          refine ac ?_ ?_ ?_
          · exact e_tup2 e_int e_int
          rotate_left
          · rfl
        exact a_nil
  exact pick_sub (Ps := _) (show 10 ≤ 10 from Nat.le_refl _) ⟨rate_is (Rat.divInt 0 1) (by decide) (by decide) (by decide), rate_is (Rat.divInt 1 10) (by decide) (by decide) (by decide), rate_is (Rat.divInt 1 20) (by decide) (by decide) (by decide), rate_is (Rat.divInt 1 2) (by decide) (by decide) (by decide),
    rate_is (Rat.divInt 1 1) (by decide) (by decide) (by decide), rate_is (Rat.divInt (-1) 2) (by decide) (by decide) (by decide), rate_is (Rat.divInt (-1) 10) (by decide) (by decide) (by decide), rate_is (Rat.divInt 3 1) (by decide) (by decide) (by decide),
    rate_is (Rat.divInt 1 3) (by decide) (by decide) (by decide), rate_is (Rat.divInt 7 100) (by decide) (by decide) (by decide), True.intro⟩
end K74
set_option Elab.async false
set_option linter.all false
set_option maxRecDepth 100000
set_option maxHeartbeats 1000000

namespace K74
open PySem PySem.Spec PyProof.Rows L2 Gx Lay Rb
/-! ### lists told thing by thing -/
abbrev Pth := List Nat × Rat
abbrev PC (K : PySem.W.Frag) (p : Pth) : Rp := TupF K 2 (two (PathP K p.1) (RatP K p.2))
def LP (K : PySem.W.Frag) (l : List Pth) : LC := Els l.length fun i => PC K (l.getD i default)
theorem getD_app {α : Type} [Inhabited α] (l : List α) (x : α) {i : Nat} (hi : i < l.length) : (l ++ [x]).getD i default = l.getD i default := by
  rw [List.getD_eq_getElem?_getD, List.getD_eq_getElem?_getD, List.getElem?_append_left hi]
theorem getD_app' {α : Type} [Inhabited α] (l : List α) (x : α) : (l ++ [x]).getD l.length default = x := by
  rw [List.getD_eq_getElem?_getD, List.getElem?_append_right (Nat.le_refl _), Nat.sub_self]
  rfl
section
variable {C : Lay.Ctx} {bs : Bs} {a b e : Expr} {rest : List Stmt} {Γ : Sl} {μ : Mu} {A P R : Rp} {pos : Pos} {N : Nx}
theorem gs_appendL {o : Expr} {ap cp : Pos} {p : Addr} {l : List Pth} {x : Pth} (μ1 μ2 : Mu) (hμ : μ = μ1 ++ (p, LP C.K l) :: μ2) (ho : EE C o Γ (μ1 ++ (p, Els l.length fun i => PC C.K ((l ++ [x]).getD i default)) :: μ2) (Is (.ref p))) (he : EE C e Γ (μ1 ++ (p, Els l.length fun i => PC C.K ((l ++ [x]).getD i default)) :: μ2) (PC C.K x)) (hn : l.length ≤ 10000) (hp : p ∉ dom bs.μ)
    (k : GS C bs rest Γ (μ1 ++ (p, LP C.K (l ++ [x])) :: μ2) N R) (hst : isStar e = false := by rfl)
    (hbase : ∀ X : Cx, attributeBase o "append" X.env (eval o X.env) = eval o X.env := by intro _; rfl)
    (hfew : ∀ X : Cx, ((backTo cp (starEach [e] X.env)).all (fun x => !x.1) && (backToKw cp (keywordEach [] X.env)).all (fun x => x.1.isSome) && decide (([e] : List Expr).length + ([] : List Keyword).length + (if ([] : List Keyword).isEmpty then 0 else 1) < 30)) = true := by intro _; rfl)
    (hline : (ap.endLine == cp.line) = true := by rfl) : GS C bs (.Expr (.Call (.Attribute o "append" ap) [e] [] cp) pos :: rest) Γ μ N R := by
  refine gs_content (d := Els l.length fun i => PC C.K ((l ++ [x]).getD i default)) μ1 μ2 hμ (fun xs h q => Els.sub (fun i hi => by rw [getD_app l x hi]; exact Sub.refl _) q) (Keeps.of hp) ?_
  refine gs_append (f := fun i => PC C.K ((l ++ [x]).getD i default)) μ1 μ2 rfl ho he ?_ hn hp ?_ hbase hfew hline (fun X => star_cons hst)
  · show Lay.Sub _ (PC C.K ((l ++ [x]).getD l.length default))
    rw [getD_app']
    exact Sub.refl _
  · refine gs_content (d := LP C.K (l ++ [x])) μ1 μ2 rfl ?_ (Keeps.of hp) k
    intro xs h q
    unfold LP
    rw [List.length_append]
    exact q
end
abbrev spPaths (S : Sta) : Sp := spOf S (ι := Md × Nat) (fun y => [MdP S.K y.1, Is (.int (y.2 : Int))]) (fun y _ => Good y.1 ∧ y.2 < y.1.n) (fun y => Fz S.K (LP S.K (pathsL y.1 y.2 y.1.Y)))
/-- a path that can be gone -/
structure Gone (M : Md) (start t : Nat) (p : Pth) : Prop where
  len : p.1.length = t + 1
  at' : ∀ i, i ≤ t → p.1.getD i 0 < M.n
  bd : Bd (1 + 10 * t) p.2
theorem nexts_gone {M : Md} (g : Good M) {s t : Nat} (ht : t < M.Y) {p : Pth} (h : Gone M s t p) {m : Nat} (hm : m ≤ M.n) : ∀ q ∈ nexts M t p m, Gone M s (t + 1) q := fun q hq => by
  unfold nexts at hq
  obtain ⟨k, hk, rfl⟩ := List.mem_map.mp hq
  have hk' : k < M.n := Nat.lt_of_lt_of_le (List.mem_range.mp (List.mem_filter.mp hk).1) hm
  refine ⟨by rw [List.length_append, h.len]; rfl, fun i hi => ?_, (bd_mul h.bd (bd_ch g ht (h.at' t (Nat.le_refl _)))).mono (by omega)⟩
  show (p.1 ++ [k]).getD i 0 < M.n
  rw [List.getD_eq_getElem?_getD]
  by_cases hi' : i ≤ t
  · rw [List.getElem?_append_left (by rw [h.len]; omega), ← List.getD_eq_getElem?_getD]
    exact h.at' i hi'
  · have e : i = p.1.length := by rw [h.len]; omega
    rw [e, List.getElem?_append_right (Nat.le_refl _), Nat.sub_self]
    exact hk'
theorem paths_gone {M : Md} (g : Good M) {s : Nat} (hs : s < M.n) : ∀ t, t ≤ M.Y → ∀ p ∈ pathsL M s t, Gone M s t p
  | 0, _, p, hp => by
    have : p = ([s], 1) := by simpa [pathsL] using hp
    rw [this]
    exact ⟨rfl, fun i hi => by
      have : i = 0 := by omega
      rw [this]; exact hs, bd_one⟩
  | t + 1, ht, p, hp => by
    obtain ⟨q, hq, hp'⟩ := List.mem_flatMap.mp hp
    exact nexts_gone g (by omega) (paths_gone g hs t (by omega) q hq) (Nat.le_refl _) p hp'
theorem nexts_len (M : Md) (t : Nat) (p : Pth) (m : Nat) : (nexts M t p m).length ≤ m := by
  unfold nexts
  rw [List.length_map]
  have h := List.length_filter_le (fun k => decide (0 < M.st t (p.1.getD t 0) k)) (List.range m)
  rw [List.length_range] at h
  exact h
theorem flat_len {M : Md} {t m : Nat} : ∀ l : List Pth, (l.flatMap fun p => nexts M t p m).length ≤ l.length * m
  | [] => by simp
  | p :: l => by
    rw [List.flatMap_cons, List.length_append, List.length_cons, Nat.succ_mul]
    have h1 := nexts_len M t p m
    have h2 := flat_len (M := M) (t := t) (m := m) l
    omega
theorem paths_len {M : Md} (g : Good M) {s : Nat} : ∀ t, (pathsL M s t).length ≤ 2 ^ t
  | 0 => Nat.le_refl 1
  | t + 1 => by
    have h := flat_len (M := M) (t := t) (m := M.n) (pathsL M s t)
    have ih := paths_len g (s := s) t
    have hn := g.n.2
    show ((pathsL M s t).flatMap fun p => nexts M t p M.n).length ≤ _
    have h2 : (pathsL M s t).length * M.n ≤ 2 ^ t * 2 := Nat.mul_le_mul ih hn
    rw [Nat.pow_succ]
    omega
theorem nexts_succ (M : Md) (t : Nat) (p : Pth) (m : Nat) : nexts M t p (m + 1) = nexts M t p m ++ (if 0 < M.st t (p.1.getD t 0) m then [(p.1 ++ [m], p.2 * ch M t (p.1.getD t 0) m)] else []) := by
  unfold nexts
  rw [List.range_succ, List.filter_append, List.map_append, List.filter_cons]
  by_cases h : 0 < M.st t (p.1.getD t 0) m
  · rw [if_pos (decide_eq_true h), if_pos h]; rfl
  · rw [if_neg (by rw [decide_eq_false h]; decide), if_neg h]; rfl
variable {S : Sta} {cdv : Value} {f c T : Addr}
theorem cat_path {xs ys : List V} {h : Hp} {p : List Nat} {k : Nat} (hp : p.length ≤ 1000) (h1 : (Els p.length fun i => Is (.int ((p.getD i 0 : Nat) : Int))).p xs h) (h2 : (Els 1 fun _ => Is (.int (k : Int))).p ys h) :
    (Els (p ++ [k]).length fun i => Is (.int (((p ++ [k]).getD i 0 : Nat) : Int))).p (xs ++ ys) h ∧ xs.length + ys.length ≤ 100000 := by
  obtain ⟨l1, e1⟩ := h1
  obtain ⟨l2, e2⟩ := h2
  refine ⟨⟨by rw [List.length_append, List.length_append, l1, l2]; rfl, fun i x hx => ?_⟩, by omega⟩
  rw [List.getElem?_append] at hx
  show x = _
  rw [List.getD_eq_getElem?_getD]
  by_cases hi : i < xs.length
  · rw [if_pos hi] at hx
    rw [List.getElem?_append_left (by omega), ← List.getD_eq_getElem?_getD]
    exact e1 i x hx
  · rw [if_neg hi] at hx
    have hz : i - xs.length = 0 := by
      have := (List.getElem?_eq_some_iff.mp hx).1
      omega
    rw [hz] at hx
    have hi2 : i = p.length := by omega
    rw [hi2, List.getElem?_append_right (Nat.le_refl _), Nat.sub_self]
    exact e2 0 x hx
abbrev s_law_paths : Stmt := topS 53
theorem sc_law_paths : FnScope ["_law_model", "_law_start", "_law_rows", "_law_year", "_law_more", "_law_path", "_law_chance", "_law_line", "_law_k"] ["_law_model", "_law_start"] (defScope s_law_paths) := ⟨rfl, rfl, rfl, by decide +kernel, rfl, by decide +kernel, by decide +kernel⟩
theorem m_law_paths (F : FunA S "_law_paths" s_law_paths cdv f) (B : Bl S) (c_law_ratio : Cal S 1 "_law_ratio" (spRatio S)) (c_law_by : Cal S 2 "_law_by" (sp2 S fun x y => x * y)) : Cal S 3 "_law_paths" (spPaths S) := by
  refine cal_of F sc_law_paths (by decide) (fun kV doc pm an ct us hl => by match us, hl with | [_, _], _ => rfl) (fun _ => rfl) ?_
  rintro b ⟨M, s⟩ ⟨g, hs⟩
  dsimp only at g hs ⊢
  have hn := g.n
  have hY := g.Y
  refine gs_set (i := 2) (P := Fz S.K (LP S.K (pathsL M s 0))) (EE.sub (n_list (a_cons (e_tup2 ((e_tup1 (e_var (i := 1))).sub (R := PathP S.K [s]) (Tz.els fun i hi => ?a1)) ((e_tup2 e_int e_int).sub (pair_ratP (q := 1) rfl rfl))) a_nil)).ee ?a2) ?_
  case a1 =>
    match i, hi with
    | 0, _ => exact Sub.refl _
  case a2 =>
    rintro v h ⟨t, xs, h1, h2, h3⟩
    exact ⟨t, xs, h1, h2, Els.sub (fun i hi => by
      match i, hi with
      | 0, _ => exact Sub.refl _) h3⟩
  refine gs_loop (fun t => [some (MdP S.K M), some (Is (.int (s : Int))), some (Fz S.K (LP S.K (pathsL M s t))), none, none, none, none, none, none]) (fun t => b.μ) (fun t => True) (i_tup (n := M.Y) (f := fun t => T2 S.K M.n M.n (M.st t)) (e_ixT (e_var (i := 0)) e_int (by decide))) (fun i hi => g_name (i := 3)) ⟨Sub.refl _, Sub.refl _, Sub.refl _, True.intro⟩ rfl True.intro (fun t ht hI => ?_) (fun hI => ?_) (fun i Γ _ l => l.set _ _)
  · have gone := paths_gone g hs t (by omega)
    have lens := paths_len g (s := s) t
    have l4 : (pathsL M s t).length ≤ 4 := Nat.le_trans lens (by match t, (show t ≤ 2 by omega) with | 0, _ => decide | 1, _ => decide | 2, _ => decide)
    refine gs_setN (i := 4) (c := LP S.K []) (n_nil (f := fun i => PC S.K (([] : List Pth).getD i default))) (fun pm hpm => ?_)
    refine gs_loop (fun i => [some (MdP S.K M), some (Is (.int (s : Int))), some (Fz S.K (LP S.K (pathsL M s t))), some (T2 S.K M.n M.n (M.st t)), some (Is (.ref pm)), none, none, none, none]) (fun i => (pm, LP S.K (((pathsL M s t).take i).flatMap fun p => nexts M t p M.n)) :: b.μ) (fun _ => True) (i_list (n := (pathsL M s t).length) (f := fun i => PC S.K ((pathsL M s t).getD i default)) (e_var (i := 2))) (fun i hi => g_pair (i := 5) (j := 6)) ⟨Sub.refl _, Sub.refl _, Sub.refl _, Sub.refl _, Sub.refl _, True.intro⟩ rfl True.intro (fun i hi hI => ?_) (fun hI => ?_) (fun i Γ _ l => (l.set _ _).set _ _)
    · have hp : (pathsL M s t).getD i default = (pathsL M s t)[i] := by rw [List.getD_eq_getElem?_getD, List.getElem?_eq_getElem hi]; rfl
      have gn : Gone M s t ((pathsL M s t).getD i default) := by rw [hp]; exact gone _ (List.getElem_mem hi)
      have ef : ((pathsL M s t).take (i + 1)).flatMap (fun p => nexts M t p M.n) = ((pathsL M s t).take i).flatMap (fun p => nexts M t p M.n) ++ nexts M t ((pathsL M s t).getD i default) M.n := by
        rw [List.take_succ, List.flatMap_append, hp, List.getElem?_eq_getElem hi]
        simp
      have lf : (((pathsL M s t).take i).flatMap (fun p => nexts M t p M.n)).length ≤ 8 := by
        have h1 := flat_len (M := M) (t := t) (m := M.n) ((pathsL M s t).take i)
        have h2 : ((pathsL M s t).take i).length ≤ 4 := Nat.le_trans (List.length_take_le' _ _) l4
        have h3 : ((pathsL M s t).take i).length * M.n ≤ 4 * 2 := Nat.mul_le_mul h2 hn.2
        omega
      generalize ((pathsL M s t).take i).flatMap (fun p => nexts M t p M.n) = acc at ef lf ⊢
      generalize (pathsL M s t).getD i default = p at gn ef ⊢
      rw [ef]
      have hj : p.1.getD t 0 < M.n := gn.at' t (Nat.le_refl _)
      have hl := gn.len
      have p0 := g.pos t (p.1.getD t 0) ht hj
      have p1 := sumF_small g (y := t) (j := p.1.getD t 0)
      refine gs_set (i := 7) (P := T1 S.K M.n (M.st t (p.1.getD t 0))) (e_ixT (n := M.n) (f := fun j => T1 S.K M.n (M.st t j)) (e_var (i := 3)) (e_ixTb (i := 1) (n := p.1.length) (f := fun i => Is (.int ((p.1.getD i 0 : Nat) : Int))) (P := Is (.int ((p.1.getD t 0 : Nat) : Int))) (e_var (i := 5)) (e_neg e_int) (by omega) (hP := by rw [hl]; rfl)) (by omega)) ?_
      refine gs_loop (fun k => [some (MdP S.K M), some (Is (.int (s : Int))), some (Fz S.K (LP S.K (pathsL M s t))), some (T2 S.K M.n M.n (M.st t)), some (Is (.ref pm)), some (PathP S.K p.1), some (RatP S.K p.2), some (T1 S.K M.n (M.st t (p.1.getD t 0))), none]) (fun k => (pm, LP S.K (acc ++ nexts M t p k)) :: b.μ) (fun _ => True) (i_rangeN (n := M.n) (e_lenT (e_var (i := 7)) rfl B.len) (by omega) rfl B.range) (fun i hi => g_name (i := 8)) ⟨Sub.refl _, Sub.refl _, Sub.refl _, Sub.refl _, Sub.refl _, Sub.refl _, Sub.refl _, Sub.refl _, True.intro⟩ (by rw [show nexts M t p 0 = [] from rfl, List.append_nil]) True.intro (fun k hk hI => ?_) (fun hI => ?_) (fun i Γ _ l => l.set _ _)
      · refine gs_if (k := decide (0 < M.st t (p.1.getD t 0) k)) (N' := Lay.At [some (MdP S.K M), some (Is (.int (s : Int))), some (Fz S.K (LP S.K (pathsL M s t))), some (T2 S.K M.n M.n (M.st t)), some (Is (.ref pm)), some (PathP S.K p.1), some (RatP S.K p.2), some (T1 S.K M.n (M.st t (p.1.getD t 0))), none] ((pm, LP S.K (acc ++ nexts M t p (k + 1))) :: b.μ) True) (t_cmp (c_gt (i := M.st t (p.1.getD t 0) k) (e_ixT (e_var (i := 7)) (e_var (i := 8)) (by omega)) e_int)) (fun h => ?_) (fun h => ?_) (fun Γ' μ' h => gs_nil h)
        · have h' := of_decide_eq_true h
          have ln := nexts_len M t p k
          refine gs_appendL (x := (p.1 ++ [k], p.2 * ch M t (p.1.getD t 0) k)) [] _ rfl (e_var (i := 4)) (e_tup2 (e_cat (r := Els (p.1 ++ [k]).length fun i => Is (.int (((p.1 ++ [k]).getD i 0 : Nat) : Int))) (e_var (i := 5)) (e_tup1 (e_var (i := 8))) (fun xs ys h h1 h2 => cat_path (by omega) h1 h2)) (e_call c_law_by (_, _) (a_cons (e_var (i := 6)) (a_cons (e_call c_law_ratio (_, _) (a_cons (e_ixT (e_var (i := 7)) (e_var (i := 8)) (by omega)) (a_cons (e_sumT (e_var (i := 7)) rfl B.sum) a_nil)) ?b1 rfl) a_nil)) ?b2 rfl)) (by rw [List.length_append]; omega) hpm ?_
          case b1 => exact ⟨p0, Nat.le_trans (sz_small (n := 10) (by show _ < sumF M.n (M.st t (p.1.getD t 0)) ∧ sumF M.n (M.st t (p.1.getD t 0)) < _; omega) (by decide)) (by decide)⟩
          case b2 => exact ⟨gn.bd.mono (by omega), (bd_ch g ht hj).mono (by decide)⟩
          exact gs_nil ⟨⟨Sub.refl _, Sub.refl _, Sub.refl _, Sub.refl _, Sub.refl _, Sub.refl _, Sub.refl _, Sub.refl _, True.intro⟩, by rw [nexts_succ, if_pos h', List.append_assoc]; rfl, True.intro⟩
        · have h' := of_decide_eq_false h
          exact gs_nil ⟨⟨Sub.refl _, Sub.refl _, Sub.refl _, Sub.refl _, Sub.refl _, Sub.refl _, Sub.refl _, Sub.refl _, True.intro⟩, by rw [nexts_succ, if_neg h', List.append_nil], True.intro⟩
      · exact gs_nil ⟨⟨Sub.refl _, Sub.refl _, Sub.refl _, Sub.refl _, Sub.refl _, True.intro⟩, rfl, True.intro⟩
    · rw [List.take_length]
      refine gs_set (i := 2) (e_var (i := 4)) ?_
      refine gs_freeze 2 [] _ rfl rfl hpm ?_
      exact gs_nil ⟨⟨Sub.refl _, Sub.refl _, Sub.refl _, True.intro⟩, rfl, True.intro⟩
  · exact gs_ret (e_var (i := 2))
end K74
set_option Elab.async false
set_option linter.all false
set_option maxRecDepth 100000
set_option maxHeartbeats 1000000

namespace K74
open PySem PySem.Spec PyProof.Rows L2 Gx Lay Rb
section
variable {C : Lay.Ctx} {a b : Expr} {Γ : Sl} {μ : Mu} {A B : Rp}
theorem c_neDx {k : Bool} (ha : EE C a Γ μ A) (hb : EE C b Γ μ B) (hd : ∀ v h, A.p v h → ∀ w, B.p w h → ∃ d e, Dp C.K h v d ∧ Dp C.K h w e ∧ SeqAt.shaped d = true ∧ SeqAt.shaped e = true ∧ (!PyData.eqv d e) = k) : CM C .NotEq a b Γ μ k :=
  ⟨_, _, _, fun X hX => hX.K ▸ op_neD hX.room.units, nomark _, ha, hb, fun x y H _ p1 p2 Q q => by
    obtain ⟨d, e, h1, h2, h3, h4, h5⟩ := hd _ _ (A.mono _ _ _ (ext_hide _ _) p1) _ (B.mono _ _ _ (ext_hide _ _) p2)
    refine ⟨d, e, h1, h2, h3, h4, ?_⟩
    rw [h5]
    exact q⟩
end
/-- x, y, z = a new list, b, c (swapped stores) -/
theorem gs_par3F {C : Lay.Ctx} {bs : Bs} {a b c : Expr} {rest : List Stmt} {Γ : Sl} {μ : Mu} {B D R : Rp} {Ql : LC} {N : Nx} {pos : Pos} {i j l : Nat} {x y z : Str} {px py pz pt pt2 : Pos} {kt k2 : Nat} (ha : EN C a Γ μ Ql) (hb : ∀ p, EE C b Γ ((p, Ql) :: μ) B) (hc : ∀ p, EE C c Γ ((p, Ql) :: μ) D) (k : ∀ p, p ∉ dom bs.μ → GS C bs rest (((Γ.set i (some (Is (.ref p)))).set j (some B)).set l (some D)) ((p, Ql) :: μ) N R)
    (hw : ∀ env : Env, env.scope = C.sc → swappedStores [.Tuple [.Name x px, .Name y py, .Name z pz] kt pt] (.Tuple [a, b, c] k2 pt2) env = pure (some [x, y, z]))
    (hi : C.N[i]? = some x := by rfl) (hj : C.N[j]? = some y := by rfl) (hl : C.N[l]? = some z := by rfl) (hx : C.sc.names.lookup x = some .local := by rfl) (hy : C.sc.names.lookup y = some .local := by rfl) (hz : C.sc.names.lookup z = some .local := by rfl) (hij : i ≠ j := by decide) (hil : i ≠ l := by decide) (hjl : j ≠ l := by decide)
    (h1 : isStar a = false := by rfl) (h2 : isStar b = false := by rfl) (h3 : isStar c = false := by rfl) :
    GS C bs (.Assign [.Tuple [.Name x px, .Name y py, .Name z pz] kt pt] (.Tuple [a, b, c] k2 pt2) pos :: rest) Γ μ N R := fun σ H D' kk n r =>
  tsc (t := tPar3 i j l (tCons (TEx C a) (tCons (TEx C b) (tCons (TEx C c) tNil)))) (fun X hX => ps_par3 (i := i) (j := j) (l := l) hX.calm (by rw [hX.N]; exact hX.nd) (by rw [hX.N]; exact hi) (by rw [hX.N]; exact hj) (by rw [hX.N]; exact hl) hij hil hjl (by rw [hX.sc]; exact hx) (by rw [hX.sc]; exact hy) (by rw [hX.sc]; exact hz) (pa_cons (TEx.pe hX) (pa_cons (TEx.pe hX) (pa_cons (TEx.pe hX) pa_nil (star_cons h3)) (star_cons h2)) (star_cons h1)) (hw X.env hX.sc) rfl)
    (ha σ H _ kk.ok fun p H1 k1 e1 => hb p σ H1 _ k1 fun v H2 k2 e2 p2 => hc p σ H2 _ k2 fun w H3 k3 e3 p3 => by
      have kn := (kk.new k1 e1).step (k2.step k3.hd e3) (e2.trans e3)
      exact ⟨_, v, w, rfl, k p (kk.fresh k1) _ _ D' (((kn.set rfl).set (B.mono _ _ _ e3 p2)).set p3) (up n ((e1.trans e2).trans e3)) r⟩)
theorem dp_pair {K : PySem.W.Frag} {i j : Int} {v : V} {h : Hp} (q : (TupF K 2 (two (Is (.int i)) (Is (.int j)))).p v h) : Dp K h v (.tuple [.int i, .int j]) := by
  obtain ⟨t, xs, rfl, h2, h3, h4⟩ := q
  match xs, h3 with
  | [x, y], _ =>
    have e1 := h4 0 x rfl
    have e2 := h4 1 y rfl
    cases e1
    cases e2
    exact .tup h2 (.cons (.int i) (.cons (.int j) .nil))
theorem eqv_pair (a b c d : Int) : PyData.eqv (.tuple [.int a, .int b]) (.tuple [.int c, .int d]) = (decide (a = c) && decide (b = d)) := by
  simp [PyData.eqv, PyData.eqvAll, Bool.beq_eq_decide_eq]
theorem shaped_pair (a b : Int) : SeqAt.shaped (.tuple [.int a, .int b]) = true := by
  simp [SeqAt.shaped, PyData.canLay0, PyData.depth, PyData.canLayAll0, PyData.depthAll]
theorem dp_bools {K : PySem.W.Frag} {h : Hp} : ∀ xs : List V, (∀ x ∈ xs, ∃ b : Bool, x = .bl b) → ∃ ds, DpAll K h xs ds ∧ PyData.canLayAll0 ds = true ∧ PyData.depthAll ds = 0 ∧ ds.length = xs.length
  | [], _ => ⟨[], .nil, rfl, rfl, rfl⟩
  | x :: xs, hx => by
    obtain ⟨ds, h1, h2, h3, h4⟩ := dp_bools (K := K) (h := h) xs fun y hy => hx y (List.mem_cons_of_mem _ hy)
    obtain ⟨b, rfl⟩ := hx x List.mem_cons_self
    refine ⟨.bool b :: ds, .cons (.bl b) h1, ?_, ?_, by rw [List.length_cons, List.length_cons, h4]⟩
    · show (PyData.canLay0 (.bool b) && PyData.canLayAll0 ds) = true
      rw [h2]; rfl
    · show max (PyData.depth (.bool b)) (PyData.depthAll ds) = 0
      rw [h3]; rfl
/-- a list of m bools is [] or not -/
theorem dp_empty {K : PySem.W.Frag} {m : Nat} {v w : V} {h : Hp} (q : (LstF K m fun _ => Ex fun b : Bool => Is (.bl b)).p v h) {g : Nat → Rp} (r : (LstF K 0 g).p w h) :
    ∃ d e, Dp K h v d ∧ Dp K h w e ∧ SeqAt.shaped d = true ∧ SeqAt.shaped e = true ∧ (!PyData.eqv d e) = !decide (m = 0) := by
  obtain ⟨t, xs, rfl, h2, h3, h4⟩ := q
  obtain ⟨u, ys, rfl, g2, g3, _⟩ := r
  have : ys = [] := List.length_eq_zero_iff.mp g3
  subst this
  obtain ⟨ds, d1, d2, d3, d4⟩ := dp_bools (K := K) (h := h) xs fun x hx => by
    obtain ⟨i, hi, e⟩ := List.getElem_of_mem hx
    exact h4 i x (by rw [List.getElem?_eq_getElem hi, e])
  refine ⟨.list ds, .list [], .lst h2 d1, .lst g2 .nil, ?_, by decide, ?_⟩
  · simp [SeqAt.shaped, PyData.canLay0, PyData.depth, d2, d3]
  · have : ds.length = m := by rw [d4, h3]
    cases ds with
    | nil => have : m = 0 := by rw [← this]; rfl
             rw [decide_eq_true this]; rfl
    | cons d ds => have : m ≠ 0 := by rw [← this]; simp
                   rw [decide_eq_false this]; rfl
theorem shaped_nil : SeqAt.shaped (.list []) = true := by decide
end K74
set_option linter.all false
/-! what the program says is what the law says -/
namespace K74
open Rb
open Lay (sumF allN anyN)
theorem mx_left (x y : Rat) : x ≤ mx x y := by unfold mx; split <;> grind
theorem mx_right (x y : Rat) : y ≤ mx x y := by unfold mx; split <;> grind
theorem mx_or (x y : Rat) : mx x y = x ∨ mx x y = y := by unfold mx; split <;> simp
theorem dpow_nn {r : Rat} (h : 0 ≤ dc r) : ∀ t, 0 ≤ dpow r t
  | 0 => by show (0 : Rat) ≤ 1; decide
  | t + 1 => Rat.mul_nonneg (dpow_nn h t) h
section
variable {M : Md} {r : Rat} {o : Nat → Nat → Int} {v : Nat → Nat → Nat → Rat} {f : Nat → Rat} {y j : Nat}
abbrev via (M : Md) (r : Rat) (v : Nat → Nat → Nat → Rat) (f : Nat → Rat) (y j k : Nat) : Rat := (M.sg y j : Rat) + dc r * (((M.mv y j k : Rat) + f k) - v y j k)
theorem gk_o : ∀ K, (o y j : Rat) ≤ gk M r o v f y j K
  | 0 => by unfold gk; grind
  | K + 1 => by
    have ih := gk_o K
    unfold gk
    split
    · have := mx_left (gk M r o v f y j K) (via M r v f y j K)
      exact Rat.le_trans ih this
    · exact ih
theorem gk_k {k : Nat} (hs : 0 < M.st y j k) : ∀ K, k < K → via M r v f y j k ≤ gk M r o v f y j K
  | 0, h => absurd h (Nat.not_lt_zero k)
  | K + 1, h => by
    unfold gk
    rcases Nat.lt_succ_iff_lt_or_eq.mp h with z | z
    · have ih := gk_k hs K z
      split
      · exact Rat.le_trans ih (mx_left _ _)
      · exact ih
    · subst z
      rw [if_pos hs]
      exact mx_right _ _
theorem gk_or : ∀ K, gk M r o v f y j K = (o y j : Rat) ∨ ∃ k, k < K ∧ 0 < M.st y j k ∧ gk M r o v f y j K = via M r v f y j k
  | 0 => .inl rfl
  | K + 1 => by
    have ih := gk_or K
    have go : gk M r o v f y j K = (o y j : Rat) ∨ ∃ k, k < K + 1 ∧ 0 < M.st y j k ∧ gk M r o v f y j K = via M r v f y j k := by
      rcases ih with h | ⟨k, h1, h2, h3⟩
      · exact .inl h
      · exact .inr ⟨k, by omega, h2, h3⟩
    by_cases hs : 0 < M.st y j K
    · have e : gk M r o v f y j (K + 1) = mx (gk M r o v f y j K) (via M r v f y j K) := if_pos hs
      rw [e]
      rcases mx_or (gk M r o v f y j K) (via M r v f y j K) with h | h
      · rw [h]; exact go
      · rw [h]; exact .inr ⟨K, by omega, hs, rfl⟩
    · have e : gk M r o v f y j (K + 1) = gk M r o v f y j K := if_neg hs
      rw [e]; exact go
/-! ### paths -/
theorem mem_next {t : Nat} {p q : List Nat × Rat} {m : Nat} : q ∈ nexts M t p m ↔ ∃ k, k < m ∧ 0 < M.st t (p.1.getD t 0) k ∧ q = (p.1 ++ [k], p.2 * ch M t (p.1.getD t 0) k) := by
  unfold nexts
  rw [List.mem_map]
  constructor
  · rintro ⟨k, hk, rfl⟩
    obtain ⟨h1, h2⟩ := List.mem_filter.mp hk
    exact ⟨k, List.mem_range.mp h1, of_decide_eq_true h2, rfl⟩
  · rintro ⟨k, h1, h2, rfl⟩
    exact ⟨k, List.mem_filter.mpr ⟨List.mem_range.mpr h1, decide_eq_true h2⟩, rfl⟩
theorem mem_path {s t : Nat} {q : List Nat × Rat} : q ∈ pathsL M s (t + 1) ↔ ∃ p ∈ pathsL M s t, ∃ k, k < M.n ∧ 0 < M.st t (p.1.getD t 0) k ∧ q = (p.1 ++ [k], p.2 * ch M t (p.1.getD t 0) k) := by
  show q ∈ (pathsL M s t).flatMap (fun p => nexts M t p M.n) ↔ _
  rw [List.mem_flatMap]
  constructor
  · rintro ⟨p, h1, h2⟩; exact ⟨p, h1, mem_next.mp h2⟩
  · rintro ⟨p, h1, h2⟩; exact ⟨p, h1, mem_next.mpr h2⟩
theorem getD_left {l : List Nat} {k i : Nat} (h : i < l.length) : (l ++ [k]).getD i 0 = l.getD i 0 := by
  rw [List.getD_eq_getElem?_getD, List.getElem?_append_left h, ← List.getD_eq_getElem?_getD]
theorem getD_last {l : List Nat} {k i : Nat} (h : i = l.length) : (l ++ [k]).getD i 0 = k := by
  rw [List.getD_eq_getElem?_getD, h, List.getElem?_append_right (Nat.le_refl _), Nat.sub_self]; rfl
structure Way (M : Md) (s t : Nat) (p : List Nat) : Prop where
  len : p.length = t + 1
  zero : p.getD 0 0 = s
  step : ∀ i, i < t → 0 < M.st i (p.getD i 0) (p.getD (i + 1) 0)
  lt : ∀ i, i < t → p.getD (i + 1) 0 < M.n
theorem way_of {s : Nat} : ∀ t, ∀ p ∈ pathsL M s t, Way M s t p.1
  | 0, p, h => by
    have : p = ([s], 1) := by simpa [pathsL] using h
    rw [this]
    exact ⟨rfl, rfl, fun i hi => absurd hi (Nat.not_lt_zero i), fun i hi => absurd hi (Nat.not_lt_zero i)⟩
  | t + 1, p, h => by
    obtain ⟨q, hq, k, hk, hs, rfl⟩ := mem_path.mp h
    have w := way_of t q hq
    have hl := w.len
    refine ⟨by show (q.1 ++ [k]).length = _; rw [List.length_append, hl]; rfl, ?_, fun i hi => ?_, fun i hi => ?_⟩
    · show (q.1 ++ [k]).getD 0 0 = s
      rw [getD_left (by omega)]; exact w.zero
    · show 0 < M.st i ((q.1 ++ [k]).getD i 0) ((q.1 ++ [k]).getD (i + 1) 0)
      rw [getD_left (by omega)]
      by_cases z : i < t
      · rw [getD_left (by omega)]; exact w.step i z
      · have e : i = t := by omega
        subst e
        rw [getD_last (by omega)]; exact hs
    · show (q.1 ++ [k]).getD (i + 1) 0 < M.n
      by_cases z : i < t
      · rw [getD_left (by omega)]; exact w.lt i z
      · have e : i = t := by omega
        subst e
        rw [getD_last (by omega)]; exact hk
theorem Way.at' {s t : Nat} {p : List Nat} (w : Way M s t p) (hs : s < M.n) : ∀ i, i ≤ t → p.getD i 0 < M.n
  | 0, _ => by rw [w.zero]; exact hs
  | i + 1, h => w.lt i (by omega)
/-! ### the sums along a path -/
theorem paidT_eq {p q : List Nat} : ∀ t, t ≤ M.Y → (∀ i, i ≤ t → p.getD i 0 = q.getD i 0) → paidT M r p t = paidT M r q t
  | 0, _, _ => rfl
  | t + 1, ht, h => by
    unfold paidT
    rw [paidT_eq t (by omega) fun i hi => h i (by omega), h t (by omega), h (t + 1) (Nat.le_refl _)]
theorem lost_eq {p q : List Nat} : ∀ t, (∀ i, i ≤ t → p.getD i 0 = q.getD i 0) → lost r v p t = lost r v q t
  | 0, _ => rfl
  | t + 1, h => by
    unfold lost
    rw [lost_eq t fun i hi => h i (by omega), h t (by omega), h (t + 1) (Nat.le_refl _)]
/-- what a path that stops later can still come to -/
def fut (M : Md) (r : Rat) (o : Nat → Nat → Int) (v : Nat → Nat → Nat → Rat) (p : List Nat) (t : Nat) : Rat := (paidT M r p t - lost r v p t) + dpow r t * great M r o v (M.Y - t) (p.getD t 0)
theorem great_at {t j : Nat} (ht : t < M.Y) : great M r o v (M.Y - t) j = gk M r o v (great M r o v (M.Y - (t + 1))) t j M.n := by
  have e : M.Y - t = (M.Y - (t + 1)) + 1 := by omega
  rw [e]
  show gk M r o v (great M r o v (M.Y - (t + 1))) (M.Y - ((M.Y - (t + 1)) + 1)) j M.n = _
  rw [show M.Y - ((M.Y - (t + 1)) + 1) = t by omega]
theorem great_end {j : Nat} : great M r o v (M.Y - M.Y) j = mx (o M.Y j) (M.sg M.Y j) := by rw [Nat.sub_self]; rfl
theorem paidT_step {p : List Nat} {t : Nat} (ht : t < M.Y) : paidT M r p (t + 1) = (paidT M r p t + dpow r t * (M.sg t (p.getD t 0) : Rat)) + dpow r (t + 1) * (M.mv t (p.getD t 0) (p.getD (t + 1) 0) : Rat) := by
  show _ + (if t < M.Y then _ else 0) = _
  rw [if_pos ht]
theorem fut_via {p : List Nat} {t : Nat} (ht : t < M.Y) : fut M r o v p (t + 1) = (paidT M r p t - lost r v p t) + dpow r t * via M r v (great M r o v (M.Y - (t + 1))) t (p.getD t 0) (p.getD (t + 1) 0) := by
  unfold fut
  rw [paidT_step ht]
  show _ - (lost r v p t + dpow r (t + 1) * v t (p.getD t 0) (p.getD (t + 1) 0)) + _ = _
  show (paidT M r p t + dpow r t * (M.sg t (p.getD t 0) : Rat) + (dpow r t * dc r) * (M.mv t (p.getD t 0) (p.getD (t + 1) 0) : Rat)) - (lost r v p t + (dpow r t * dc r) * v t (p.getD t 0) (p.getD (t + 1) 0)) + (dpow r t * dc r) * great M r o v (M.Y - (t + 1)) (p.getD (t + 1) 0) = _
  grind
theorem mul_le {a b c : Rat} (h : a ≤ b) (hc : 0 ≤ c) : c * a ≤ c * b := Rat.mul_le_mul_of_nonneg_left h hc
theorem fut_down {p : List Nat} {s t : Nat} (hd : 0 ≤ dc r) (w : Way M s M.Y p) (ht : t < M.Y) : fut M r o v p (t + 1) ≤ fut M r o v p t := by
  rw [fut_via ht]
  unfold fut
  have h := mul_le (gk_k (r := r) (o := o) (v := v) (f := great M r o v (M.Y - (t + 1))) (w.step t ht) M.n (w.lt t ht)) (dpow_nn hd t)
  rw [great_at ht]
  exact Rat.add_le_add_left.mpr h
theorem fut_le {p : List Nat} {s : Nat} (hd : 0 ≤ dc r) (w : Way M s M.Y p) : ∀ t, t ≤ M.Y → fut M r o v p t ≤ great M r o v M.Y s
  | 0, _ => by
    unfold fut
    rw [w.zero]
    show (0 - 0) + 1 * great M r o v M.Y s ≤ _
    grind
  | t + 1, h => Rat.le_trans (fut_down hd w (by omega)) (fut_le hd w t (by omega))
/-- what a path comes to -/
def comes (M : Md) (r : Rat) (o : Nat → Nat → Int) (v : Nat → Nat → Nat → Rat) (p : List Nat) (s : Option Nat) : Rat := paid M r o p s + -(lost r v p (s.getD M.Y))
theorem comes_some {p : List Nat} {s t : Nat} (hd : 0 ≤ dc r) (ht : t ≤ M.Y) : comes M r o v p (some t) ≤ fut M r o v p t := by
  have h : (o t (p.getD t 0) : Rat) ≤ great M r o v (M.Y - t) (p.getD t 0) := by
    by_cases z : t < M.Y
    · rw [great_at z]; exact gk_o _
    · have e : t = M.Y := by omega
      rw [e, great_end]; exact mx_left _ _
  have h2 := mul_le h (dpow_nn hd t)
  show (paidT M r p t + dpow r t * (o t (p.getD t 0) : Rat)) + -(lost r v p t) ≤ (paidT M r p t - lost r v p t) + _
  grind
theorem comes_none {p : List Nat} (hd : 0 ≤ dc r) : comes M r o v p none ≤ fut M r o v p M.Y := by
  have h : (M.sg M.Y (p.getD M.Y 0) : Rat) ≤ great M r o v (M.Y - M.Y) (p.getD M.Y 0) := by
    rw [great_end]; exact mx_right _ _
  have h2 := mul_le h (dpow_nn hd M.Y)
  show ((paidT M r p M.Y + dpow r M.Y * (M.sg M.Y (p.getD M.Y 0) : Rat)) + (if M.Y < M.Y then _ else 0)) + -(lost r v p M.Y) ≤ (paidT M r p M.Y - lost r v p M.Y) + _
  rw [if_neg (Nat.lt_irrefl _)]
  grind
theorem mem_stops {Y : Nat} {s : Option Nat} : s ∈ stops Y ↔ s = none ∨ ∃ t, t ≤ Y ∧ s = some t := by
  unfold stops
  rw [List.mem_append, List.mem_map, List.mem_singleton]
  constructor
  · rintro (⟨t, h1, rfl⟩ | h)
    · exact .inr ⟨t, by have := List.mem_range.mp h1; omega, rfl⟩
    · exact .inl h
  · rintro (h | ⟨t, h1, rfl⟩)
    · exact .inr h
    · exact .inl ⟨t, List.mem_range.mpr (by omega), rfl⟩
theorem comes_le {p : List Nat} {s : Nat} {x : Option Nat} (hd : 0 ≤ dc r) (w : Way M s M.Y p) (hx : x ∈ stops M.Y) : comes M r o v p x ≤ great M r o v M.Y s := by
  rcases mem_stops.mp hx with h | ⟨t, h1, h⟩
  · rw [h]; exact Rat.le_trans (comes_none hd) (fut_le hd w M.Y (Nat.le_refl _))
  · rw [h]; exact Rat.le_trans (comes_some (s := s) hd h1) (fut_le hd w t h1)
theorem pos_some {n : Nat} {f : Nat → Int} (h0 : ∀ i, 0 ≤ f i) (h : 0 < sumF n f) : ∃ k, k < n ∧ 0 < f k := by
  induction n with
  | zero => exact absurd h (by show ¬ (0 : Int) < 0; omega)
  | succ n ih =>
    by_cases z : 0 < f n
    · exact ⟨n, by omega, z⟩
    · have e : sumF (n + 1) f = sumF n f + f n := by
        unfold Lay.sumF
        rw [List.range_succ, List.map_append, List.sum_append]
        simp
      obtain ⟨k, h1, h2⟩ := ih (by rw [e] at h; have := h0 n; omega)
      exact ⟨k, by omega, h2⟩
/-- any way goes on to the end -/
theorem goes_on (g : Good M) {s : Nat} (hs : s < M.n) : ∀ d t, t + d = M.Y → ∀ q ∈ pathsL M s t, ∃ p ∈ pathsL M s M.Y, ∀ i, i ≤ t → p.1.getD i 0 = q.1.getD i 0
  | 0, t, e, q, hq => by
    have : t = M.Y := by omega
    subst this
    exact ⟨q, hq, fun i hi => rfl⟩
  | d + 1, t, e, q, hq => by
    have w := way_of t q hq
    obtain ⟨k, h1, h2⟩ := pos_some (fun i => (g.st t (q.1.getD t 0) i).1) (g.pos t (q.1.getD t 0) (by omega) (w.at' hs t (Nat.le_refl _)))
    obtain ⟨p, hp, hi⟩ := goes_on g hs d (t + 1) (by omega) (q.1 ++ [k], q.2 * ch M t (q.1.getD t 0) k) (mem_path.mpr ⟨q, hq, k, h1, h2, rfl⟩)
    have hl := w.len
    exact ⟨p, hp, fun i hi' => by rw [hi i (by omega)]; exact getD_left (by omega)⟩
/-- the greatest is reached -/
theorem reached (g : Good M) {s : Nat} (hs : s < M.n) : ∀ d t, t + d = M.Y → ∀ q ∈ pathsL M s t, ∃ p ∈ pathsL M s M.Y, ∃ x ∈ stops M.Y, comes M r o v p.1 x = fut M r o v q.1 t
  | 0, t, e, q, hq => by
    have : t = M.Y := by omega
    subst this
    unfold fut
    rw [great_end]
    rcases mx_or (o M.Y (q.1.getD M.Y 0)) (M.sg M.Y (q.1.getD M.Y 0)) with h | h
    · refine ⟨q, hq, some M.Y, mem_stops.mpr (.inr ⟨_, Nat.le_refl _, rfl⟩), ?_⟩
      rw [h]
      show (paidT M r q.1 M.Y + dpow r M.Y * (o M.Y (q.1.getD M.Y 0) : Rat)) + -(lost r v q.1 M.Y) = _
      grind
    · refine ⟨q, hq, none, mem_stops.mpr (.inl rfl), ?_⟩
      rw [h]
      show ((paidT M r q.1 M.Y + dpow r M.Y * (M.sg M.Y (q.1.getD M.Y 0) : Rat)) + (if M.Y < M.Y then _ else 0)) + -(lost r v q.1 M.Y) = _
      rw [if_neg (Nat.lt_irrefl _)]
      grind
  | d + 1, t, e, q, hq => by
    have w := way_of t q hq
    have hl := w.len
    have ht : t < M.Y := by omega
    rcases gk_or (M := M) (r := r) (o := o) (v := v) (f := great M r o v (M.Y - (t + 1))) (y := t) (j := q.1.getD t 0) M.n with h | ⟨k, h1, h2, h3⟩
    · obtain ⟨p, hp, hi⟩ := goes_on g hs (d + 1) t e q hq
      refine ⟨p, hp, some t, mem_stops.mpr (.inr ⟨t, by omega, rfl⟩), ?_⟩
      unfold fut
      rw [great_at ht, h]
      show (paidT M r p.1 t + dpow r t * (o t (p.1.getD t 0) : Rat)) + -(lost r v p.1 t) = _
      rw [paidT_eq t (by omega) hi, lost_eq t hi, hi t (Nat.le_refl _)]
      grind
    · have ha : ∀ i, i ≤ t → (q.1 ++ [k]).getD i 0 = q.1.getD i 0 := fun i hi => getD_left (by omega)
      obtain ⟨p, hp, x, hx, hc⟩ := reached g hs d (t + 1) (by omega) (q.1 ++ [k], q.2 * ch M t (q.1.getD t 0) k) (mem_path.mpr ⟨q, hq, k, h1, h2, rfl⟩)
      refine ⟨p, hp, x, hx, hc.trans ?_⟩
      rw [fut_via ht]
      unfold fut
      rw [great_at ht, h3]
      show (paidT M r (q.1 ++ [k]) t - lost r v (q.1 ++ [k]) t) + dpow r t * via M r v (great M r o v (M.Y - (t + 1))) t ((q.1 ++ [k]).getD t 0) ((q.1 ++ [k]).getD (t + 1) 0) = _
      rw [paidT_eq t (by omega) ha, lost_eq t ha, ha t (Nat.le_refl _), getD_last (by omega)]
theorem great_iff (g : Good M) (hd : 0 ≤ dc r) {s : Nat} (hs : s < M.n) {x : Rat} : ¬ (x < great M r o v M.Y s) ↔ ∀ p ∈ pathsL M s M.Y, ∀ t ∈ stops M.Y, ¬ (x < comes M r o v p.1 t) := by
  constructor
  · intro h p hp t ht z
    have := comes_le (r := r) (o := o) (v := v) hd (way_of M.Y p hp) ht
    grind
  · intro h z
    obtain ⟨p, hp, t, ht, hc⟩ := reached (r := r) (o := o) (v := v) g hs M.Y 0 (Nat.zero_add _) ([s], 1) (by simp [pathsL])
    refine h p hp t ht ?_
    rw [hc]
    unfold fut
    show x < (0 - 0) + 1 * great M r o v M.Y s
    grind
end
theorem says_same {M : Md} {r : Rat} {o : Nat → Nat → Int} (g : Good M) (hd : 0 ≤ dc r) (d : D4) : shows M r o d = lawSays M r o d := by
  unfold shows lawSays
  congr 1
  generalize vOf d = v
  rw [Bool.eq_iff_iff]
  simp only [Lay.anyN, Lay.allN, Bool.not_eq_true', List.any_eq_false, List.all_eq_true, List.mem_range, decide_eq_true_eq, bad, decide_eq_false_iff_not]
  constructor
  · intro h j hj
    exact fun p hp t ht => (great_iff g hd hj).mp (h j hj) p hp t ht
  · intro h j hj
    exact (great_iff g hd hj).mpr fun p hp t ht => h j hj p hp t ht
end K74
set_option Elab.async false
set_option linter.all false
set_option maxRecDepth 100000
set_option maxHeartbeats 1000000

namespace K74
open PySem PySem.Spec PyProof.Rows L2 Gx Lay Rb
variable {S : Sta} {cdv : Value} {f c T : Addr}
abbrev s_law_are_corrections : Stmt := topS 54
abbrev n_law_are : List Str := ["_law_model", "_law_offers", "_law_rate_here", "_law_best", "_law_value", "_law_many", "_law_years", "_law_year", "_law_j", "_law_line", "_law_mean", "_law_k", "_law_one", "_law_weights", "_law_start", "_law_path", "_law_chance", "_law_taken_here", "_law_here", "_law_lost", "_law_stop", "_law_paid_here", "_law_less", "_law_n"]
abbrev cxAre (S : Sta) (cdv : Value) : Lay.Ctx := { S with N := n_law_are, sc := defScope s_law_are_corrections, k := 4, code := cdv, top := true }
def stopAt (Y i : Nat) : Option Nat := if i < Y + 1 then some i else none
theorem stop_is {Y i : Nat} : Lay.Sub (if i < Y + 1 then Is (.int (i : Int)) else Is .non) (Is (stV (stopAt Y i))) := by
  unfold stopAt
  split
  · exact Sub.refl _
  · exact Sub.refl _
theorem stop_le {Y i s : Nat} (h : stopAt Y i = some s) : s ≤ Y := by
  unfold stopAt at h
  split at h
  · cases h; omega
  · cases h
theorem stops_all {Y : Nat} {q : Option Nat → Bool} (h : ∀ i, i < Y + 2 → q (stopAt Y i) = true) : (stops Y).all q = true := List.all_eq_true.mpr fun s hs => by
  rcases mem_stops.mp hs with rfl | ⟨t, ht, rfl⟩
  · have := h (Y + 1) (by omega)
    unfold stopAt at this
    rw [if_neg (by omega)] at this
    exact this
  · have := h t (by omega)
    unfold stopAt at this
    rw [if_pos (by omega)] at this
    exact this
theorem stops_bad {Y i : Nat} {q : Option Nat → Bool} (hi : i < Y + 2) (h : q (stopAt Y i) = false) : (stops Y).all q = false := by
  cases e : (stops Y).all q with
  | false => rfl
  | true =>
    have hm : stopAt Y i ∈ stops Y := mem_stops.mpr (by
      unfold stopAt
      split
      · exact .inr ⟨i, by omega, rfl⟩
      · exact .inl rfl)
    rw [List.all_eq_true.mp e _ hm] at h
    cases h
theorem all_getD {α : Type} [Inhabited α] {l : List α} {q : α → Bool} (h : ∀ i, i < l.length → q (l.getD i default) = true) : l.all q = true := List.all_eq_true.mpr fun x hx => by
  obtain ⟨i, hi, e⟩ := List.getElem_of_mem hx
  have := h i hi
  rw [List.getD_eq_getElem?_getD, List.getElem?_eq_getElem hi, e] at this
  exact this
theorem all_bad {α : Type} [Inhabited α] {l : List α} {q : α → Bool} {i : Nat} (hi : i < l.length) (h : q (l.getD i default) = false) : l.all q = false := by
  cases e : l.all q with
  | false => rfl
  | true =>
    rw [List.getD_eq_getElem?_getD, List.getElem?_eq_getElem hi] at h
    have := List.all_eq_true.mp e _ (List.getElem_mem hi)
    rw [show q l[i] = false from h] at this
    cases this
theorem neg_ratP {K : PySem.W.Frag} {q : Rat} : Lay.Sub (TupF K 2 (two (Is (.int (0 - q.num))) (Is (.int (q.den : Int))))) (RatP K (-q)) := pair_ratP (by rw [Rat.neg_num]; omega) (by rw [Rat.neg_den])
theorem bd_neg {n : Nat} {q : Rat} (h : Bd n q) : Bd n (-q) := ⟨by rw [Rat.neg_num, sz_neg]; exact h.1, by rw [Rat.neg_den]; exact h.2⟩
theorem bd_lost {r : Rat} (hr : Rate r) {v : Nat → Nat → Nat → Rat} (hv : ∀ y j k, Bd 400 (v y j k)) (p : List Nat) : ∀ t, t ≤ 2 → Bd (1 + 450 * t) (lost r v p t)
  | 0, _ => bd_zero
  | t + 1, ht => (bd_add (bd_lost hr hv p t (by omega)) (bd_mul (bd_dpow hr (t + 1)) (hv t (p.getD t 0) (p.getD (t + 1) 0)))).mono (by omega)
theorem bd_paid {M : Md} (g : Good M) {r : Rat} (hr : Rate r) {o : Nat → Nat → Int} (ho : Off o) (p : List Nat) (s : Option Nat) (hs : ∀ t, s = some t → t ≤ M.Y) : Bd 1000 (paid M r o p s) := by
  have hY := g.Y
  match s, hs with
  | none, _ => exact (bd_paidT g hr p (M.Y + 1) (by omega)).mono (by omega)
  | some t, hs =>
    have := hs t rfl
    exact (bd_add (bd_paidT g hr p t (by omega)) (bd_mul (bd_dpow hr t) (bd_of_int (ho t (p.getD t 0))))).mono (by omega)
theorem law_second {bs : Bs} (B : Bl S) (c_law_ratio : Cal S 1 "_law_ratio" (spRatio S)) (c_law_plus : Cal S 2 "_law_plus" (sp2 S fun x y => x + y)) (c_law_by : Cal S 2 "_law_by" (sp2 S fun x y => x * y)) (c_law_below : Cal S 1 "_law_below" (spLess S)) (c_law_paid : Cal S 3 "_law_paid" (spPaid S)) (c_law_paths : Cal S 3 "_law_paths" (spPaths S))
    {M : Md} {r : Rat} {o : Nat → Nat → Int} (g : Good M) (hr : Rate r) (ho : Off o) {v : Nat → Nat → Nat → Rat} (hv : ∀ y j k, Bd 400 (v y j k)) {res : Bool} (el' : res = allN M.n (fun j => (pathsL M j M.Y).all fun p => (stops M.Y).all fun s => !bad M r o v j p.1 s)) {N : Nx} :
    GS (cxAre S cdv) bs ((defBody s_law_are_corrections).drop 3) [some (MdP S.K M), some (OfP S.K M o), some (RatP S.K r), some (TR S.K M.n (best M r o M.Y)), some (VP S.K M v), some (Is (.int (M.n : Int))), some (Is (.int (M.Y : Int))), none, none, none, none, none, none, none, none, none, none, none, none, none, none, none, none, none] bs.μ N (Is (.bl res)) := by
  have hn := g.n
  have hY := g.Y
  obtain ⟨dn, dd⟩ := dc_pair hr
  refine gs_loop (fun j => [some (MdP S.K M), some (OfP S.K M o), some (RatP S.K r), some (TR S.K M.n (best M r o M.Y)), some (VP S.K M v), some (Is (.int (M.n : Int))), some (Is (.int (M.Y : Int))), none, none, none, none, none, none, none, none, none, none, none, none, none, none, none, none, none]) (fun _ => bs.μ) (fun j => ∀ j', j' < j → ((pathsL M j' M.Y).all fun p => (stops M.Y).all fun s => !bad M r o v j' p.1 s) = true) (i_rangeN (n := M.n) (e_var (i := 5)) (by omega) rfl B.range) (fun i hi => g_name (i := 14)) ⟨Sub.refl _, Sub.refl _, Sub.refl _, Sub.refl _, Sub.refl _, Sub.refl _, Sub.refl _, True.intro⟩ rfl (fun y hy => absurd hy (Nat.not_lt_zero y)) (fun j hj hJ => ?_) (fun hJ => ?_) (fun i Γ _ l => l.set _ _)
  · have gone := paths_gone g hj M.Y (Nat.le_refl _)
    have resF : ∀ i, i < (pathsL M j M.Y).length → ((stops M.Y).all fun s => !bad M r o v j ((pathsL M j M.Y).getD i default).1 s) = false → res = false := fun i hi z => by
      rw [el']
      exact allN_false hj (all_bad hi z)
    refine gs_loop (fun _ => [some (MdP S.K M), some (OfP S.K M o), some (RatP S.K r), some (TR S.K M.n (best M r o M.Y)), some (VP S.K M v), some (Is (.int (M.n : Int))), some (Is (.int (M.Y : Int))), none, none, none, none, none, none, none, some (Is (.int (j : Int))), none, none, none, none, none, none, none, none, none]) (fun _ => bs.μ) (fun i => ∀ i', i' < i → ((stops M.Y).all fun s => !bad M r o v j ((pathsL M j M.Y).getD i' default).1 s) = true) (i_list (n := (pathsL M j M.Y).length) (f := fun i => PC S.K ((pathsL M j M.Y).getD i default)) (e_call c_law_paths (M, j) (a_cons (e_var (i := 0)) (a_cons (e_var (i := 14)) a_nil)) ⟨g, hj⟩ rfl)) (fun i hi => g_pair (i := 15) (j := 16)) ⟨Sub.refl _, Sub.refl _, Sub.refl _, Sub.refl _, Sub.refl _, Sub.refl _, Sub.refl _, Sub.refl _, True.intro⟩ rfl (fun y hy => absurd hy (Nat.not_lt_zero y)) (fun i hi hI => ?_) (fun hI => ?_) (fun i Γ _ l => (l.set _ _).set _ _)
    · have hp : (pathsL M j M.Y).getD i default = (pathsL M j M.Y)[i] := by rw [List.getD_eq_getElem?_getD, List.getElem?_eq_getElem hi]; rfl
      have gn : Gone M j M.Y ((pathsL M j M.Y).getD i default) := by rw [hp]; exact gone _ (List.getElem_mem hi)
      have hbad := resF i hi
      have fin : ((stops M.Y).all fun s => !bad M r o v j ((pathsL M j M.Y).getD i default).1 s) = true → ∀ i', i' < i + 1 → ((stops M.Y).all fun s => !bad M r o v j ((pathsL M j M.Y).getD i' default).1 s) = true := fun z i' hi' => by
        rcases Nat.lt_succ_iff_lt_or_eq.mp hi' with w | w
        · exact hI i' w
        · rw [w]; exact z
      generalize (pathsL M j M.Y).getD i default = p at gn hbad fin ⊢
      have hl := gn.len
      have po : PathOk M p.1 := ⟨hl, gn.at'⟩
      refine gs_par3F (i := 17) (j := 18) (l := 19) (Ql := Els 1 fun t => RatP S.K (lost r v p.1 t)) (B := RatP S.K (dpow r 0)) (D := RatP S.K (lost r v p.1 0)) (EN.sub (n_list (a_cons ((e_tup2 e_int e_int).sub (pair_ratP (q := 0) rfl rfl)) a_nil)) (fun w h q => Els.sub (fun i hi => ?a1) q)) (fun _ => (e_tup2 e_int e_int).sub (pair_ratP (q := 1) rfl rfl)) (fun _ => (e_tup2 e_int e_int).sub (pair_ratP (q := 0) rfl rfl)) (fun pt hpt => ?_) (by intro env h; cases env; cases h; rfl)
      case a1 =>
        match i, hi with
        | 0, _ => exact Sub.refl _
      refine gs_loop (fun t => [some (MdP S.K M), some (OfP S.K M o), some (RatP S.K r), some (TR S.K M.n (best M r o M.Y)), some (VP S.K M v), some (Is (.int (M.n : Int))), some (Is (.int (M.Y : Int))), none, none, none, none, none, none, none, some (Is (.int (j : Int))), some (PathP S.K p.1), some (RatP S.K p.2), some (Is (.ref pt)), some (RatP S.K (dpow r t)), some (RatP S.K (lost r v p.1 t)), none, none, none, none]) (fun t => (pt, Els (t + 1) fun i => RatP S.K (lost r v p.1 i)) :: bs.μ) (fun _ => True) (i_rangeN (n := M.Y) (e_var (i := 6)) (by omega) rfl B.range) (fun i hi => g_name (i := 7)) ⟨Sub.refl _, Sub.refl _, Sub.refl _, Sub.refl _, Sub.refl _, Sub.refl _, Sub.refl _, Sub.refl _, Sub.refl _, Sub.refl _, Sub.refl _, Sub.refl _, Sub.refl _, True.intro⟩ rfl True.intro (fun t ht _ => ?_) (fun _ => ?_) (fun i Γ _ l => l.set _ _)
      · have p1 : p.1.getD t 0 < M.n := gn.at' t (by omega)
        have p2 : p.1.getD (t + 1) 0 < M.n := gn.at' (t + 1) (by omega)
        have bd1 : Bd 41 (dpow r t) := (bd_dpow hr t).mono (by omega)
        have bd2 : Bd 61 (dpow r (t + 1)) := (bd_dpow hr (t + 1)).mono (by omega)
        have bl : Bd 1000 (lost r v p.1 t) := (bd_lost hr hv p.1 t (by omega)).mono (by omega)
        refine gs_set (i := 18) (P := RatP S.K (dpow r (t + 1))) (e_call c_law_by (dpow r t, dc r) (a_cons (e_var (i := 18)) (a_cons (EE.sub (e_tup2 (e_ixT (e_var (i := 2)) e_int (by decide)) (e_add (e_ixT (e_var (i := 2)) e_int (by decide)) (e_ixT (e_var (i := 2)) e_int (by decide)))) (pair_ratP dn dd)) a_nil)) ?b1 rfl) ?_
        case b1 => exact ⟨bd1.mono (by decide), (bd_dc hr).mono (by decide)⟩
        refine gs_set (i := 19) (P := RatP S.K (lost r v p.1 (t + 1))) (e_call c_law_plus (lost r v p.1 t, dpow r (t + 1) * v t (p.1.getD t 0) (p.1.getD (t + 1) 0)) (a_cons (e_var (i := 19)) (a_cons (e_call c_law_by (dpow r (t + 1), v t (p.1.getD t 0) (p.1.getD (t + 1) 0)) (a_cons (e_var (i := 18)) (a_cons (e_ixT (n := M.n) (f := fun k => RatP S.K (v t (p.1.getD t 0) k)) (e_ixT (n := M.n) (f := fun j => TR S.K M.n (v t j)) (e_ixT (n := M.Y) (f := fun y => TupF S.K M.n fun j => TR S.K M.n (v y j)) (e_var (i := 4)) (e_var (i := 7)) (by omega)) (e_ixT (n := p.1.length) (f := fun i => Is (.int ((p.1.getD i 0 : Nat) : Int))) (P := Is (.int ((p.1.getD (t) 0 : Nat) : Int))) (e_var (i := 15)) (e_var (i := 7)) (by omega)) (by omega)) (e_ixT (n := p.1.length) (f := fun i => Is (.int ((p.1.getD i 0 : Nat) : Int))) (P := Is (.int ((p.1.getD (t + 1) 0 : Nat) : Int))) (e_var (i := 15)) (e_add (i := (t : Int)) (j := 1) (e_var (i := 7)) e_int) (by omega)) (by omega)) a_nil)) ?c1 rfl) a_nil)) ?c2 rfl) ?_
        case c1 => exact ⟨bd2.mono (by decide), (hv _ _ _).mono (by decide)⟩
        case c2 => exact ⟨bl.mono (by decide), (bd_mul bd2 (hv _ _ _)).mono (by decide)⟩
        refine gs_append [] _ rfl (e_var (i := 17)) (e_var (i := 19)) (Sub.refl _) (by omega) hpt ?_
        exact gs_nil ⟨⟨Sub.refl _, Sub.refl _, Sub.refl _, Sub.refl _, Sub.refl _, Sub.refl _, Sub.refl _, Sub.refl _, Sub.refl _, Sub.refl _, Sub.refl _, Sub.refl _, Sub.refl _, True.intro⟩, rfl, True.intro⟩
      · refine gs_loop (fun _ => [some (MdP S.K M), some (OfP S.K M o), some (RatP S.K r), some (TR S.K M.n (best M r o M.Y)), some (VP S.K M v), some (Is (.int (M.n : Int))), some (Is (.int (M.Y : Int))), none, none, none, none, none, none, none, some (Is (.int (j : Int))), some (PathP S.K p.1), some (RatP S.K p.2), some (Is (.ref pt)), none, none, none, none, none, none]) (fun _ => (pt, Els (M.Y + 1) fun i => RatP S.K (lost r v p.1 i)) :: bs.μ) (fun i => ∀ i', i' < i → bad M r o v j p.1 (stopAt M.Y i') = false) (EI.sub (i_list (n := M.Y + 2) (f := fun i => if i < M.Y + 1 then Is (.int (i : Int)) else Is .non) (n_stops (k := 0) (n := M.Y + 1) (EE.is (e_add (i := (M.Y : Int)) (j := 1) (e_var (i := 6)) e_int) rfl) (by omega) rfl B.list rfl B.range).ee) fun i hi => stop_is) (fun i hi => g_name (i := 20)) ⟨Sub.refl _, Sub.refl _, Sub.refl _, Sub.refl _, Sub.refl _, Sub.refl _, Sub.refl _, Sub.refl _, Sub.refl _, Sub.refl _, Sub.refl _, True.intro⟩ rfl (fun y hy => absurd hy (Nat.not_lt_zero y)) (fun i2 hi2 hS => ?_) (fun hS => ?_) (fun i Γ _ l => l.set _ _)
        · have hsle : ∀ s, stopAt M.Y i2 = some s → s ≤ M.Y := fun s h => stop_le h
          have fin2 : bad M r o v j p.1 (stopAt M.Y i2) = false → ∀ i', i' < i2 + 1 → bad M r o v j p.1 (stopAt M.Y i') = false := fun z i' hi' => by
            rcases Nat.lt_succ_iff_lt_or_eq.mp hi' with w | w
            · exact hS i' w
            · rw [w]; exact z
          have hbad2 : bad M r o v j p.1 (stopAt M.Y i2) = true → res = false := fun z => hbad (stops_bad hi2 (by show (!bad M r o v j p.1 (stopAt M.Y i2)) = false; rw [z]; rfl))
          generalize stopAt M.Y i2 = s at hsle fin2 hbad2 ⊢
          have hsY : s.getD M.Y ≤ M.Y := by
            match s, hsle with
            | none, _ => exact Nat.le_refl _
            | some t, h => exact h t rfl
          refine gs_set (i := 21) (P := RatP S.K (paid M r o p.1 s)) (e_call c_law_paid ((M, r, o), p.1, s) (a_cons (e_var (i := 0)) (a_cons (e_var (i := 1)) (a_cons (e_var (i := 15)) (a_cons (e_var (i := 20)) (a_cons (e_var (i := 2)) a_nil))))) ⟨⟨g, hr, ho⟩, po, hsle⟩ rfl) ?_
          refine gs_set (i := 22) (P := RatP S.K (lost r v p.1 (s.getD M.Y))) (e_ixM (n := M.Y + 1) (f := fun i => RatP S.K (lost r v p.1 i)) (i := ((s.getD M.Y : Nat) : Int)) List.mem_cons_self (e_var (i := 17)) (e_if (k := decide (stV s = .non)) (t_cmp (c_isN (x := stV s) (e_var (i := 20)) e_non)) (fun h => EE.is (i := .int (M.Y : Int)) (e_var (i := 6)) ?d1) (fun h => EE.is (i := stV s) (e_var (i := 20)) ?d2)) (by omega)) ?_
          case d1 =>
            match s, h with
            | none, _ => rfl
            | some t, h => exact absurd (of_decide_eq_true h) (fun z => by cases z)
          case d2 =>
            match s, h with
            | none, h => exact absurd rfl (of_decide_eq_false h)
            | some t, _ => rfl
          have bpd := bd_paid g hr ho p.1 s hsle
          have bls : Bd 1000 (lost r v p.1 (s.getD M.Y)) := (bd_lost hr hv p.1 (s.getD M.Y) (by omega)).mono (by omega)
          refine gs_out (k := bad M r o v j p.1 s) (t_val (e_call c_law_below (best M r o M.Y j, paid M r o p.1 s + -(lost r v p.1 (s.getD M.Y))) (a_cons (e_ixT (n := M.n) (f := fun j => RatP S.K (best M r o M.Y j)) (e_var (i := 3)) (e_var (i := 14)) (by omega)) (a_cons (e_call c_law_plus (paid M r o p.1 s, -(lost r v p.1 (s.getD M.Y))) (a_cons (e_var (i := 21)) (a_cons (EE.sub (e_tup2 (e_sub e_int (e_ixT (e_var (i := 22)) e_int (by decide))) (e_ixT (e_var (i := 22)) e_int (by decide))) neg_ratP) a_nil)) ?f1 rfl) a_nil)) ?f2 rfl)) (fun h => gs_ret (EE.is e_bl ?f3)) (fun h => gs_nil ⟨⟨Sub.refl _, Sub.refl _, Sub.refl _, Sub.refl _, Sub.refl _, Sub.refl _, Sub.refl _, Sub.refl _, Sub.refl _, Sub.refl _, Sub.refl _, True.intro⟩, rfl, fin2 h⟩)
          case f1 => exact ⟨bpd.mono (by decide), (bd_neg bls).mono (by decide)⟩
          case f2 => exact ⟨(bd_best' g hr ho (Nat.le_refl _) hj).mono (by decide), (bd_add bpd (bd_neg bls)).mono (by decide)⟩
          case f3 => rw [hbad2 h]
        · refine gs_drop [] _ rfl hpt ?_
          exact gs_nil ⟨⟨Sub.refl _, Sub.refl _, Sub.refl _, Sub.refl _, Sub.refl _, Sub.refl _, Sub.refl _, Sub.refl _, True.intro⟩, rfl, fin (stops_all fun i hi => by rw [hS i hi]; rfl)⟩
    · refine gs_nil ⟨⟨Sub.refl _, Sub.refl _, Sub.refl _, Sub.refl _, Sub.refl _, Sub.refl _, Sub.refl _, True.intro⟩, rfl, fun j2 hj2 => ?_⟩
      rcases Nat.lt_succ_iff_lt_or_eq.mp hj2 with w | w
      · exact hJ j2 w
      · rw [w]; exact all_getD hI
  · refine gs_ret (EE.is e_bl ?_)
    rw [el', allN_of hJ]
end K74
set_option Elab.async false
set_option linter.all false
set_option maxRecDepth 100000
set_option maxHeartbeats 4000000

namespace K74
open PySem PySem.Spec PyProof.Rows L2 Gx Lay Rb
variable {S : Sta} {cdv : Value} {f c T : Addr}
/-- the ints of every pair are small -/
def Raw (d : D4) : Prop := ∀ y j k (q : List At), el (el (el d y) j) k = some q → ∀ z, At.i z ∈ q → sz z ≤ 400
abbrev spLawAre (S : Sta) : Sp := spOf S (ι := ιO × D4) (fun y => [MdP S.K y.1.1, OfP S.K y.1.1 y.1.2.2, RatP S.K y.1.2.1, TR S.K y.1.1.n (best y.1.1 y.1.2.1 y.1.2.2 y.1.1.Y), DP4 S.K y.2]) (fun y μ => cdO y.1 μ ∧ Small y.2 ∧ Raw y.2) (fun y => Is (.bl (lawSays y.1.1 y.1.2.1 y.1.2.2 y.2)))
theorem zero_pair (q : Rat) : (decide (q.num = 0) && decide ((q.den : Int) = 1)) = decide (q = 0) := by
  by_cases h : q = 0
  · rw [h]; rfl
  · have : ¬ q.num = 0 := fun z => h (Rat.num_eq_zero.mp z)
    rw [decide_eq_false this, decide_eq_false h]
    rfl
theorem atP_bool {x : At} (h : isI x = false) : Lay.Sub (AtP x) (Ex fun b : Bool => Is (.bl b)) := by
  match x, h with
  | .b k, _ => exact fun v h z => ⟨k, z⟩
theorem law_bad {M : Md} {r : Rat} {o : Nat → Nat → Int} {d : D4} (h : areC M d = false) : lawSays M r o d = false := by
  unfold lawSays
  rw [h, Bool.false_and]
theorem sc_law_are_corrections : FnScope ["_law_model", "_law_offers", "_law_rate_here", "_law_best", "_law_value", "_law_many", "_law_years", "_law_year", "_law_j", "_law_line", "_law_mean", "_law_k", "_law_one", "_law_weights", "_law_start", "_law_path", "_law_chance", "_law_taken_here", "_law_here", "_law_lost", "_law_stop", "_law_paid_here", "_law_less", "_law_n"] ["_law_model", "_law_offers", "_law_rate_here", "_law_best", "_law_value"] (defScope s_law_are_corrections) := ⟨rfl, rfl, rfl, by decide +kernel, rfl, by decide +kernel, by decide +kernel⟩
theorem m_law_are_corrections (F : FunA S "_law_are_corrections" s_law_are_corrections cdv f) (B : Bl S) (c_law_ratio : Cal S 1 "_law_ratio" (spRatio S)) (c_law_plus : Cal S 2 "_law_plus" (sp2 S fun x y => x + y)) (c_law_by : Cal S 2 "_law_by" (sp2 S fun x y => x * y)) (c_law_below : Cal S 1 "_law_below" (spLess S)) (c_law_paid : Cal S 3 "_law_paid" (spPaid S)) (c_law_paths : Cal S 3 "_law_paths" (spPaths S)) : Cal S 5 "_law_are_corrections" (spLawAre S) := by
  refine cal_of F sc_law_are_corrections (by decide) (fun kV doc pm an ct us hl => by match us, hl with | [_, _, _, _, _], _ => rfl) (fun _ => rfl) ?_
  rintro b ⟨⟨M, r, o⟩, d⟩ ⟨⟨g, hr, ho⟩, hs, hw⟩
  dsimp only at g hr ho hs hw ⊢
  have hn := g.n
  have hY := g.Y
  refine gs_par2 (i := 5) (j := 6) (e_lenT (e_ixT (e_ixT (e_var (i := 0)) e_int (by omega)) e_int (by omega)) rfl B.len) (e_lenT (e_ixT (e_var (i := 0)) e_int (by omega)) rfl B.len) ?_ (by intro env h; cases env; cases h; rfl)
  match d, hs, hw with
  | none, _, _ => exact gs_out (k := true) (t_w (w_or (k := true) (l := false) (ET.is (t_not (t_val (e_isi (A := NoTup S.K) (e_var (i := 4)) ty_no (e_ty rfl B.tuple boot_tuple) rfl B.isinstance))) rfl) (fun h => by cases h))) (fun _ => gs_ret e_bl) (fun h => by cases h)
  | some L, hs, hw =>
    refine gs_out (k := !decide ((L.length : Int) = (M.Y : Int))) (t_w (w_or (k := false) (t_notT (t_val (e_isi (A := DP4 S.K (some L)) (e_var (i := 4)) ty_tup (e_ty rfl B.tuple boot_tuple) rfl B.isinstance))) (fun _ => w_or1 (t_cmp (c_ne (e_lenT (n := L.length) (f := fun i => DP3 S.K (L.getD i default)) (e_var (i := 4)) rfl B.len) (e_var (i := 6))))))) (fun h => ?_) (fun h => ?_)
    · have hl : L.length ≠ M.Y := fun z => by rw [z] at h; simp at h
      refine gs_ret (EE.is e_bl ?_)
      rw [law_bad]
      rw [areC_some, decide_eq_false hl]
      rfl
    · have hl : L.length = M.Y := by simp at h; omega
      refine gs_loop (fun i => [some (MdP S.K M), some (OfP S.K M o), some (RatP S.K r), some (TR S.K M.n (best M r o M.Y)), some (DP4 S.K (some L)), some (Is (.int (M.n : Int))), some (Is (.int (M.Y : Int))), none, none, none, none, none, none, none, none, none, none, none, none, none, none, none, none, none]) (fun i => b.μ) (fun i => ∀ y, y < i → yearOK M y (el (some L) y) = true) (i_rangeN (n := M.Y) (e_var (i := 6)) (by omega) rfl B.range) (fun i hi => g_name (i := 7)) ⟨Sub.refl _, Sub.refl _, Sub.refl _, Sub.refl _, Sub.refl _, Sub.refl _, Sub.refl _, True.intro⟩ rfl (fun y hy => absurd hy (Nat.not_lt_zero y)) (fun y hy hI => ?_) (fun hI => ?_) (fun i Γ _ l => l.set _ _)
      · match he : L.getD y default with
        | none =>
          refine gs_out (k := true) (t_w (w_or (k := true) (l := false) (ET.is (t_not (t_val (e_isi (A := NoTup S.K) (e_ixT (i := (y : Int)) (n := L.length) (f := fun i => DP3 S.K (L.getD i default)) (P := NoTup S.K) (e_var (i := 4)) (e_var (i := 7)) (by omega) (hP := congrArg (DP3 S.K) he)) ty_no (e_ty rfl B.tuple boot_tuple) rfl B.isinstance))) rfl) (fun h => by cases h))) (fun _ => gs_ret (EE.is e_bl ?a2)) (fun h => by cases h)
          case a2 => rw [law_bad (year_bad hy (d := some L) (show yearOK M y (L.getD y default) = false by rw [he]; rfl))]
        | some R =>
          have hee : el (some L) y = some R := he
          refine gs_out (k := !decide ((R.length : Int) = (M.n : Int))) (t_w (w_or (k := false) (t_notT (t_val (e_isi (A := DP3 S.K (some R)) (e_ixT (i := (y : Int)) (n := L.length) (f := fun i => DP3 S.K (L.getD i default)) (P := DP3 S.K (some R)) (e_var (i := 4)) (e_var (i := 7)) (by omega) (hP := congrArg (DP3 S.K) he)) ty_tup (e_ty rfl B.tuple boot_tuple) rfl B.isinstance))) (fun _ => w_or1 (t_cmp (c_ne (e_lenT (n := R.length) (f := fun i => DP2 S.K (R.getD i default)) (e_ixT (i := (y : Int)) (n := L.length) (f := fun i => DP3 S.K (L.getD i default)) (P := DP3 S.K (some R)) (e_var (i := 4)) (e_var (i := 7)) (by omega) (hP := congrArg (DP3 S.K) he)) rfl B.len) (e_var (i := 5))))))) (fun h => ?_) (fun h => ?_)
          · have hl : R.length ≠ M.n := fun z => by rw [z] at h; simp at h
            refine gs_ret (EE.is e_bl ?_)
            rw [law_bad (year_bad hy (d := some L) ?_)]
            rw [hee, yearOK_some, decide_eq_false hl]
            rfl
          · have hlR : R.length = M.n := by simp at h; omega

            refine gs_loop (fun i => [some (MdP S.K M), some (OfP S.K M o), some (RatP S.K r), some (TR S.K M.n (best M r o M.Y)), some (DP4 S.K (some L)), some (Is (.int (M.n : Int))), some (Is (.int (M.Y : Int))), some (Is (.int (y : Int))), none, none, none, none, none, none, none, none, none, none, none, none, none, none, none, none]) (fun i => b.μ) (fun i => ∀ j, j < i → rowOK M y j (el (some R) j) = true) (i_rangeN (n := M.n) (e_var (i := 5)) (by omega) rfl B.range) (fun i hi => g_name (i := 8)) ⟨Sub.refl _, Sub.refl _, Sub.refl _, Sub.refl _, Sub.refl _, Sub.refl _, Sub.refl _, Sub.refl _, True.intro⟩ rfl (fun y hy => absurd hy (Nat.not_lt_zero y)) (fun j hj hJ => ?_) (fun hJ => ?_) (fun i Γ _ l => l.set _ _)
            · have bad : rowOK M y j (el (some R) j) = false → lawSays M r o (some L) = false := fun z => law_bad (year_bad hy (by rw [hee]; exact row_bad hj z))
              match hrj : R.getD j default with
              | none =>
                refine gs_par2 (i := 9) (j := 10) (e_ixT (i := (j : Int)) (n := R.length) (f := fun i => DP2 S.K (R.getD i default)) (P := NoTup S.K) (e_ixT (i := (y : Int)) (n := L.length) (f := fun i => DP3 S.K (L.getD i default)) (P := DP3 S.K (some R)) (e_var (i := 4)) (e_var (i := 7)) (by omega) (hP := congrArg (DP3 S.K) he)) (e_var (i := 8)) (by omega) (hP := congrArg (DP2 S.K) hrj)) ((e_tup2 e_int e_int).sub (pair_ratP (q := 0) rfl rfl)) ?_ (by intro env h; cases env; cases h; rfl)
                refine gs_out (k := true) (t_w (w_or (k := true) (l := false) (ET.is (t_not (t_val (e_isi (A := NoTup S.K) (e_var (i := 9)) ty_no (e_ty rfl B.tuple boot_tuple) rfl B.isinstance))) rfl) (fun h => by cases h))) (fun _ => gs_ret (EE.is e_bl ?a2)) (fun h => by cases h)
                case a2 => rw [bad (show rowOK M y j (R.getD j default) = false by rw [hrj]; rfl)]
              | some l =>
                have hre : el (some R) j = some l := hrj
                refine gs_par2 (i := 9) (j := 10) (e_ixT (i := (j : Int)) (n := R.length) (f := fun i => DP2 S.K (R.getD i default)) (P := DP2 S.K (some l)) (e_ixT (i := (y : Int)) (n := L.length) (f := fun i => DP3 S.K (L.getD i default)) (P := DP3 S.K (some R)) (e_var (i := 4)) (e_var (i := 7)) (by omega) (hP := congrArg (DP3 S.K) he)) (e_var (i := 8)) (by omega) (hP := congrArg (DP2 S.K) hrj)) ((e_tup2 e_int e_int).sub (pair_ratP (q := 0) rfl rfl)) ?_ (by intro env h; cases env; cases h; rfl)
                refine gs_out (k := !decide ((l.length : Int) = (M.n : Int))) (t_w (w_or (k := false) (t_notT (t_val (e_isi (A := DP2 S.K (some l)) (e_var (i := 9)) ty_tup (e_ty rfl B.tuple boot_tuple) rfl B.isinstance))) (fun _ => w_or1 (t_cmp (c_ne (e_lenT (n := l.length) (f := fun i => DP1 S.K (l.getD i default)) (e_var (i := 9)) rfl B.len) (e_var (i := 5))))))) (fun h => ?_) (fun h => ?_)
                · have hl : l.length ≠ M.n := fun z => by rw [z] at h; simp at h
                  refine gs_ret (EE.is e_bl ?_)
                  rw [bad ?_]
                  rw [hre, rowOK_some, decide_eq_false hl]
                  rfl
                · have hll : l.length = M.n := by simp at h; omega
                  have bv : ∀ k, Bd 400 (valR (el (some l) k)) := fun k => by
                    have := bd_val hs y j k
                    rw [hee, hre] at this
                    exact this
                  have bm : ∀ k, k ≤ M.n → Bd (1 + 411 * k) (sumQ k fun k => ch M y j k * valR (el (some l) k)) := fun k => by
                    induction k with
                    | zero => exact fun _ => bd_zero
                    | succ k ih => exact fun hk => (bd_add (ih (by omega)) (bd_mul (bd_ch g hy hj) (bv k))).mono (by omega)
                  refine gs_loop (fun k => [some (MdP S.K M), some (OfP S.K M o), some (RatP S.K r), some (TR S.K M.n (best M r o M.Y)), some (DP4 S.K (some L)), some (Is (.int (M.n : Int))), some (Is (.int (M.Y : Int))), some (Is (.int (y : Int))), some (Is (.int (j : Int))), some (DP2 S.K (some l)), some (RatP S.K (sumQ k fun k => ch M y j k * valR (el (some l) k))), none, none, none, none, none, none, none, none, none, none, none, none, none]) (fun i => b.μ) (fun k => ∀ k', k' < k → (isR (el (some l) k')).isSome = true) (i_rangeN (n := M.n) (e_var (i := 5)) (by omega) rfl B.range) (fun i hi => g_name (i := 11)) ⟨Sub.refl _, Sub.refl _, Sub.refl _, Sub.refl _, Sub.refl _, Sub.refl _, Sub.refl _, Sub.refl _, Sub.refl _, Sub.refl _, Sub.refl _, True.intro⟩ rfl (fun y hy => absurd hy (Nat.not_lt_zero y)) (fun k hk hK => ?_) (fun hK => ?_) (fun i Γ _ l => l.set _ _)
                  · have bad2 : (isR (el (some l) k)).isSome = false → lawSays M r o (some L) = false := fun z => bad (by
                      rw [hre, rowOK_some, allN_false hk z, Bool.false_and, Bool.and_false])
                    match hd : l.getD k default with
                    | none =>
                      refine gs_set (i := 12) (P := NoTup S.K) (e_ixT (i := (k : Int)) (n := l.length) (f := fun i => DP1 S.K (l.getD i default)) (P := NoTup S.K) (e_var (i := 9)) (e_var (i := 11)) (by omega) (hP := congrArg (DP1 S.K) hd)) ?_
                      refine gs_out (k := true) (t_w (w_or (k := true) (l := false) (ET.is (t_not (t_val (e_isi (A := NoTup S.K) (e_var (i := 12)) ty_no (e_ty rfl B.tuple boot_tuple) rfl B.isinstance))) rfl) (fun h => by cases h))) (fun _ => gs_ret (EE.is e_bl ?a2)) (fun h => by cases h)
                      case a2 => rw [bad2 (show (isR (l.getD k default)).isSome = false by rw [hd]; rfl)]
                    | some q =>
                      refine gs_set (i := 12) (P := DP1 S.K (some q)) (e_ixT (i := (k : Int)) (n := l.length) (f := fun i => DP1 S.K (l.getD i default)) (P := DP1 S.K (some q)) (e_var (i := 9)) (e_var (i := 11)) (by omega) (hP := congrArg (DP1 S.K) hd)) ?_
                      refine gs_out (k := !decide ((q.length : Int) = ((2 : Nat) : Int))) (t_w (w_or (k := false) (t_notT (t_val (e_isi (A := DP1 S.K (some q)) (e_var (i := 12)) ty_tup (e_ty rfl B.tuple boot_tuple) rfl B.isinstance))) (fun _ => w_or1 (t_cmp (c_ne (e_lenT (n := q.length) (f := fun i => AtP (q.getD i default)) (e_var (i := 12)) rfl B.len) e_int))))) (fun h => ?_) (fun h => ?_)
                      · have hl : q.length ≠ 2 := fun z => by rw [z] at h; simp at h
                        refine gs_ret (EE.is e_bl ?_)
                        rw [bad2 (show (isR (l.getD k default)).isSome = false by rw [hd, isR_len hl]; rfl)]
                      · have hl : q.length = 2 := by simp at h; omega
                        obtain ⟨x, x', rfl⟩ : ∃ x x', q = [x, x'] := by
                          match q, hl with
                          | [x, x'], _ => exact ⟨x, x', rfl⟩
                        have notR : (isI x && isI x') = false → (isR (el (some l) k)).isSome = false := fun z => by
                          show (isR (l.getD k default)).isSome = false
                          rw [hd]
                          match x, x', z with
                          | .b _, _, _ => rfl
                          | .i _, .b _, _ => rfl
                          | .i _, .i _, z => cases z
                        match x, x', notR, hd with
                        | .b u, .i e, notR, hd =>
                          refine gs_out (k := true) (t_w (w_or (k := true) (l := false) (ET.is (t_cmp (c_neDx (k := !decide (Lay.cnt (fun i => !isI ([At.b u, At.i e].getD i default)) 2 = 0)) (B := LstF S.K 0 fun _ => Any) (n_lcIf (t := fun i => !isI ([At.b u, At.i e].getD i default)) (n := 2) (Pi := fun i => AtP ([At.b u, At.i e].getD i default)) (Rf := Ex fun b : Bool => Is (.bl b)) (own := [("_law_n", 23)]) (i_tup (n := 2) (f := fun i => AtP ([At.b u, At.i e].getD i default)) (e_var (i := 12))) (by omega) (fun i hi => g_name (i := 23)) (by decide) (fun i hi D m => t_w (w_or (k := false) (t_notT (t_val (e_isi (e_var (i := 23)) (ty_atInt _) (e_ty rfl B.int boot_int) rfl B.isinstance))) (fun _ => w_or1 (t_val (e_isi (e_var (i := 23)) (ty_atBool _) (e_ty rfl B.bool boot_bool) rfl B.isinstance))))) (fun i hi ht D m => EE.sub (e_var (i := 23)) (atP_bool (by simpa using ht)))).ee n_nil.ee (fun v h q w hw => dp_empty q hw))) rfl) (fun h => by cases h))) (fun _ => gs_ret (EE.is e_bl ?z)) (fun h => by cases h)
                          case z => rw [bad2 (notR rfl)]
                        | .b u, .b w, notR, hd =>
                          refine gs_out (k := true) (t_w (w_or (k := true) (l := false) (ET.is (t_cmp (c_neDx (k := !decide (Lay.cnt (fun i => !isI ([At.b u, At.b w].getD i default)) 2 = 0)) (B := LstF S.K 0 fun _ => Any) (n_lcIf (t := fun i => !isI ([At.b u, At.b w].getD i default)) (n := 2) (Pi := fun i => AtP ([At.b u, At.b w].getD i default)) (Rf := Ex fun b : Bool => Is (.bl b)) (own := [("_law_n", 23)]) (i_tup (n := 2) (f := fun i => AtP ([At.b u, At.b w].getD i default)) (e_var (i := 12))) (by omega) (fun i hi => g_name (i := 23)) (by decide) (fun i hi D m => t_w (w_or (k := false) (t_notT (t_val (e_isi (e_var (i := 23)) (ty_atInt _) (e_ty rfl B.int boot_int) rfl B.isinstance))) (fun _ => w_or1 (t_val (e_isi (e_var (i := 23)) (ty_atBool _) (e_ty rfl B.bool boot_bool) rfl B.isinstance))))) (fun i hi ht D m => EE.sub (e_var (i := 23)) (atP_bool (by simpa using ht)))).ee n_nil.ee (fun v h q w hw => dp_empty q hw))) rfl) (fun h => by cases h))) (fun _ => gs_ret (EE.is e_bl ?z)) (fun h => by cases h)
                          case z => rw [bad2 (notR rfl)]
                        | .i n, .b w, notR, hd =>
                          refine gs_out (k := true) (t_w (w_or (k := true) (l := false) (ET.is (t_cmp (c_neDx (k := !decide (Lay.cnt (fun i => !isI ([At.i n, At.b w].getD i default)) 2 = 0)) (B := LstF S.K 0 fun _ => Any) (n_lcIf (t := fun i => !isI ([At.i n, At.b w].getD i default)) (n := 2) (Pi := fun i => AtP ([At.i n, At.b w].getD i default)) (Rf := Ex fun b : Bool => Is (.bl b)) (own := [("_law_n", 23)]) (i_tup (n := 2) (f := fun i => AtP ([At.i n, At.b w].getD i default)) (e_var (i := 12))) (by omega) (fun i hi => g_name (i := 23)) (by decide) (fun i hi D m => t_w (w_or (k := false) (t_notT (t_val (e_isi (e_var (i := 23)) (ty_atInt _) (e_ty rfl B.int boot_int) rfl B.isinstance))) (fun _ => w_or1 (t_val (e_isi (e_var (i := 23)) (ty_atBool _) (e_ty rfl B.bool boot_bool) rfl B.isinstance))))) (fun i hi ht D m => EE.sub (e_var (i := 23)) (atP_bool (by simpa using ht)))).ee n_nil.ee (fun v h q w hw => dp_empty q hw))) rfl) (fun h => by cases h))) (fun _ => gs_ret (EE.is e_bl ?z)) (fun h => by cases h)
                          case z => rw [bad2 (notR rfl)]
                        | .i n, .i e, notR, hd =>
                          have hq : el (el (el (some L) y) j) k = some [At.i n, At.i e] := by rw [hee, hre]; exact hd
                          have sn := hw y j k _ hq n (by simp)
                          have se := hw y j k _ hq e (by simp)
                          have isr : isR (el (some l) k) = if 0 < e ∧ gc n e = 1 then some (Rat.divInt n e) else none := by
                            show isR (l.getD k default) = _
                            rw [hd]
                            rfl
                          refine gs_out (k := decide (e < 1)) (t_w (w_or (k := false) (ET.is (t_cmp (c_neDx (k := !decide (Lay.cnt (fun i => !isI ([At.i n, At.i e].getD i default)) 2 = 0)) (B := LstF S.K 0 fun _ => Any) (n_lcIf (t := fun i => !isI ([At.i n, At.i e].getD i default)) (n := 2) (Pi := fun i => AtP ([At.i n, At.i e].getD i default)) (Rf := Ex fun b : Bool => Is (.bl b)) (own := [("_law_n", 23)]) (i_tup (n := 2) (f := fun i => AtP ([At.i n, At.i e].getD i default)) (e_var (i := 12))) (by omega) (fun i hi => g_name (i := 23)) (by decide) (fun i hi D m => t_w (w_or (k := false) (t_notT (t_val (e_isi (e_var (i := 23)) (ty_atInt _) (e_ty rfl B.int boot_int) rfl B.isinstance))) (fun _ => w_or1 (t_val (e_isi (e_var (i := 23)) (ty_atBool _) (e_ty rfl B.bool boot_bool) rfl B.isinstance))))) (fun i hi ht D m => EE.sub (e_var (i := 23)) (atP_bool (by simpa using ht)))).ee n_nil.ee (fun v h q w hw => dp_empty q hw))) rfl) (fun _ => w_or1 (t_cmp (c_lt (i := e) (e_ixT (i := 1) (n := 2) (f := fun i => AtP ([At.i n, At.i e].getD i default)) (e_var (i := 12)) e_int (by decide)) e_int))))) (fun h => gs_ret (EE.is e_bl ?z1)) (fun h => ?_)
                          case z1 =>
                            have := of_decide_eq_true h
                            rw [bad2 (by rw [isr, if_neg (fun z => by omega)]; rfl)]
                          have he0 : 0 < e := by have := of_decide_eq_false h; omega
                          refine gs_out (k := !(decide ((Rat.divInt n e).num = n) && decide (((Rat.divInt n e).den : Int) = e))) (t_cmp (c_neDx (A := RatP S.K (Rat.divInt n e)) (B := TupF S.K 2 (two (Is (.int n)) (Is (.int e)))) (e_call c_law_ratio (n, e) (a_cons (e_ixT (i := 0) (n := 2) (f := fun i => AtP ([At.i n, At.i e].getD i default)) (e_var (i := 12)) e_int (by decide)) (a_cons (e_ixT (i := 1) (n := 2) (f := fun i => AtP ([At.i n, At.i e].getD i default)) (e_var (i := 12)) e_int (by decide)) a_nil)) ⟨he0, Nat.le_trans se (by decide)⟩ rfl) (EE.sub (e_var (i := 12)) (Tz.els fun i hi => ?z2)) (fun v h qv w hw => ⟨_, _, dp_pair qv, dp_pair hw, shaped_pair _ _, shaped_pair _ _, ?z3⟩))) (fun h => gs_ret (EE.is e_bl ?z4)) (fun h => ?_)
                          case z2 =>
                            match i, hi with
                            | 0, _ => exact Sub.refl _
                            | 1, _ => exact Sub.refl _
                          case z3 => rw [eqv_pair]
                          case z4 =>
                            have hg : ¬ gc n e = 1 := fun z => by
                              obtain ⟨z1, z2⟩ := of_pair he0 z
                              rw [decide_eq_true z1, decide_eq_true z2] at h
                              cases h
                            rw [bad2 (by rw [isr, if_neg (fun z => hg z.2)]; rfl)]
                          have hg : gc n e = 1 := by
                            have h' : (decide ((Rat.divInt n e).num = n) && decide (((Rat.divInt n e).den : Int) = e)) = true := by simpa using h
                            rw [Bool.and_eq_true] at h'
                            have z1 := of_decide_eq_true h'.1
                            have z2 := of_decide_eq_true h'.2
                            rw [div_num he0] at z1
                            rw [div_den he0] at z2
                            exact (ratio_same he0).mp ⟨z1, z2⟩
                          have hsome : (isR (el (some l) k)).isSome = true := by rw [isr, if_pos ⟨he0, hg⟩]; rfl
                          have p0 := g.pos y j hy hj
                          have p1 := sumF_small g (y := y) (j := j)
                          refine gs_set (i := 13) (P := T1 S.K M.n (M.st y j)) (e_ixT (i := (j : Int)) (n := M.n) (f := fun j => T1 S.K M.n (M.st y j)) (e_ixT (i := (y : Int)) (n := M.Y) (f := fun t => T2 S.K M.n M.n (M.st t)) (e_ixT (e_var (i := 0)) e_int (by decide)) (e_var (i := 7)) (by omega)) (e_var (i := 8)) (by omega)) ?_
                          refine gs_set (i := 10) (P := RatP S.K (sumQ (k + 1) fun k => ch M y j k * valR (el (some l) k))) (e_call c_law_plus (_, _) (a_cons (e_var (i := 10)) (a_cons (e_call c_law_by (ch M y j k, valR (el (some l) k)) (a_cons (e_call c_law_ratio (M.st y j k, sumF M.n (M.st y j)) (a_cons (e_ixT (i := (k : Int)) (e_var (i := 13)) (e_var (i := 11)) (by omega)) (a_cons (e_sumT (e_var (i := 13)) rfl B.sum) a_nil)) ?y1 rfl) (a_cons (EE.sub (e_var (i := 12)) ?y2) a_nil)) ?y3 rfl) a_nil)) ?y4 rfl) ?_
                          case y1 => exact ⟨p0, Nat.le_trans (sz_small (n := 10) (by show _ < sumF M.n (M.st y j) ∧ sumF M.n (M.st y j) < _; omega) (by decide)) (by decide)⟩
                          case y2 =>
                            have := d1_rat (K := S.K) hsome
                            rw [show el (some l) k = some [At.i n, At.i e] from hd] at this ⊢
                            exact this
                          case y3 => exact ⟨(bd_ch g hy hj).mono (by decide), (bv k).mono (by decide)⟩
                          case y4 => exact ⟨(bm k (by omega)).mono (by omega), (bd_mul (bd_ch g hy hj) (bv k)).mono (by decide)⟩
                          refine gs_nil ⟨⟨Sub.refl _, Sub.refl _, Sub.refl _, Sub.refl _, Sub.refl _, Sub.refl _, Sub.refl _, Sub.refl _, Sub.refl _, Sub.refl _, Sub.refl _, True.intro⟩, rfl, fun k2 hk2 => ?_⟩
                          rcases Nat.lt_succ_iff_lt_or_eq.mp hk2 with z | z
                          · exact hK k2 z
                          · rw [z]; exact hsome
                  · have hall : allN M.n (fun k => (isR (el (some l) k)).isSome) = true := allN_of hK
                    refine gs_out (k := !decide ((sumQ M.n fun k => ch M y j k * valR (el (some l) k)) = 0)) (t_cmp (c_neDx (A := RatP S.K (sumQ M.n fun k => ch M y j k * valR (el (some l) k))) (B := TupF S.K 2 (two (Is (.int 0)) (Is (.int 1)))) (e_var (i := 10)) (e_tup2 e_int e_int) (fun v h qv w hw => ⟨_, _, dp_pair qv, dp_pair hw, shaped_pair _ _, shaped_pair _ _, ?c1⟩))) (fun h => ?_) (fun h => ?_)
                    case c1 => rw [eqv_pair, zero_pair]
                    · refine gs_ret (EE.is e_bl ?_)
                      have h' : ¬ (sumQ M.n fun k => ch M y j k * valR (el (some l) k)) = 0 := fun z => by rw [decide_eq_true z] at h; cases h
                      rw [bad ?_]
                      rw [hre, rowOK_some, decide_eq_false h', Bool.and_false, Bool.and_false]
                    · have h' : (sumQ M.n fun k => ch M y j k * valR (el (some l) k)) = 0 := by
                        by_cases z : (sumQ M.n fun k => ch M y j k * valR (el (some l) k)) = 0
                        · exact z
                        · rw [decide_eq_false z] at h; cases h
                      refine gs_nil ⟨⟨Sub.refl _, Sub.refl _, Sub.refl _, Sub.refl _, Sub.refl _, Sub.refl _, Sub.refl _, Sub.refl _, True.intro⟩, rfl, fun j2 hj2 => ?_⟩
                      rcases Nat.lt_succ_iff_lt_or_eq.mp hj2 with z | z
                      · exact hJ j2 z
                      · rw [z, hre, rowOK_some, decide_eq_true h', hall, decide_eq_true hll]
                        rfl
            · refine gs_nil ⟨⟨Sub.refl _, Sub.refl _, Sub.refl _, Sub.refl _, Sub.refl _, Sub.refl _, Sub.refl _, True.intro⟩, rfl, fun y2 hy2 => ?_⟩
              rcases Nat.lt_succ_iff_lt_or_eq.mp hy2 with z | z
              · exact hI y2 z
              · rw [z, hee, yearOK_some, decide_eq_true hlR, allN_of fun j hj => hJ j (by omega)]
                rfl
      · have hA : areC M (some L) = true := by
          rw [areC_some, decide_eq_true hl, allN_of hI]
          rfl
        have el' : lawSays M r o (some L) = allN M.n (fun j => (pathsL M j M.Y).all fun p => (stops M.Y).all fun s => !bad M r o (vOf (some L)) j p.1 s) := by
          unfold lawSays
          rw [hA, Bool.true_and]
        have hv : ∀ y j k, Bd 400 (vOf (some L) y j k) := hs
        have hvp := areC_vp (K := S.K) hA
        refine gs_le (Γ' := [some (MdP S.K M), some (OfP S.K M o), some (RatP S.K r), some (TR S.K M.n (best M r o M.Y)), some (VP S.K M (vOf (some L))), some (Is (.int (M.n : Int))), some (Is (.int (M.Y : Int))), none, none, none, none, none, none, none, none, none, none, none, none, none, none, none, none, none]) ⟨Sub.refl _, Sub.refl _, Sub.refl _, Sub.refl _, hvp, Sub.refl _, Sub.refl _, True.intro⟩ ?_
        exact law_second (cdv := cdv) B c_law_ratio c_law_plus c_law_by c_law_below c_law_paid c_law_paths g hr ho hv el'
end K74
set_option Elab.async false
set_option linter.all false
set_option maxRecDepth 100000
set_option maxHeartbeats 1000000

/-! what is only known to be one of many -/
namespace Lay
open PySem PySem.Spec PyProof.Rows L2 Gx
section
variable {C : Ctx} {bs : Bs} {a b e : Expr} {es : List Expr} {rest sts : List Stmt} {Γ : Sl} {μ : Mu} {A B P R : Rp} {pos : Pos} {N : Nx}
theorem e_addX {α : Type} {i : Int} {g : α → Int} (ha : EE C a Γ μ (Is (.int i))) (hb : EE C b Γ μ (Ex fun z : α => Is (.int (g z)))) : EE C (.BinOp a .Add b pos) Γ μ (Ex fun z : α => Is (.int (i + g z))) :=
  e_op2 (fun X _ => op_add) ha hb fun x y H _ p1 ⟨z, p2⟩ Q q => ⟨i, g z, p1, p2, q _ H (Grow.refl H) ⟨z, rfl⟩⟩
theorem gs_tgtX {α : Type} {Px : α → Rp} {tg : Expr} {f : α → Sl → Sl} {js : List Nat} (he : EE C e Γ μ (Ex Px)) (ht : ∀ x, TT1 C tg (Px x) (f x) js) (k : ∀ x, GS C bs rest (f x Γ) μ N R)
    (hs : ∀ X : Cx, X.env.scope = C.sc → swapsWithSole [tg] e pos.line X.env = pure false := by intro _ _; rfl) (hw : ∀ env : Env, env.scope = C.sc → swappedStores [tg] e env = pure none := by intro _ _; rfl) (hz : ∀ X : Cx, (assignEach [tg] X.env).map (·.2) = [assign tg X.env] := by intro _; rfl) : GS C bs (.Assign [tg] e pos :: rest) Γ μ N R := fun σ H D kk n r =>
  tsc (fun X hX => ps_asg (TEx.pe hX) (TGx.pg hX) (hs X hX.sc) (hw X.env hX.sc) (hz X)) (he σ H _ kk.ok fun v H1 k1 e1 ⟨x, p⟩ => ht x v σ H1 Γ μ _ k1 p fun σ' k2 l2 d2 => k x _ _ D ⟨k2, kk.ex.trans e1, kk.sub, kk.nd⟩ (up n e1) r)
/-- w, x, y, z = four new lists -/
theorem gs_tup4N {i j l m : Nat} {x y z w : Str} {c d : Expr} {Q1 Q2 Q3 Q4 : LC} {px py pz pw pt pt2 : Pos} {kt k2 : Nat} (ha : EN C a Γ μ Q1) (hb : ∀ p1, EN C b Γ ((p1, Q1) :: μ) Q2) (hc : ∀ p1 p2, EN C c Γ ((p2, Q2) :: (p1, Q1) :: μ) Q3) (hd : ∀ p1 p2 p3, EN C d Γ ((p3, Q3) :: (p2, Q2) :: (p1, Q1) :: μ) Q4)
    (k : ∀ p1 p2 p3 p4, p1 ∉ dom bs.μ → p2 ∉ dom bs.μ → p3 ∉ dom bs.μ → p4 ∉ dom bs.μ → GS C bs rest ((((Γ.set i (some (Is (.ref p1)))).set j (some (Is (.ref p2)))).set l (some (Is (.ref p3)))).set m (some (Is (.ref p4)))) ((p4, Q4) :: (p3, Q3) :: (p2, Q2) :: (p1, Q1) :: μ) N R)
    (hw : ∀ env : Env, env.scope = C.sc → swappedStores [.Tuple [.Name x px, .Name y py, .Name z pz, .Name w pw] kt pt] (.Tuple [a, b, c, d] k2 pt2) env = pure none)
    (hi : C.N[i]? = some x := by rfl) (hj : C.N[j]? = some y := by rfl) (hl : C.N[l]? = some z := by rfl) (hm : C.N[m]? = some w := by rfl) (hx : Loc C.sc x := by first | exact Or.inl rfl | exact Or.inr rfl) (hy : Loc C.sc y := by first | exact Or.inl rfl | exact Or.inr rfl) (hz : Loc C.sc z := by first | exact Or.inl rfl | exact Or.inr rfl) (hww : Loc C.sc w := by first | exact Or.inl rfl | exact Or.inr rfl) (hf : C.top = true := by rfl)
    (h1 : isStar a = false := by rfl) (h2 : isStar b = false := by rfl) (h3 : isStar c = false := by rfl) (h4 : isStar d = false := by rfl) :
    GS C bs (.Assign [.Tuple [.Name x px, .Name y py, .Name z pz, .Name w pw] kt pt] (.Tuple [a, b, c, d] k2 pt2) pos :: rest) Γ μ N R := fun σ H D kk n r =>
  tsc (t := tAsg (tTup (TAx C [a, b, c, d])) (gTup C.K 4 (gCons (gName i) (gCons (gName j) (gCons (gName l) (gCons (gName m) gNil)))))) (fun X hX => ps_asg (pe_tup (TAx.pa hX)) (hX.K ▸ pg_tup hX.calm (pgs_cons (pgn hX hi hx (.inl hf)) (pgs_cons (pgn hX hj hy (.inl hf)) (pgs_cons (pgn hX hl hz (.inl hf)) (pgs_cons (pgn hX hm hww (.inl hf)) pgs_nil))))) rfl (hw X.env hX.sc))
    (tax (t := tCons (TEx C a) (tCons (TEx C b) (tCons (TEx C c) (tCons (TEx C d) tNil)))) (fun X hX => pa_cons (TEx.pe hX) (pa_cons (TEx.pe hX) (pa_cons (TEx.pe hX) (pa_cons (TEx.pe hX) pa_nil (star_cons h4)) (star_cons h3)) (star_cons h2)) (star_cons h1))
      (ha σ H _ kk.ok fun p1 H1 k1 e1 => hb p1 σ H1 _ k1 fun p2 H2 k2 e2 => hc p1 p2 σ H2 _ k2 fun p3 H3 k3 e3 => hd p1 p2 p3 σ H3 _ k3 fun p4 H4 k4 e4 => ⟨by show 4 ≤ sizeLine; decide, fun t htn => by
        have s1 := kk.new k1 e1
        have s2 := s1.new k2 e2
        have s3 := s2.new k3 e3
        have s4 := s3.new k4 e4
        have g : Grow H4 (upd H4 t (.tup [.ref p1, .ref p2, .ref p3, .ref p4])) := Grow.new htn
        have ev := k4.ev g
        exact ⟨t, _, rfl, .inl (.inl upd_same), rfl, _, _, rfl, _, _, rfl, _, _, rfl, _, _, rfl, rfl, k p1 p2 p3 p4 (kk.fresh k1) (s1.fresh k2) (s2.fresh k3) (s3.fresh k4) _ _ D (((((s4.step (k4.grow g) ev).set rfl).set rfl).set rfl).set rfl) (up n ((((e1.trans e2).trans e3).trans e4).trans ev)) r⟩⟩))
end
/-- a tuple of things each of which is one of many -/
theorem tup_ex {α : Type} {K : PySem.W.Frag} {n : Nat} {P : Nat → α → Rp} (hα : Nonempty α) : Sub (TupF K n fun i => Ex fun x : α => P i x) (Ex fun f : Nat → α => TupF K n fun i => P i (f i)) := fun v h ⟨t, xs, h1, h2, h3, h4⟩ => by
  have : ∀ i, ∃ x : α, ∀ y, xs[i]? = some y → (P i x).p y h := fun i => by
    match hx : xs[i]? with
    | none => obtain ⟨x⟩ := hα; exact ⟨x, fun y z => by cases z⟩
    | some y =>
      obtain ⟨x, hp⟩ := h4 i y hx
      exact ⟨x, fun y' z => by cases z; exact hp⟩
  exact ⟨fun i => Classical.choose (this i), t, xs, h1, h2, h3, fun i x hx => Classical.choose_spec (this i) x hx⟩
theorem Ex.sub {α : Type} {P Q : α → Rp} (h : ∀ x, Sub (P x) (Q x)) : Sub (Ex P) (Ex Q) := fun v hp ⟨x, q⟩ => ⟨x, h x v hp q⟩
theorem Sub.trans {P Q R : Rp} (h1 : Sub P Q) (h2 : Sub Q R) : Sub P R := fun v h q => h2 v h (h1 v h q)
theorem two_ex {α β : Type} {K : PySem.W.Frag} {P : α → Rp} {Q : β → Rp} : Sub (TupF K 2 (two (Ex P) (Ex Q))) (Ex fun y : α × β => TupF K 2 (two (P y.1) (Q y.2))) := fun v h ⟨t, xs, h1, h2, h3, h4⟩ => by
  match xs, h3 with
  | [x, y], _ =>
    obtain ⟨p, hp⟩ := h4 0 x rfl
    obtain ⟨q, hq⟩ := h4 1 y rfl
    exact ⟨(p, q), t, [x, y], h1, h2, rfl, fun i z hz => by
      match i, hz with
      | 0, hz => cases hz; exact hp
      | 1, hz => cases hz; exact hq
      | i + 2, hz => cases hz⟩
theorem two_sub {K : PySem.W.Frag} {A B A' B' : Rp} (h1 : Sub A A') (h2 : Sub B B') : Sub (TupF K 2 (two A B)) (TupF K 2 (two A' B')) := Tz.els fun i hi => by
  match i, hi with
  | 0, _ => exact h1
  | 1, _ => exact h2
end Lay
set_option Elab.async false
set_option linter.all false
set_option maxRecDepth 100000
set_option maxHeartbeats 1000000

namespace K74
open PySem PySem.Spec PyProof.Rows L2 Gx Lay Rb
abbrev IR (lo hi : Int) := { i : Int // lo ≤ i ∧ i ≤ hi }
abbrev IntR (lo hi : Int) : Rp := Ex fun i : IR lo hi => Is (.int i.val)
abbrev RowT (n : Nat) := { f : Nat → Int // (∀ k, 0 ≤ f k ∧ f k ≤ 20) ∧ 0 < sumF n f }
abbrev RowX (K : PySem.W.Frag) (n : Nat) : Rp := Ex fun f : RowT n => T1 K n f.val
/-- a year of steps | a year of moves | a tuple of ints -/
abbrev StX (K : PySem.W.Frag) (n : Nat) : Rp := TupF K n fun _ => RowX K n
abbrev LinX (K : PySem.W.Frag) (n : Nat) : Rp := TupF K n fun _ => IntR (-1000) 1000
abbrev SqX (K : PySem.W.Frag) (n : Nat) : Rp := TupF K n fun _ => LinX K n
theorem int_in {lo hi i : Int} (h : lo ≤ i ∧ i ≤ hi) : Lay.Sub (Is (.int i)) (IntR lo hi) := fun v hp z => ⟨⟨i, h⟩, z⟩
theorem e_pick {C : Lay.Ctx} {es : List Expr} {Γ : Sl} {μ : Mu} {pos p1 p2 p3 : Pos} {m : Nat} {g : Nat → Int} {p : Addr} {lo hi : Int} {Ps : List Rp} {S : Sta} (F : Cal S 2 "_law_pick" (spPick S)) (hm : (p, RowC S.K m g) ∈ μ) (hx : EE C (.Name "_law_row" p1) Γ μ (Is (.ref p))) (ha : EA C es Γ μ Ps) (h0 : 0 < Ps.length) (h1 : Ps.length ≤ 1000)
    (hg : C.sc.names.lookup ("_law_pick" : Str) = some .globalImplicit) (h : AllS (IntR lo hi) Ps) (hS : S = C.toSta := by rfl) (hk : Nat.ble 2 C.k = true := by rfl) : EE C (.Call (.Name "_law_pick" p2) [.Name "_law_row" p1, .List es p3] [] pos) Γ μ (IntR lo hi) := by
  subst hS
  exact EE.sub (e_call F (p, m, g, Ps.length, nth Ps) (a_two hx (n_listN ha rfl (Nat.le_trans h1 (by decide))).ee rfl rfl) ⟨hm, h0, h1⟩ hg (hk := hk)) (pick_sub (Nat.le_refl _) h)
/-- one added at a place -/
theorem sum_put {n j : Nat} {f : Nat → Int} {c : Int} (hn : 1 ≤ n ∧ n ≤ 2) (hj : j < n) : sumF n (fun i => if i = j then f j + c else f i) = sumF n f + c := by
  have e1 : ∀ f : Nat → Int, sumF 1 f = f 0 := fun f => by show f 0 + 0 = _; omega
  have e2 : ∀ f : Nat → Int, sumF 2 f = f 0 + f 1 := fun f => by show f 0 + (f 1 + 0) = _; omega
  match n, hn, j, hj with
  | 1, _, 0, _ => rw [e1, e1]; rfl
  | 2, _, 0, _ => rw [e2, e2]; show f 0 + c + f 1 = _; omega
  | 2, _, 1, _ => rw [e2, e2]; show f 0 + (f 1 + c) = _; omega
theorem sum_nn {n : Nat} {f : Nat → Int} (hn : 1 ≤ n ∧ n ≤ 2) (h : ∀ k, 0 ≤ f k) : 0 ≤ sumF n f := by
  have e1 : ∀ f : Nat → Int, sumF 1 f = f 0 := fun f => by show f 0 + 0 = _; omega
  have e2 : ∀ f : Nat → Int, sumF 2 f = f 0 + f 1 := fun f => by show f 0 + (f 1 + 0) = _; omega
  have h0 := h 0
  have h1 := h 1
  match n, hn with
  | 1, _ => rw [e1]; omega
  | 2, _ => rw [e2]; omega
def lift1 (n j : Nat) (f : Nat → Int) (i : Nat) : Int := if i = j then f j + (if sumF n f = 0 then 1 else 0) else f i
theorem lift_ok {n j : Nat} {f : Nat → Int} (hn : 1 ≤ n ∧ n ≤ 2) (hj : j < n) (h : ∀ k, 0 ≤ f k ∧ f k ≤ 3) : (∀ k, 0 ≤ lift1 n j f k ∧ lift1 n j f k ≤ 20) ∧ 0 < sumF n (lift1 n j f) := by
  refine ⟨fun k => ?_, ?_⟩
  · have h1 := h j
    have h2 := h k
    unfold lift1
    split
    · split <;> omega
    · omega
  · unfold lift1
    rw [sum_put hn hj]
    have := sum_nn hn fun k => (h k).1
    split <;> omega
abbrev MO := { y : Md × (Nat → Nat → Int) // Good y.1 ∧ Off y.2 }
abbrev SmX (K : PySem.W.Frag) : Rp := Ex fun y : MO => TupF K 2 (two (MdP K y.val.1) (OfP K y.val.1 y.val.2))
abbrev spSmall (S : Sta) : Sp := spOf S (ι := Addr × Nat × (Nat → Int)) (fun y => [Is (.ref y.1)]) (fun y μ => (y.1, RowC S.K y.2.1 y.2.2) ∈ μ) (fun _ => SmX S.K)
theorem ne_IR : Nonempty (IR (-1000) 1000) := ⟨⟨0, by decide⟩⟩
theorem ne_RowT {n : Nat} (hn : 1 ≤ n ∧ n ≤ 2) : Nonempty (RowT n) := ⟨⟨fun _ => 1, fun _ => ⟨by show (0 : Int) ≤ 1; decide, by show (1 : Int) ≤ 20; decide⟩, by
  match n, hn with
  | 1, _ => decide
  | 2, _ => decide⟩⟩
theorem lin_ex {K : PySem.W.Frag} {n : Nat} : Lay.Sub (LinX K n) (Ex fun f : Nat → IR (-1000) 1000 => T1 K n fun k => (f k).val) := tup_ex (P := fun _ (i : IR (-1000) 1000) => Is (.int i.val)) ne_IR
theorem lins_ex {K : PySem.W.Frag} {l n : Nat} : Lay.Sub (TupF K l fun _ => LinX K n) (Ex fun f : Nat → Nat → IR (-1000) 1000 => T2 K l n fun i k => (f i k).val) :=
  (Tz.els fun i hi => lin_ex).trans (tup_ex (P := fun _ (f : Nat → IR (-1000) 1000) => T1 K n fun k => (f k).val) ⟨fun _ => Classical.choice ne_IR⟩)
theorem sqs_ex {K : PySem.W.Frag} {l n : Nat} : Lay.Sub (TupF K l fun _ => SqX K n) (Ex fun f : Nat → Nat → Nat → IR (-1000) 1000 => T3 K l n n fun i j k => (f i j k).val) :=
  (Tz.els fun i hi => lins_ex).trans (tup_ex (P := fun _ (f : Nat → Nat → IR (-1000) 1000) => T2 K n n fun j k => (f j k).val) ⟨fun _ _ => Classical.choice ne_IR⟩)
theorem sts_ex {K : PySem.W.Frag} {l n : Nat} (hn : 1 ≤ n ∧ n ≤ 2) : Lay.Sub (TupF K l fun _ => StX K n) (Ex fun f : Nat → Nat → RowT n => T3 K l n n fun i j k => (f i j).val k) :=
  (Tz.els fun i hi => tup_ex (P := fun _ (f : RowT n) => T1 K n f.val) (ne_RowT hn)).trans (tup_ex (P := fun _ (f : Nat → RowT n) => T2 K n n fun j k => (f j).val k) ⟨fun _ => Classical.choice (ne_RowT hn)⟩)
theorem small_ok {K : PySem.W.Frag} {n Y : Nat} (hn : 1 ≤ n ∧ n ≤ 2) (hY : 1 ≤ Y ∧ Y ≤ 2) : Lay.Sub (TupF K 2 (two (TupF K 2 (two (TupF K Y fun _ => StX K n) (TupF K 2 (two (TupF K (Y + 1) fun _ => LinX K n) (TupF K Y fun _ => SqX K n))))) (TupF K (Y + 1) fun _ => LinX K n))) (SmX K) := by
  refine (two_sub (two_sub (sts_ex hn) ((two_sub lins_ex sqs_ex).trans two_ex)) lins_ex).trans ((two_sub two_ex (fun _ _ z => z)).trans (two_ex.trans ?_))
  rintro v h ⟨⟨⟨st, sg, mv⟩, o⟩, q⟩
  refine ⟨⟨(⟨n, Y, fun i j k => (st i j).val k, fun i j k => (mv i j k).val, fun i k => (sg i k).val⟩, fun i k => (o i k).val), ⟨hn, hY, fun i j k => (st i j).property.1 k, fun i j k => (mv i j k).property, fun i k => (sg i k).property, fun y j _ _ => (st y j).property.2⟩, fun i k => (o i k).property⟩, q⟩
variable {S : Sta} {cdv : Value} {f c T : Addr}
abbrev s_law_small : Stmt := topS 50
theorem sc_law_small : FnScope ["_law_row", "_law_many", "_law_years", "_law_steps", "_law_staying", "_law_moving", "_law_offers", "_law_year", "_law_rows", "_law_j", "_law_line", "_law_time", "_law_k"] ["_law_row"] (defScope s_law_small) := ⟨rfl, rfl, rfl, by decide +kernel, rfl, by decide +kernel, by decide +kernel⟩
theorem m_law_small (F : FunA S "_law_small" s_law_small cdv f) (B : Bl S) (c_law_taken : Cal S 1 "_law_taken" (spTaken S)) (c_law_pick : Cal S 2 "_law_pick" (spPick S)) : Cal S 3 "_law_small" (spSmall S) := by
  refine cal_of F sc_law_small (by decide) (fun kV doc pm an ct us hl => by match us, hl with | [_], _ => rfl) (fun _ => rfl) ?_
  rintro b ⟨p, m, g⟩ hm
  dsimp only at hm ⊢
  refine gs_tgt (P := TupF S.K 2 (two (Ex fun z : Fin 2 => Is (.int (1 + ((z.val : Nat) : Int)))) (Ex fun z : Fin 2 => Is (.int (1 + ((z.val : Nat) : Int)))))) (e_tup2 (e_addX (g := fun z : Fin 2 => ((z.val : Nat) : Int)) e_int (e_call c_law_taken (p, m, g, 2) (a_cons (e_var (i := 0)) (a_cons e_int a_nil)) ⟨hm, (by decide : 0 < 2), (by decide : 2 ≤ 1000)⟩ rfl)) (e_addX (g := fun z : Fin 2 => ((z.val : Nat) : Int)) e_int (e_call c_law_taken (p, m, g, 2) (a_cons (e_var (i := 0)) (a_cons e_int a_nil)) ⟨hm, (by decide : 0 < 2), (by decide : 2 ≤ 1000)⟩ rfl))) (g_pair (i := 1) (j := 2)) ?_ (hw := by intro env h; cases env; cases h; rfl)
  refine gs_ex (Px := fun z : Fin 2 => Is (.int (1 + ((z.val : Nat) : Int)))) 1 rfl fun zn => ?_
  refine gs_ex (Px := fun z : Fin 2 => Is (.int (1 + ((z.val : Nat) : Int)))) 2 rfl fun zY => ?_
  obtain ⟨n, hn, en⟩ : ∃ n : Nat, (1 ≤ n ∧ n ≤ 2) ∧ (1 + ((zn.val : Nat) : Int)) = (n : Int) := ⟨1 + zn.val, by have := zn.isLt; omega, by omega⟩
  obtain ⟨Y, hY, eY⟩ : ∃ Y : Nat, (1 ≤ Y ∧ Y ≤ 2) ∧ (1 + ((zY.val : Nat) : Int)) = (Y : Int) := ⟨1 + zY.val, by have := zY.isLt; omega, by omega⟩
  rw [en, eY]
  refine gs_tup4N (i := 3) (j := 4) (l := 5) (m := 6) (Q1 := Els 0 fun _ => StX S.K n) (Q2 := Els 0 fun _ => LinX S.K n) (Q3 := Els 0 fun _ => SqX S.K n) (Q4 := Els 0 fun _ => LinX S.K n) n_nil (fun _ => n_nil) (fun _ _ => n_nil) (fun _ _ _ => n_nil) (fun p3 p4 p5 p6 h3 h4 h5 h6 => ?_) (by intro env h; cases env; cases h; rfl)
  refine gs_loop (fun y => [some (Is (.ref p)), some (Is (.int (n : Int))), some (Is (.int (Y : Int))), some (Is (.ref p3)), some (Is (.ref p4)), some (Is (.ref p5)), some (Is (.ref p6)), none, none, none, none, none, none]) (fun y => (p6, Els 0 fun _ => LinX S.K n) :: (p5, Els (y) fun _ => SqX S.K n) :: (p4, Els 0 fun _ => LinX S.K n) :: (p3, Els (y) fun _ => StX S.K n) :: b.μ) (fun _ => True) (i_rangeN (n := Y) (e_var (i := 2)) (by omega) rfl B.range) (fun i hi => g_name (i := 7)) ⟨Sub.refl _, Sub.refl _, Sub.refl _, Sub.refl _, Sub.refl _, Sub.refl _, Sub.refl _, True.intro⟩ rfl True.intro (fun y hy _ => ?_) (fun _ => ?_) (fun i Γ _ l => l.set _ _)
  · refine gs_setN (i := 8) (c := Els 0 fun _ => RowX S.K n) n_nil (fun p8 h8 => ?_)
    refine gs_loop (fun j => [some (Is (.ref p)), some (Is (.int (n : Int))), some (Is (.int (Y : Int))), some (Is (.ref p3)), some (Is (.ref p4)), some (Is (.ref p5)), some (Is (.ref p6)), some (Is (.int (y : Int))), some (Is (.ref p8)), none, none, none, none]) (fun j => (p8, Els j fun _ => RowX S.K n) :: (p6, Els 0 fun _ => LinX S.K n) :: (p5, Els (y) fun _ => SqX S.K n) :: (p4, Els 0 fun _ => LinX S.K n) :: (p3, Els (y) fun _ => StX S.K n) :: b.μ) (fun _ => True) (i_rangeN (n := n) (e_var (i := 1)) (by omega) rfl B.range) (fun i hi => g_name (i := 9)) ⟨Sub.refl _, Sub.refl _, Sub.refl _, Sub.refl _, Sub.refl _, Sub.refl _, Sub.refl _, Sub.refl _, Sub.refl _, True.intro⟩ rfl True.intro (fun j hj _ => ?_) (fun _ => ?_) (fun i Γ _ l => l.set _ _)
    · refine gs_setLc (i := 10) (n := n) (Rf := fun _ => IntR 0 3) (own := [("_law_k", 12)]) (i_rangeN (e_var (i := 1)) (by omega) rfl B.range) (by omega) (fun i hi => g_name (i := 12)) (by decide) (fun i hi D => (e_pick (lo := 0) (hi := 3) (Ps := [Is (.int (0)), Is (.int (1)), Is (.int (2)), Is (.int (3))]) c_law_pick (List.mem_cons_of_mem _ (List.mem_cons_of_mem _ (List.mem_cons_of_mem _ (List.mem_cons_of_mem _ (List.mem_cons_of_mem _ (List.mem_cons_of_mem _ hm)))))) (e_var (i := 0)) (ac e_int (ac e_int (ac e_int (ac e_int a_nil)))) (by decide) (by decide) rfl ⟨int_in (by decide), int_in (by decide), int_in (by decide), int_in (by decide), True.intro⟩)) (fun pl hl => ?_) (hsw := fun X h => sw_local h rfl rfl rfl rfl)
      haveI : Inhabited (IR 0 3) := ⟨⟨0, by decide⟩⟩
      refine gs_skolem (μ1 := []) (Px := fun _ (i : IR 0 3) => Is (.int i.val)) fun fx => ?_
      have hf : ∀ k, 0 ≤ (fx k).val ∧ (fx k).val ≤ 3 := fun k => (fx k).property

      refine gs_setItem (j := (j : Int)) (g := fun i => Is (.int (lift1 n j (fun i => (fx i).val) i))) [] _ rfl (e_add (i := (fx j).val) (j := if sumF n (fun i => (fx i).val) = 0 then 1 else 0) (e_ixM (n := n) (f := fun i => Is (.int (fx i).val)) List.mem_cons_self (e_var (i := 10)) (e_var (i := 9)) (by omega)) (e_if (k := decide (sumF n (fun i => (fx i).val) = 0)) (t_cmp (c_eq (e_sumM (f := fun i => (fx i).val) List.mem_cons_self (e_var (i := 10)) rfl B.sum) e_int)) (fun h => EE.is e_int (by rw [if_pos (of_decide_eq_true h)])) (fun h => EE.is e_int (by rw [if_neg (of_decide_eq_false h)])))) (e_var (i := 10)) (e_var (i := 9)) (by omega) ?s1 ?s2 (Keeps.of hl) ?_
      case s1 => exact fun v h z => z.trans (congrArg V.int (if_pos (Int.toNat_natCast j)).symm)
      case s2 => exact fun i hi v h z => z.trans (congrArg V.int (if_neg (by omega)).symm)
      have hok := lift_ok hn hj hf
      refine gs_append [(pl, _)] _ rfl (e_var (i := 8)) (EE.sub (e_tupleM (c := Els n fun i => Is (.int (lift1 n j (fun i => (fx i).val) i))) List.mem_cons_self (e_var (i := 10)) rfl B.tuple) (R := RowX S.K n) (fun v h q => ⟨⟨lift1 n j fun i => (fx i).val, hok⟩, q⟩)) (Sub.refl _) (by omega) h8 ?_
      refine gs_drop [] _ rfl hl ?_
      exact gs_nil ⟨⟨Sub.refl _, Sub.refl _, Sub.refl _, Sub.refl _, Sub.refl _, Sub.refl _, Sub.refl _, Sub.refl _, Sub.refl _, True.intro⟩, rfl, True.intro⟩
    · refine gs_append [(p8, _), (p6, _), (p5, _), (p4, _)] _ rfl (e_var (i := 3)) (e_tupleM (c := Els n fun _ => RowX S.K n) List.mem_cons_self (e_var (i := 8)) rfl B.tuple) (Sub.refl _) (by omega) h3 ?_
      refine gs_drop [] _ rfl h8 ?_
      refine gs_append [(p6, _)] _ rfl (e_var (i := 5)) (e_tupleL (n_lc (n := n) (Rf := fun _ => LinX S.K n) (own := [("_law_j", 9)]) (i_rangeN (e_var (i := 1)) (by omega) rfl B.range) (by omega) (fun i hi => g_name (i := 9)) (by decide) (fun j hj D => (e_tupleL (n_lc (n := n) (Rf := fun _ => IntR (-1000) 1000) (own := [("_law_k", 12)]) (i_rangeN (e_var (i := 1)) (by omega) rfl B.range) (by omega) (fun i hi => g_name (i := 12)) (by decide) (fun i hi D => (e_pick (lo := (-1000)) (hi := 1000) (Ps := [Is (.int (0)), Is (.int (0)), Is (.int (5)), Is (.int (-7)), Is (.int (30))]) c_law_pick (List.mem_cons_of_mem _ (List.mem_cons_of_mem _ (List.mem_cons_of_mem _ (List.mem_cons_of_mem _ (List.mem_cons_of_mem _ (List.mem_cons_of_mem _ hm)))))) (e_var (i := 0)) (ac e_int (ac e_int (ac e_int (ac (e_neg e_int) (ac e_int a_nil))))) (by decide) (by decide) rfl ⟨int_in (by decide), int_in (by decide), int_in (by decide), int_in (by decide), int_in (by decide), True.intro⟩))).ee rfl B.tuple))).ee rfl B.tuple) (Sub.refl _) (by omega) h5 ?_
      exact gs_nil ⟨⟨Sub.refl _, Sub.refl _, Sub.refl _, Sub.refl _, Sub.refl _, Sub.refl _, Sub.refl _, True.intro⟩, rfl, True.intro⟩
  · refine gs_loop (fun t => [some (Is (.ref p)), some (Is (.int (n : Int))), some (Is (.int (Y : Int))), some (Is (.ref p3)), some (Is (.ref p4)), some (Is (.ref p5)), some (Is (.ref p6)), none, none, none, none, none, none]) (fun t => (p6, Els (t) fun _ => LinX S.K n) :: (p5, Els Y fun _ => SqX S.K n) :: (p4, Els (t) fun _ => LinX S.K n) :: (p3, Els Y fun _ => StX S.K n) :: b.μ) (fun _ => True) (i_rangeN (n := Y + 1) (EE.is (e_add (i := (Y : Int)) (j := 1) (e_var (i := 2)) e_int) rfl) (by omega) rfl B.range) (fun i hi => g_name (i := 11)) ⟨Sub.refl _, Sub.refl _, Sub.refl _, Sub.refl _, Sub.refl _, Sub.refl _, Sub.refl _, True.intro⟩ rfl True.intro (fun t ht _ => ?_) (fun _ => ?_) (fun i Γ _ l => l.set _ _)
    · refine gs_append [(p6, _), (p5, _)] _ rfl (e_var (i := 4)) (e_tupleL (n_lc (n := n) (Rf := fun _ => IntR (-1000) 1000) (own := [("_law_k", 12)]) (i_rangeN (e_var (i := 1)) (by omega) rfl B.range) (by omega) (fun i hi => g_name (i := 12)) (by decide) (fun i hi D => (e_pick (lo := (-1000)) (hi := 1000) (Ps := [Is (.int (0)), Is (.int (1)), Is (.int (-2)), Is (.int (10))]) c_law_pick (List.mem_cons_of_mem _ (List.mem_cons_of_mem _ (List.mem_cons_of_mem _ (List.mem_cons_of_mem _ (List.mem_cons_of_mem _ hm))))) (e_var (i := 0)) (ac e_int (ac e_int (ac (e_neg e_int) (ac e_int a_nil)))) (by decide) (by decide) rfl ⟨int_in (by decide), int_in (by decide), int_in (by decide), int_in (by decide), True.intro⟩))).ee rfl B.tuple) (Sub.refl _) (by omega) h4 ?_
      refine gs_append [] _ rfl (e_var (i := 6)) (e_tupleL (n_lc (n := n) (Rf := fun _ => IntR (-1000) 1000) (own := [("_law_k", 12)]) (i_rangeN (e_var (i := 1)) (by omega) rfl B.range) (by omega) (fun i hi => g_name (i := 12)) (by decide) (fun i hi D => (e_pick (lo := (-1000)) (hi := 1000) (Ps := [Is (.int (0)), Is (.int (3)), Is (.int (8)), Is (.int (-5)), Is (.int (20))]) c_law_pick (List.mem_cons_of_mem _ (List.mem_cons_of_mem _ (List.mem_cons_of_mem _ (List.mem_cons_of_mem _ (List.mem_cons_of_mem _ hm))))) (e_var (i := 0)) (ac e_int (ac e_int (ac e_int (ac (e_neg e_int) (ac e_int a_nil))))) (by decide) (by decide) rfl ⟨int_in (by decide), int_in (by decide), int_in (by decide), int_in (by decide), int_in (by decide), True.intro⟩))).ee rfl B.tuple) (Sub.refl _) (by omega) h6 ?_
      exact gs_nil ⟨⟨Sub.refl _, Sub.refl _, Sub.refl _, Sub.refl _, Sub.refl _, Sub.refl _, Sub.refl _, True.intro⟩, rfl, True.intro⟩
    · exact gs_ret (EE.sub (e_tup2 (e_tup2 (e_tupleM (c := Els Y fun _ => StX S.K n) (List.mem_cons_of_mem _ (List.mem_cons_of_mem _ (List.mem_cons_of_mem _ List.mem_cons_self))) (e_var (i := 3)) rfl B.tuple) (e_tup2 (e_tupleM (c := Els (Y + 1) fun _ => LinX S.K n) (List.mem_cons_of_mem _ (List.mem_cons_of_mem _ List.mem_cons_self)) (e_var (i := 4)) rfl B.tuple) (e_tupleM (c := Els Y fun _ => SqX S.K n) (List.mem_cons_of_mem _ List.mem_cons_self) (e_var (i := 5)) rfl B.tuple))) (e_tupleM (c := Els (Y + 1) fun _ => LinX S.K n) List.mem_cons_self (e_var (i := 6)) rfl B.tuple)) (small_ok hn hY))
end K74
set_option Elab.async false
set_option linter.all false
set_option maxRecDepth 100000
set_option maxHeartbeats 1000000

namespace K74
open PySem PySem.Spec PyProof.Rows L2 Gx Lay Rb
/-! ### any value, only known to be small -/
/-- at most N things, each so -/
def LX (N : Nat) (Q : Rp) : LC := ⟨fun xs h => xs.length ≤ N ∧ ∀ x ∈ xs, Q.p x h, fun xs H H' e h => ⟨h.1, fun x hx => Q.mono x H H' e (h.2 x hx)⟩⟩
abbrev DX {α : Type} (P : α → Rp) (OK : α → Prop) : Rp := Ex fun d : { d : α // OK d } => P d.val
def OKL {α : Type} (OK : α → Prop) (d : Option (List α)) : Prop := ∀ l, d = some l → ∀ x ∈ l, OK x
def OK1 (d : D1) : Prop := Bd 400 (valR d) ∧ ∀ q, d = some q → ∀ z, At.i z ∈ q → sz z ≤ 400
abbrev D1X (K : PySem.W.Frag) : Rp := DX (DP1 K) OK1
abbrev D2X (K : PySem.W.Frag) : Rp := DX (DP2 K) (OKL OK1)
abbrev D3X (K : PySem.W.Frag) : Rp := DX (DP3 K) (OKL (OKL OK1))
abbrev D4X (K : PySem.W.Frag) : Rp := DX (DP4 K) (OKL (OKL (OKL OK1)))
theorem ok1_none : OK1 none := ⟨bd_zero.mono (by decide), fun q h => by cases h⟩
theorem okl_none {α : Type} {OK : α → Prop} : OKL OK none := fun l h => by cases h
theorem okl_el {α : Type} {OK : Option α → Prop} {d : Option (List (Option α))} (h : OKL OK d) (h0 : OK none) (i : Nat) : OK (el d i) := by
  unfold el
  match d, h with
  | none, _ => show OK (([] : List (Option α)).getD i none); simpa using h0
  | some l, h =>
    show OK (l.getD i none)
    rw [List.getD_eq_getElem?_getD]
    match hx : l[i]? with
    | none => exact h0
    | some x => exact h l rfl x (List.mem_of_getElem? hx)
theorem ok4_small {d : D4} (h : OKL (OKL (OKL OK1)) d) : Small d ∧ Raw d := by
  have g : ∀ y j k, OK1 (el (el (el d y) j) k) := fun y j k => okl_el (okl_el (okl_el h okl_none y) okl_none j) ok1_none k
  exact ⟨fun y j k => (g y j k).1, fun y j k q e z hz => (g y j k).2 q e z hz⟩
theorem lx_data {α : Type} [Inhabited α] {P : α → Rp} {OK : α → Prop} {h : Hp} : ∀ xs : List V, (∀ x ∈ xs, (DX P OK).p x h) → ∃ l : List α, l.length = xs.length ∧ (∀ d ∈ l, OK d) ∧ ∀ i x, xs[i]? = some x → (P (l.getD i default)).p x h
  | [], _ => ⟨[], rfl, fun d hd => absurd hd List.not_mem_nil, fun i x hx => by simp at hx⟩
  | x :: xs, hx => by
    obtain ⟨l, h1, h2, h3⟩ := lx_data xs fun y hy => hx y (List.mem_cons_of_mem _ hy)
    obtain ⟨⟨d, hd⟩, p⟩ := hx x List.mem_cons_self
    refine ⟨d :: l, by rw [List.length_cons, List.length_cons, h1], fun d' h' => ?_, fun i y hy => ?_⟩
    · rcases List.mem_cons.mp h' with rfl | h'
      · exact hd
      · exact h2 d' h'
    · match i, hy with
      | 0, hy => cases hy; exact p
      | i + 1, hy => exact h3 i y hy
theorem up_x {α : Type} [Inhabited α] {P : α → Rp} {OK : α → Prop} {K : PySem.W.Frag} {N : Nat} : Lay.Sub (Tz K (LX N (DX P OK))) (DX (DP K P) (OKL OK)) := fun v h ⟨t, xs, h1, h2, h3, h4⟩ => by
  obtain ⟨l, l1, l2, l3⟩ := lx_data xs h4
  exact ⟨⟨some l, fun l' e => by cases e; exact l2⟩, t, xs, h1, h2, l1.symm, l3⟩
theorem no_x {α : Type} [Inhabited α] {P : α → Rp} {OK : Option (List α) → Prop} {K : PySem.W.Frag} (h0 : OK none) : Lay.Sub (NoTup K) (DX (DP K P) OK) := fun v h q => ⟨⟨none, h0⟩, q⟩
theorem els_x {K : PySem.W.Frag} {n N : Nat} {f : Nat → Rp} {Q : Rp} (hn : n ≤ N) (h : ∀ i, i < n → Lay.Sub (f i) Q) : Lay.Sub (TupF K n f) (Tz K (LX N Q)) := fun v hp ⟨t, xs, h1, h2, h3, h4⟩ => ⟨t, xs, h1, h2, by omega, fun x hx => by
  obtain ⟨i, hi, e⟩ := List.getElem_of_mem hx
  exact h i (by omega) x hp (h4 i x (by rw [List.getElem?_eq_getElem hi, e]))⟩
theorem cut_x {N : Nat} {Q : Rp} {xs : List V} {h : Hp} (q : (LX N Q).p xs h) (i j : Option Int) : (LX N Q).p (cutV xs i j) h := ⟨Nat.le_trans (cutV_length xs i j) q.1, fun x hx => q.2 x (List.mem_of_mem_drop (List.mem_of_mem_take hx))⟩
theorem app_x {M N : Nat} {Q : Rp} (hs : M + N ≤ 100000) : ∀ xs ys h, (LX M Q).p xs h → (LX N Q).p ys h → (LX (M + N) Q).p (xs ++ ys) h ∧ xs.length + ys.length ≤ 100000 := fun xs ys h q1 q2 => by
  have h1 := q1.1
  have h2 := q2.1
  refine ⟨⟨by rw [List.length_append]; omega, fun x hx => ?_⟩, by omega⟩
  rcases List.mem_append.mp hx with z | z
  · exact q1.2 x z
  · exact q2.2 x z
theorem rev_x {N : Nat} {Q : Rp} : ∀ xs h, (LX N Q).p xs h → (LX N Q).p xs.reverse h := fun xs h q => ⟨by rw [List.length_reverse]; exact q.1, fun x hx => q.2 x (List.mem_reverse.mp hx)⟩
/-! ### of a ratio; odd things -/
theorem rat_x {K : PySem.W.Frag} {q : Rat} (h : Bd 400 q) : Lay.Sub (RatP K q) (D1X K) := fun v hp z => by
  have hv : isR (some [.i q.num, .i (q.den : Int)]) = some q := by
    show (if 0 < (q.den : Int) ∧ gc q.num q.den = 1 then some (Rat.divInt q.num q.den) else none) = _
    rw [if_pos ⟨den_pos q, gc_num_den q⟩, num_den]
  refine ⟨⟨some [.i q.num, .i (q.den : Int)], ⟨by unfold valR; rw [hv]; exact h, fun l e x hx => ?_⟩⟩, ?_⟩
  · cases e
    rcases List.mem_cons.mp hx with e | hx
    · cases e; exact h.1
    · rcases List.mem_cons.mp hx with e | hx
      · cases e; exact h.2
      · cases hx
  · exact Tz.els (g := fun i => AtP ([At.i q.num, At.i (q.den : Int)].getD i default)) (fun i hi => by
      match i, hi with
      | 0, _ => exact Sub.refl _
      | 1, _ => exact Sub.refl _) v hp z
theorem odd22 {K : PySem.W.Frag} : Lay.Sub (TupF K 2 (two (Is (.int 2)) (Is (.int 2)))) (D1X K) := fun v hp z => by
  refine ⟨⟨some [.i 2, .i 2], ⟨?_, fun l e x hx => ?_⟩⟩, ?_⟩
  · rw [show valR (some [At.i 2, At.i 2]) = 0 by decide +kernel]
    exact bd_zero.mono (by decide)
  · cases e
    rcases List.mem_cons.mp hx with e | hx
    · cases e; decide +kernel
    · rcases List.mem_cons.mp hx with e | hx
      · cases e; decide +kernel
      · cases hx
  · exact Tz.els (g := fun i => AtP ([At.i 2, At.i 2].getD i default)) (fun i hi => by
      match i, hi with
      | 0, _ => exact Sub.refl _
      | 1, _ => exact Sub.refl _) v hp z
theorem oddT1 {K : PySem.W.Frag} : Lay.Sub (TupF K 2 (two (Is (.bl true)) (Is (.int 1)))) (D1X K) := fun v hp z => by
  refine ⟨⟨some [.b true, .i 1], ⟨?_, fun l e x hx => ?_⟩⟩, ?_⟩
  · rw [show valR (some [At.b true, At.i 1]) = 0 from rfl]
    exact bd_zero.mono (by decide)
  · cases e
    rcases List.mem_cons.mp hx with e | hx
    · cases e
    · rcases List.mem_cons.mp hx with e | hx
      · cases e; decide +kernel
      · cases hx
  · exact Tz.els (g := fun i => AtP ([At.b true, At.i 1].getD i default)) (fun i hi => by
      match i, hi with
      | 0, _ => exact Sub.refl _
      | 1, _ => exact Sub.refl _) v hp z
theorem int_no {K : PySem.W.Frag} {i : Int} : Lay.Sub (Is (.int i)) (NoTup K) := fun v h z => ty_int rfl v h z
theorem non_no {K : PySem.W.Frag} : Lay.Sub (Is .non) (NoTup K) := fun v h z => by
  cases z
  exact ⟨_, .base .non, rfl⟩
theorem dict_no {K : PySem.W.Frag} : Lay.Sub (Tys K (.type "dict")) (NoTup K) := fun v h z => ⟨_, z, rfl⟩
theorem tyx_lst {K : PySem.W.Frag} {h : Hp} {t : Addr} {xs : List V} (q : SqL K h t xs) : TyX K h (.ref t) (.type "list") := by
  rcases q with (q | ⟨o, q⟩) | ⟨o, its, n, q, c, _⟩
  · exact .base (.lst q)
  · exact .base (.frz q)
  · exact .kList q c
theorem lst_no {K : PySem.W.Frag} {c : LC} : Lay.Sub (Fz K c) (NoTup K) := fun v h ⟨t, xs, e, q, _⟩ => by
  cases e
  exact ⟨.type "list", tyx_lst q, rfl⟩
/-! ### the corrections -/
theorem bd_best1 {M : Md} (g : Good M) {r : Rat} (hr : Rate r) {o : Nat → Nat → Int} (ho : Off o) {y k : Nat} (hy : y < M.Y) (hk : k < M.n) : Bd 106 (best M r o (M.Y - (y + 1)) k) := by
  have hY := g.Y
  refine (bd_best g hr ho (M.Y - (y + 1)) (by omega) k hk).mono ?_
  match M.Y - (y + 1), (show M.Y - (y + 1) ≤ 1 by omega) with
  | 0, _ => decide
  | 1, _ => decide
theorem bd_cor {M : Md} (g : Good M) {r : Rat} (hr : Rate r) {o : Nat → Nat → Int} (ho : Off o) {y j k : Nat} (hy : y < M.Y) (hj : j < M.n) (hk : k < M.n) : Bd 375 (cor M r o y j k) := by
  unfold cor
  exact (bd_sub (bd_add (bd_of_int (g.mv y j k)) (bd_best1 g hr ho hy hk)) (bd_here g hy hj fun k hk => bd_best1 g hr ho hy hk)).mono (by decide)
theorem tr_x {K : PySem.W.Frag} {n : Nat} {f : Nat → Rat} (hn : n ≤ 2) (h : ∀ k, k < n → Bd 400 (f k)) : Lay.Sub (TR K n f) (Tz K (LX 2 (D1X K))) := els_x hn fun k hk => rat_x (h k hk)
theorem tr2_x {K : PySem.W.Frag} {l n : Nat} {f : Nat → Nat → Rat} (hl : l ≤ 2) (hn : n ≤ 2) (h : ∀ j k, j < l → k < n → Bd 400 (f j k)) : Lay.Sub (TupF K l fun j => TR K n (f j)) (Tz K (LX 2 (D2X K))) := els_x hl fun j hj => (tr_x hn fun k hk => h j k hj hk).trans up_x
theorem vp_x {K : PySem.W.Frag} {M : Md} {v : Nat → Nat → Nat → Rat} (g : Good M) (h : ∀ y j k, y < M.Y → j < M.n → k < M.n → Bd 400 (v y j k)) : Lay.Sub (VP K M v) (Tz K (LX 2 (D3X K))) := els_x g.Y.2 fun y hy => (tr2_x g.n.2 g.n.2 fun j k hj hk => h y j k hy hj hk).trans up_x
/-- a def by types, its function told -/
theorem fnok_of {S : Sta} {x : Str} {st : Stmt} {cdv oc kV doc pm ct : Value} {od an : Option Addr} {osl : Array (Option Value)} {f : Addr} {N ps : List Str} {k : Nat} {ι : Type} {As : ι → List Rp} {cond : ι → Mu → Prop} {R : ι → Rp}
    (lk : S.K.lookup f = some ⟨oc, od, .func (PySem.W.fnOf x x (defArgs st) (defBody st) (defScope st) .none kV doc pm an cdv ct), osl⟩) (cd : PySem.W.codeIn S.K cdv x = true) (Sc : FnScope N ps (defScope st)) (hN : ps.length ≤ N.length) (hl : ∀ y, (As y).length = ps.length)
    (body : ∀ (b : Bs) (y : ι), cond y b.μ → GS { S with N := N, sc := defScope st, k := k, code := cdv, top := true } b (defBody st) (starts N (As y)) b.μ (fun _ _ => Sub (Is .non) (R y)) (R y)) :
    FnOk S.P S.w S.K S.mg S.base CX0 (k + 1) f (PySem.W.fnOf x x (defArgs st) (defBody st) (defScope st) .none kV doc pm an cdv ct) ps (spOf S As cond R) := by
  refine fn_of lk cd Sc (fun vs H Q E ⟨y, μ, _, _, q, _⟩ => by rw [q.length, hl]) (fun A outer s H vs Q E hr hsp => ?_)
  obtain ⟨y, μ, hh, hc, q, fin⟩ := hsp
  have hX : XOk { S with N := N, sc := defScope st, k := k, code := cdv, top := true } (cxOf CX0 S.P S.w S.K S.mg S.base N x (defScope st) f cdv A outer s H E).nox := ⟨rfl, rfl, rfl, rfl, rfl, rfl, rfl, hr, rfl, fun _ _ => rfl, rfl, rfl, Sc.nd⟩
  refine ⟨_, (TSx.pss (sts := defBody st) hX).nox, ?_⟩
  refine body ⟨μ, view μ H⟩ y hc (L2.start N vs) H _ ⟨⟨?_, q.start, hh⟩, Ext.refl _, fun e he => ⟨e.2, he, Imp.refl _⟩, hh.nd⟩ (fun Γ' μ' σ' H' sb k' _ => ?_) (fun v H' fn => fin v H' fn.hd fn.ex fn.r)
  · unfold L2.start starts
    rw [List.length_append, List.length_append, List.length_map, List.length_map, List.length_replicate, List.length_replicate, q.length]
  · have := k'.fin (R := R y) (v := .non) (sb _ _ rfl)
    exact fin .non H' this.hd this.ex this.r
end K74
set_option Elab.async false
set_option linter.all false
set_option maxRecDepth 100000
set_option maxHeartbeats 1000000

namespace K74
open PySem PySem.Spec PyProof.Rows L2 Gx Lay Rb
theorem n_listX {C : Lay.Ctx} {es : List Expr} {Γ : Sl} {μ : Mu} {pos : Pos} {Ps : List Rp} {R : Rp} {n : Nat} (h : EA C es Γ μ Ps) (hn : Ps.length = n) (hl : n ≤ 100000) (ha : AllS R Ps) : EN C (.List es pos) Γ μ (Els n fun _ => R) := EN.sub (n_listN h hn hl) fun v hp q => Els.sub (fun i hi => AllS.at ha i (by omega)) q
/-- one place anew -/
def put (f : Nat → Rat) (k : Nat) (x : Rat) (i : Nat) : Rat := if i = k then x else f i
theorem put_at {K : PySem.W.Frag} {f : Nat → Rat} {k : Nat} {x : Rat} : Lay.Sub (RatP K x) (RatP K (put f k x ((k : Int)).toNat)) := ratP_eq (if_pos (Int.toNat_natCast k)).symm
theorem put_ne {K : PySem.W.Frag} {f : Nat → Rat} {k i : Nat} {x : Rat} (h : i ≠ ((k : Int)).toNat) : Lay.Sub (RatP K (f i)) (RatP K (put f k x i)) := ratP_eq (if_neg (fun z => h (by rw [z]; exact (Int.toNat_natCast k).symm))).symm
theorem bd_put {f : Nat → Rat} {k n b : Nat} {x : Rat} (h : ∀ i, i < n → Bd b (f i)) (hx : Bd b x) : ∀ i, i < n → Bd b (put f k x i) := fun i hi => by
  unfold put
  split
  · exact hx
  · exact h i hi
theorem dc_nn {r : Rat} (h : Rate r) : 0 ≤ dc r := Rat.num_nonneg.mp (by rw [(dc_pair h).1]; omega)
variable {S : Sta} {cdv : Value} {f c T : Addr}
abbrev spLaw (S : Sta) : Sp := spOf S (ι := Nat × (Nat → Int)) (fun y => [LstF S.K y.1 (II y.2)]) (fun _ _ => True) (fun _ => Is (.bl true))
abbrev s_law : Stmt := topS 55
theorem sc_law : FnScope ["_law_script", "_law_row", "_law_model", "_law_offers", "_law_rate_here", "_law_many", "_law_years", "_law_best", "_law_base", "_law_zero", "_law_values_here", "_law_twice", "_law_year", "_law_j", "_law_k", "_law_line", "_law_other", "_law_weights", "_law_pushed", "_law_lines", "_law_one", "_law_rows", "_law_value"] ["_law_script"] (defScope s_law) := ⟨rfl, rfl, rfl, by decide +kernel, rfl, by decide +kernel, by decide +kernel⟩
theorem m_law {oc kV doc pm ct : Value} {od an : Option Addr} {osl : Array (Option Value)} (lk : S.K.lookup f = some ⟨oc, od, .func (PySem.W.fnOf "law" "law" (defArgs s_law) (defBody s_law) (defScope s_law) .none kV doc pm an cdv ct), osl⟩) (cd : PySem.W.codeIn S.K cdv "law" = true) (B : Bl S) (c_law_taken : Cal S 1 "_law_taken" (spTaken S)) (c_law_plus : Cal S 2 "_law_plus" (sp2 S fun x y => x + y)) (c_law_by : Cal S 2 "_law_by" (sp2 S fun x y => x * y)) (c_law_rate : Cal S 3 "_law_rate" (spRate S)) (c_law_small : Cal S 3 "_law_small" (spSmall S)) (c_best_values : Cal S 12 "best_values" (spBest S)) (c_corrections : Cal S 12 "corrections" (spCor S)) (c_shows_corrections : Cal S 12 "shows_corrections" (spShows S)) (c_law_are_corrections : Cal S 5 "_law_are_corrections" (spLawAre S)) (c_law_alike : Cal S 1 "_law_alike" (spAlike S)) : FnOk S.P S.w S.K S.mg S.base CX0 13 f (PySem.W.fnOf "law" "law" (defArgs s_law) (defBody s_law) (defScope s_law) .none kV doc pm an cdv ct) ["_law_script"] (spLaw S) := by
  refine fnok_of lk cd sc_law (by decide) (fun _ => rfl) ?_
  rintro b ⟨m, g⟩ _
  dsimp only
  refine gs_setN (i := 1) (c := RowC S.K m g) (EN.sub (n_listN (Ps := [LstF S.K m (II g), Is (.int 0), Is (.int 3474), Is (.int 0)]) (n := 4) (ac (e_var (i := 0)) (ac e_int (ac e_int (ac e_int a_nil)))) rfl (by decide)) (fun v h q => Els.sub (fun i hi => ?r1) q)) (fun pr hpr => ?_)
  case r1 =>
    match i, hi with
    | 0, _ => exact Sub.refl _
    | 1, _ => exact fun v h z => ⟨0, z, by decide⟩
    | 2, _ => exact fun v h z => ⟨3474, z, by decide⟩
    | 3, _ => exact fun v h z => ⟨0, z, True.intro⟩
  refine gs_tgtX (Px := fun y : MO => TupF S.K 2 (two (MdP S.K y.val.1) (OfP S.K y.val.1 y.val.2))) (e_call c_law_small (pr, m, g) (a_cons (e_var (i := 1)) a_nil) List.mem_cons_self rfl) (fun y => g_pair (i := 2) (j := 3)) (fun y => ?_)
  obtain ⟨⟨M, o⟩, gd, ho⟩ := y
  dsimp only at gd ho ⊢
  have hn := gd.n
  have hY := gd.Y
  refine gs_par3 (i := 4) (j := 5) (l := 6) (e_call c_law_rate (pr, m, g) (a_cons (e_var (i := 1)) a_nil) List.mem_cons_self rfl) (e_lenT (e_ixT (e_ixT (e_var (i := 2)) e_int (by omega)) e_int (by omega)) rfl B.len) (e_lenT (e_ixT (e_var (i := 2)) e_int (by omega)) rfl B.len) ?_ (by intro env h; cases env; cases h; rfl)
  refine gs_ex (Px := fun r : { r : Rat // Rate r } => RatP S.K r.val) 4 rfl fun rr => ?_
  obtain ⟨r, hr⟩ := rr
  dsimp only
  have cdo : cdO (M, r, o) ((pr, RowC S.K m g) :: b.μ) := ⟨gd, hr, ho⟩
  refine gs_par2 (i := 7) (j := 8) (A := TR S.K M.n (best M r o M.Y)) (B := CorP S.K (M, r, o)) (e_ixT (n := M.Y + 1) (f := fun t => TR S.K M.n (best M r o (M.Y - t))) (e_call c_best_values (M, r, o) (a_cons (e_var (i := 2)) (a_cons (e_var (i := 4)) (a_cons (e_var (i := 3)) a_nil))) cdo rfl) e_int (by omega)) (e_call c_corrections (M, r, o) (a_cons (e_var (i := 2)) (a_cons (e_var (i := 4)) (a_cons (e_var (i := 3)) a_nil))) cdo rfl) ?_ (by intro env h; cases env; cases h; rfl)
  change GS _ _ _ [some (LstF S.K m (II g)), some (Is (.ref pr)), some (MdP S.K M), some (OfP S.K M o), some (RatP S.K r), some (Is (.int (M.n : Int))), some (Is (.int (M.Y : Int))), some (TR S.K M.n (best M r o M.Y)), some (CorP S.K (M, r, o)), none, none, none, none, none, none, none, none, none, none, none, none, none, none] _ _ _
  have bcor : ∀ y j k, y < M.Y → j < M.n → k < M.n → Bd 375 (cor M r o y j k) := fun y j k hy hj hk => bd_cor gd hr ho hy hj hk
  have bX : Lay.Sub (CorP S.K (M, r, o)) (Tz S.K (LX 2 (D3X S.K))) := vp_x gd fun y j k hy hj hk => (bcor y j k hy hj hk).mono (by decide)
  refine gs_set (i := 9) (P := D4X S.K) ?zr0 ?_
  case zr0 =>
    refine EE.sub (P := VP S.K M fun _ _ _ => 0) ?_ ?_
    rotate_left
    · exact ((vp_x (v := fun _ _ _ => 0) gd fun y j k _ _ _ => bd_zero.mono (by decide)).trans up_x)
    refine e_rep (n := M.Y) (P := TupF S.K M.n fun _ => TR S.K M.n fun _ => 0) ?_ ?_ ?_
    rotate_left
    · exact e_var (i := 6)
    · omega
    refine e_tup1 ?_
    refine e_rep (n := M.n) (P := TR S.K M.n fun _ => 0) ?_ ?_ ?_
    rotate_left
    · exact e_var (i := 5)
    · omega
    refine e_tup1 ?_
    refine e_rep (n := M.n) (P := RatP S.K 0) ?_ ?_ ?_
    rotate_left
    · exact e_var (i := 5)
    · omega
    exact (e_tup1 ((e_tup2 e_int e_int).sub (pair_ratP (q := 0) rfl rfl)))
  refine gs_setN (i := 10) (c := Els 10 fun _ => D4X S.K) (n_listX (Ps := [D4X S.K, D4X S.K, D4X S.K, D4X S.K, D4X S.K, D4X S.K, D4X S.K, D4X S.K, D4X S.K, D4X S.K]) ?vals rfl (Nat.le_of_ble_eq_true rfl) ⟨Sub.refl _, Sub.refl _, Sub.refl _, Sub.refl _, Sub.refl _, Sub.refl _, Sub.refl _, Sub.refl _, Sub.refl _, Sub.refl _, True.intro⟩) (fun pv hpv => ?_)
  case vals =>
      refine ac ?_ ?_ rfl
      · exact EE.sub (e_var (i := 8)) (bX.trans up_x)
      refine ac ?_ ?_ rfl
      · exact EE.sub (n_listT (c := Els M.Y fun t => TupF S.K M.n fun j => TR S.K M.n (cor M r o t j)) (e_var (i := 8)) rfl B.list).ee (lst_no.trans (no_x okl_none))
      refine ac ?_ ?_ rfl
      · exact EE.sub (e_slice (i := some (1)) (j := none) (EE.sub (e_var (i := 8)) bX) e_int True.intro (fun xs h q => cut_x q _ _)) up_x
      refine ac ?_ ?_ rfl
      · exact EE.sub (e_cat (EE.sub (e_var (i := 8)) bX) (e_slice (i := none) (j := some (1)) (EE.sub (e_var (i := 8)) bX) True.intro e_int (fun xs h q => cut_x q _ _)) (app_x (by decide))) up_x
      refine ac ?_ ?_ rfl
      · exact e_var (i := 9)
      refine ac ?_ ?_ rfl
      · exact EE.sub e_non (non_no.trans (no_x okl_none))
      refine ac ?_ ?_ rfl
      · exact EE.sub (e_tupN a_nil) ((els_x (N := 2) (Q := D3X S.K) (by decide) fun i hi => absurd hi (Nat.not_lt_zero i)).trans up_x)
      refine ac ?_ ?_ rfl
      · exact EE.sub e_int (int_no.trans (no_x okl_none))
      refine ac ?_ ?_ rfl
      · exact EE.sub e_dict (dict_no.trans (no_x okl_none))
      refine ac ?_ ?_ rfl
      · exact EE.sub (e_rev (EE.sub (e_var (i := 8)) bX) rev_x) up_x
      exact a_nil
  refine gs_set (i := 11) (P := D4X S.K) ?tw0 ?_
  case tw0 =>
    have bdt : Bd 2 (Rat.divInt 2 1) := ⟨by decide +kernel, by decide +kernel⟩
    have bt : ∀ y j k, y < M.Y → j < M.n → k < M.n → Bd 400 (Rat.divInt 2 1 * cor M r o y j k) := fun y j k hy hj hk => (bd_mul bdt (bcor y j k hy hj hk)).mono (by decide)
    refine EE.sub (P := VP S.K M fun y j k => Rat.divInt 2 1 * cor M r o y j k) ?_ ?_
    rotate_left
    · exact (vp_x gd bt).trans up_x
    refine e_tupleL ?_ rfl B.tuple
    apply EN.ee
    refine n_lc (n := M.Y) (Rf := fun y => TupF S.K M.n fun j => TR S.K M.n fun k => Rat.divInt 2 1 * cor M r o y j k) (own := [("_law_rows", 21)]) (i_tup (n := M.Y) (f := fun t => TupF S.K M.n fun j => TR S.K M.n (cor M r o t j)) (e_var (i := 8))) (by omega) (fun i hi => g_name (i := 21)) (by decide) (fun y hy D => ?_)
    with_reducible refine e_le (Γ' := [some (LstF S.K m (II g)), some (Is (.ref pr)), some (MdP S.K M), some (OfP S.K M o), some (RatP S.K r), some (Is (.int (M.n : Int))), some (Is (.int (M.Y : Int))), some (TR S.K M.n (best M r o M.Y)), some (CorP S.K (M, r, o)), some (D4X S.K), some (Is (.ref pv)), none, none, none, none, none, none, none, none, none, none, some (TupF S.K M.n fun j => TR S.K M.n (cor M r o y j)), none]) ?_ ?_
    · exact ⟨Sub.refl _, Sub.refl _, Sub.refl _, Sub.refl _, Sub.refl _, Sub.refl _, Sub.refl _, Sub.refl _, Sub.refl _, Sub.refl _, Sub.refl _, Sub.refl _, True.intro⟩
    refine e_tupleL ?_ rfl B.tuple
    apply EN.ee
    refine n_lc (n := M.n) (Rf := fun j => TR S.K M.n fun k => Rat.divInt 2 1 * cor M r o y j k) (own := [("_law_line", 15)]) (i_tup (n := M.n) (f := fun j => TR S.K M.n (cor M r o y j)) (e_var (i := 21))) (by omega) (fun i hi => g_name (i := 15)) (by decide) (fun j hj D => ?_)
    with_reducible refine e_le (Γ' := [some (LstF S.K m (II g)), some (Is (.ref pr)), some (MdP S.K M), some (OfP S.K M o), some (RatP S.K r), some (Is (.int (M.n : Int))), some (Is (.int (M.Y : Int))), some (TR S.K M.n (best M r o M.Y)), some (CorP S.K (M, r, o)), some (D4X S.K), some (Is (.ref pv)), none, none, none, none, some (TR S.K M.n (cor M r o y j)), none, none, none, none, none, some (TupF S.K M.n fun j => TR S.K M.n (cor M r o y j)), none]) ?_ ?_
    · exact ⟨Sub.refl _, Sub.refl _, Sub.refl _, Sub.refl _, Sub.refl _, Sub.refl _, Sub.refl _, Sub.refl _, Sub.refl _, Sub.refl _, Sub.refl _, Sub.refl _, Sub.refl _, True.intro⟩
    refine e_tupleL ?_ rfl B.tuple
    apply EN.ee
    refine n_lc (n := M.n) (Rf := fun k => RatP S.K (Rat.divInt 2 1 * cor M r o y j k)) (own := [("_law_one", 20)]) (i_tup (n := M.n) (f := fun k => RatP S.K (cor M r o y j k)) (e_var (i := 15))) (by omega) (fun i hi => g_name (i := 20)) (by decide) (fun k hk D => ?_)
    exact e_call c_law_by (Rat.divInt 2 1, cor M r o y j k) (a_cons ((e_tup2 e_int e_int).sub (pair_ratP (q := Rat.divInt 2 1) (by decide) (by decide))) (a_cons (e_var (i := 20)) a_nil)) ⟨bdt.mono (by decide), (bcor y j k hy hj hk).mono (by decide)⟩ rfl
  refine gs_append [] _ rfl (e_var (i := 10)) (e_var (i := 11)) (Sub.refl _) (by omega) hpv ?_
  refine gs_par3 (i := 12) (j := 13) (l := 14) (e_call c_law_taken (pr, m, g, M.Y) (a_cons (e_var (i := 1)) (a_cons (e_var (i := 6)) a_nil)) ⟨(List.mem_cons_of_mem _ List.mem_cons_self), (by omega : 0 < M.Y), (by omega : M.Y ≤ 1000)⟩ rfl) (e_call c_law_taken (pr, m, g, M.n) (a_cons (e_var (i := 1)) (a_cons (e_var (i := 5)) a_nil)) ⟨(List.mem_cons_of_mem _ List.mem_cons_self), (by omega : 0 < M.n), (by omega : M.n ≤ 1000)⟩ rfl) (e_call c_law_taken (pr, m, g, M.n) (a_cons (e_var (i := 1)) (a_cons (e_var (i := 5)) a_nil)) ⟨(List.mem_cons_of_mem _ List.mem_cons_self), (by omega : 0 < M.n), (by omega : M.n ≤ 1000)⟩ rfl) ?_ (by intro env h; cases env; cases h; rfl)
  refine gs_ex (Px := fun z : _root_.Fin M.Y => Is (.int ((z.val : Nat) : Int))) 12 rfl fun zy => ?_
  refine gs_ex (Px := fun z : _root_.Fin M.n => Is (.int ((z.val : Nat) : Int))) 13 rfl fun zj => ?_
  refine gs_ex (Px := fun z : _root_.Fin M.n => Is (.int ((z.val : Nat) : Int))) 14 rfl fun zk => ?_
  obtain ⟨y, hy⟩ := zy
  obtain ⟨j, hj⟩ := zj
  obtain ⟨k, hk⟩ := zk
  dsimp only
  change GS _ _ _ [some (LstF S.K m (II g)), some (Is (.ref pr)), some (MdP S.K M), some (OfP S.K M o), some (RatP S.K r), some (Is (.int (M.n : Int))), some (Is (.int (M.Y : Int))), some (TR S.K M.n (best M r o M.Y)), some (CorP S.K (M, r, o)), some (D4X S.K), some (Is (.ref pv)), some (D4X S.K), some (Is (.int (y : Int))), some (Is (.int (j : Int))), some (Is (.int (k : Int))), none, none, none, none, none, none, none, none] _ _ _
  have bc : ∀ k, k < M.n → Bd 375 (cor M r o y j k) := fun k hk => bcor y j k hy hj hk
  have bd3 : Bd 2 (Rat.divInt 1 3) := ⟨by decide +kernel, by decide +kernel⟩
  have lX : Lay.Sub (TR S.K M.n (cor M r o y j)) (Tz S.K (LX 2 (D1X S.K))) := tr_x hn.2 fun k hk => (bc k hk).mono (by decide)
  have rX : Lay.Sub (TupF S.K M.n fun j => TR S.K M.n (cor M r o y j)) (Tz S.K (LX 2 (D2X S.K))) := tr2_x hn.2 hn.2 fun j k hj hk => (bcor y j k hy hj hk).mono (by decide)
  refine gs_set (i := 15) (P := TR S.K M.n (cor M r o y j)) (e_ixT (n := M.n) (f := fun j => TR S.K M.n (cor M r o y j)) (e_ixT (n := M.Y) (f := fun t => TupF S.K M.n fun j => TR S.K M.n (cor M r o t j)) (e_var (i := 8)) (e_var (i := 12)) (by omega)) (e_var (i := 13)) (by omega)) ?_
  obtain ⟨ot, hot, eot⟩ : ∃ ot : Nat, ot < M.n ∧ ((k : Int) + 1) % (M.n : Int) = (ot : Int) := ⟨(k + 1) % M.n, Nat.mod_lt _ (by omega), by rw [Int.natCast_emod]; rfl⟩
  refine gs_set (i := 16) (P := Is (.int (ot : Int))) (EE.is (e_mod (e_toInt (e_add (i := (k : Int)) (j := 1) (e_var (i := 14)) e_int) rfl B.int) (e_var (i := 5)) (by omega)) (congrArg V.int eot)) ?_
  refine gs_set (i := 17) (P := T1 S.K M.n (M.st y j)) (e_ixT (n := M.n) (f := fun j => T1 S.K M.n (M.st y j)) (e_ixT (n := M.Y) (f := fun t => T2 S.K M.n M.n (M.st t)) (e_ixT (e_var (i := 2)) e_int (by decide)) (e_var (i := 12)) (by omega)) (e_var (i := 13)) (by omega)) ?_
  refine gs_setN (i := 18) (c := Els M.n fun k => RatP S.K (cor M r o y j k)) (n_listT (c := Els M.n fun k => RatP S.K (cor M r o y j k)) (e_var (i := 15)) rfl B.list) (fun pp hpp => ?_)
  have bw : ∀ i, Bd 10 ((M.st y j i : Int) : Rat) := fun i => bd_of_int (by have := gd.st y j i; omega)
  have bw2 : ∀ i, Bd 10 ((0 - M.st y j i : Int) : Rat) := fun i => bd_of_int (by have := gd.st y j i; omega)
  have b1 : ∀ i, i < M.n → Bd 386 (put (cor M r o y j) k (cor M r o y j k + (M.st y j ot : Rat)) i) := bd_put (fun i hi => (bc i hi).mono (by decide)) ((bd_add (bc k hk) (bw ot)).mono (by decide))
  refine gs_setItem (j := (k : Int)) (g := fun i => RatP S.K (put (cor M r o y j) k (cor M r o y j k + (M.st y j ot : Rat)) i)) [] _ rfl (e_call c_law_plus (cor M r o y j k, (M.st y j ot : Rat)) (a_cons (e_ixM (n := M.n) (f := fun k => RatP S.K (cor M r o y j k)) List.mem_cons_self (e_var (i := 18)) (e_var (i := 14)) (by omega)) (a_cons (EE.sub (e_tup2 (e_ixT (n := M.n) (f := II (M.st y j)) (e_var (i := 17)) (e_var (i := 16)) (by omega)) e_int) int_ratP) a_nil)) ⟨(bc k hk).mono (by decide), (bw ot).mono (by decide)⟩ rfl) (e_var (i := 18)) (e_var (i := 14)) (by omega) put_at (fun i hi => put_ne hi) (Keeps.of hpp) ?_
  generalize put (cor M r o y j) k (cor M r o y j k + (M.st y j ot : Rat)) = f1 at b1 ⊢
  have b2 : ∀ i, i < M.n → Bd 400 (put f1 ot (f1 ot + ((0 - M.st y j k : Int) : Rat)) i) := bd_put (fun i hi => (b1 i hi).mono (by decide)) ((bd_add (b1 ot hot) (bw2 k)).mono (by decide))
  refine gs_setItem (j := (ot : Int)) (g := fun i => RatP S.K (put f1 ot (f1 ot + ((0 - M.st y j k : Int) : Rat)) i)) [] _ rfl (e_call c_law_plus (f1 ot, ((0 - M.st y j k : Int) : Rat)) (a_cons (e_ixM (n := M.n) (f := fun k => RatP S.K (f1 k)) List.mem_cons_self (e_var (i := 18)) (e_var (i := 16)) (by omega)) (a_cons (EE.sub (e_tup2 (e_sub e_int (e_ixT (n := M.n) (f := II (M.st y j)) (e_var (i := 17)) (e_var (i := 14)) (by omega))) e_int) int_ratP) a_nil)) ⟨(b1 ot hot).mono (by decide), (bw2 k).mono (by decide)⟩ rfl) (e_var (i := 18)) (e_var (i := 16)) (by omega) put_at (fun i hi => put_ne hi) (Keeps.of hpp) ?_
  generalize put f1 ot (f1 ot + ((0 - M.st y j k : Int) : Rat)) = f2 at b2 ⊢
  refine gs_setN (i := 19) (c := Els 4 fun _ => D2X S.K) (n_listX (Ps := [D2X S.K, D2X S.K, D2X S.K, D2X S.K]) ?lines rfl (Nat.le_of_ble_eq_true rfl) ⟨Sub.refl _, Sub.refl _, Sub.refl _, Sub.refl _, True.intro⟩) (fun pl hpl => ?_)
  case lines =>
      refine ac ?_ ?_ rfl
      · exact EE.sub (e_tupleM (c := Els M.n fun i => RatP S.K (f2 i)) List.mem_cons_self (e_var (i := 18)) rfl B.tuple) ((tr_x hn.2 b2).trans up_x)
      refine ac ?_ ?_ rfl
      · exact EE.sub (n_listT (c := Els M.n fun k => RatP S.K (cor M r o y j k)) (e_var (i := 15)) rfl B.list).ee (lst_no.trans (no_x okl_none))
      refine ac ?_ ?_ rfl
      · exact EE.sub (e_slice (i := some (1)) (j := none) (EE.sub (e_var (i := 15)) lX) e_int True.intro (fun xs h q => cut_x q _ _)) up_x
      refine ac ?_ ?_ rfl
      · exact EE.sub (e_cat (EE.sub (e_var (i := 15)) lX) (EE.sub (e_tup1 (EE.sub (e_tup2 e_int e_int) ((pair_ratP (q := 0) rfl rfl).trans (rat_x (bd_zero.mono (by decide)))))) (els_x (N := 1) (Q := D1X S.K) (by decide) fun i hi => Sub.refl _)) (app_x (by decide))) up_x
      exact a_nil
  refine gs_drop [(pl, _)] _ rfl hpp ?_
  refine gs_loop (fun i => [some (LstF S.K m (II g)), some (Is (.ref pr)), some (MdP S.K M), some (OfP S.K M o), some (RatP S.K r), some (Is (.int (M.n : Int))), some (Is (.int (M.Y : Int))), some (TR S.K M.n (best M r o M.Y)), some (CorP S.K (M, r, o)), some (D4X S.K), some (Is (.ref pv)), some (D4X S.K), some (Is (.int (y : Int))), some (Is (.int (j : Int))), some (Is (.int (k : Int))), some (TR S.K M.n (cor M r o y j)), none, none, none, some (Is (.ref pl)), none, none, none]) (fun i => (pl, Els (4 + i) fun _ => D2X S.K) :: (pv, Els (11) fun _ => D4X S.K) :: (pr, RowC S.K m g) :: b.μ) (fun _ => True) (i_list (n := 6) (f := fun _ => D1X S.K) (n_listX (Ps := [D1X S.K, D1X S.K, D1X S.K, D1X S.K, D1X S.K, D1X S.K]) ?odd rfl (Nat.le_of_ble_eq_true rfl) ⟨Sub.refl _, Sub.refl _, Sub.refl _, Sub.refl _, Sub.refl _, Sub.refl _, True.intro⟩).ee) (fun i hi => g_name (i := 20)) ⟨Sub.refl _, Sub.refl _, Sub.refl _, Sub.refl _, Sub.refl _, Sub.refl _, Sub.refl _, Sub.refl _, Sub.refl _, Sub.refl _, Sub.refl _, Sub.refl _, Sub.refl _, Sub.refl _, Sub.refl _, Sub.refl _, Sub.refl _, True.intro⟩ rfl True.intro (fun i hi _ => ?_) (fun _ => ?_) (fun i Γ _ l => l.set _ _)
  case odd =>
      refine ac ?_ ?_ rfl
      · exact EE.sub (e_call c_law_plus (cor M r o y j k, Rat.divInt 1 3) (a_cons (e_ixT (n := M.n) (f := fun k => RatP S.K (cor M r o y j k)) (e_var (i := 15)) (e_var (i := 14)) (by omega)) (a_cons ((e_tup2 e_int e_int).sub (pair_ratP (q := Rat.divInt 1 3) (by decide) (by decide))) a_nil)) ⟨(bc k hk).mono (by decide), bd3.mono (by decide)⟩ rfl) (rat_x ((bd_add (bc k hk) bd3).mono (by decide)))
      refine ac ?_ ?_ rfl
      · exact EE.sub e_int (int_no.trans (no_x ok1_none))
      refine ac ?_ ?_ rfl
      · exact EE.sub e_non (non_no.trans (no_x ok1_none))
      refine ac ?_ ?_ rfl
      · exact EE.sub (e_tup2 e_int e_int) odd22
      refine ac ?_ ?_ rfl
      · exact EE.sub (n_listN (n := 2) (Ps := [Is (.int 0), Is (.int 1)]) (ac e_int (ac e_int a_nil)) rfl (by decide)).ee (lst_no.trans (no_x ok1_none))
      refine ac ?_ ?_ rfl
      · exact EE.sub (e_tup2 e_bl e_int) oddT1
      exact a_nil
  · refine gs_append [] _ rfl (e_var (i := 19)) (EE.sub (e_cat (e_cat (e_slice (i := none) (j := some ((k : Int))) (EE.sub (e_var (i := 15)) lX) True.intro (e_var (i := 14)) (fun xs h q => cut_x q _ _)) (EE.sub (e_tup1 (e_var (i := 20))) (els_x (N := 1) (Q := D1X S.K) (by decide) fun i hi => Sub.refl _)) (app_x (by decide))) (e_slice (i := some ((k : Int) + 1)) (j := none) (EE.sub (e_var (i := 15)) lX) (e_add (i := (k : Int)) (j := 1) (e_var (i := 14)) e_int) True.intro (fun xs h q => cut_x q _ _)) (app_x (by decide))) up_x) (Sub.refl _) (by omega) hpl ?_
    exact gs_nil ⟨⟨Sub.refl _, Sub.refl _, Sub.refl _, Sub.refl _, Sub.refl _, Sub.refl _, Sub.refl _, Sub.refl _, Sub.refl _, Sub.refl _, Sub.refl _, Sub.refl _, Sub.refl _, Sub.refl _, Sub.refl _, Sub.refl _, Sub.refl _, True.intro⟩, rfl, True.intro⟩
  · refine gs_freeze 19 [] _ rfl rfl hpl ?_
    refine gs_loop (fun i => [some (LstF S.K m (II g)), some (Is (.ref pr)), some (MdP S.K M), some (OfP S.K M o), some (RatP S.K r), some (Is (.int (M.n : Int))), some (Is (.int (M.Y : Int))), some (TR S.K M.n (best M r o M.Y)), some (CorP S.K (M, r, o)), some (D4X S.K), some (Is (.ref pv)), some (D4X S.K), some (Is (.int (y : Int))), some (Is (.int (j : Int))), some (Is (.int (k : Int))), some (TR S.K M.n (cor M r o y j)), none, none, none, some (LstF S.K 10 fun _ => D2X S.K), none, none, none]) (fun i => (pv, Els (11 + i) fun _ => D4X S.K) :: (pr, RowC S.K m g) :: b.μ) (fun _ => True) (i_list (n := 10) (f := fun _ => D2X S.K) (e_var (i := 19))) (fun i hi => g_name (i := 20)) ⟨Sub.refl _, Sub.refl _, Sub.refl _, Sub.refl _, Sub.refl _, Sub.refl _, Sub.refl _, Sub.refl _, Sub.refl _, Sub.refl _, Sub.refl _, Sub.refl _, Sub.refl _, Sub.refl _, Sub.refl _, Sub.refl _, Sub.refl _, True.intro⟩ rfl True.intro (fun i hi _ => ?_) (fun _ => ?_) (fun i Γ _ l => l.set _ _)
    · refine gs_set (i := 21) (P := D3X S.K) (EE.sub (e_cat (e_cat (e_slice (i := none) (j := some ((j : Int))) (EE.sub (e_ixT (n := M.Y) (f := fun t => TupF S.K M.n fun j => TR S.K M.n (cor M r o t j)) (e_var (i := 8)) (e_var (i := 12)) (by omega)) rX) True.intro (e_var (i := 13)) (fun xs h q => cut_x q _ _)) (EE.sub (e_tup1 (e_var (i := 20))) (els_x (N := 1) (Q := D2X S.K) (by decide) fun i hi => Sub.refl _)) (app_x (by decide))) (e_slice (i := some ((j : Int) + 1)) (j := none) (EE.sub (e_ixT (n := M.Y) (f := fun t => TupF S.K M.n fun j => TR S.K M.n (cor M r o t j)) (e_var (i := 8)) (e_var (i := 12)) (by omega)) rX) (e_add (i := (j : Int)) (j := 1) (e_var (i := 13)) e_int) True.intro (fun xs h q => cut_x q _ _)) (app_x (by decide))) up_x) ?_
      refine gs_append [] _ rfl (e_var (i := 10)) (EE.sub (e_cat (e_cat (e_slice (i := none) (j := some ((y : Int))) (EE.sub (e_var (i := 8)) bX) True.intro (e_var (i := 12)) (fun xs h q => cut_x q _ _)) (EE.sub (e_tup1 (e_var (i := 21))) (els_x (N := 1) (Q := D3X S.K) (by decide) fun i hi => Sub.refl _)) (app_x (by decide))) (e_slice (i := some ((y : Int) + 1)) (j := none) (EE.sub (e_var (i := 8)) bX) (e_add (i := (y : Int)) (j := 1) (e_var (i := 12)) e_int) True.intro (fun xs h q => cut_x q _ _)) (app_x (by decide))) up_x) (Sub.refl _) (by omega) hpv ?_
      exact gs_nil ⟨⟨Sub.refl _, Sub.refl _, Sub.refl _, Sub.refl _, Sub.refl _, Sub.refl _, Sub.refl _, Sub.refl _, Sub.refl _, Sub.refl _, Sub.refl _, Sub.refl _, Sub.refl _, Sub.refl _, Sub.refl _, Sub.refl _, Sub.refl _, True.intro⟩, rfl, True.intro⟩
    · refine gs_freeze 10 [] _ rfl rfl hpv ?_
      refine gs_loop (fun i => [some (LstF S.K m (II g)), some (Is (.ref pr)), some (MdP S.K M), some (OfP S.K M o), some (RatP S.K r), some (Is (.int (M.n : Int))), some (Is (.int (M.Y : Int))), some (TR S.K M.n (best M r o M.Y)), some (CorP S.K (M, r, o)), some (D4X S.K), some (LstF S.K 21 fun _ => D4X S.K), some (D4X S.K), some (Is (.int (y : Int))), some (Is (.int (j : Int))), some (Is (.int (k : Int))), some (TR S.K M.n (cor M r o y j)), none, none, none, none, none, none, none]) (fun i => (pr, RowC S.K m g) :: b.μ) (fun _ => True) (i_list (n := 21) (f := fun _ => D4X S.K) (e_var (i := 10))) (fun i hi => g_name (i := 22)) ⟨Sub.refl _, Sub.refl _, Sub.refl _, Sub.refl _, Sub.refl _, Sub.refl _, Sub.refl _, Sub.refl _, Sub.refl _, Sub.refl _, Sub.refl _, Sub.refl _, Sub.refl _, Sub.refl _, Sub.refl _, Sub.refl _, True.intro⟩ rfl True.intro (fun i hi _ => ?_) (fun _ => ?_) (fun i Γ _ l => l.set _ _)
      · refine gs_ex (Px := fun d : { d : D4 // OKL (OKL (OKL OK1)) d } => DP4 S.K d.val) 22 rfl fun dd => ?_
        obtain ⟨d, hd⟩ := dd
        dsimp only
        obtain ⟨sm, rw'⟩ := ok4_small hd
        have same : shows M r o d = lawSays M r o d := says_same gd (dc_nn hr) d
        refine gs_out (k := false) (ET.is (t_not (t_val (e_call c_law_alike (shows M r o d, lawSays M r o d) (a_cons (e_call c_shows_corrections ((M, r, o), d) (a_cons (e_var (i := 2)) (a_cons (e_var (i := 4)) (a_cons (e_var (i := 3)) (a_cons (e_var (i := 22)) a_nil)))) ⟨cdo, sm⟩ rfl) (a_cons (e_call c_law_are_corrections ((M, r, o), d) (a_cons (e_var (i := 2)) (a_cons (e_var (i := 3)) (a_cons (e_var (i := 4)) (a_cons (e_var (i := 7)) (a_cons (e_var (i := 22)) a_nil))))) ⟨cdo, sm, rw'⟩ rfl) a_nil)) True.intro rfl))) ?z) (fun h => by cases h) (fun _ => gs_nil ⟨⟨Sub.refl _, Sub.refl _, Sub.refl _, Sub.refl _, Sub.refl _, Sub.refl _, Sub.refl _, Sub.refl _, Sub.refl _, Sub.refl _, Sub.refl _, Sub.refl _, Sub.refl _, Sub.refl _, Sub.refl _, Sub.refl _, True.intro⟩, rfl, True.intro⟩)
        case z => rw [same]; simp
      · exact gs_ret e_bl
end K74
set_option Elab.async false
set_option linter.all false
set_option maxRecDepth 100000
set_option maxHeartbeats 0

namespace K74
open PySem PySem.Spec PyProof.Rows L2 Gx Lay Rb
/-! ### what the top leaves -/
abbrev ldd (x : Str) (st : Stmt) : He.DefD := ⟨(x, none), x, x, defArgs st, defBody st, defScope st, [], []⟩
def lfn0 : List He.DefD := [ldd "ratio" s_ratio, ldd "plus" s_plus, ldd "minus" s_minus, ldd "by" s_by, ldd "less" s_less, ldd "total" s_total, ldd "power" s_power, ldd "is_in" s_is_in, ldd "growth" s_growth, ldd "greater" s_greater, ldd "chance" s_chance, ldd "is_square" s_is_square, ldd "are_steps" s_are_steps, ldd "are_rows" s_are_rows, ldd "need_model" s_need_model, ldd "is_ratio" s_is_ratio, ldd "need_rate" s_need_rate, ldd "need_offers" s_need_offers, ldd "staying" s_staying, ldd "tables_of" s_tables_of, ldd "best_values" s_best_values, ldd "corrections" s_corrections, ldd "are_corrections" s_are_corrections, ldd "greatest_paid" s_greatest_paid, ldd "shows_corrections" s_shows_corrections, ldd "_law_ratio" s_law_ratio, ldd "_law_plus" s_law_plus, ldd "_law_by" s_law_by, ldd "_law_below" s_law_below, ldd "_law_alike" s_law_alike]
def lfn1 : List He.DefD := [ldd "_law_paid" s_law_paid, ldd "_law_taken" s_law_taken, ldd "_law_pick" s_law_pick, ldd "_law_rate" s_law_rate, ldd "_law_paths" s_law_paths, ldd "_law_are_corrections" s_law_are_corrections, ldd "_law_small" s_law_small, ldd "law" s_law]
def lfn : List He.DefD := lfn0 ++ lfn1
def lfa0 : List He.Fa := [.glo "ratio", .glo "plus", .glo "minus", .glo "by", .glo "less", .glo "total", .glo "power", .glo "is_in", .glo "growth", .glo "greater", .glo "chance", .glo "is_square", .glo "are_steps", .glo "are_rows", .glo "need_model", .glo "is_ratio", .glo "need_rate", .glo "need_offers", .glo "staying", .glo "tables_of", .glo "best_values", .glo "corrections", .glo "are_corrections", .glo "greatest_paid", .glo "shows_corrections", .glo "_law_ratio", .glo "_law_plus", .glo "_law_by", .glo "_law_below", .glo "_law_alike"]
def lfa1 : List He.Fa := [.glo "_law_paid", .glo "_law_taken", .glo "_law_pick", .glo "_law_rate", .glo "_law_paths", .glo "_law_are_corrections", .glo "_law_small", .glo "law", .free "range", .free "len", .free "zip", .free "enumerate", .free "sum", .free "any", .free "all", .free "abs", .free "int", .free "bool", .free "tuple", .free "list", .free "isinstance", .free "str", .int "MOST_RATE" 1000, .int "MOST_YEARS" 8, .int "MOST_STATES" 4, .int "MOST_WEIGHT" 20, .int "MOST_PAID" 1000]
def lfa : List He.Fa := lfa0 ++ lfa1
def ltf : List He.Defn := [("is_square", none), ("are_steps", none), ("are_rows", none), ("need_model", none), ("is_ratio", none), ("are_corrections", none), ("shows_corrections", none)]
def lex (K : PySem.W.Frag) : Bool := He.eqO (PySem.W.nsIn K mainGlobals "gcd") (some (some (.builtin "math.gcd")))
def loose0 : List Str := ["LifeError", "BadRate", "BadModel", "BadOffers", "MOST_RATE", "MOST_YEARS", "MOST_STATES", "MOST_WEIGHT", "MOST_PAID", "_law_sum", "_law_values", "ratio", "plus", "minus", "by", "less", "total", "power", "is_in", "growth", "greater", "chance", "is_square", "are_steps", "are_rows", "need_model", "is_ratio", "need_rate", "need_offers", "staying"]
def loose1 : List Str := ["tables_of", "best_values", "corrections", "are_corrections", "greatest_paid", "shows_corrections", "_law_ratio", "_law_plus", "_law_by", "_law_below", "_law_alike", "_law_paid", "_law_taken", "_law_pick", "_law_rate", "_law_paths", "_law_are_corrections", "_law_small"]
def loose : List Str := loose0 ++ loose1
abbrev lR : PySem.W.OpenRow := PySem.W.OpenLaw.row PySem.Challenge.rw_actuarium_k74_whole_corrections_judged
abbrev lhk : PySem.W.Hook := He.hookX 2 lfa lfn [] ltf lex
def lob (s : PySem.W.SharedT) : He.AlX := He.obsX 2 lfa lfn [] ltf lex (HandSHeadRun.getT s)
theorem lob_eq (s : PySem.W.SharedT) : lob s = lhk.obs s.abs := He.obsX_eq (HandSHeadRun.getT_eq s)
theorem lrun (w : World) : HandSHeadRun.RunEqI lR (PySem.W.view lR.prog [0, 55]) lhk lob 20000 loose w := by
  unfold HandSHeadRun.RunEqI
  kernel_rfl

/-! ### facts -/
section
variable {K : PySem.W.Frag} {h : Heap} {mg : Str → Option Value}
theorem funA_of {P : Program} {w : World} {base : Heap} {ts : List Addr} {x : Str} {st : Stmt} {fd : FuncData} (F : FunD K x x (defArgs st) (defBody st) (defScope st) [] [] (He.ga K x) fd) (g : mg x = some (.ref (He.ga K x))) : FunA ⟨P, w, K, mg, base, ts⟩ x st (.ref (He.codeOf K (x, none))) (He.ga K x) := by
  obtain ⟨oc, od, dV, kV, doc, pm, an, cdv, ct, osl, rfl, lk, hcd, hd, _⟩ := F.ex
  obtain ⟨c, rfl⟩ := He.codeIn_ref hcd
  have e : He.codeOf K (x, none) = c := He.codeOf_eq lk rfl
  rw [e]
  rcases hd with ⟨_, rfl⟩ | ⟨z, _⟩
  · exact ⟨⟨oc, od, an, kV, doc, pm, ct, osl, lk⟩, hcd, F.kp, g⟩
  · exact absurd rfl z
theorem gn_of {P : Program} {w : World} {base : Heap} {x : Str} (TB : ∀ p ∈ ltf.map (He.cT K), LamX.TabB base mg p.1 p.2) (hx : ((x, none) : He.Defn) ∈ ltf) : Gn ⟨P, w, K, mg, base, (ltf.map (He.cT K)).map (·.2)⟩ (He.codeOf K (x, none)) (He.tabOf K (He.codeOf K (x, none))) := by
  have hm : He.cT K (x, none) ∈ ltf.map (He.cT K) := List.mem_map.mpr ⟨_, hx, rfl⟩
  have t := TB _ hm
  obtain ⟨bm, o, h1, h2, _, _, h5, h6, h7, h8⟩ := t.bm
  exact ⟨⟨bm, o, h1, h2, h5, h6, h7, h8⟩, t.code, List.mem_map.mpr ⟨_, hm, rfl⟩⟩
end
theorem view_nil (H : Hp) : view [] H = H := by
  funext a
  exact hide_out List.not_mem_nil
theorem ints_xs {K : PySem.W.Frag} {ns : List Int} {H : Hp} : (Els ns.length (II fun i => ns.getD i 0)).p (ns.map V.int) H := ⟨List.length_map _, fun i x hx => by
  rw [List.getElem?_map] at hx
  cases e : ns[i]? with
  | none => rw [e] at hx; cases hx
  | some z =>
    rw [e] at hx
    cases hx
    show V.int z = V.int (ns.getD i 0)
    rw [List.getD_eq_getElem?_getD, e]
    rfl⟩
theorem tb_empty {H : Hp} {P : Addr} (h : H P = some (.tbl #[])) : Tb 2 H P := ⟨#[], h, by trivial, fun pos cv q => by cases q⟩

theorem lfacts {w : World} {K : PySem.W.Frag} {h : Heap} {mg : Str → Option Value} {fl : Addr} (X : K.In h) (G : h.Ns mainGlobals mg) (hfa : mg ("law" : Str) = some (.ref fl)) (c : He.SaysX lfa lfn [] ltf lex w h K) : LamX.LawAtS PySem.Challenge.rw_actuarium_k74_whole_corrections_judged w K CX0 13 63 "_law_script" mg fl h := by
  have cd := c.t.d
  have g0 := He.glo_ok X G (cd.fact 0 (f := .glo "ratio") rfl)
  have g1 := He.glo_ok X G (cd.fact 1 (f := .glo "plus") rfl)
  have g2 := He.glo_ok X G (cd.fact 2 (f := .glo "minus") rfl)
  have g3 := He.glo_ok X G (cd.fact 3 (f := .glo "by") rfl)
  have g4 := He.glo_ok X G (cd.fact 4 (f := .glo "less") rfl)
  have g5 := He.glo_ok X G (cd.fact 5 (f := .glo "total") rfl)
  have g6 := He.glo_ok X G (cd.fact 6 (f := .glo "power") rfl)
  have g7 := He.glo_ok X G (cd.fact 7 (f := .glo "is_in") rfl)
  have g8 := He.glo_ok X G (cd.fact 8 (f := .glo "growth") rfl)
  have g9 := He.glo_ok X G (cd.fact 9 (f := .glo "greater") rfl)
  have g10 := He.glo_ok X G (cd.fact 10 (f := .glo "chance") rfl)
  have g11 := He.glo_ok X G (cd.fact 11 (f := .glo "is_square") rfl)
  have g12 := He.glo_ok X G (cd.fact 12 (f := .glo "are_steps") rfl)
  have g13 := He.glo_ok X G (cd.fact 13 (f := .glo "are_rows") rfl)
  have g14 := He.glo_ok X G (cd.fact 14 (f := .glo "need_model") rfl)
  have g15 := He.glo_ok X G (cd.fact 15 (f := .glo "is_ratio") rfl)
  have g16 := He.glo_ok X G (cd.fact 16 (f := .glo "need_rate") rfl)
  have g17 := He.glo_ok X G (cd.fact 17 (f := .glo "need_offers") rfl)
  have g18 := He.glo_ok X G (cd.fact 18 (f := .glo "staying") rfl)
  have g19 := He.glo_ok X G (cd.fact 19 (f := .glo "tables_of") rfl)
  have g20 := He.glo_ok X G (cd.fact 20 (f := .glo "best_values") rfl)
  have g21 := He.glo_ok X G (cd.fact 21 (f := .glo "corrections") rfl)
  have g22 := He.glo_ok X G (cd.fact 22 (f := .glo "are_corrections") rfl)
  have g23 := He.glo_ok X G (cd.fact 23 (f := .glo "greatest_paid") rfl)
  have g24 := He.glo_ok X G (cd.fact 24 (f := .glo "shows_corrections") rfl)
  have g25 := He.glo_ok X G (cd.fact 25 (f := .glo "_law_ratio") rfl)
  have g26 := He.glo_ok X G (cd.fact 26 (f := .glo "_law_plus") rfl)
  have g27 := He.glo_ok X G (cd.fact 27 (f := .glo "_law_by") rfl)
  have g28 := He.glo_ok X G (cd.fact 28 (f := .glo "_law_below") rfl)
  have g29 := He.glo_ok X G (cd.fact 29 (f := .glo "_law_alike") rfl)
  have g30 := He.glo_ok X G (cd.fact 30 (f := .glo "_law_paid") rfl)
  have g31 := He.glo_ok X G (cd.fact 31 (f := .glo "_law_taken") rfl)
  have g32 := He.glo_ok X G (cd.fact 32 (f := .glo "_law_pick") rfl)
  have g33 := He.glo_ok X G (cd.fact 33 (f := .glo "_law_rate") rfl)
  have g34 := He.glo_ok X G (cd.fact 34 (f := .glo "_law_paths") rfl)
  have g35 := He.glo_ok X G (cd.fact 35 (f := .glo "_law_are_corrections") rfl)
  have g36 := He.glo_ok X G (cd.fact 36 (f := .glo "_law_small") rfl)
  have g37 := He.glo_ok X G (cd.fact 37 (f := .glo "law") rfl)
  have e_range := He.free_ok X G (cd.fact 38 (f := .free "range") rfl)
  have e_len := He.free_ok X G (cd.fact 39 (f := .free "len") rfl)
  have e_zip := He.free_ok X G (cd.fact 40 (f := .free "zip") rfl)
  have e_enumerate := He.free_ok X G (cd.fact 41 (f := .free "enumerate") rfl)
  have e_sum := He.free_ok X G (cd.fact 42 (f := .free "sum") rfl)
  have e_any := He.free_ok X G (cd.fact 43 (f := .free "any") rfl)
  have e_all := He.free_ok X G (cd.fact 44 (f := .free "all") rfl)
  have e_abs := He.free_ok X G (cd.fact 45 (f := .free "abs") rfl)
  have e_int := He.free_ok X G (cd.fact 46 (f := .free "int") rfl)
  have e_bool := He.free_ok X G (cd.fact 47 (f := .free "bool") rfl)
  have e_tuple := He.free_ok X G (cd.fact 48 (f := .free "tuple") rfl)
  have e_list := He.free_ok X G (cd.fact 49 (f := .free "list") rfl)
  have e_isinstance := He.free_ok X G (cd.fact 50 (f := .free "isinstance") rfl)
  have e_str := He.free_ok X G (cd.fact 51 (f := .free "str") rfl)
  have i_MOST_RATE := He.int_ok X G (cd.fact 52 (f := .int "MOST_RATE" 1000) rfl)
  have i_MOST_YEARS := He.int_ok X G (cd.fact 53 (f := .int "MOST_YEARS" 8) rfl)
  have i_MOST_STATES := He.int_ok X G (cd.fact 54 (f := .int "MOST_STATES" 4) rfl)
  have i_MOST_WEIGHT := He.int_ok X G (cd.fact 55 (f := .int "MOST_WEIGHT" 20) rfl)
  have i_MOST_PAID := He.int_ok X G (cd.fact 56 (f := .int "MOST_PAID" 1000) rfl)
  have e_gcd : mg ("gcd" : Str) = some (.builtin "math.gcd") := PySem.W.mg_of X G (He.eqO_ok c.more)
  obtain ⟨fd0, F0⟩ := cd.def_ 0 (d := ldd "ratio" s_ratio) rfl
  obtain ⟨fd1, F1⟩ := cd.def_ 1 (d := ldd "plus" s_plus) rfl
  obtain ⟨fd2, F2⟩ := cd.def_ 2 (d := ldd "minus" s_minus) rfl
  obtain ⟨fd3, F3⟩ := cd.def_ 3 (d := ldd "by" s_by) rfl
  obtain ⟨fd4, F4⟩ := cd.def_ 4 (d := ldd "less" s_less) rfl
  obtain ⟨fd5, F5⟩ := cd.def_ 5 (d := ldd "total" s_total) rfl
  obtain ⟨fd6, F6⟩ := cd.def_ 6 (d := ldd "power" s_power) rfl
  obtain ⟨fd7, F7⟩ := cd.def_ 7 (d := ldd "is_in" s_is_in) rfl
  obtain ⟨fd8, F8⟩ := cd.def_ 8 (d := ldd "growth" s_growth) rfl
  obtain ⟨fd9, F9⟩ := cd.def_ 9 (d := ldd "greater" s_greater) rfl
  obtain ⟨fd10, F10⟩ := cd.def_ 10 (d := ldd "chance" s_chance) rfl
  obtain ⟨fd11, F11⟩ := cd.def_ 11 (d := ldd "is_square" s_is_square) rfl
  obtain ⟨fd12, F12⟩ := cd.def_ 12 (d := ldd "are_steps" s_are_steps) rfl
  obtain ⟨fd13, F13⟩ := cd.def_ 13 (d := ldd "are_rows" s_are_rows) rfl
  obtain ⟨fd14, F14⟩ := cd.def_ 14 (d := ldd "need_model" s_need_model) rfl
  obtain ⟨fd15, F15⟩ := cd.def_ 15 (d := ldd "is_ratio" s_is_ratio) rfl
  obtain ⟨fd16, F16⟩ := cd.def_ 16 (d := ldd "need_rate" s_need_rate) rfl
  obtain ⟨fd17, F17⟩ := cd.def_ 17 (d := ldd "need_offers" s_need_offers) rfl
  obtain ⟨fd18, F18⟩ := cd.def_ 18 (d := ldd "staying" s_staying) rfl
  obtain ⟨fd19, F19⟩ := cd.def_ 19 (d := ldd "tables_of" s_tables_of) rfl
  obtain ⟨fd20, F20⟩ := cd.def_ 20 (d := ldd "best_values" s_best_values) rfl
  obtain ⟨fd21, F21⟩ := cd.def_ 21 (d := ldd "corrections" s_corrections) rfl
  obtain ⟨fd22, F22⟩ := cd.def_ 22 (d := ldd "are_corrections" s_are_corrections) rfl
  obtain ⟨fd23, F23⟩ := cd.def_ 23 (d := ldd "greatest_paid" s_greatest_paid) rfl
  obtain ⟨fd24, F24⟩ := cd.def_ 24 (d := ldd "shows_corrections" s_shows_corrections) rfl
  obtain ⟨fd25, F25⟩ := cd.def_ 25 (d := ldd "_law_ratio" s_law_ratio) rfl
  obtain ⟨fd26, F26⟩ := cd.def_ 26 (d := ldd "_law_plus" s_law_plus) rfl
  obtain ⟨fd27, F27⟩ := cd.def_ 27 (d := ldd "_law_by" s_law_by) rfl
  obtain ⟨fd28, F28⟩ := cd.def_ 28 (d := ldd "_law_below" s_law_below) rfl
  obtain ⟨fd29, F29⟩ := cd.def_ 29 (d := ldd "_law_alike" s_law_alike) rfl
  obtain ⟨fd30, F30⟩ := cd.def_ 30 (d := ldd "_law_paid" s_law_paid) rfl
  obtain ⟨fd31, F31⟩ := cd.def_ 31 (d := ldd "_law_taken" s_law_taken) rfl
  obtain ⟨fd32, F32⟩ := cd.def_ 32 (d := ldd "_law_pick" s_law_pick) rfl
  obtain ⟨fd33, F33⟩ := cd.def_ 33 (d := ldd "_law_rate" s_law_rate) rfl
  obtain ⟨fd34, F34⟩ := cd.def_ 34 (d := ldd "_law_paths" s_law_paths) rfl
  obtain ⟨fd35, F35⟩ := cd.def_ 35 (d := ldd "_law_are_corrections" s_law_are_corrections) rfl
  obtain ⟨fd36, F36⟩ := cd.def_ 36 (d := ldd "_law_small" s_law_small) rfl
  obtain ⟨fd37, F37⟩ := cd.def_ 37 (d := ldd "law" s_law) rfl
  have efa : He.ga K "law" = fl := Value.ref.inj (Option.some.inj (g37.symm.trans hfa))
  subst efa
  have hb := FunD.bindsA (ps := ["_law_script"]) F37 fun _ _ _ _ _ _ us hl => match us, hl with | [_], _ => rfl
  refine ⟨fd37, ltf.map (He.cT K), spLaw ⟨PySem.Challenge.pw_actuarium_k74_whole_corrections_judged, w, K, mg, h, (ltf.map (He.cT K)).map (·.2)⟩, fun p hp => ?_, fun p hp => ?_, fun p hp => ?_, fun s v => hb s [v] rfl, fun H a ns hl _ hT hS => ?_, fun base hK hns TB => ?_⟩
  · obtain ⟨q, hq, rfl⟩ := List.mem_map.mp hp
    exact c.empty q hq
  · obtain ⟨q, hq, rfl⟩ := List.mem_map.mp hp
    exact c.out q hq
  · obtain ⟨q, hq, rfl⟩ := List.mem_map.mp hp
    exact PySem.W.codeHd_of_K X (c.hd q hq)
  · refine ⟨(ns.length, fun i => ns.getD i 0), [], ⟨fun e he => absurd he List.not_mem_nil, List.nodup_nil, fun P hP => ?_⟩, True.intro, ⟨?_, True.intro⟩, fun v H' _ _ q => q⟩
    · obtain ⟨q, hq, rfl⟩ := List.mem_map.mp hP
      rw [view_nil]
      exact tb_empty (hT q hq)
    · refine ⟨a, ns.map V.int, rfl, ?_, ints_xs (K := K)⟩
      rw [view_nil]
      exact hS
  · have B : Bl (⟨PySem.Challenge.pw_actuarium_k74_whole_corrections_judged, w, K, mg, base, (ltf.map (He.cT K)).map (·.2)⟩ : Sta) := ⟨e_range, e_len, e_zip, e_enumerate, e_sum, e_any, e_all, e_abs, e_int, e_bool, e_tuple, e_list, e_isinstance, e_gcd, i_MOST_RATE, i_MOST_YEARS, i_MOST_STATES, i_MOST_WEIGHT, i_MOST_PAID⟩
    have c_ratio := m_ratio (S := (⟨PySem.Challenge.pw_actuarium_k74_whole_corrections_judged, w, K, mg, base, (ltf.map (He.cT K)).map (·.2)⟩ : Sta)) (funA_of F0 g0) B
    have c_plus := m_plus (S := (⟨PySem.Challenge.pw_actuarium_k74_whole_corrections_judged, w, K, mg, base, (ltf.map (He.cT K)).map (·.2)⟩ : Sta)) (funA_of F1 g1) c_ratio
    have c_minus := m_minus (S := (⟨PySem.Challenge.pw_actuarium_k74_whole_corrections_judged, w, K, mg, base, (ltf.map (He.cT K)).map (·.2)⟩ : Sta)) (funA_of F2 g2) c_ratio
    have c_by := m_by (S := (⟨PySem.Challenge.pw_actuarium_k74_whole_corrections_judged, w, K, mg, base, (ltf.map (He.cT K)).map (·.2)⟩ : Sta)) (funA_of F3 g3) c_ratio
    have c_less := m_less (S := (⟨PySem.Challenge.pw_actuarium_k74_whole_corrections_judged, w, K, mg, base, (ltf.map (He.cT K)).map (·.2)⟩ : Sta)) (funA_of F4 g4)
    have c_total := m_total (S := (⟨PySem.Challenge.pw_actuarium_k74_whole_corrections_judged, w, K, mg, base, (ltf.map (He.cT K)).map (·.2)⟩ : Sta)) (funA_of F5 g5) c_plus
    have c_power := m_power (S := (⟨PySem.Challenge.pw_actuarium_k74_whole_corrections_judged, w, K, mg, base, (ltf.map (He.cT K)).map (·.2)⟩ : Sta)) (funA_of F6 g6) B c_ratio c_by
    have c_is_in := m_is_in (S := (⟨PySem.Challenge.pw_actuarium_k74_whole_corrections_judged, w, K, mg, base, (ltf.map (He.cT K)).map (·.2)⟩ : Sta)) (funA_of F7 g7) B
    have c_growth := m_growth (S := (⟨PySem.Challenge.pw_actuarium_k74_whole_corrections_judged, w, K, mg, base, (ltf.map (He.cT K)).map (·.2)⟩ : Sta)) (funA_of F8 g8) c_ratio
    have c_greater := m_greater (S := (⟨PySem.Challenge.pw_actuarium_k74_whole_corrections_judged, w, K, mg, base, (ltf.map (He.cT K)).map (·.2)⟩ : Sta)) (funA_of F9 g9) c_less
    have c_chance := m_chance (S := (⟨PySem.Challenge.pw_actuarium_k74_whole_corrections_judged, w, K, mg, base, (ltf.map (He.cT K)).map (·.2)⟩ : Sta)) (funA_of F10 g10) B c_ratio
    have c_is_square := m_is_square (S := (⟨PySem.Challenge.pw_actuarium_k74_whole_corrections_judged, w, K, mg, base, (ltf.map (He.cT K)).map (·.2)⟩ : Sta)) (funA_of F11 g11) B (gn_of TB (by decide)) c_is_in
    have c_are_steps := m_are_steps (S := (⟨PySem.Challenge.pw_actuarium_k74_whole_corrections_judged, w, K, mg, base, (ltf.map (He.cT K)).map (·.2)⟩ : Sta)) (funA_of F12 g12) B (gn_of TB (by decide)) c_is_square
    have c_are_rows := m_are_rows (S := (⟨PySem.Challenge.pw_actuarium_k74_whole_corrections_judged, w, K, mg, base, (ltf.map (He.cT K)).map (·.2)⟩ : Sta)) (funA_of F13 g13) B (gn_of TB (by decide)) c_is_in
    have c_need_model := m_need_model (S := (⟨PySem.Challenge.pw_actuarium_k74_whole_corrections_judged, w, K, mg, base, (ltf.map (He.cT K)).map (·.2)⟩ : Sta)) (funA_of F14 g14) B (gn_of TB (by decide)) c_are_steps c_are_rows c_is_square
    have c_is_ratio := m_is_ratio (S := (⟨PySem.Challenge.pw_actuarium_k74_whole_corrections_judged, w, K, mg, base, (ltf.map (He.cT K)).map (·.2)⟩ : Sta)) (funA_of F15 g15) B (gn_of TB (by decide))
    have c_need_rate := m_need_rate (S := (⟨PySem.Challenge.pw_actuarium_k74_whole_corrections_judged, w, K, mg, base, (ltf.map (He.cT K)).map (·.2)⟩ : Sta)) (funA_of F16 g16) B c_is_ratio
    have c_need_offers := m_need_offers (S := (⟨PySem.Challenge.pw_actuarium_k74_whole_corrections_judged, w, K, mg, base, (ltf.map (He.cT K)).map (·.2)⟩ : Sta)) (funA_of F17 g17) B c_need_model c_need_rate c_are_rows
    have c_staying := m_staying (S := (⟨PySem.Challenge.pw_actuarium_k74_whole_corrections_judged, w, K, mg, base, (ltf.map (He.cT K)).map (·.2)⟩ : Sta)) (funA_of F18 g18) B c_power c_growth c_plus c_by c_total c_chance
    have c_tables_of := m_tables_of (S := (⟨PySem.Challenge.pw_actuarium_k74_whole_corrections_judged, w, K, mg, base, (ltf.map (He.cT K)).map (·.2)⟩ : Sta)) (funA_of F19 g19) B c_staying c_greater
    have c_best_values := m_best_values (S := (⟨PySem.Challenge.pw_actuarium_k74_whole_corrections_judged, w, K, mg, base, (ltf.map (He.cT K)).map (·.2)⟩ : Sta)) (funA_of F20 g20) B c_need_offers c_tables_of
    have c_corrections := m_corrections (S := (⟨PySem.Challenge.pw_actuarium_k74_whole_corrections_judged, w, K, mg, base, (ltf.map (He.cT K)).map (·.2)⟩ : Sta)) (funA_of F21 g21) B c_need_offers c_tables_of c_plus c_minus c_by c_total c_chance
    have c_are_corrections := m_are_corrections (S := (⟨PySem.Challenge.pw_actuarium_k74_whole_corrections_judged, w, K, mg, base, (ltf.map (He.cT K)).map (·.2)⟩ : Sta)) (funA_of F22 g22) B (gn_of TB (by decide)) c_is_ratio c_by c_total c_chance
    have c_greatest_paid := m_greatest_paid (S := (⟨PySem.Challenge.pw_actuarium_k74_whole_corrections_judged, w, K, mg, base, (ltf.map (He.cT K)).map (·.2)⟩ : Sta)) (funA_of F23 g23) B c_power c_growth c_greater c_plus c_minus c_by
    have c_shows_corrections := m_shows_corrections (S := (⟨PySem.Challenge.pw_actuarium_k74_whole_corrections_judged, w, K, mg, base, (ltf.map (He.cT K)).map (·.2)⟩ : Sta)) (funA_of F24 g24) B (gn_of TB (by decide)) c_need_offers c_are_corrections c_tables_of c_greatest_paid c_less
    have c_law_ratio := m_law_ratio (S := (⟨PySem.Challenge.pw_actuarium_k74_whole_corrections_judged, w, K, mg, base, (ltf.map (He.cT K)).map (·.2)⟩ : Sta)) (funA_of F25 g25) B
    have c_law_plus := m_law_plus (S := (⟨PySem.Challenge.pw_actuarium_k74_whole_corrections_judged, w, K, mg, base, (ltf.map (He.cT K)).map (·.2)⟩ : Sta)) (funA_of F26 g26) c_law_ratio
    have c_law_by := m_law_by (S := (⟨PySem.Challenge.pw_actuarium_k74_whole_corrections_judged, w, K, mg, base, (ltf.map (He.cT K)).map (·.2)⟩ : Sta)) (funA_of F27 g27) c_law_ratio
    have c_law_below := m_law_below (S := (⟨PySem.Challenge.pw_actuarium_k74_whole_corrections_judged, w, K, mg, base, (ltf.map (He.cT K)).map (·.2)⟩ : Sta)) (funA_of F28 g28)
    have c_law_alike := m_law_alike (S := (⟨PySem.Challenge.pw_actuarium_k74_whole_corrections_judged, w, K, mg, base, (ltf.map (He.cT K)).map (·.2)⟩ : Sta)) (funA_of F29 g29) B e_str
    have c_law_paid := m_law_paid (S := (⟨PySem.Challenge.pw_actuarium_k74_whole_corrections_judged, w, K, mg, base, (ltf.map (He.cT K)).map (·.2)⟩ : Sta)) (funA_of F30 g30) B c_law_plus c_law_by
    have c_law_taken := m_law_taken (S := (⟨PySem.Challenge.pw_actuarium_k74_whole_corrections_judged, w, K, mg, base, (ltf.map (He.cT K)).map (·.2)⟩ : Sta)) (funA_of F31 g31) B
    have c_law_pick := m_law_pick (S := (⟨PySem.Challenge.pw_actuarium_k74_whole_corrections_judged, w, K, mg, base, (ltf.map (He.cT K)).map (·.2)⟩ : Sta)) (funA_of F32 g32) B c_law_taken
    have c_law_rate := m_law_rate (S := (⟨PySem.Challenge.pw_actuarium_k74_whole_corrections_judged, w, K, mg, base, (ltf.map (He.cT K)).map (·.2)⟩ : Sta)) (funA_of F33 g33) B c_law_pick
    have c_law_paths := m_law_paths (S := (⟨PySem.Challenge.pw_actuarium_k74_whole_corrections_judged, w, K, mg, base, (ltf.map (He.cT K)).map (·.2)⟩ : Sta)) (funA_of F34 g34) B c_law_ratio c_law_by
    have c_law_are_corrections := m_law_are_corrections (S := (⟨PySem.Challenge.pw_actuarium_k74_whole_corrections_judged, w, K, mg, base, (ltf.map (He.cT K)).map (·.2)⟩ : Sta)) (funA_of F35 g35) B c_law_ratio c_law_plus c_law_by c_law_below c_law_paid c_law_paths
    have c_law_small := m_law_small (S := (⟨PySem.Challenge.pw_actuarium_k74_whole_corrections_judged, w, K, mg, base, (ltf.map (He.cT K)).map (·.2)⟩ : Sta)) (funA_of F36 g36) B c_law_taken c_law_pick
    obtain ⟨oc, od, dV, kV, doc, pm, an, cdv, ct, osl, rfl, lk, hcd, hd, _⟩ := F37.ex
    rcases hd with ⟨_, rfl⟩ | ⟨z, _⟩
    · exact m_law (S := (⟨PySem.Challenge.pw_actuarium_k74_whole_corrections_judged, w, K, mg, base, (ltf.map (He.cT K)).map (·.2)⟩ : Sta)) lk hcd B c_law_taken c_law_plus c_law_by c_law_rate c_law_small c_best_values c_corrections c_shows_corrections c_law_are_corrections c_law_alike
    · exact absurd rfl z
end K74
open PySem PySem.W PySem.Calls PyProof.Rows
theorem PySem.Challenge.cw_actuarium_k74_whole_corrections_judged_holds : PySem.Challenge.rw_actuarium_k74_whole_corrections_judged.Holds := by
  w_on; o_law
  refine HandSHeadRun.head_imp (r := OpenLaw.row PySem.Challenge.rw_actuarium_k74_whole_corrections_judged) (q := view (OpenLaw.row PySem.Challenge.rw_actuarium_k74_whole_corrections_judged).prog [0, 55]) (H := K74.lhk) (ob := K74.lob) (M := 20000) (loose := K74.loose) (d := HandSHeadRun.topDef (OpenLaw.row PySem.Challenge.rw_actuarium_k74_whole_corrections_judged).prog 55) (kwd := []) K74.lob_eq
    K74.lrun (by kernel_rfl) (by kernel_rfl) (by kernel_rfl) (by rfl) (by first | assumption | decide +kernel) (by decide +kernel) ⟨rfl, rfl, rfl, rfl, rfl, by decide +kernel⟩ ?hw ?hc
  case hw => w_witness2
  case hc =>
    refine LamX.walk_ofTsE (l := PySem.Challenge.rw_actuarium_k74_whole_corrections_judged) (n := 63) (k := 13) (x := "_law_script") (CX := fun _ => L2.CX0) rfl (by decide) (by kernel_rfl) ⟨rfl, by decide, by decide⟩ ?F (fun _ _ _ _ _ z => z)
    intro w mg fl h Y G hmg0
    obtain ⟨K, KX, c⟩ := Y
    have hmg : mg ("law" : PySem.Str) = some (.ref fl) := by
      have e : (HandSHeadRun.topDef (OpenLaw.row PySem.Challenge.rw_actuarium_k74_whole_corrections_judged).prog 55).name = ("law" : PySem.Str) := by kernel_rfl
      rw [← e]
      exact hmg0
    exact ⟨K, KX, K74.lfacts KX G hmg c⟩
