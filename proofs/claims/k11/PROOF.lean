import PyProof.Rows.All
import Wide.All
import OpenK.AllK
import Wide.FinOn
import HandS.ForMost
import HandS.GenList
import HandS.EndTab
import KE.KNest
import PyProof.CodeObjX
import HandS.TupAny
import HandS.TupMul
import HandS.IsInst
import HandS.Deep
import HandS.Strs
import HandS.SetFor
import HandS.Zip
import HandS.Flow
import HandS.Style
import HandS.Wide
import KE.GoesMore
import KE.KTurns
import KE.KDictKeyed
import KE.KeyNested
import KE.KDictDisplayH
import KE.KDictWalk
import HandS.TupLen
import KE.KDictCopyH
import PyProof.MinMaxWalk
import PyProof.WalkInts
import HandS.EndOwn
import KE.KNestM
import PySem.Challenge.RW_dyeworks_k11_whole_rows
set_option Elab.async false
set_option linter.all false
set_option maxRecDepth 100000
set_option maxHeartbeats 2000000
/-! tables of code objects, told to a depth; what stays while a def runs -/
namespace Gx
open PySem PySem.Spec PyProof.Rows L2

/-- the object o is a code object, standing at c, its table at P -/
def CodeOb (o : Obj) (c P : Addr) : Prop := o.cls = .type "code" ∧ ∃ vs file tf flags tg inF text tt, o.data = .fields vs ∧ vs[11]? = some (.ref P) ∧ vs.getD 11 .none = .ref P ∧ vs.getD 18 .none = .str file tf ∧
    vs.getD 7 .none = .int flags tg ∧ vs.getD 9 .none = .bool inF ∧ vs.getD 10 .none = .int text tt ∧ c ≠ P
theorem CodeOb.hd {h : Heap} {o : Obj} {c P : Addr} (x : CodeOb o c P) (e : h.get? c = some o) : PySem.W.CodeHd h c P := by
  obtain ⟨h1, vs, file, tf, flags, tg, inF, text, tt, h2, h3⟩ := x
  exact ⟨o, vs, file, tf, flags, tg, inF, text, tt, e, h1, h2, h3⟩
theorem codeOb_of {h : Heap} {c P : Addr} (x : PySem.W.CodeHd h c P) : ∃ o, h.get? c = some o ∧ CodeOb o c P := by
  obtain ⟨o, vs, file, tf, flags, tg, inF, text, tt, e, h1, h2, h3⟩ := x
  exact ⟨o, e, h1, vs, file, tf, flags, tg, inF, text, tt, h2, h3⟩

/-- a code object that is known for good -/
abbrev CodeK (o : Obj) : HO := .frz o (.own 0)
def TabD : Nat → Hp → Addr → Prop
  | 0, H, P => ∃ ps : Array Value, H P = some (.tbl ps) ∧ TriplesOk ps.toList
  | n + 1, H, P => ∃ ps : Array Value, H P = some (.tbl ps) ∧ TriplesOk ps.toList ∧ ∀ (pos : Pos) (cv : Value), codeAmong pos ps.toList = some cv →
      ∃ c1 P1 o1, cv = .ref c1 ∧ H c1 = some (CodeK o1) ∧ CodeOb o1 c1 P1 ∧ TabD n H P1
theorem TabD.tbl : ∀ {n : Nat} {H : Hp} {P : Addr}, TabD n H P → ∃ ps : Array Value, H P = some (.tbl ps) ∧ TriplesOk ps.toList
  | 0, _, _, h => h
  | _ + 1, _, _, ⟨ps, h1, h2, _⟩ => ⟨ps, h1, h2⟩
theorem TabD.nil {H : Hp} {P : Addr} (h : H P = some (.tbl #[])) : ∀ n : Nat, TabD n H P
  | 0 => ⟨#[], h, True.intro⟩
  | _ + 1 => ⟨#[], h, True.intro, fun pos cv hc => by
    have z : codeAmong pos [] = some cv := hc
    simp [codeAmong] at z⟩
theorem TabD.same {H H' : Hp} (e : ∀ b o, H b = some o → H' b = some o) : ∀ {n : Nat} {P : Addr}, TabD n H P → TabD n H' P
  | 0, _, ⟨ps, h1, h2⟩ => ⟨ps, e _ _ h1, h2⟩
  | n + 1, _, ⟨ps, h1, h2, h3⟩ => ⟨ps, e _ _ h1, h2, fun pos cv hc => by
    obtain ⟨c1, P1, o1, a1, a2, a3, a4⟩ := h3 pos cv hc
    exact ⟨c1, P1, o1, a1, e _ _ a2, a3, TabD.same e a4⟩⟩
/-- what a table leans on: tables and known code objects -/
theorem TabD.keep {H H' : Hp} (e : ∀ b o, H b = some o → ((∃ ps, o = .tbl ps) ∨ ∃ ob u, o = .frz ob u) → H' b = some o) : ∀ {n : Nat} {P : Addr}, TabD n H P → TabD n H' P
  | 0, _, ⟨ps, h1, h2⟩ => ⟨ps, e _ _ h1 (.inl ⟨_, rfl⟩), h2⟩
  | n + 1, _, ⟨ps, h1, h2, h3⟩ => ⟨ps, e _ _ h1 (.inl ⟨_, rfl⟩), h2, fun pos cv hc => by
    obtain ⟨c1, P1, o1, a1, a2, a3, a4⟩ := h3 pos cv hc
    exact ⟨c1, P1, o1, a1, e _ _ a2 (.inr ⟨_, _, rfl⟩), a3, TabD.keep e a4⟩⟩

/-- all but the tables (and what R names) stays; tables stay tables -/
structure ExB (R : Addr → Prop) (H H' : Hp) : Prop where
  keep : ∀ b o, H b = some o → (∀ ps, o ≠ .tbl ps) → ¬ R b → H' b = some o
  tab : ∀ n P, TabD n H P → TabD n H' P
  back : ∀ p, H' p = none → H p = none
  tup : ∀ b xs, H b = some (.tup xs) → H' b = some (.tup xs)
abbrev none1 : Addr → Prop := fun _ => False
abbrev Ex : Hp → Hp → Prop := ExB none1
theorem ExB.refl {R : Addr → Prop} (H : Hp) : ExB R H H := ⟨fun _ _ h _ _ => h, fun _ _ h => h, fun _ h => h, fun _ _ h => h⟩
theorem ExB.trans {R : Addr → Prop} {H H1 H2 : Hp} (a : ExB R H H1) (b : ExB R H1 H2) : ExB R H H2 := ⟨fun c o h n r => b.keep c o (a.keep c o h n r) n r, fun n P h => b.tab n P (a.tab n P h), fun p h => a.back p (b.back p h), fun c xs h => b.tup c xs (a.tup c xs h)⟩
theorem ExB.mono {R R' : Addr → Prop} {H H1 : Hp} (a : ExB R H H1) (h : ∀ b, R b → R' b) : ExB R' H H1 := ⟨fun c o e n r => a.keep c o e n fun z => r (h c z), a.tab, a.back, a.tup⟩
theorem ExB.up {R : Addr → Prop} {H H1 : Hp} (a : Ex H H1) : ExB R H H1 := ExB.mono a fun _ z => z.elim
theorem back_of {H H' : Hp} (e : ∀ b o, H b = some o → ∃ u, H' b = some u) : ∀ p, H' p = none → H p = none := fun p h => by
  cases q : H p with
  | none => rfl
  | some o =>
    obtain ⟨u, z⟩ := e p o q
    rw [h] at z
    cases z
theorem ExB.of {R : Addr → Prop} {H H' : Hp} (e : ∀ b o, H b = some o → H' b = some o) : ExB R H H' := ⟨fun b o h _ _ => e b o h, fun _ _ h => h.same e, back_of fun b o h => ⟨o, e b o h⟩, fun b xs h => e b _ h⟩
theorem ExB.new {R : Addr → Prop} {H : Hp} {p : Addr} {o : HO} (h : H p = none) : ExB R H (upd H p o) := .of fun a u e => by
  rw [upd_ne (ne_of_none e h)]
  exact e
/-- no table, no known object: it may be written -/
def Soft (o : HO) : Prop := (∀ ps, o ≠ .tbl ps) ∧ (∀ ob u, o ≠ .frz ob u) ∧ ∀ xs, o ≠ .tup xs
theorem upd_none {H : Hp} {p b : Addr} {o : HO} (h : upd H p o b = none) : b ≠ p ∧ H b = none := by
  by_cases z : b = p
  · rw [z, upd_same] at h
    cases h
  · rw [upd_ne z] at h
    exact ⟨z, h⟩
/-- an object that is R's is written -/
theorem ExB.write {R : Addr → Prop} {H : Hp} {p : Addr} {o u : HO} (hR : R p) (h : H p = some u) (s : Soft u) : ExB R H (upd H p o) := ⟨fun b v e _ r => by
    rw [upd_ne (fun z => r (by rw [z]; exact hR))]
    exact e, fun n P t => t.keep fun b v e hv => by
    refine (upd_ne (fun z => ?_)).trans e
    rw [z, h] at e
    cases e
    rcases hv with ⟨ps, rfl⟩ | ⟨ob, w, rfl⟩
    · exact s.1 ps rfl
    · exact s.2.1 ob w rfl, fun b z => (upd_none z).2, fun b xs e => by
    refine (upd_ne (fun z => ?_)).trans e
    rw [z, h] at e
    cases e
    exact s.2.2 xs rfl⟩
/-- an object that H does not know may change -/
theorem ExB.mut {R : Addr → Prop} {H H' : Hp} {p : Addr} {o u : HO} (e : ExB R H H') (h : H p = none) (h' : H' p = some u) (s : Soft u) : ExB R H (upd H' p o) :=
  ⟨fun b v q n r => by
    rw [upd_ne (ne_of_none q h)]
    exact e.keep b v q n r, fun n P t => ((ExB.write (R := fun b => b = p) (o := o) rfl h' s).tab n P (e.tab n P t)), fun b z => e.back b (upd_none z).2, fun b xs q => (ExB.write (R := fun b => b = p) (o := o) rfl h' s).tup b xs (e.tup b xs q)⟩
theorem soft_lst (xs : List V) : Soft (.lst xs) := ⟨fun _ z => (by cases z), fun _ _ z => (by cases z), fun _ z => (by cases z)⟩
theorem soft_ext (f : Heap → Prop) : Soft (.ext f) := ⟨fun _ z => (by cases z), fun _ _ z => (by cases z), fun _ z => (by cases z)⟩

/-! ### a table grows -/
/-- the heap behind: the table at P told of the code object at c1, whose table stands at P1 -/
abbrev grown (H : Hp) (P : Addr) (ps : Array Value) (pos : Pos) (c1 P1 : Addr) (o1 : Obj) : Hp :=
  upd (upd (upd H P (.tbl (ps ++ #[rawInt pos.line, rawInt pos.col, .ref c1]))) c1 (CodeK o1)) P1 (.tbl #[])
section
variable {H : Hp} {P c1 P1 : Addr} {ps : Array Value} {pos : Pos} {o1 : Obj}
theorem grown_at (hP : H P = some (.tbl ps)) (n1 : H c1 = none) (n2 : H P1 = none) (ne : c1 ≠ P1) :
    grown H P ps pos c1 P1 o1 P = some (.tbl (ps ++ #[rawInt pos.line, rawInt pos.col, .ref c1])) ∧ grown H P ps pos c1 P1 o1 c1 = some (CodeK o1) ∧ grown H P ps pos c1 P1 o1 P1 = some (.tbl #[]) := by
  have e1 : P ≠ c1 := ne_of_none hP n1
  have e2 : P ≠ P1 := ne_of_none hP n2
  exact ⟨(upd_ne e2).trans ((upd_ne e1).trans upd_same), (upd_ne ne).trans upd_same, upd_same⟩
theorem grown_ne {b : Addr} (h0 : b ≠ P) (h1 : b ≠ c1) (h2 : b ≠ P1) : grown H P ps pos c1 P1 o1 b = H b := (upd_ne h2).trans ((upd_ne h1).trans (upd_ne h0))
theorem grown_old {b : Addr} {u : HO} (e : H b = some u) (h0 : b ≠ P) (n1 : H c1 = none) (n2 : H P1 = none) : grown H P ps pos c1 P1 o1 b = some u :=
  (grown_ne h0 (ne_of_none e n1) (ne_of_none e n2)).trans e
theorem ex_grown {R : Addr → Prop} (hP : H P = some (.tbl ps)) (ht : TriplesOk ps.toList) (n1 : H c1 = none) (n2 : H P1 = none) (hc : CodeOb o1 c1 P1) : ExB R H (grown H P ps pos c1 P1 o1) := by
  have ne : c1 ≠ P1 := by
    obtain ⟨_, _, _, _, _, _, _, _, _, _, _, _, _, _, _, _, z⟩ := hc
    exact z
  obtain ⟨aP, ac, aP1⟩ := grown_at (pos := pos) (o1 := o1) hP n1 n2 ne
  have eL : (ps ++ #[rawInt pos.line, rawInt pos.col, .ref c1]).toList = ps.toList ++ [rawInt pos.line, rawInt pos.col, .ref c1] := by simp
  refine ⟨fun b o e n _ => grown_old e (fun z => ?_) n1 n2, ?_, back_of fun b o e => ?_, ?_⟩
  · rw [z, hP] at e
    cases e
    exact n ps rfl
  · intro n
    induction n with
    | zero =>
      rintro Q ⟨qs, h1, h2⟩
      by_cases z : Q = P
      · rw [z, hP] at h1
        cases h1
        refine ⟨_, by rw [z]; exact aP, ?_⟩
        rw [eL]
        exact PySem.TriplesOk_snoc _ _ _ _ ht
      · exact ⟨qs, grown_old h1 z n1 n2, h2⟩
    | succ n ih =>
      rintro Q ⟨qs, h1, h2, h3⟩
      have old : ∀ (p' : Pos) (cv : Value), codeAmong p' qs.toList = some cv → ∃ c2 P2 o2, cv = .ref c2 ∧ grown H P ps pos c1 P1 o1 c2 = some (CodeK o2) ∧ CodeOb o2 c2 P2 ∧ TabD n (grown H P ps pos c1 P1 o1) P2 := fun p' cv hcv => by
        obtain ⟨c2, P2, o2, a1, a2, a3, a4⟩ := h3 p' cv hcv
        refine ⟨c2, P2, o2, a1, grown_old a2 (fun z => ?_) n1 n2, a3, ih P2 a4⟩
        rw [z, hP] at a2
        cases a2
      by_cases z : Q = P
      · rw [z, hP] at h1
        cases h1
        refine ⟨_, by rw [z]; exact aP, by rw [eL]; exact PySem.TriplesOk_snoc _ _ _ _ ht, fun p' cv hcv => ?_⟩
        rw [eL] at hcv
        rcases LamX.among_app _ ht hcv with y | y
        · exact old p' cv y
        · exact ⟨c1, P1, o1, y, ac, hc, TabD.nil aP1 n⟩
      · exact ⟨qs, grown_old h1 z n1 n2, h2, old⟩
  · by_cases z : b = P
    · rw [z]
      exact ⟨_, aP⟩
    · exact ⟨o, grown_old e z n1 n2⟩
  · refine fun b xs e => grown_old e (fun z => ?_) n1 n2
    rw [z, hP] at e
    cases e
end
section
variable {X : Cx} {pins : List (Addr × Obj)} {σ : L2.St} {H : Hp} {s : Shared}
/-- the table's object is written, the code object and its table are new -/
theorem inv_grown {P c1 P1 : Addr} {ps : Array Value} {pos : Pos} {o1 : Obj} {h' : Heap} {t' : Nat} (I : Inv X pins σ H s) (hP : H P = some (.tbl ps)) (k : ∀ b o, b ≠ P → s.heap.get? b = some o → h'.get? b = some o)
    (hm : h'.get? P = some { cls := .none, data := .fields (ps ++ #[rawInt pos.line, rawInt pos.col, .ref c1]) }) (hc : s.heap.objs.size ≤ c1) (hp : s.heap.objs.size ≤ P1) (ho : h'.get? c1 = some o1) (hq : h'.get? P1 = some { cls := .none, data := .fields #[] }) (ne : c1 ≠ P1) :
    Inv X pins σ (grown H P ps pos c1 P1 o1) { s with heap := h', toks := t' } := by
  have n1 : H c1 = none := I.hok.fresh hc
  have n2 : H P1 = none := I.hok.fresh hp
  obtain ⟨aP, ac, aP1⟩ := grown_at (pos := pos) (o1 := o1) hP n1 n2 ne
  have lt' : ∀ {a : Addr}, s.heap.objs.size ≤ a → ∀ b o, s.heap.get? b = some o → b ≠ a := fun ha b o e z => by
    rw [z] at e
    exact Nat.lt_irrefl _ (Nat.lt_of_lt_of_le (Heap.lt_size e) ha)
  have nP : ∀ b u, H b = some u → (∀ q, u ≠ .tbl q) → b ≠ P := fun b u e q z => by
    rw [z, hP] at e
    exact q ps (Option.some.inj e).symm
  have nN : ∀ b, H b = none → b ≠ P := fun b e z => by
    rw [z, hP] at e
    cases e
  have keepT : ∀ b u, H b = some u → (∀ q, u ≠ .tbl q) → grown H P ps pos c1 P1 o1 b = some u := fun b u e q => grown_old e (nP b u e q) n1 n2
  refine I.step (g' := s.gens) (d' := s.drawn) (ch := []) (fun b hb => absurd hb (by simp)) (fun b o _ _ _ e n => k b o (nN b n) e) (fun b o _ _ _ e n => ⟨o.slots, k b o (nN b n) e⟩)
    (fun b o _ e n => (grown_ne (nN b n) (lt' hc b o e) (lt' hp b o e)).trans n) (fun b o _ e => ?_) (fun b xs e => keepT b _ e fun q z => by cases z) (fun b o u e => keepT b _ e fun q z => by cases z) (fun b qs e => ?_) (fun m hn => ?_) (fun b u e => ?_) I.bare
  · by_cases hb : b = P
    · rw [hb]
      exact ⟨_, hm⟩
    · exact ⟨o, k b o hb e⟩
  · by_cases hb : b = P
    · rw [hb, hP] at e
      cases e
      rw [hb]
      exact ⟨_, aP⟩
    · exact ⟨#[], by rw [grown_old e hb n1 n2]; simp⟩
  · obtain ⟨ob, es, ep, ho, r⟩ := hn
    exact ⟨ob, es, ep, k _ ob (nN _ I.free) ho, r⟩
  · by_cases h1 : b = P1
    · rw [h1, aP1] at e
      cases e
      rw [h1]
      exact hq
    · by_cases h2 : b = c1
      · rw [h2, ac] at e
        cases e
        rw [h2]
        exact ⟨ho, o1, ho⟩
      · by_cases h3 : b = P
        · rw [h3, aP] at e
          cases e
          rw [h3]
          exact hm
        · rw [grown_ne h3 h2 h1] at e
          refine (I.hok b u e).stay (fun d v hd q => k d v ?_ q) (fun d q => keepT d _ q fun q z => by cases z) fun d xs q => keepT d _ q fun q z => by cases z
          rcases hd with z | z
          · rw [z]
            exact h3
          · exact nP d _ z (fun q z => by cases z)
end
end Gx
set_option Elab.async false
set_option linter.all false
set_option maxRecDepth 100000
set_option maxHeartbeats 2000000
/-! the frame of a generator expression -/
namespace Gx
open PySem PySem.Spec PyProof.Rows L2

/-- a generator expression's frame is made: captured cells, own cells, the walked thing -/
theorem newEnv_gen {M : Model} {A : Around} {E : Value → Shared → Prop} {s : Shared} {scope : Scope} {globals : Addr} {closure : List (Str × Addr)} {it : Value} {qual : Str} {code : Value} {builtins : Addr} {Q : Env → Shared → Prop}
    (hk : scope.kind = .function) (hd : scope.names.lookup (".0" : Str) = some .local)
    (h : ∀ h' tk, (∃ m, h'.Ns s.heap.objs.size m) → Heap.SameBut s.heap.objs.size (pushCells (s.heap.push { cls := .type "frame", data := .dict #[] }) scope.names) h' →
      Q (newEnv scope s.heap.objs.size globals (cellsFrom (s.heap.objs.size + 1) scope.names closure) qual none code none builtins) { s with heap := h', toks := tk }) :
    wpAny M A (newFunctionEnv scope globals closure [((".0" : Str), it)] qual none code none builtins) Q E s := by
  simp only [newFunctionEnv, Option.isSome_none, Bool.false_eq_true, if_false]
  refine wpAny_bind (wpAny_alloc ?_)
  refine wpAny_bind (wpAny_layCells _ (fun n k c => rfl) scope.names closure _ _ ?_)
  rw [show ({ s with heap := s.heap.push { cls := .type "frame", data := .dict #[] } } : Shared).heap.objs.size = s.heap.objs.size + 1 from Heap.size_push ..]
  rw [List.forIn_cons]
  refine wpAny_bind (wpAny_bind (wpAny_bind ?_))
  have hn : Heap.Ns (pushCells (s.heap.push { cls := .type "frame", data := .dict #[] }) scope.names) s.heap.objs.size (fun _ => none) := (Heap.Ns.new s.heap (.type "frame")).keeps (pushCells_keeps _ _)
  refine wpAny_storeName_local (env := newEnv scope s.heap.objs.size globals (cellsFrom (s.heap.objs.size + 1) scope.names closure) qual none code none builtins) hd hn (fun h' hn' hs => ?_) (by show (scope.kind == .class || (scope.kind == .module && _)) = false; rw [hk]; rfl)
  refine wpAny_pure (wpAny_pure ?_)
  exact wpAny_pure (h _ _ ⟨_, hn'⟩ hs)

/-- the frame's names: the clause's own (with their places in N), captured ones, the walked thing -/
structure GenS (N : List Str) (sc scope : Scope) (own : List (Str × Nat)) : Prop where
  blk : BlkOk N sc scope own
  co : scope.isCoroutine = false
  dot : scope.names.lookup (".0" : Str) = some .local

/-- the frame -/
abbrev genEnvC (scope : Scope) (cl : List (Str × Addr)) (C : Addr) (code : Value) (env : Env) : Env :=
  newEnv scope C env.globals cl (env.qual ++ "<genexpr>.") none code none builtinsNs
/-- the context of the generator's frame, woken under Ag -/
abbrev genCx (X : Cx) (Ag : Around) (s : Shared) (H : Hp) (scope : Scope) (cl : List (Str × Addr)) (C : Addr) (code : Value) (fp : List Addr) (pn : List (Addr × Obj)) : Cx :=
  { X with A := Ag, s_0 := s, H_0 := H, env := genEnvC scope cl C code X.env, outer := X.stack, stack := genEnvC scope cl C code X.env :: X.stack, ex := fp, fn := fun x => scope.names.lookup x == some .cell, calm := true, pn := pn, xe := fun _ _ => False }
section
variable {X : Cx} {pins : List (Addr × Obj)} {σ : L2.St} {H : Hp} {s : Shared}
theorem gen_start {scope : Scope} {own : List (Str × Nat)} {fp : List Addr} {code : Value} {Ag : Around} {h' : Heap} {go : Obj} {gs : Array GenState} {tk : Nat} (I : Inv X pins σ H s) (S : GenS X.N X.env.scope scope own) (hN : X.N.Nodup)
    (hfp : ∀ b ∈ fp, FpOk X pins H b ∧ b < s.heap.objs.size) (hh : Ag.handled = none) (hfr : Ag.frames = some (genEnvC scope (cellsFrom (s.heap.objs.size + 1) scope.names (cloFrom X.env.cells scope.names [])) s.heap.objs.size code X.env :: X.stack))
    (hn : ∃ m, h'.Ns s.heap.objs.size m) (hs : Heap.SameBut s.heap.objs.size (pushCells (s.heap.push { cls := .type "frame", data := .dict #[] }) scope.names) h') (hgs : AllBare gs) (hgo : (h'.push go).get? h'.objs.size = some go) (hgc : ∀ v, go.data ≠ .cell v) :
    Inv (genCx X Ag s H scope (cellsFrom (s.heap.objs.size + 1) scope.names (cloFrom X.env.cells scope.names [])) s.heap.objs.size code fp [(h'.objs.size, go)]) [] (wipe σ (own.map (·.2))) H { s with heap := h'.push go, gens := gs, toks := tk } := by
  have ok := S.blk
  have hfree : ∀ y ∈ scope.names, y.2 = .free → ∃ c, X.env.cells.lookup y.1 = some c := fun y hy e => by
    rcases ok.free y hy e with k | k
    · exact I.ok.has _ (.inl k)
    · exact I.ok.has _ (.inr k)
  generalize hcenv : genEnvC scope (cellsFrom (s.heap.objs.size + 1) scope.names (cloFrom X.env.cells scope.names [])) s.heap.objs.size code X.env = cenv at hfr
  generalize hX : genCx X Ag s H scope (cellsFrom (s.heap.objs.size + 1) scope.names (cloFrom X.env.cells scope.names [])) s.heap.objs.size code fp [(h'.objs.size, go)] = Y
  have Yenv : Y.env = cenv := by rw [← hX, ← hcenv]
  have szc := pushCells_size scope.names (s.heap.push { cls := .type "frame", data := .dict #[] })
  rw [Heap.size_push] at szc
  have szh : h'.objs.size = (pushCells (s.heap.push { cls := .type "frame", data := .dict #[] }) scope.names).objs.size := hs.1
  have kp0 : ∀ b o, s.heap.get? b = some o → (pushCells (s.heap.push { cls := .type "frame", data := .dict #[] }) scope.names).get? b = some o := fun b o e => pushCells_keeps _ _ _ _ (Heap.get?_push_of_some _ e)
  have up : ∀ b o, b ≠ s.heap.objs.size → (pushCells (s.heap.push { cls := .type "frame", data := .dict #[] }) scope.names).get? b = some o → (h'.push go).get? b = some o := fun b o hb e => Heap.get?_push_of_some _ ((hs.2 b hb).trans e)
  have kp : ∀ b o, s.heap.get? b = some o → (h'.push go).get? b = some o := fun b o e => up b o (Nat.ne_of_lt (Heap.lt_size e)) (kp0 b o e)
  have hL : cenv.locals = s.heap.objs.size := by rw [← hcenv]; rfl
  have hcl : cenv.cells = cellsFrom (s.heap.objs.size + 1) scope.names (cloFrom X.env.cells scope.names []) := by rw [← hcenv]; rfl
  have hsc : cenv.scope = scope := by rw [← hcenv]; rfl
  rw [← Heap.size_push s.heap { cls := .type "frame", data := .dict #[] }] at hcl
  have cm : ∀ {y c}, (y, c) ∈ cloFrom X.env.cells scope.names [] → X.env.cells.lookup y = some c ∧ c < s.heap.objs.size := fun {y c} hm => by
    rcases cloFrom_mem hm with hm | ⟨h1, rfl⟩
    · cases hm
    · obtain ⟨c, hc⟩ := hfree _ h1 rfl
      rw [hc]
      obtain ⟨w, z⟩ := I.cell _ _ hc
      exact ⟨rfl, z.lt⟩
  have mem : ∀ {y c}, cenv.cells.lookup y = some c → (X.env.cells.lookup y = some c ∧ c < s.heap.objs.size) ∨ (s.heap.objs.size + 1 ≤ c ∧ (h'.push go).IsCell c none) := fun {y c} e => by
    rw [hcl] at e
    rcases cells_mem (PySem.mem_of_lookup e) with hm | ⟨_, h2, o, h3, h4⟩
    · exact .inl (cm hm)
    · rw [Heap.size_push] at h2
      exact .inr ⟨h2, o, up c o (fun z => by rw [z] at h2; exact Nat.lt_irrefl _ h2) h3, h4⟩
  have look : ∀ {y}, scope.names.lookup y = some .free → ∃ c, cenv.cells.lookup y = some c ∧ X.env.cells.lookup y = some c := fun {y} hl => by
    have hy : (y, NameKind.free) ∈ scope.names := PySem.mem_of_lookup hl
    obtain ⟨c', e'⟩ := mem_lookup (cells_acc (names := scope.names) (n := (s.heap.push { cls := .type "frame", data := .dict #[] }).objs.size) (cloFrom_has (cells := X.env.cells) (acc := []) hy))
    rw [← hcl] at e'
    refine ⟨c', e', ?_⟩
    rw [hcl] at e'
    rcases cells_mem (PySem.mem_of_lookup e') with hm | ⟨h1, _, _⟩
    · exact (cm hm).1
    · have := ok.uniq _ h1
      rw [hl] at this; cases this
  have stkN : ∀ b ∈ frs X.stack, b < s.heap.objs.size := fun b hb => by
    obtain ⟨_, o, ho, _⟩ := I.stack.mem hb
    exact Heap.lt_size ho
  have okB : Y.Ok := by
    subst hX
    refine ⟨I.ok.mod, by show (genEnvC _ _ _ _ _).scope.kind = _; exact ok.kind, I.ok.glob, rfl, by show s.heap.objs.size ≤ s.heap.objs.size; exact Nat.le_refl _,
      fun y z c e1 e2 => ?_, fun y hy => ?_, fun y c z e => ?_, fun _ => hh, by rw [← hcenv] at hfr; exact hfr, .inr ⟨rfl, rfl⟩, fun b hb => ⟨?_, fun y c e z => ?_⟩, I.bs, Nat.le_trans I.ok.bsz I.sz, fun b o e hb => ?_, fun b hb z => ?_, I.stack, I.stkFree⟩
    · have e1 : (genEnvC scope (cellsFrom (s.heap.objs.size + 1) scope.names (cloFrom X.env.cells scope.names [])) s.heap.objs.size code X.env).cells.lookup y = some c := e1
      have e2 : (genEnvC scope (cellsFrom (s.heap.objs.size + 1) scope.names (cloFrom X.env.cells scope.names [])) s.heap.objs.size code X.env).cells.lookup z = some c := e2
      rw [hcenv, hcl] at e1 e2
      refine cells_inj (fun p hp => ?_) (fun y z c a b => I.ok.inj y z c (cm a).1 (cm b).1) (PySem.mem_of_lookup e1) (PySem.mem_of_lookup e2)
      rw [Heap.size_push]
      exact Nat.lt_succ_of_lt (cm (y := p.1) (c := p.2) hp).2
    · show ∃ c, (genEnvC scope (cellsFrom (s.heap.objs.size + 1) scope.names (cloFrom X.env.cells scope.names [])) s.heap.objs.size code X.env).cells.lookup y = some c
      rw [hcenv]
      have hy : scope.names.lookup y = some .cell ∨ scope.names.lookup y = some .free := hy
      rcases hy with e | e
      · obtain ⟨c, hm⟩ := cells_has (n := (s.heap.push { cls := .type "frame", data := .dict #[] }).objs.size) (acc := cloFrom X.env.cells scope.names []) (PySem.mem_of_lookup e)
        obtain ⟨c', e'⟩ := mem_lookup hm
        exact ⟨c', by rw [hcl]; exact e'⟩
      · obtain ⟨c, h1, _⟩ := look e
        exact ⟨c, h1⟩
    · have z : (scope.names.lookup y == some NameKind.cell) = true := z
      have z : scope.names.lookup y = some .cell := by simpa using z
      have e : (genEnvC scope (cellsFrom (s.heap.objs.size + 1) scope.names (cloFrom X.env.cells scope.names [])) s.heap.objs.size code X.env).cells.lookup y = some c := e
      rw [hcenv, hcl] at e
      rcases cells_mem (PySem.mem_of_lookup e) with hm | ⟨_, h2, _⟩
      · rcases cloFrom_mem hm with hm | ⟨h1, _⟩
        · cases hm
        · have q := ok.uniq _ h1
          rw [z] at q; cases q
      · rw [Heap.size_push] at h2
        exact Nat.le_of_succ_le h2
    · show b ≠ s.heap.objs.size
      exact Nat.ne_of_lt (hfp b hb).2
    · have e : (genEnvC scope (cellsFrom (s.heap.objs.size + 1) scope.names (cloFrom X.env.cells scope.names [])) s.heap.objs.size code X.env).cells.lookup y = some c := e
      rw [hcenv] at e
      rcases mem e with ⟨h1, _⟩ | ⟨h1, _⟩
      · exact (hfp b hb).1.2.2.2.2.1 y c h1 z
      · have h2 : s.heap.objs.size + 1 ≤ b := by rw [← z]; exact h1
        exact absurd (Nat.lt_of_lt_of_le (hfp b hb).2 (Nat.le_of_succ_le h2)) (Nat.lt_irrefl _)
    · rcases (hfp b hb).1.2.2.2.1 with z | z
      · exact I.ok.noex b o e z
      · exact absurd (Nat.lt_of_lt_of_le (Heap.lt_size e) (Nat.le_trans I.ok.bsz z)) (Nat.lt_irrefl _)
    · rcases List.mem_cons.mp (I.stkSub b z) with z | z
      · exact (hfp b hb).1.2.1 z
      · exact (hfp b hb).1.2.2.1 z
  have fresh : ∀ b, s.heap.objs.size ≤ b → H b = none := fun b hb => I.hok.fresh hb
  refine ⟨okB, by rw [← hX], hgs, by rw [← hX]; exact Un.kept kp, ?_, fun y c e => ?_, ?_, fun y c e => ?_, fun p hp => ?_, by rw [← hX]; exact I.hok.kept kp, by rw [wipe_length, ← hX]; exact I.len⟩
  · obtain ⟨m, hm⟩ := hn
    rw [Yenv]
    refine ⟨m, by rw [hL]; exact hm.keeps fun b o e => Heap.get?_push_of_some _ e, fun i y av e1 e2 e3 => ?_⟩
    have e1 : X.N[i]? = some y := by rw [← hX] at e1; exact e1
    obtain ⟨e2, hne⟩ := wipe_some e2
    rw [hsc] at e3
    have no : ∀ k', scope.names.lookup y = some k' → ¬ (k' = .local ∨ k' = .cell) := fun k' e hh => by
      rcases ok.own _ (PySem.mem_of_lookup e) hh with e' | e'
      · obtain ⟨p, hp, hpy⟩ := List.mem_map.mp e'
        have e3 := ok.ix p hp
        have : p.1 = y := hpy
        rw [this] at e3
        exact hne (List.mem_map.mpr ⟨p, hp, nodup_ix hN e3 e1⟩)
      · exact e' (List.mem_of_getElem? e1)
    have hfr : scope.names.lookup y = some .free := by
      rcases e3 with e3 | e3 | e3
      · exact absurd (.inl rfl) (no _ e3)
      · exact absurd (.inr rfl) (no _ e3)
      · exact e3
    obtain ⟨m', hn', hl⟩ := I.loc
    have hvis : Vis X.env.scope y := (ok.free _ (PySem.mem_of_lookup hfr) rfl).elim (fun k => .inr (.inl k)) (fun k => .inr (.inr k))
    obtain ⟨w, r, q⟩ := hl i y av e1 e2 hvis
    refine ⟨w, r, .inr ⟨.inr (by unfold Env.kindOf; rw [hsc]; exact hfr), ?_⟩⟩
    obtain ⟨c, h1, h2⟩ := look hfr
    rcases q with ⟨k, _⟩ | ⟨_, c', e', z⟩
    · have k : X.env.scope.names.lookup y = some .local := k
      rcases ok.free _ (PySem.mem_of_lookup hfr) rfl with k' | k' <;> rw [show X.env.scope.names.lookup y = _ from k'] at k <;> cases k
    · rw [h2] at e'; cases e'
      exact ⟨c, h1, z.keeps kp⟩
  · rw [Yenv] at e
    rcases mem e with ⟨h1, _⟩ | ⟨_, z⟩
    · obtain ⟨w, z⟩ := I.cell y c h1
      exact ⟨w, z.keeps kp⟩
    · exact ⟨_, z⟩
  · rw [Yenv, hL]
    exact fresh _ (Nat.le_refl _)
  · rw [Yenv] at e
    rcases mem e with ⟨h1, _⟩ | ⟨h1, _⟩
    · exact I.freeC y c h1
    · exact fresh _ (Nat.le_of_succ_le h1)
  · have hp' : p = (h'.objs.size, go) := by
      rw [← hX] at hp
      have hp2 : p ∈ [(h'.objs.size, go)] ++ ([] : List (Addr × Obj)) := hp
      simpa using hp2
    subst hp'
    have hlt : s.heap.objs.size < h'.objs.size := by rw [szh]; exact szc
    refine ⟨hgo, fresh _ (Nat.le_of_lt hlt), by rw [Yenv, hL]; exact Nat.ne_of_gt hlt, fun z => ?_, hgc⟩
    have z : h'.objs.size ∈ frs X.stack := by rw [← hX] at z; exact z
    exact absurd (Nat.lt_trans (stkN _ z) hlt) (Nat.lt_irrefl _)
end
end Gx
set_option Elab.async false
set_option linter.all false
set_option maxRecDepth 100000
set_option maxHeartbeats 2000000
/-! any, all of a generator expression over anything that is walked, its element any expression -/
namespace Gx
open PySem PySem.Spec PyProof.Rows L2

/-- behind the genexp's code object: what is told of it -/
def Deep (n : Nat) (cv : Value) (H : Hp) : Prop := match n with
  | 0 => True
  | m + 1 => ∃ c1 P1 o1, cv = .ref c1 ∧ H c1 = some (CodeK o1) ∧ CodeOb o1 c1 P1 ∧ TabD m H P1
/-- the running code's object is known, its table told to the depth n -/
def CodeRd (base : Heap) (cv : Value) (n : Nat) (H : Hp) : Prop :=
  ∃ c P, cv = .ref c ∧ (PySem.W.CodeHd base c P ∨ ∃ o, H c = some (CodeK o) ∧ CodeOb o c P) ∧ TabD n H P
theorem Deep.rd {base : Heap} {n : Nat} {cv : Value} {H : Hp} (d : Deep (n + 1) cv H) : CodeRd base cv n H := by
  obtain ⟨c1, P1, o1, h1, h2, h3, h4⟩ := d
  exact ⟨c1, P1, h1, .inr ⟨o1, h2, h3⟩, h4⟩
theorem Deep.ex {n : Nat} {cv : Value} {H H' : Hp} {R : Addr → Prop} (d : Deep n cv H) (e : ExB R H H') (hR : ∀ b o, H b = some (CodeK o) → ¬ R b) : Deep n cv H' := by
  cases n with
  | zero => trivial
  | succ m =>
    obtain ⟨c1, P1, o1, h1, h2, h3, h4⟩ := d
    exact ⟨c1, P1, o1, h1, e.keep _ _ h2 (fun _ z => by cases z) (hR _ _ h2), h3, e.tab _ _ h4⟩
theorem CodeRd.ex {base : Heap} {n : Nat} {cv : Value} {H H' : Hp} {R : Addr → Prop} (d : CodeRd base cv n H) (e : ExB R H H') (hR : ∀ b o, H b = some (CodeK o) → ¬ R b) : CodeRd base cv n H' := by
  obtain ⟨c, P, h1, h2, h3⟩ := d
  refine ⟨c, P, h1, h2.imp id fun ⟨o, a, b⟩ => ⟨o, e.keep _ _ a (fun _ z => by cases z) (hR _ _ a), b⟩, e.tab _ _ h3⟩
/-- the module's builtins -/
def BmAt (base : Heap) (mg : Str → Option Value) : Prop := ∃ bm o, mg "__builtins__" = some (.ref bm) ∧ bm ≠ builtinsNs ∧ bm ≠ mainGlobals ∧ base.get? bm = some o ∧ o.cls = .type "module" ∧ o.dict = some builtinsNs ∧ o.data = .plain

section
variable {X : Cx} {pins : List (Addr × Obj)} {σ : L2.St} {H : Hp} {s : Shared}
theorem CodeRd.at {n : Nat} {cv : Value} (d : CodeRd X.base cv n H) (I : Inv X pins σ H s) : ∃ c P, cv = .ref c ∧ PySem.W.CodeHd s.heap c P ∧ TabD n H P := by
  obtain ⟨c, P, h1, h2, h3⟩ := d
  refine ⟨c, P, h1, ?_, h3⟩
  rcases h2 with h2 | ⟨o, h2, h4⟩
  · exact h2.keeps I.bk
  · obtain ⟨e, _⟩ := I.hok c _ h2
    exact h4.hd e
/-- the generator expression's code object is made, or found -/
theorem gen_code {n : Nat} {A : Around} {E : Value → Shared → Prop} {pos : Pos} {qn : Str} {scope : Scope} {Q : Value → Shared → Prop} (I : Inv X pins σ H s) (d : CodeRd X.base X.env.code n H)
    (h : ∀ cv H' h' tk, Inv X pins σ H' { s with heap := h', toks := tk } → Ex H H' → Deep n cv H' → s.heap.objs.size ≤ h'.objs.size → (∀ b o, H b = none → s.heap.get? b = some o → h'.get? b = some o ∧ H' b = none) → Q cv { s with heap := h', toks := tk }) :
    wpAny (model X.prog X.w) A (genexprCode X.env pos qn scope) Q E s := by
  obtain ⟨c, P, hcode, cd, ht⟩ := d.at I
  obtain ⟨ps, hP, htr⟩ := ht.tbl
  have hPs : s.heap.get? P = some { cls := .none, data := .fields ps } := I.hok P _ hP
  cases hf : codeAmong pos ps.toList with
  | some cv =>
    refine wpAny_genexprCode_hit hcode (cd.code hPs htr) hf ?_
    refine h cv H s.heap s.toks I (.refl H) ?_ (Nat.le_refl _) fun b o hb e => ⟨e, hb⟩
    cases n with
    | zero => trivial
    | succ m =>
      obtain ⟨ps', h1, _, h3⟩ := ht
      rw [hP] at h1
      cases h1
      obtain ⟨c1, P1, o1, a1, a2, a3, a4⟩ := h3 pos cv hf
      exact ⟨c1, P1, o1, a1, a2, a3, a4⟩
  | none =>
    refine wpAny_genexprCodeX hcode (cd.code hPs htr) (cd.tab hPs) hf fun c1 h' tk hx hge hlt hco hrec htab hnew => ?_
    obtain ⟨P1, hP1, hco1, htab1⟩ := hnew
    obtain ⟨o1, ho1, hob⟩ := codeOb_of (PySem.W.CodeHd.of hco1 htab1)
    have ne : c1 ≠ P1 := by
      obtain ⟨_, _, _, _, _, _, _, _, _, _, _, _, _, _, _, _, z⟩ := hob
      exact z
    have I1 := inv_grown (pos := pos) (o1 := o1) (t' := tk) I hP hx htab.2 hge hP1 ho1 htab1.2 ne
    have n1 : H c1 = none := I.hok.fresh hge
    have n2 : H P1 = none := I.hok.fresh hP1
    obtain ⟨aP, ac, aP1⟩ := grown_at (pos := pos) (o1 := o1) hP n1 n2 ne
    refine h (.ref c1) _ h' tk I1 (ex_grown hP htr n1 n2 hob) ?_ (Nat.le_trans hge (Nat.le_of_lt hlt)) fun b o hb e => ?_
    · cases n with
      | zero => trivial
      | succ m => exact ⟨c1, P1, o1, rfl, ac, hob, TabD.nil aP1 m⟩
    · have hbP : b ≠ P := fun z => by
        rw [z, hP] at hb
        cases hb
      have lt := Heap.lt_size e
      exact ⟨hx b o hbP e, (grown_ne hbP (Nat.ne_of_lt (Nat.lt_of_lt_of_le lt hge)) (Nat.ne_of_lt (Nat.lt_of_lt_of_le lt hP1))).trans hb⟩
end
end Gx
set_option Elab.async false
set_option linter.all false
set_option maxRecDepth 100000
set_option maxHeartbeats 2000000
/-! the generator's own loop, told by segments; the consumer -/
namespace Gx
open PySem PySem.Spec PyProof.Rows L2

/-- what the caller needs of the state and the abstract heap, the generator's code standing still -/
def PostX (Y : Cx) (s1 : Shared) (H' : Hp) : Prop := s1.os = Y.s_0.os ∧ AllBare s1.gens ∧ Un Y.fs Y.ex Y.H_0 H' Y.s_0.heap s1.heap ∧ HOk Y.prog Y.w H' s1.heap
def RX (Y : Cx) (st : Bool) (Q : VK) : GenEnd := fun _ _ r s1 => ((r = .ok (.ret .none) ∨ r = .ok .next) ∧ ∃ H', PostX Y s1 H' ∧ Q (.bl (!st)) H') ∨ ∃ e, r = .error e ∧ False
def YX (Y : Cx) (st : Bool) (a : Addr) (g : Nat) (Q : VK) : Protocol := fun _ _ v s1 kap => ∃ b, v = .bool b ∧ s1.os = Y.s_0.os ∧ AllBare s1.gens ∧ s1.heap.NoLimit ∧ s1.heap.IsGen a g ∧
  (b = st → ∃ H', PostX Y s1 H' ∧ Q (.bl st) H') ∧ (b ≠ st → ∀ s' : Shared, s'.os = s1.os → AllBare s'.gens → s'.heap = s1.heap → kap (.send .none) s')
theorem postX {Y : Cx} {pins : List (Addr × Obj)} {σ : L2.St} {H : Hp} {s : Shared} (I : Inv Y pins σ H s) : PostX Y s H := ⟨I.os, I.bare, I.base, I.hok⟩

section
variable {Y : Cx} {elt tg iter : Expr} {scope : Scope} {pos : Pos} {g : TG} {te : TE} {J : It} {fp : List Addr} {it a : Addr} {tn : Nat → Heap → Prop} {go : Obj} {gn : Nat} {A' : Around} {st : Bool} {Q : VK} {W : Nat → Nat → Hp → Prop} {σ0 : L2.St} {vs : List Nat}
theorem seg_gx (hc : Y.calm = true) (hxe : Y.xe = fun _ _ => False) (hex : Y.ex = fp) (hpn : Y.pn = [(a, go)]) (hgo : ∀ h : Heap, h.get? a = some go → h.IsGen a gn) (hco : Y.env.scope.isCoroutine = false)
    (hA : A'.over (.compLoop (.GeneratorExp elt [⟨tg, iter, [], 0⟩] scope pos) 0 (.ref it) .none Y.env) [] = Y.A)
    (T : Turn Y.prog Y.w Y.K tg J fp it tn) (hT : ∀ b ∈ fp, b ≠ a) (pg : PG Y tg g) (pe : PE Y elt te)
    (turn : ∀ i m H, W i m H → (J.stop i H ∧ Q (.bl (!st)) H) ∨ (J.go i H ∧ ∃ Nx : Hp → Prop, (∀ H', Nx H' → ∃ m', m' < m ∧ W (i + 1) m' H') ∧ ∀ x H', J.yld i H x H' → g x σ0 H' fun σ2 H3 => wipe σ2 vs = σ0 ∧ te σ2 H3 fun y H4 => ∃ b, y = .bl b ∧ (b = st → Q (.bl st) H4) ∧ (b ≠ st → Nx H4))) :
    ∀ (m n i : Nat) (s₀ s : Shared) (H : Hp), m < n → W i m H → Inv Y [] σ0 H s → tn i s.heap → (∀ b ∈ fp, H b = none) →
      Seg (model Y.prog Y.w) A' (RX Y st Q) (YX Y st a gn Q) n s₀ (.compLoop (.GeneratorExp elt [⟨tg, iter, [], 0⟩] scope pos) 0 (.ref it) .none Y.env)
        ((model Y.prog Y.w).den (.compLoop (.GeneratorExp elt [⟨tg, iter, [], 0⟩] scope pos) 0 (.ref it) .none Y.env)) [] s := by
  have stat : ∀ {σ' : L2.St} {H' : Hp} {s' : Shared}, Inv Y [] σ' H' s' → (∀ b ∈ fp, H' b = none) → ∀ b ∈ fp, FpOk Y [] H' b := fun {σ' H' s'} I' hn b hb => by
    have hb' : b ∈ Y.ex := by rw [hex]; exact hb
    refine ⟨hn b hb, (I'.ok.exf b hb').1, I'.ok.exfs b hb', .inl hb', fun x c e => (I'.ok.exf b hb').2 x c e, fun p hp => ?_⟩
    rw [hpn] at hp
    have hp2 : p = (a, go) := by simpa using hp
    rw [hp2]
    exact (hT b hb).symm
  intro m
  induction m using Nat.strongRecOn with
  | ind m ih =>
    intro n i s₀ s H hmn hW I hst hn
    show Seg _ A' _ _ _ s₀ _ ((compTurn (.GeneratorExp elt [⟨tg, iter, [], 0⟩] scope pos) 0 (.ref it) .none Y.env).onRaise (leaving Y.env)) [] s
    rw [compTurn_gen, Sem.onRaise_eq_wrap]
    refine seg_bind_wrap (wpAny_standAt ?_)
    rcases turn i m H hW with ⟨stop, q⟩ | ⟨hgoi, Nx, hN, step⟩
    · refine seg_bind_wrap ?_
      rw [hA]
      refine wpAny_mono (T.done Y rfl rfl rfl hc i [] s σ0 H (fun _ _ => False) I (stat I hn) hst stop) (fun r s1 ⟨hr, I1⟩ => ?_) fun _ _ z => z.elim
      subst hr
      exact seg_end (.ok .next) (.inl ⟨.inr rfl, H, postX I1, q⟩)
    · refine seg_bind_wrap ?_
      rw [hA]
      refine wpAny_mono (T.item Y rfl rfl rfl hc i [] s σ0 H (fun _ _ => False) I (stat I hn) hst hgoi) (fun r s1 ⟨u, hr, h1⟩ => ?_) fun _ _ z => z.elim
      subst hr
      refine seg_bind_wrap ?_
      rw [hA]
      refine wpAny_mono h1 (fun _ s2 ⟨x, H2, I2, r2, y2, st2, n2⟩ => ?_) fun _ _ z => z.elim
      have I2' := I2.pinned (stat I2 n2) (T.obj _ _ st2)
      refine seg_bind_wrap ?_
      rw [hA]
      refine wpAny_mono (pg.run _ s2 σ0 H2 x u _ I2' r2 (step x H2 y2)) (fun _ s3 ⟨σ3, H3, I3, w3, q3⟩ => ?_) fun _ _ z => by rw [hxe] at z; exact z.elim
      refine seg_bind_wrap ?_
      simp only [List.forIn_nil]
      refine wpAny_pure ?_
      simp only [if_true]
      have hy : ∀ v, yieldOut Y.env v = yieldValue v := fun v => by simp only [yieldOut, hco, Bool.false_eq_true, if_false]
      simp only [hy]
      rw [Sem.bind_eq_wrap', Sem.bind_eq_wrap', Sem.wrap_wrap, Sem.wrap_wrap]
      refine seg_wrap ?_
      rw [hA]
      refine wpAny_mono (pe.run _ s3 σ3 H3 _ I3 q3) (fun v s4 ⟨y, H4, I4, r4, b, eb, qa, qb⟩ => ?_) fun _ _ z => by rw [hxe] at z; exact z.elim
      subst eb
      have r4 : v = .bool b := r4
      subst r4
      have pinGo : s4.heap.get? a = some go := (I4.pin (a, go) (by rw [hpn]; simp)).1
      obtain ⟨n, rfl⟩ : ∃ n', n = n' + 1 := ⟨n - 1, by omega⟩
      refine seg_at (seg_yield rfl rfl rfl ⟨b, rfl, I4.os, I4.bare, I4.nolimit, hgo _ pinGo, fun hb => ⟨H4, postX I4, qa hb⟩, fun hb s' e1 e2 e3 => ?_⟩)
      obtain ⟨m', hm', w'⟩ := hN H4 (qb hb)
      have pin' : ∀ b ∈ fp, ∀ o, s2.heap.get? b = some o → s4.heap.get? b = some o ∧ H4 b = none := fun b hb o e =>
        let z := I4.pin (b, o) (List.mem_append_right _ (List.mem_append_right _ (mem_pinsAt hb e)))
        ⟨z.1, z.2.1⟩
      have I5 : Inv Y [] σ3 H4 s' := (I4.unpinned (pins := [])).call' (ch := []) e1 (by rw [e3]; exact Un.refl) (by rw [e3]; exact I4.hok) e2 fun b z => by simp at z
      have hl : σ0.length = σ3.length := by rw [← w3, wipe_length]
      have I6 : Inv Y [] σ0 H4 s' := I5.weak hl fun j v e => by
        rw [← w3] at e
        exact (wipe_some e).1
      refine seg_again rfl (ih m' hm' n (i + 1) s' s' H4 (by omega) w' I6 (T.keep _ _ _ st2 fun b hb o e => by rw [e3]; exact (pin' b hb o e).1) fun b hb => ?_)
      obtain ⟨o, e, _⟩ := T.obj _ _ st2 b hb
      exact (pin' b hb o e).2
end
end Gx
set_option Elab.async false
set_option linter.all false
set_option maxRecDepth 100000
set_option maxHeartbeats 2000000
/-! the consumer: all.loop, any.loop over a generator; the rules -/
namespace Gx
open PySem PySem.Spec PyProof.Rows L2 GenW

section
variable {Y : Cx} {elt tg iter : Expr} {scope : Scope} {pos : Pos} {A' : Around} {st : Bool} {Q : VK} {it a : Addr} {gn : Nat}
/-- the generator's first step -/
theorem seg_gx0 {n : Nat} {s₀ s : Shared} {R : GenEnd} {Yp : Protocol} (hself : ∀ (A : Around) (Q : Value → Shared → Prop) (E : Value → Shared → Prop), Q (.ref it) s → wpAny (model Y.prog Y.w) A (pyIter (.ref it)) Q E s)
    (loop : Seg (model Y.prog Y.w) A' R Yp n s₀ (.compLoop (.GeneratorExp elt [⟨tg, iter, [], 0⟩] scope pos) 0 (.ref it) .none Y.env)
        ((model Y.prog Y.w).den (.compLoop (.GeneratorExp elt [⟨tg, iter, [], 0⟩] scope pos) 0 (.ref it) .none Y.env)) [] s) :
    Seg (model Y.prog Y.w) A' R Yp n s₀ (.compStart (.GeneratorExp elt [⟨tg, iter, [], 0⟩] scope pos) 0 (.ref it) .none Y.env)
        ((model Y.prog Y.w).den (.compStart (.GeneratorExp elt [⟨tg, iter, [], 0⟩] scope pos) 0 (.ref it) .none Y.env)) [] s := by
  show Seg _ A' _ _ _ s₀ _ ((compStart (.GeneratorExp elt [⟨tg, iter, [], 0⟩] scope pos) 0 (.ref it) .none Y.env).onRaise (leaving Y.env)) [] s
  unfold compStart
  rw [Sem.onRaise_eq_wrap]
  show Seg _ A' _ _ _ s₀ _ ((ask >>= _).wrap _ _ _ _) [] s
  refine seg_bind_wrap (wpAny_askSetting ?_)
  split
  · exact seg_again rfl loop
  · first
      | exact seg_bind_wrap (wpAny_rule (seg_bind_wrap (wpAny_standAt (seg_bind_wrap (hself _ _ _ (seg_again rfl loop))))))
      | (refine seg_bind_wrap (wpAny_rule ?_); show Seg _ A' _ _ _ s₀ _ ((standAt iter.pos >>= _).wrap _ _ _ _) [] s; exact seg_bind_wrap (wpAny_standAt (seg_bind_wrap (hself _ _ _ (seg_again rfl loop)))))

theorem loop_all {A : Around} {R : Result → Shared → Prop} (hh : A.handled = none) (hd : A.depth < recursionLimit)
    (hR : ∀ (b : Bool) (s' : Shared) (H' : Hp), PostX Y s' H' → Q (.bl b) H' → R (.ok (.ret (.bool b))) s') :
    ∀ (k : Nat) (s : Shared), s.heap.IsGen a gn → s.heap.NoLimit →
      (∃ gs, s.gens[gn]? = some gs ∧ gs.Goes (model Y.prog Y.w) A.in1.in1 (RX Y false Q) (YX Y false a gn Q) k (.send .none) (s.setGen gn .running)) →
      codeAny (model Y.prog Y.w) A (.builtin "all.loop" ⟨[.ref a], []⟩) R s := by
  have fin : ∀ {s1 : Shared} {h' : Heap} {H' : Hp} {x : GenState}, x.bare = true → PostX Y s1 H' → (∀ b o, s1.heap.get? b = some o → h'.get? b = some o) → PostX Y { s1.setGen gn x with heap := h' } H' := fun {s1 h' H' x} hx p hk =>
    ⟨p.1, allBare_setGen p.2.1 hx, p.2.2.1.trans (Un.kept hk), p.2.2.2.kept hk⟩
  have goes : ∀ {gs : GenState} {B : Around} {n : Nat} {r : Resume} {s : Shared}, gs.Goes (model Y.prog Y.w) B (RX Y false Q) (YX Y false a gn Q) n r s →
      gs.Goes (model Y.prog Y.w) B (fun n s₀ r s1 => ((r = .ok (.ret .none) ∨ r = .ok .next) ∧ (∃ H', PostX Y s1 H' ∧ Q (.bl (!false)) H')) ∨ ∃ e, r = .error e ∧ False) (YX Y false a gn Q) n r s := fun h => h
  intro k
  induction k with
  | zero =>
    intro s hg hl ⟨gs, hgs, hgo⟩
    refine codeAny_builtin F.entry_all_loop ?_
    rw [Around.under_plainId F.plain_all_loop _]
    show wpAny _ A.in1 (pyNext (.ref a) >>= _) _ _ s
    refine wpAny_bind (next_genG (A := A.in1) (Er := fun _ _ => False) hh hl hd hg hgs (goes hgo) (fun v s₁ gs' hbare hv => ?_) (fun s₁ hp h' hk => ?_) fun e s₁ he => he.elim)
    · obtain ⟨b, rfl, h1, h2, h3, h4, hq, hn⟩ := hv
      by_cases hb : b = false
      · subst hb
        obtain ⟨H', hp, hq⟩ := hq rfl
        refine wpAny_bind (wpAny_holding (wpAny_truthy_bool ?_))
        refine wpAny_bind (wpAny_letGo ?_)
        simp only [if_true, Bool.false_eq_true, if_false]
        refine wpAny_bind (wpAny_rule (wpAny_pure ?_))
        exact hR _ _ H' (fin (s1 := s₁) (h' := s₁.heap) hbare hp fun _ _ e => e) hq
      · exact (hn hb s₁ rfl h2 rfl).elim
    · obtain ⟨H', hp, hq⟩ := hp
      refine wpAny_bind (wpAny_rule (wpAny_pure ?_))
      exact hR _ _ H' (fin rfl hp hk) hq
  | succ k ih =>
    intro s hg hl ⟨gs, hgs, hgo⟩
    have hgl : gn < s.gens.size := (Array.getElem?_eq_some_iff.mp hgs).1
    refine codeAny_builtin F.entry_all_loop ?_
    rw [Around.under_plainId F.plain_all_loop _]
    show wpAny _ A.in1 (pyNext (.ref a) >>= _) _ _ s
    refine wpAny_bind (wpAny_gsz (n := gn + 1) hgl (next_genG (A := A.in1) (Er := fun _ _ => False) hh hl hd hg hgs (goes hgo) (fun v s₁ gs' hbare hv => ?_) (fun s₁ hp h' hk => ?_) fun e s₁ he => he.elim))
    · intro hsz
      obtain ⟨b, rfl, h1, h2, h3, h4, hq, hn⟩ := hv
      have hsz1 : gn < s₁.gens.size := by
        have q : (s₁.setGen gn gs').gens.size = s₁.gens.size := setGen_size _ _ _
        have hsz' : gn + 1 ≤ (s₁.setGen gn gs').gens.size := hsz
        omega
      by_cases hb : b = false
      · subst hb
        obtain ⟨H', hp, hq⟩ := hq rfl
        refine wpAny_bind (wpAny_holding (wpAny_truthy_bool ?_))
        refine wpAny_bind (wpAny_letGo ?_)
        simp only [if_true, Bool.false_eq_true, if_false]
        refine wpAny_bind (wpAny_rule (wpAny_pure ?_))
        exact hR _ _ H' (fin (s1 := s₁) (h' := s₁.heap) hbare hp fun _ _ e => e) hq
      · have hb' : b = true := by cases b <;> first | rfl | exact absurd rfl hb
        have go := hn hb
        subst hb'
        refine wpAny_bind (wpAny_holding (wpAny_truthy_bool ?_))
        refine wpAny_bind (wpAny_letGo ?_)
        simp only [if_true, Bool.false_eq_true, if_false]
        refine wpAny_pure ⟨plainId_quiet F.plain_all_loop _, ih _ ?_ ?_ ⟨gs', setGen_at hsz1, ?_⟩⟩
        · exact h4
        · exact h3
        · exact go _ rfl (allBare_setGen (s := s₁.setGen gn gs') (allBare_setGen h2 hbare) rfl) rfl
    · intro _
      obtain ⟨H', hp, hq⟩ := hp
      refine wpAny_bind (wpAny_rule (wpAny_pure ?_))
      exact hR _ _ H' (fin rfl hp hk) hq

theorem loop_any {A : Around} {R : Result → Shared → Prop} (hh : A.handled = none) (hd : A.depth < recursionLimit)
    (hR : ∀ (b : Bool) (s' : Shared) (H' : Hp), PostX Y s' H' → Q (.bl b) H' → R (.ok (.ret (.bool b))) s') :
    ∀ (k : Nat) (s : Shared), s.heap.IsGen a gn → s.heap.NoLimit →
      (∃ gs, s.gens[gn]? = some gs ∧ gs.Goes (model Y.prog Y.w) A.in1.in1 (RX Y true Q) (YX Y true a gn Q) k (.send .none) (s.setGen gn .running)) →
      codeAny (model Y.prog Y.w) A (.builtin "any.loop" ⟨[.ref a], []⟩) R s := by
  have fin : ∀ {s1 : Shared} {h' : Heap} {H' : Hp} {x : GenState}, x.bare = true → PostX Y s1 H' → (∀ b o, s1.heap.get? b = some o → h'.get? b = some o) → PostX Y { s1.setGen gn x with heap := h' } H' := fun {s1 h' H' x} hx p hk =>
    ⟨p.1, allBare_setGen p.2.1 hx, p.2.2.1.trans (Un.kept hk), p.2.2.2.kept hk⟩
  have goes : ∀ {gs : GenState} {B : Around} {n : Nat} {r : Resume} {s : Shared}, gs.Goes (model Y.prog Y.w) B (RX Y true Q) (YX Y true a gn Q) n r s →
      gs.Goes (model Y.prog Y.w) B (fun n s₀ r s1 => ((r = .ok (.ret .none) ∨ r = .ok .next) ∧ (∃ H', PostX Y s1 H' ∧ Q (.bl (!true)) H')) ∨ ∃ e, r = .error e ∧ False) (YX Y true a gn Q) n r s := fun h => h
  intro k
  induction k with
  | zero =>
    intro s hg hl ⟨gs, hgs, hgo⟩
    refine codeAny_builtin F.entry_any_loop ?_
    rw [Around.under_plainId F.plain_any_loop _]
    show wpAny _ A.in1 (pyNext (.ref a) >>= _) _ _ s
    refine wpAny_bind (next_genG (A := A.in1) (Er := fun _ _ => False) hh hl hd hg hgs (goes hgo) (fun v s₁ gs' hbare hv => ?_) (fun s₁ hp h' hk => ?_) fun e s₁ he => he.elim)
    · obtain ⟨b, rfl, h1, h2, h3, h4, hq, hn⟩ := hv
      by_cases hb : b = true
      · subst hb
        obtain ⟨H', hp, hq⟩ := hq rfl
        refine wpAny_bind (wpAny_holding (wpAny_truthy_bool ?_))
        refine wpAny_bind (wpAny_letGo ?_)
        simp only [if_true, Bool.false_eq_true, if_false]
        refine wpAny_bind (wpAny_rule (wpAny_pure ?_))
        exact hR _ _ H' (fin (s1 := s₁) (h' := s₁.heap) hbare hp fun _ _ e => e) hq
      · exact (hn hb s₁ rfl h2 rfl).elim
    · obtain ⟨H', hp, hq⟩ := hp
      refine wpAny_bind (wpAny_rule (wpAny_pure ?_))
      exact hR _ _ H' (fin rfl hp hk) hq
  | succ k ih =>
    intro s hg hl ⟨gs, hgs, hgo⟩
    have hgl : gn < s.gens.size := (Array.getElem?_eq_some_iff.mp hgs).1
    refine codeAny_builtin F.entry_any_loop ?_
    rw [Around.under_plainId F.plain_any_loop _]
    show wpAny _ A.in1 (pyNext (.ref a) >>= _) _ _ s
    refine wpAny_bind (wpAny_gsz (n := gn + 1) hgl (next_genG (A := A.in1) (Er := fun _ _ => False) hh hl hd hg hgs (goes hgo) (fun v s₁ gs' hbare hv => ?_) (fun s₁ hp h' hk => ?_) fun e s₁ he => he.elim))
    · intro hsz
      obtain ⟨b, rfl, h1, h2, h3, h4, hq, hn⟩ := hv
      have hsz1 : gn < s₁.gens.size := by
        have q : (s₁.setGen gn gs').gens.size = s₁.gens.size := setGen_size _ _ _
        have hsz' : gn + 1 ≤ (s₁.setGen gn gs').gens.size := hsz
        omega
      by_cases hb : b = true
      · subst hb
        obtain ⟨H', hp, hq⟩ := hq rfl
        refine wpAny_bind (wpAny_holding (wpAny_truthy_bool ?_))
        refine wpAny_bind (wpAny_letGo ?_)
        simp only [if_true, Bool.false_eq_true, if_false]
        refine wpAny_bind (wpAny_rule (wpAny_pure ?_))
        exact hR _ _ H' (fin (s1 := s₁) (h' := s₁.heap) hbare hp fun _ _ e => e) hq
      · have hb' : b = false := by cases b <;> first | rfl | exact absurd rfl hb
        have go := hn hb
        subst hb'
        refine wpAny_bind (wpAny_holding (wpAny_truthy_bool ?_))
        refine wpAny_bind (wpAny_letGo ?_)
        simp only [if_true, Bool.false_eq_true, if_false]
        refine wpAny_pure ⟨plainId_quiet F.plain_any_loop _, ih _ ?_ ?_ ⟨gs', setGen_at hsz1, ?_⟩⟩
        · exact h4
        · exact h3
        · exact go _ rfl (allBare_setGen (s := s₁.setGen gn gs') (allBare_setGen h2 hbare) rfl) rfl
    · intro _
      obtain ⟨H', hp, hq⟩ := hp
      refine wpAny_bind (wpAny_rule (wpAny_pure ?_))
      exact hR _ _ H' (fin rfl hp hk) hq
end
end Gx
set_option Elab.async false
set_option linter.all false
set_option maxRecDepth 100000
set_option maxHeartbeats 2000000
/-! the rules: all(..), any(..) of a generator expression -/
namespace Gx
open PySem PySem.Spec PyProof.Rows L2 GenW

/-- st: the element's answer that ends the walk (all: False, any: True) -/
def tQ (st : Bool) (base : Heap) (cv : Value) (n : Nat) (wi : TI) (g : TG) (te : Value → TE) (vs : List Nat) : TE := fun σ H Q => wi σ H fun J H1 => CodeRd base cv n H1 ∧ ∀ cv2 H2, Ex H1 H2 → Deep n cv2 H2 → ∃ W : Nat → Nat → Hp → Prop, (∃ m, W 0 m H2) ∧ ∀ i m H, W i m H →
  (J.stop i H ∧ Q (.bl (!st)) H) ∨ (J.go i H ∧ ∃ Nx : Hp → Prop, (∀ H', Nx H' → ∃ m', m' < m ∧ W (i + 1) m' H') ∧ ∀ x H', J.yld i H x H' → g x (wipe σ vs) H' fun σ2 H3 => wipe σ2 vs = wipe σ vs ∧ te cv2 σ2 H3 fun y H4 => ∃ b, y = .bl b ∧ (b = st → Q (.bl st) H4) ∧ (b ≠ st → Nx H4))

theorem eval_gen (elt target iter : Expr) (scope : Scope) (pos : Pos) (env : Env) (hco : scope.isCoroutine = false) :
    eval (.GeneratorExp elt [⟨target, iter, [], 0⟩] scope pos) env = (do
      let x ← eval iter env
      standAt iter.pos
      let x ← genFold iter env x
      let it ← holding [x] (pyIter x)
      enterFrame
      let cl ← closureFor scope env
      let code ← genexprCode env pos (env.qual ++ "<genexpr>") scope
      let bi ← builtinsFor env.globals env.builtins
      let cenv ← newFunctionEnv scope env.globals cl [(".0", it)] (env.qual ++ "<genexpr>.") none code none bi
      newGenerator (.compStart (.GeneratorExp elt [⟨target, iter, [], 0⟩] scope pos) 0 it .none cenv) "<genexpr>" (env.qual ++ "<genexpr>")) := eval_GeneratorExp1 _ _ _ _ _ _ _ hco

theorem new_gen {M : Model} {A : Around} {E : Value → Shared → Prop} {e : Expr} {d : Nat} {it acc : Value} {env : Env} {name qn : Str} {Q : Value → Shared → Prop} {s : Shared}
    (h : ∀ (go : Obj) (nm qv : Value) (tk : Nat), go.cls = .type "generator" → go.data = .fields #[.int s.gens.size 0, nm, qv] → go.slots = #[] → (∀ h : Heap, (h.push go).get? h.objs.size = some go) →
      Q (.ref s.heap.objs.size) { s with heap := s.heap.push go, gens := s.gens.push (.fresh (.compStart e d it acc env)), toks := tk }) : wpAny M A (newGenerator (.compStart e d it acc env) name qn) Q E s := by
  simp only [newGenerator, newFields]
  refine wpAny_bind (wpAny_newGen (wpAny_bind (wpAny_mkText (wpAny_bind (wpAny_mkText (wpAny_newObj_type ?_ (by size_fits)))))))
  exact h _ _ _ _ rfl rfl rfl fun h => Heap.get?_push_size _ rfl

section
variable {X : Cx} {pins : List (Addr × Obj)} {σ : L2.St} {H : Hp} {s : Shared} {elt tg iter : Expr} {scope : Scope} {own : List (Str × Nat)} {gpos : Pos} {wi : TI} {g : TG} {te : Value → TE} {n k : Nat} {st : Bool} {Q : VK}
def Ready (X : Cx) (pins : List (Addr × Obj)) (σ : L2.St) (st : Bool) (Q : VK) (a : Addr) (s5 : Shared) : Prop :=
  ∃ (Y : Cx) (gn k : Nat), Y.prog = X.prog ∧ Y.w = X.w ∧ s5.heap.IsGen a gn ∧ s5.heap.NoLimit ∧
    (∃ gs, s5.gens[gn]? = some gs ∧ gs.Goes (model Y.prog Y.w) X.A.in1.in1 (RX Y st Q) (YX Y st a gn Q) k (.send .none) (s5.setGen gn .running)) ∧
    ∀ (b : Bool) (s' : Shared) (H' : Hp), PostX Y s' H' → Q (.bl b) H' → EP X pins σ Q (.bool b) s'
theorem gen_run {Q' : Value → Shared → Prop} (I : Inv X pins σ H s) (hr : Room (k + 1) X.A) (hbm : BmAt X.base X.mg) (hN : X.N.Nodup) (hi : PI X tg iter wi) (S : GenS X.N X.env.scope scope own)
    (pg : ∀ (Ag : Around) (s : Shared) (H : Hp) (cl : List (Str × Addr)) (C : Addr) (code : Value) (fp : List Addr) (pn : List (Addr × Obj)), Room k Ag → PG (genCx X Ag s H scope cl C code fp pn) tg g)
    (pe : ∀ (Ag : Around) (s : Shared) (H : Hp) (cl : List (Str × Addr)) (C : Addr) (code : Value) (fp : List Addr) (pn : List (Addr × Obj)), Room k Ag → PE (genCx X Ag s H scope cl C code fp pn) elt (te code))
    (hs : ∀ v, genFold iter X.env v = pure v) (h : tQ st X.base X.env.code n wi g te (own.map (·.2)) σ H Q) (hQ : ∀ a s5, Ready X pins σ st Q a s5 → Q' (.ref a) s5) :
    wpAny (model X.prog X.w) X.A (eval (.GeneratorExp elt [⟨tg, iter, [], 0⟩] scope gpos) X.env) Q' X.xe s := by
  have hfree : ∀ y ∈ scope.names, y.2 = .free → ∃ c, X.env.cells.lookup y.1 = some c := fun y hy e => by
    rcases S.blk.free y hy e with k | k
    · exact I.ok.has _ (.inl k)
    · exact I.ok.has _ (.inr k)
  rw [eval_gen _ _ _ _ _ _ S.co, closure_ok hfree]
  refine wpAny_bind (thn (hi.run pins s σ H _ I h) fun xv s1 hx => ?_)
  refine wpAny_bind (wpAny_standAt ?_)
  refine wpAny_bind (wpAny_of_eq (hs xv) ?_)
  refine wpAny_bind (wpAny_holding (thn hx fun itv s2 h2 => ?_))
  obtain ⟨it, fp, tn, J, H2, rfl, I2, T, st2, f2, hcd, q⟩ := h2
  refine wpAny_bind (wpAny_enterFrame I2.nolimit hr.depth ?_)
  refine wpAny_bind (wpAny_pure ?_)
  refine wpAny_bind (gen_code I2 hcd fun cv H3 h3 tk3 I3 e3 d3 sz3 kp3 => ?_)
  obtain ⟨bm, ob, b1, b2, b3, b4, b5, b6, b7⟩ := hbm
  refine wpAny_bind (wpAny_builtinsFor (by rw [I3.ok.glob]; exact I3.mod.glob.keeps I3.bk) b1 b2 (I3.bk _ _ b4) b5 b6 b7 ?_)
  obtain ⟨W, ⟨m0, w0⟩, turn⟩ := q cv H3 e3 d3
  have st3 : tn 0 h3 := T.keep _ _ _ st2 fun b hb o e => (kp3 b o (f2 b hb).1 e).1
  have f3 : ∀ b ∈ fp, FpOk X pins H3 b ∧ b < h3.objs.size := fun b hb => by
    obtain ⟨o, e, _⟩ := T.obj _ _ st2 b hb
    obtain ⟨z1, z2⟩ := kp3 b o (f2 b hb).1 e
    exact ⟨⟨z2, (f2 b hb).2⟩, Heap.lt_size z1⟩
  generalize hs3 : ({ s2 with heap := h3, toks := tk3 } : Shared) = s3 at I3
  have hs3h : s3.heap = h3 := by rw [← hs3]
  rw [← hs3h] at st3 f3
  refine wpAny_bind (newEnv_gen S.blk.kind S.dot fun h4 tk4 hn4 hs4 => ?_)
  generalize hcl : cellsFrom (s3.heap.objs.size + 1) scope.names (cloFrom X.env.cells scope.names []) = cl
  have main : ∀ (go : Obj) (nm qn : Value) (tk : Nat), go.cls = .type "generator" → go.data = .fields #[.int s3.gens.size 0, nm, qn] → go.slots = #[] → (∀ h : Heap, (h.push go).get? h.objs.size = some go) →
      Q' (.ref h4.objs.size) { s3 with heap := h4.push go, gens := s3.gens.push (.fresh (.compStart (.GeneratorExp elt [⟨tg, iter, [], 0⟩] scope gpos) 0 (.ref it) .none (genEnvC scope cl s3.heap.objs.size cv X.env))), toks := tk } := by
    intro go nm qn tk g1 g2 g3 g4
    have hgen : ∀ h : Heap, h.get? h4.objs.size = some go → h.IsGen h4.objs.size s3.gens.size := fun h e => ⟨go, nm, qn, e, g1, g2, g3⟩
    have hgc : ∀ v, go.data ≠ .cell v := fun v z => by
      rw [g2] at z
      cases z
    have szc := pushCells_size scope.names (s3.heap.push { cls := .type "frame", data := .dict #[] })
    rw [Heap.size_push] at szc
    have szh : h4.objs.size = (pushCells (s3.heap.push { cls := .type "frame", data := .dict #[] }) scope.names).objs.size := hs4.1
    have hlt : s3.heap.objs.size < h4.objs.size := by rw [szh]; exact szc
    have rk : Room k ((X.A.in1.in1).deeper (genEnvC scope cl s3.heap.objs.size cv X.env)) := by
      refine ⟨hr.hd, ?_, ?_⟩
      · have := hr.dp
        show X.A.depth + 1 + 3 * k + 5 < _
        omega
      · have := hr.un
        show X.A.units + 1 + 1 + 3 + 16 * k + 200 < _
        omega
    have hfr : ((X.A.in1.in1).deeper (genEnvC scope cl s3.heap.objs.size cv X.env)).frames = some (genEnvC scope cl s3.heap.objs.size cv X.env :: X.stack) := Around.frames_deeper (show X.A.in1.in1.frames = some X.stack from I3.ok.frames)
    have pg' := pg ((X.A.in1.in1).deeper (genEnvC scope cl s3.heap.objs.size cv X.env)) s3 H3 cl s3.heap.objs.size cv fp [(h4.objs.size, go)] rk
    have pe' := pe ((X.A.in1.in1).deeper (genEnvC scope cl s3.heap.objs.size cv X.env)) s3 H3 cl s3.heap.objs.size cv fp [(h4.objs.size, go)] rk
    have start : ∀ (gs : Array GenState) (tk : Nat), AllBare gs → Inv (genCx X ((X.A.in1.in1).deeper (genEnvC scope cl s3.heap.objs.size cv X.env)) s3 H3 scope cl s3.heap.objs.size cv fp [(h4.objs.size, go)]) [] (wipe σ (own.map (·.2))) H3 { s3 with heap := h4.push go, gens := gs, toks := tk } := fun gs tk hb => by
      have z := gen_start (scope := scope) (own := own) (fp := fp) (code := cv) (Ag := (X.A.in1.in1).deeper (genEnvC scope cl s3.heap.objs.size cv X.env)) (h' := h4) (go := go) (gs := gs) (tk := tk) I3 S hN f3 hr.hd (by rw [hcl]; exact hfr) hn4 hs4 hb (g4 h4) hgc
      rw [hcl] at z
      exact z
    have bare1 : AllBare (s3.gens.push (.fresh (.compStart (.GeneratorExp elt [⟨tg, iter, [], 0⟩] scope gpos) 0 (.ref it) .none (genEnvC scope cl s3.heap.objs.size cv X.env)))) := AllBare.push I3.bare rfl
    have J1 := start _ tk bare1
    refine hQ h4.objs.size _ ⟨genCx X ((X.A.in1.in1).deeper (genEnvC scope cl s3.heap.objs.size cv X.env)) s3 H3 scope cl s3.heap.objs.size cv fp [(h4.objs.size, go)], s3.gens.size, m0 + 1, rfl, rfl, hgen _ (g4 h4), J1.nolimit, ⟨_, Array.getElem?_push_size .., rfl, ?_⟩, fun b s' H' hp hq => ?_⟩
    · have J2 := start ((s3.gens.push (.fresh (.compStart (.GeneratorExp elt [⟨tg, iter, [], 0⟩] scope gpos) 0 (.ref it) .none (genEnvC scope cl s3.heap.objs.size cv X.env)))).setIfInBounds s3.gens.size .running) tk (allBare_setGen (s := { s3 with gens := s3.gens.push (.fresh (.compStart (.GeneratorExp elt [⟨tg, iter, [], 0⟩] scope gpos) 0 (.ref it) .none (genEnvC scope cl s3.heap.objs.size cv X.env))) }) bare1 rfl)
      have kp4 : ∀ b o, b ≠ s3.heap.objs.size → s3.heap.get? b = some o → (h4.push go).get? b = some o := fun b o hb e => Heap.get?_push_of_some _ ((hs4.2 b hb).trans (pushCells_keeps _ _ _ _ (Heap.get?_push_of_some _ e)))
      have st4 : tn 0 (h4.push go) := T.keep _ _ _ st3 fun b hb o e => kp4 b o (Nat.ne_of_lt (f3 b hb).2) e
      refine seg_gx0 (Y := genCx X ((X.A.in1.in1).deeper (genEnvC scope cl s3.heap.objs.size cv X.env)) s3 H3 scope cl s3.heap.objs.size cv fp [(h4.objs.size, go)]) (fun A Q E hq => T.self A 0 _ _ _ st4 hq) ?_
      exact seg_gx (Y := genCx X ((X.A.in1.in1).deeper (genEnvC scope cl s3.heap.objs.size cv X.env)) s3 H3 scope cl s3.heap.objs.size cv fp [(h4.objs.size, go)]) (vs := own.map (·.2)) (σ0 := wipe σ (own.map (·.2))) rfl rfl rfl rfl hgen S.co rfl T (fun b hb => Nat.ne_of_lt (Nat.lt_trans (f3 b hb).2 hlt)) pg' pe' turn m0 (m0 + 1) 0 _ _ H3 (Nat.lt_succ_self _) w0 J2 st4 fun b hb => (f3 b hb).1.1
    · have hp' : s'.os = s3.os ∧ AllBare s'.gens ∧ Un (frs X.stack) fp H3 H' s3.heap s'.heap ∧ HOk X.prog X.w H' s'.heap := hp
      exact ⟨.bl b, H', I3.call' (ch := fp) hp'.1 hp'.2.2.1 hp'.2.2.2 hp'.2.1 fun b hb => ⟨(f3 b hb).1.2.2.2.1, (f3 b hb).1.2.1, (f3 b hb).1.2.2.2.2.1, (f3 b hb).1.2.2.2.2.2⟩, rfl, hq⟩
  exact new_gen fun go nm qn tk g1 g2 g3 g4 => main go nm qn tk g1 g2 g3 g4

theorem pe_all {p pos : Pos} (hr : Room (k + 1) X.A) (hg : Gl X "all") (hm : X.mg "all" = none) (hbm : BmAt X.base X.mg) (hN : X.N.Nodup) (hi : PI X tg iter wi) (S : GenS X.N X.env.scope scope own)
    (pg : ∀ (Ag : Around) (s : Shared) (H : Hp) (cl : List (Str × Addr)) (C : Addr) (code : Value) (fp : List Addr) (pn : List (Addr × Obj)), Room k Ag → PG (genCx X Ag s H scope cl C code fp pn) tg g)
    (pe : ∀ (Ag : Around) (s : Shared) (H : Hp) (cl : List (Str × Addr)) (C : Addr) (code : Value) (fp : List Addr) (pn : List (Addr × Obj)), Room k Ag → PE (genCx X Ag s H scope cl C code fp pn) elt (te code))
    (hs : ∀ v, genFold iter X.env v = pure v := by intro _; rfl)
    (he : starEach [.GeneratorExp elt [⟨tg, iter, [], 0⟩] scope gpos] X.env = (false, eval (.GeneratorExp elt [⟨tg, iter, [], 0⟩] scope gpos) X.env) :: starEach [] X.env := by rfl) :
    PE X (.Call (.Name "all" p) [.GeneratorExp elt [⟨tg, iter, [], 0⟩] scope gpos] [] pos) (tQ false X.base X.env.code n wi g te (own.map (·.2))) := by
  refine ⟨fun pins s σ H Q I h => ?_⟩
  refine wpAny_Call_Name_kw (ld_blt (u := .builtin "all") I hg hm (by decide +kernel) ?_)
  refine PyProof.Rows.callWith_builtin1 ?_ he (by rfl)
  rw [he]
  show wpAny _ _ (spliced ((false, eval (.GeneratorExp elt [⟨tg, iter, [], 0⟩] scope gpos) X.env) :: backTo pos (starEach [] X.env))) _ _ s
  refine Calls.spliced_cons (gen_run I hr hbm hN hi S pg pe hs h fun a s5 ⟨Y, gn, k2, e1, e2, hgn, hl, hgs, hfin⟩ => ?_)
  refine Calls.spliced_nil ?_
  refine call_function_tree F.kind_all F.plain_all F.entry_all (F.args_all1 _) ?_
  unfold Builtin.«all»
  refine wpAny_bind (m := oneArg "all" _) (wpAny_pure ?_)
  refine wpAny_bind (wpAny_pyIter_gen hgn ?_)
  have lp := loop_all (Y := Y) (Q := Q) (a := a) (gn := gn) (A := X.A) (R := fun r s' => match r with | .ok (.ret v) => EP X pins σ Q v s' | .ok _ => False | .error e => X.xe e s') hr.hd hr.depth (fun b s' H' hp hq => hfin b s' H' hp hq) k2 s5 hgn hl hgs
  rw [e1, e2] at lp
  exact wpAny_pure ⟨plainId_quiet F.plain_all_loop _, lp⟩

theorem pe_any {p pos : Pos} (hr : Room (k + 1) X.A) (hg : Gl X "any") (hm : X.mg "any" = none) (hbm : BmAt X.base X.mg) (hN : X.N.Nodup) (hi : PI X tg iter wi) (S : GenS X.N X.env.scope scope own)
    (pg : ∀ (Ag : Around) (s : Shared) (H : Hp) (cl : List (Str × Addr)) (C : Addr) (code : Value) (fp : List Addr) (pn : List (Addr × Obj)), Room k Ag → PG (genCx X Ag s H scope cl C code fp pn) tg g)
    (pe : ∀ (Ag : Around) (s : Shared) (H : Hp) (cl : List (Str × Addr)) (C : Addr) (code : Value) (fp : List Addr) (pn : List (Addr × Obj)), Room k Ag → PE (genCx X Ag s H scope cl C code fp pn) elt (te code))
    (hs : ∀ v, genFold iter X.env v = pure v := by intro _; rfl)
    (he : starEach [.GeneratorExp elt [⟨tg, iter, [], 0⟩] scope gpos] X.env = (false, eval (.GeneratorExp elt [⟨tg, iter, [], 0⟩] scope gpos) X.env) :: starEach [] X.env := by rfl) :
    PE X (.Call (.Name "any" p) [.GeneratorExp elt [⟨tg, iter, [], 0⟩] scope gpos] [] pos) (tQ true X.base X.env.code n wi g te (own.map (·.2))) := by
  refine ⟨fun pins s σ H Q I h => ?_⟩
  refine wpAny_Call_Name_kw (ld_blt I hg hm boot_any ?_)
  refine PyProof.Rows.callWith_builtin1 ?_ he (by rfl)
  rw [he]
  show wpAny _ _ (spliced ((false, eval (.GeneratorExp elt [⟨tg, iter, [], 0⟩] scope gpos) X.env) :: backTo pos (starEach [] X.env))) _ _ s
  refine Calls.spliced_cons (gen_run I hr hbm hN hi S pg pe hs h fun a s5 ⟨Y, gn, k2, e1, e2, hgn, hl, hgs, hfin⟩ => ?_)
  refine Calls.spliced_nil ?_
  refine call_function_tree F.kind_any F.plain_any F.entry_any (F.args_any1 _) ?_
  unfold Builtin.«any»
  refine wpAny_bind (m := oneArg "any" _) (wpAny_pure ?_)
  refine wpAny_bind (wpAny_pyIter_gen hgn ?_)
  have lp := loop_any (Y := Y) (Q := Q) (a := a) (gn := gn) (A := X.A) (R := fun r s' => match r with | .ok (.ret v) => EP X pins σ Q v s' | .ok _ => False | .error e => X.xe e s') hr.hd hr.depth (fun b s' H' hp hq => hfin b s' H' hp hq) k2 s5 hgn hl hgs
  rw [e1, e2] at lp
  exact wpAny_pure ⟨plainId_quiet F.plain_any_loop _, lp⟩
end
end Gx
set_option Elab.async false
set_option linter.all false
set_option maxRecDepth 100000
set_option maxHeartbeats 2000000
/-! data that never changes (None, bools, ints, tuples of such), and what evaluates to it -/
namespace Dw
open PySem PySem.Spec PyProof.Rows L2 Gx

mutual
inductive Is (H : Hp) : V → PyData → Prop
  | non : Is H .non .none
  | bl (b : Bool) : Is H (.bl b) (.bool b)
  | int (i : Int) : Is H (.int i) (.int i)
  | tup {a : Addr} {vs : List V} {ds : List PyData} : H a = some (.tup vs) → IsA H vs ds → Is H (.ref a) (.tuple ds)
inductive IsA (H : Hp) : List V → List PyData → Prop
  | nil : IsA H [] []
  | cons {v : V} {vs : List V} {d : PyData} {ds : List PyData} : Is H v d → IsA H vs ds → IsA H (v :: vs) (d :: ds)
end
abbrev TupLe (H H' : Hp) : Prop := ∀ b xs, H b = some (.tup xs) → H' b = some (.tup xs)
mutual
theorem Is.keep {H H' : Hp} (t : TupLe H H') : ∀ (d : PyData) {v : V}, Is H v d → Is H' v d
  | _, _, .non => .non
  | _, _, .bl b => .bl b
  | _, _, .int i => .int i
  | .tuple ds, _, .tup h a => .tup (t _ _ h) (IsA.keep t ds a)
theorem IsA.keep {H H' : Hp} (t : TupLe H H') : ∀ (ds : List PyData) {vs : List V}, IsA H vs ds → IsA H' vs ds
  | _, _, .nil => .nil
  | d :: ds, _, .cons h r => .cons (Is.keep t d h) (IsA.keep t ds r)
end
mutual
theorem Is.dp {K : PySem.W.Frag} {H : Hp} : ∀ (d : PyData) {v : V}, Is H v d → Dp K H v d
  | _, _, .non => .non
  | _, _, .bl b => .bl b
  | _, _, .int i => .int i
  | .tuple ds, _, .tup h a => .tup (.inl (.inl h)) (IsA.dp ds a)
theorem IsA.dp {K : PySem.W.Frag} {H : Hp} : ∀ (ds : List PyData) {vs : List V}, IsA H vs ds → DpAll K H vs ds
  | _, _, .nil => .nil
  | d :: ds, _, .cons h r => .cons (Is.dp d h) (IsA.dp ds r)
end
section
variable {H H' : Hp} {R : Addr → Prop} {v : V} {vs ws : List V} {d : PyData} {ds es : List PyData}
theorem Is.ex (e : ExB R H H') (h : Is H v d) : Is H' v d := Is.keep e.tup d h
theorem IsA.ex (e : ExB R H H') (h : IsA H vs ds) : IsA H' vs ds := IsA.keep e.tup ds h
theorem tupLe_soft {p : Addr} {o u : HO} (h : H p = some u) (s : Soft u) : TupLe H (upd H p o) := fun b xs e => by
  refine (upd_ne (fun z => ?_)).trans e
  rw [z, h] at e
  cases e
  exact s.2.2 xs rfl
theorem tupLe_new {p : Addr} {o : HO} (h : H p = none) : TupLe H (upd H p o) := fun b xs e => by
  rw [upd_ne (ne_of_none e h)]
  exact e
theorem Is.int_inv {i : Int} (h : Is H v (.int i)) : v = .int i := by cases h; rfl
theorem Is.bool_inv {b : Bool} (h : Is H v (.bool b)) : v = .bl b := by cases h; rfl
theorem Is.none_inv (h : Is H v .none) : v = .non := by cases h; rfl
theorem Is.tup_inv (h : Is H v (.tuple ds)) : ∃ a vs, v = .ref a ∧ H a = some (.tup vs) ∧ IsA H vs ds := by
  cases h with
  | tup h a => exact ⟨_, _, rfl, h, a⟩
theorem IsA.length : ∀ {vs : List V} {ds : List PyData}, IsA H vs ds → vs.length = ds.length
  | _, _, .nil => rfl
  | _, _, .cons _ r => congrArg (· + 1) (IsA.length r)
theorem IsA.get : ∀ {vs : List V} {ds : List PyData} {i : Nat} {d : PyData}, IsA H vs ds → ds[i]? = some d → ∃ v, vs[i]? = some v ∧ Is H v d
  | _, _, _, _, .nil, e => by simp at e
  | _, _, 0, _, .cons h _, e => by
    have e := Option.some.inj e
    subst e
    exact ⟨_, rfl, h⟩
  | _, _, i + 1, _, .cons _ r, e => IsA.get (i := i) r e
theorem IsA.got : ∀ {vs : List V} {ds : List PyData} {i : Nat} {v : V}, IsA H vs ds → vs[i]? = some v → ∃ d, ds[i]? = some d ∧ Is H v d
  | _, _, _, _, .nil, e => by simp at e
  | _, _, 0, _, .cons h _, e => by
    have e := Option.some.inj e
    subst e
    exact ⟨_, rfl, h⟩
  | _, _, i + 1, _, .cons _ r, e => IsA.got (i := i) r e
theorem IsA.append : ∀ {vs ws : List V} {ds es : List PyData}, IsA H vs ds → IsA H ws es → IsA H (vs ++ ws) (ds ++ es)
  | _, _, _, _, .nil, s => s
  | _, _, _, _, .cons h r, s => .cons h (IsA.append r s)
theorem IsA.set : ∀ {vs : List V} {ds : List PyData} (i : Nat), IsA H vs ds → Is H v d → IsA H (vs.set i v) (ds.set i d)
  | _, _, _, .nil, _ => .nil
  | _, _, 0, .cons _ r, h => .cons h r
  | _, _, i + 1, .cons g r, h => .cons g (IsA.set i r h)
theorem IsA.take : ∀ {vs : List V} {ds : List PyData} (i : Nat), IsA H vs ds → IsA H (vs.take i) (ds.take i)
  | _, _, 0, _ => .nil
  | _, _, _ + 1, .nil => .nil
  | _, _, i + 1, .cons g r => .cons g (IsA.take i r)
theorem IsA.drop : ∀ {vs : List V} {ds : List PyData} (i : Nat), IsA H vs ds → IsA H (vs.drop i) (ds.drop i)
  | _, _, 0, r => r
  | _, _, _ + 1, .nil => .nil
  | _, _, i + 1, .cons g r => IsA.drop i r
theorem IsA.ints : ∀ {vs : List V} {ns : List Int}, IsA H vs (ns.map .int) → vs = ns.map V.int
  | _, [], h => by cases h; rfl
  | _, n :: ns, h => by
    cases h with
    | cons a r =>
      have e1 := a.int_inv
      have e2 := IsA.ints r
      rw [e1, e2]
      rfl
theorem IsA.of_ints : ∀ (ns : List Int), IsA H (ns.map V.int) (ns.map .int)
  | [] => .nil
  | n :: ns => .cons (.int n) (IsA.of_ints ns)
theorem IsA.cons_inv (h : IsA H vs (d :: ds)) : ∃ v r, vs = v :: r ∧ Is H v d ∧ IsA H r ds := by
  cases h with
  | cons a r => exact ⟨_, _, rfl, a, r⟩
theorem IsA.nil_inv (h : IsA H vs []) : vs = [] := by cases h; rfl
theorem IsA.inv1 {d1 : PyData} (h : IsA H vs [d1]) : ∃ v1, vs = [v1] ∧ Is H v1 d1 := by
  obtain ⟨v1, r, rfl, h1, h⟩ := h.cons_inv
  have e := h.nil_inv
  subst e
  exact ⟨v1, rfl, h1⟩
theorem IsA.inv2 {d1 d2 : PyData} (h : IsA H vs [d1, d2]) : ∃ v1 v2, vs = [v1, v2] ∧ Is H v1 d1 ∧ Is H v2 d2 := by
  obtain ⟨v1, r, rfl, h1, h⟩ := h.cons_inv
  obtain ⟨v2, rfl, h2⟩ := h.inv1
  exact ⟨v1, v2, rfl, h1, h2⟩
theorem IsA.inv3 {d1 d2 d3 : PyData} (h : IsA H vs [d1, d2, d3]) : ∃ v1 v2 v3, vs = [v1, v2, v3] ∧ Is H v1 d1 ∧ Is H v2 d2 ∧ Is H v3 d3 := by
  obtain ⟨v1, r, rfl, h1, h⟩ := h.cons_inv
  obtain ⟨v2, v3, rfl, h2⟩ := h.inv2
  exact ⟨v1, v2, v3, rfl, h1, h2⟩
theorem IsA.inv4 {d1 d2 d3 d4 : PyData} (h : IsA H vs [d1, d2, d3, d4]) : ∃ v1 v2 v3 v4, vs = [v1, v2, v3, v4] ∧ Is H v1 d1 ∧ Is H v2 d2 ∧ Is H v3 d3 ∧ Is H v4 d4 := by
  obtain ⟨v1, r, rfl, h1, h⟩ := h.cons_inv
  obtain ⟨v2, v3, v4, rfl, h2⟩ := h.inv3
  exact ⟨v1, v2, v3, v4, rfl, h1, h2⟩
theorem IsA.one (h : Is H v d) : IsA H [v] [d] := .cons h .nil
end

/-! ### what evaluates to what -/
def Ev (te : TE) (σ : L2.St) (H : Hp) (d : PyData) : Prop := ∀ H1, Ex H H1 → ∀ Q : VK, (∀ v H2, Ex H1 H2 → Is H2 v d → Q v H2) → te σ H1 Q
def EvB (tt : TT) (σ : L2.St) (H : Hp) (b : Bool) : Prop := ∀ H1, Ex H H1 → ∀ Q : Bool → Hp → Prop, (∀ H2, Ex H1 H2 → Q b H2) → tt σ H1 Q
def EvA (ta : TA) (σ : L2.St) (H : Hp) (ds : List PyData) : Prop := ∀ H1, Ex H H1 → ∀ Q : List V → Hp → Prop, (∀ vs H2, Ex H1 H2 → IsA H2 vs ds → Q vs H2) → ta σ H1 Q
/-- a new list -/
def EvL (te : TE) (σ : L2.St) (H : Hp) (ds : List PyData) : Prop := ∀ H1, Ex H H1 → ∀ Q : VK, (∀ p vs H2, Ex H1 H2 → H1 p = none → H2 p = some (.lst vs) → IsA H2 vs ds → Q (.ref p) H2) → te σ H1 Q

section
variable {K : PySem.W.Frag} {σ : L2.St} {H H' : Hp} {ta tb te tx tc : TE} {t u : TT} {d e : PyData} {ds es : List PyData} {a b : Bool} {v : V}
theorem Ev.ex (x : Ex H H') (h : Ev te σ H d) : Ev te σ H' d := fun H1 y Q q => h H1 (x.trans y) Q q
theorem EvB.ex (x : Ex H H') (h : EvB t σ H b) : EvB t σ H' b := fun H1 y Q q => h H1 (x.trans y) Q q
theorem EvA.ex {ta : TA} (x : Ex H H') (h : EvA ta σ H ds) : EvA ta σ H' ds := fun H1 y Q q => h H1 (x.trans y) Q q
theorem EvL.ex (x : Ex H H') (h : EvL te σ H ds) : EvL te σ H' ds := fun H1 y Q q => h H1 (x.trans y) Q q
theorem ev_var {i : Nat} (h : σ[i]? = some (some v)) (hv : Is H v d) : Ev (tVar i) σ H d := fun H1 x _ q => ⟨v, h, q v H1 (.refl H1) (hv.ex x)⟩
theorem ev_int {i : Int} : Ev (tC (.int i)) σ H (.int i) := fun H1 _ _ q => q _ H1 (.refl H1) (.int i)
theorem ev_bl : Ev (tC (.bl b)) σ H (.bool b) := fun H1 _ _ q => q _ H1 (.refl H1) (.bl b)
theorem ev_non : Ev (tC .non) σ H .none := fun H1 _ _ q => q _ H1 (.refl H1) .non
theorem ea_nil : EvA tNil σ H [] := fun H1 _ _ q => q [] H1 (.refl H1) .nil
theorem ea_cons {tr : TA} (h : Ev te σ H d) (r : EvA tr σ H ds) : EvA (tCons te tr) σ H (d :: ds) := fun H1 x Q q =>
  h H1 x _ fun v H2 x2 hv => r H2 (x.trans x2) _ fun vs H3 x3 hvs => q (v :: vs) H3 (x2.trans x3) (.cons (hv.ex x3) hvs)
theorem ea_one (h : Ev te σ H d) : EvA (tCons te tNil) σ H [d] := ea_cons h ea_nil
theorem sz {n : Nat} (h : n ≤ 100000) : n ≤ sizeLine := Nat.le_trans h (by decide)
theorem szl {n : Nat} (h : n < 100000) : n < sizeLine := Nat.lt_of_lt_of_le h (by decide)
theorem ev_tup {ta : TA} (h : EvA ta σ H ds) (hl : ds.length ≤ 100000) : Ev (tTup ta) σ H (.tuple ds) := fun H1 x Q q =>
  h H1 x _ fun vs H2 x2 hvs => ⟨by rw [hvs.length]; exact sz hl, fun p hp => q (.ref p) _ (x2.trans (.new hp)) (.tup upd_same (hvs.ex (R := none1) (.new hp)))⟩
theorem el_lst {ta : TA} (h : EvA ta σ H ds) (hl : ds.length ≤ 100000) : EvL (tLst ta) σ H ds := fun H1 x Q q =>
  h H1 x _ fun vs H2 x2 hvs => ⟨by rw [hvs.length]; exact sz hl, fun p hp => q p vs _ (x2.trans (.new hp)) (x2.back p hp) upd_same (hvs.ex (R := none1) (.new hp))⟩
theorem at_nat {α : Type} {xs : List α} {i : Nat} {x : α} (h : xs[i]? = some x) : atI xs (i : Int) = some x := atI_nat h
theorem atI_of {H : Hp} {vs : List V} {ds : List PyData} {i : Int} {d : PyData} (h : IsA H vs ds) (e : atI ds i = some d) : ∃ v, atI vs i = some v ∧ Is H v d := by
  unfold atI at e ⊢
  rw [← h.length] at e
  cases k : ixN vs.length i with
  | none =>
    rw [k] at e
    cases e
  | some j =>
    rw [k] at e
    exact h.get e
theorem ev_ix {i : Int} (ha : Ev ta σ H (.tuple ds)) (hb : Ev tb σ H (.int i)) (hi : atI ds i = some d) : Ev (tOp (rIxT K) ta tb) σ H d := fun H1 x Q q =>
  ha H1 x _ fun v H2 x2 hv => hb H2 (x.trans x2) _ fun w H3 x3 hw => by
    obtain ⟨p, vs, rfl, hp, hvs⟩ := hv.tup_inv
    have e := hw.int_inv
    subst e
    obtain ⟨z, hz, hd⟩ := atI_of (hvs.ex x3) hi
    exact ⟨p, vs, i, z, rfl, rfl, SqT.of (x3.tup _ _ hp), hz, q z H3 (x2.trans x3) hd⟩
theorem ev_ixn {i : Nat} (ha : Ev ta σ H (.tuple ds)) (hb : Ev tb σ H (.int (i : Int))) (hi : ds[i]? = some d) : Ev (tOp (rIxT K) ta tb) σ H d := ev_ix ha hb (at_nat hi)
theorem ev_I0 {g : Int → Int → V} {g' : Int → Int → PyData} {i j : Int} (ha : Ev ta σ H (.int i)) (hb : Ev tb σ H (.int j)) (hg : ∀ H, Is H (g i j) (g' i j)) : Ev (tOp (rI0 g) ta tb) σ H (g' i j) := fun H1 x Q q =>
  ha H1 x _ fun v H2 x2 hv => hb H2 (x.trans x2) _ fun w H3 x3 hw => ⟨i, j, hv.int_inv, hw.int_inv, q _ H3 (x2.trans x3) (hg H3)⟩
theorem ev_I {C : Int → Int → Prop} {g : Int → Int → V} {g' : Int → Int → PyData} {i j : Int} (ha : Ev ta σ H (.int i)) (hb : Ev tb σ H (.int j)) (hc : C i j) (hg : ∀ H, Is H (g i j) (g' i j)) : Ev (tOp (rI C g) ta tb) σ H (g' i j) := fun H1 x Q q =>
  ha H1 x _ fun v H2 x2 hv => hb H2 (x.trans x2) _ fun w H3 x3 hw => ⟨i, j, hv.int_inv, hw.int_inv, hc, q _ H3 (x2.trans x3) (hg H3)⟩
theorem ev_add {i j : Int} (ha : Ev ta σ H (.int i)) (hb : Ev tb σ H (.int j)) : Ev (tOp (rI0 fun i j => .int (i + j)) ta tb) σ H (.int (i + j)) := ev_I0 (g' := fun i j => .int (i + j)) ha hb fun _ => .int _
theorem ev_sub {i j : Int} (ha : Ev ta σ H (.int i)) (hb : Ev tb σ H (.int j)) : Ev (tOp (rI0 fun i j => .int (i - j)) ta tb) σ H (.int (i - j)) := ev_I0 (g' := fun i j => .int (i - j)) ha hb fun _ => .int _
theorem ev_lt {i j : Int} (ha : Ev ta σ H (.int i)) (hb : Ev tb σ H (.int j)) : Ev (tOp (rI0 fun i j => .bl (decide (i < j))) ta tb) σ H (.bool (decide (i < j))) := ev_I0 (g' := fun i j => .bool (decide (i < j))) ha hb fun _ => .bl _
theorem ev_le {i j : Int} (ha : Ev ta σ H (.int i)) (hb : Ev tb σ H (.int j)) : Ev (tOp (rI0 fun i j => .bl (decide (i ≤ j))) ta tb) σ H (.bool (decide (i ≤ j))) := ev_I0 (g' := fun i j => .bool (decide (i ≤ j))) ha hb fun _ => .bl _
theorem ev_gt {i j : Int} (ha : Ev ta σ H (.int i)) (hb : Ev tb σ H (.int j)) : Ev (tOp (rI0 fun i j => .bl (decide (j < i))) ta tb) σ H (.bool (decide (j < i))) := ev_I0 (g' := fun i j => .bool (decide (j < i))) ha hb fun _ => .bl _
theorem ev_is (h : Ev te σ H d) (x : d = e) : Ev te σ H e := x ▸ h
theorem eb_is (h : EvB t σ H a) (x : a = b) : EvB t σ H b := x ▸ h
theorem ev_chain {r r' : R2} {i j k : Int} {p p' : Int → Int → Bool} (ha : Ev ta σ H (.int i)) (hb : Ev tb σ H (.int j)) (hc : Ev tc σ H (.int k)) (hr : ∀ i j H (Q : VK), Q (.bl (p i j)) H → r (.int i) (.int j) H Q) (hr' : ∀ i j H (Q : VK), Q (.bl (p' i j)) H → r' (.int i) (.int j) H Q) :
    Ev (tChain r r' ta tb tc) σ H (.bool (p i j && p' j k)) := fun H1 x Q q =>
  ha H1 x _ fun v H2 x2 hv => hb H2 (x.trans x2) _ fun w H3 x3 hw => by
    have e1 := hv.int_inv
    have e2 := hw.int_inv
    subst e1 e2
    refine hr i j H3 _ ⟨p i j, rfl, ?_⟩
    cases hp : p i j with
    | true =>
      refine iteT (hc H3 ((x.trans x2).trans x3) _ fun z H4 x4 hz => ?_)
      have e3 := hz.int_inv
      subst e3
      refine hr' j k H4 _ (q _ H4 ((x2.trans x3).trans x4) ?_)
      rw [hp, Bool.true_and]
      exact .bl _
    | false =>
      refine iteF (q _ H3 (x2.trans x3) ?_)
      rw [hp, Bool.false_and]
      exact .bl _
theorem ev_andV (h1 : Ev ta σ H (.bool a)) (h2 : a = true → Ev tb σ H (.bool b)) : Ev (tAndV ta tb) σ H (.bool (a && b)) := fun H1 x Q q => h1 H1 x _ fun v H2 x2 hv => ⟨a, hv.bool_inv, by
  cases a with
  | true => exact iteT (h2 rfl H2 (x.trans x2) Q fun w H3 x3 hw => q w H3 (x2.trans x3) hw)
  | false => exact iteF (q _ H2 x2 (.bl _))⟩
theorem ev_orV (h1 : Ev ta σ H (.bool a)) (h2 : a = false → Ev tb σ H (.bool b)) : Ev (tOrV ta tb) σ H (.bool (a || b)) := fun H1 x Q q => h1 H1 x _ fun v H2 x2 hv => ⟨a, hv.bool_inv, by
  cases a with
  | true => exact iteT (q _ H2 x2 (.bl _))
  | false => exact iteF (h2 rfl H2 (x.trans x2) Q fun w H3 x3 hw => q w H3 (x2.trans x3) hw)⟩
theorem ev_notV (h1 : Ev ta σ H (.bool a)) : Ev (tNotV ta) σ H (.bool (!a)) := fun H1 x _ q => h1 H1 x _ fun v H2 x2 hv => ⟨a, hv.bool_inv, q _ H2 x2 (.bl _)⟩
theorem eb_test (h : Ev te σ H (.bool b)) : EvB (tTest te) σ H b := fun H1 x _ q => h H1 x _ fun v H2 x2 hv => ⟨b, hv.bool_inv, q H2 x2⟩
theorem eb_B (h : Ev te σ H (.bool b)) : EvB (tB te) σ H b := fun H1 x _ q => h H1 x _ fun v H2 x2 hv => ⟨b, hv.bool_inv, q H2 x2⟩
theorem eb_and (h1 : EvB t σ H a) (h2 : a = true → EvB u σ H b) : EvB (tAnd t u) σ H (a && b) := fun H1 x Q q => h1 H1 x _ fun H2 x2 => by
  cases a with
  | true => exact iteT (h2 rfl H2 (x.trans x2) Q fun H3 x3 => q H3 (x2.trans x3))
  | false => exact iteF (q H2 x2)
theorem eb_or (h1 : EvB t σ H a) (h2 : a = false → EvB u σ H b) : EvB (tOr t u) σ H (a || b) := fun H1 x Q q => h1 H1 x _ fun H2 x2 => by
  cases a with
  | true => exact iteT (q H2 x2)
  | false => exact iteF (h2 rfl H2 (x.trans x2) Q fun H3 x3 => q H3 (x2.trans x3))
theorem eb_not (h1 : EvB t σ H a) : EvB (tNot t) σ H (!a) := fun H1 x _ q => h1 H1 x _ fun H2 x2 => q H2 x2
theorem ev_if (h : EvB t σ H b) (h1 : b = true → Ev ta σ H d) (h2 : b = false → Ev tb σ H d) : Ev (tIf t ta tb) σ H d := fun H1 x Q q => h H1 x _ fun H2 x2 => by
  cases b with
  | true => exact iteT (h1 rfl H2 (x.trans x2) Q fun v H3 x3 hv => q v H3 (x2.trans x3) hv)
  | false => exact iteF (h2 rfl H2 (x.trans x2) Q fun v H3 x3 hv => q v H3 (x2.trans x3) hv)
/-- len -/
def rLn (K : PySem.W.Frag) : List V → Hp → VK → Prop := fun xs H Q => ∃ p ys, xs = [.ref p] ∧ (SqL K H p ys ∨ SqT K H p ys) ∧ Q (.int ys.length) H
theorem ev_len (ha : Ev ta σ H (.tuple ds)) : Ev (tCB (rLn K) (tCons ta tNil)) σ H (.int (ds.length : Int)) := fun H1 x Q q =>
  ha H1 x _ fun v H2 x2 hv => by
    obtain ⟨p, vs, rfl, hp, hvs⟩ := hv.tup_inv
    refine ⟨p, vs, rfl, .inr (SqT.of hp), q _ H2 x2 ?_⟩
    rw [hvs.length]
    exact .int _
theorem ev_lenL {p : Addr} {vs : List V} {i : Nat} (h : σ[i]? = some (some (.ref p))) (hp : H p = some (.lst vs)) : Ev (tCB (rLn K) (tCons (tVar i) tNil)) σ H (.int (vs.length : Int)) := fun H1 x Q q =>
  ⟨_, h, p, vs, rfl, .inl (SqL.of (x.keep _ _ hp (fun _ z => by cases z) fun z => z)), q _ H1 (.refl H1) (.int _)⟩

/-! ### a def of data -/
/-- the promise: from data arguments f's answer; all that was known stays -/
def spF (T : List Addr) (f : List PyData → PyData → Prop) : Sp := fun vs H Q _ => ∃ ds d, IsA H vs ds ∧ f ds d ∧ (∀ P ∈ T, TabD 1 H P) ∧ ∀ v H', Ex H H' → Is H' v d → Q v H'
theorem ev_call {T : List Addr} {f : List PyData → PyData → Prop} {E : XK} {ta : TA} (h : EvA ta σ H ds) (hf : f ds d) (hT : ∀ P ∈ T, TabD 1 H P) : Ev (tCall (spF T f) [] E ta) σ H d := fun H1 x Q q =>
  h H1 x _ fun vs H2 x2 hvs => ⟨ds, d, by rw [List.append_nil]; exact hvs, hf, fun P hP => x2.tab _ _ (x.tab _ _ (hT P hP)), fun v H' x3 hv => q v H' (x2.trans x3) hv⟩

/-! ### statements -/
variable {D : Ends} {tu tw : TS}
theorem s_set {i : Nat} (h : Ev te σ H d) (k : ∀ v H1, Ex H H1 → Is H1 v d → D.nx (σ.set i (some v)) H1) : tAsg te (gName i) D σ H := h H (.refl H) _ k
theorem s_setL {i : Nat} (h : EvL te σ H ds) (k : ∀ p vs H1, Ex H H1 → H p = none → H1 p = some (.lst vs) → IsA H1 vs ds → D.nx (σ.set i (some (.ref p))) H1) : tAsg te (gName i) D σ H := h H (.refl H) _ k
theorem s_ret (h : Ev te σ H d) (k : ∀ v H1, Ex H H1 → Is H1 v d → D.rt v H1) : tRet te D σ H := h H (.refl H) _ k
theorem s_if (h : EvB t σ H b) (h1 : b = true → ∀ H1, Ex H H1 → tu D σ H1) (h2 : b = false → ∀ H1, Ex H H1 → tw D σ H1) : tIfS t tu tw D σ H := h H (.refl H) _ fun H1 x => by
  cases b with
  | true => exact iteT (h1 rfl H1 x)
  | false => exact iteF (h2 rfl H1 x)
end
end Dw
set_option Elab.async false
set_option linter.all false
set_option maxRecDepth 100000
set_option maxHeartbeats 2000000
/-! the text, by its places; a def whose code object is told -/
namespace Dw
open PySem PySem.Spec PyProof.Rows L2 Gx

def topS (i : Nat) : Stmt := PySem.Challenge.pw_dyeworks_k11_whole_rows.main.body.getD i (.Pass ⟨0, 0, 0, 0⟩)
abbrev sIsNumber : Stmt := topS 12
abbrev sIsLot : Stmt := topS 13
abbrev sIsRoute : Stmt := topS 14
abbrev sIsKind : Stmt := topS 15
abbrev sNeedWorks : Stmt := topS 16
abbrev sJoined : Stmt := topS 17
abbrev sBehind : Stmt := topS 18
abbrev sHasWants : Stmt := topS 19
abbrev sIsClean : Stmt := topS 20
abbrev sDyed : Stmt := topS 21
abbrev sAllPlans : Stmt := topS 23
abbrev sNeedRow : Stmt := topS 26
abbrev sWaysThrough : Stmt := topS 27
abbrev sRoutesFor : Stmt := topS 28
abbrev sGoes : Stmt := topS 29
abbrev sShowsRoutes : Stmt := topS 30
abbrev sPlanFor : Stmt := topS 31
abbrev sLeastWrong : Stmt := topS 32
abbrev sTaken : Stmt := topS 34
abbrev sDyes : Stmt := topS 35
abbrev sWorks : Stmt := topS 36
abbrev sPass : Stmt := topS 37
abbrev sGood : Stmt := topS 38
abbrev sWrong : Stmt := topS 39
abbrev sAlike : Stmt := topS 40
abbrev sPlans : Stmt := topS 41
abbrev sPick : Stmt := topS 42
abbrev sLaw : Stmt := topS 43

/-- a def of the text whose code object stands at c -/
structure FunC (K : PySem.W.Frag) (x qual : Str) (st : Stmt) (f : Addr) (fd : FuncData) (c : Addr) : Prop where
  ex : ∃ (oc : Value) (od : Option Addr) (kV doc pm : Value) (an : Option Addr) (ct : Value) (osl : Array (Option Value)),
    fd = PySem.W.fnOf x qual (defArgs st) (defBody st) (defScope st) .none kV doc pm an (.ref c) ct ∧ K.lookup f = some ⟨oc, od, .func fd, osl⟩ ∧ PySem.W.codeIn K (.ref c) qual = true
  kp : PySem.W.keepIn K (.ref f) = true
section
variable {P : Program} {w : World} {K : PySem.W.Frag} {mg : Str → Option Value} {base : Heap}
theorem FunC.ok {x qual : Str} {st : Stmt} {f c : Addr} {fd : FuncData} {N ps : List Str} {k : Nat} {sp : Sp} (F : FunC K x qual st f fd c) (S : FnScope N ps (defScope st)) (len : ∀ vs H Q E, sp vs H Q E → vs.length = ps.length)
    (hbody : ∀ (A : Around) (outer : List Env) (s : Shared) (H : Hp) (vs : List V) (Q : VK) (E : XK), Room k (A.deeper (envOfC qual (defScope st) s.heap.objs.size f (.ref c))) → sp vs H Q E →
      ∃ t, PSs (cxOf CX0 P w K mg base N qual (defScope st) f (.ref c) A outer s H E).nox (defBody st) t ∧ t { nx := fun _ H' => Q .non H', rt := Q } (start N vs) H) : FnOk P w K mg base CX0 (k + 1) f fd ps sp := by
  obtain ⟨oc, od, kV, doc, pm, an, ct, osl, rfl, lk, hcd⟩ := F.ex
  refine fn_of lk hcd S len fun A outer s H vs Q E hr hsp => ?_
  obtain ⟨t, h, q⟩ := hbody A outer s H vs Q E hr hsp
  exact ⟨t, h.nox, q⟩
theorem FunC.fn {x qual : Str} {st : Stmt} {f c : Addr} {fd : FuncData} (F : FunC K x qual st f fd c) : Fun K x qual st f fd := by
  obtain ⟨oc, od, kV, doc, pm, an, ct, osl, e, lk, hcd⟩ := F.ex
  exact ⟨⟨oc, od, kV, doc, pm, an, .ref c, ct, osl, e, lk, hcd⟩, F.kp⟩
theorem funC_mk {x qual : Str} {st : Stmt} {f c : Addr} {oc : Value} {od an : Option Addr} {osl : Array (Option Value)} {kV doc pm ct : Value} (l : K.lookup f = some ⟨oc, od, .func (PySem.W.fnOf x qual (defArgs st) (defBody st) (defScope st) .none kV doc pm an (.ref c) ct), osl⟩)
    (h : PySem.W.codeIn K (.ref c) qual = true) (k : PySem.W.keepIn K (.ref f) = true) : FunC K x qual st f (PySem.W.fnOf x qual (defArgs st) (defBody st) (defScope st) .none kV doc pm an (.ref c) ct) c := ⟨⟨oc, od, kV, doc, pm, an, ct, osl, rfl, l, h⟩, k⟩
end
/-- the table of a def's code object, at the base -/
abbrev TB := LamX.TabB
theorem bmAt_of {base : Heap} {mg : Str → Option Value} {c P : Addr} (t : TB base mg c P) : BmAt base mg := by
  obtain ⟨bm, o, h1, h2, h3, _, h4, h5, h6, h7⟩ := t.bm
  exact ⟨bm, o, h1, h2, h3, h4, h5, h6, h7⟩
theorem codeRd_of {base : Heap} {mg : Str → Option Value} {c P : Addr} {n : Nat} {H : Hp} (t : TB base mg c P) (h : TabD n H P) : CodeRd base (.ref c) n H := ⟨c, P, rfl, .inl t.code, h⟩
theorem TabD.down : ∀ {n : Nat} {H : Hp} {P : Addr}, TabD n H P → TabD 0 H P
  | 0, _, _, h => h
  | _ + 1, _, _, ⟨ps, h1, h2, _⟩ => ⟨ps, h1, h2⟩

/-! ### isinstance -/
def tyD : PyData → String
  | .none => "NoneType"
  | .bool _ => "bool"
  | .int _ => "int"
  | .tuple _ => "tuple"
  | _ => ""
theorem ki_int_int : kitB "int" "int" = some true := by decide +kernel
theorem ki_int_bool : kitB "int" "bool" = some false := by decide +kernel
theorem ki_int_tuple : kitB "int" "tuple" = some false := by decide +kernel
theorem ki_int_list : kitB "int" "list" = some false := by decide +kernel
theorem ki_int_str : kitB "int" "str" = some false := by decide +kernel
theorem ki_bool_int : kitB "bool" "int" = some true := by decide +kernel
theorem ki_bool_bool : kitB "bool" "bool" = some true := by decide +kernel
theorem ki_bool_tuple : kitB "bool" "tuple" = some false := by decide +kernel
theorem ki_bool_list : kitB "bool" "list" = some false := by decide +kernel
theorem ki_bool_str : kitB "bool" "str" = some false := by decide +kernel
theorem ki_tuple_tuple : kitB "tuple" "tuple" = some true := by decide +kernel
theorem ki_tuple_list : kitB "tuple" "list" = some false := by decide +kernel
theorem ki_tuple_str : kitB "tuple" "str" = some false := by decide +kernel
theorem ki_tuple_int : kitB "tuple" "int" = some false := by decide +kernel
theorem ki_tuple_bool : kitB "tuple" "bool" = some false := by decide +kernel
theorem ki_NoneType_tuple : kitB "NoneType" "tuple" = some false := by decide +kernel
theorem ki_NoneType_list : kitB "NoneType" "list" = some false := by decide +kernel
theorem ki_NoneType_str : kitB "NoneType" "str" = some false := by decide +kernel
theorem ki_NoneType_int : kitB "NoneType" "int" = some false := by decide +kernel
theorem ki_NoneType_bool : kitB "NoneType" "bool" = some false := by decide +kernel
theorem ki_list_tuple : kitB "list" "tuple" = some false := by decide +kernel
theorem ki_list_list : kitB "list" "list" = some true := by decide +kernel
theorem ki_dict_tuple : kitB "dict" "tuple" = some false := by decide +kernel
theorem ki_dict_list : kitB "dict" "list" = some false := by decide +kernel
section
variable {K : PySem.W.Frag} {σ : L2.St} {H : Hp} {ta tb : TE} {d : PyData} {v : V}
theorem Is.ty (h : Is H v d) : TyX K H v (.type (tyD d)) := by
  cases h with
  | non => exact .base .non
  | bl b => exact .base (.bl b)
  | int i => exact .base (.int i)
  | tup e _ => exact .base (.tup e)
/-- isinstance(e, T) -/
theorem ev_isi {T : String} {b : Bool} (h : Ev ta σ H d) (k : kitB (tyD d) T = some b) : Ev (tCB (rIsi K) (tCons ta (tCons (tC (.ty T)) tNil))) σ H (.bool b) := fun H1 x _ q =>
  h H1 x _ fun v H2 x2 hv => ⟨v, .ty T, _, _, b, rfl, .ty T, hv.ty, kit_ty k, q _ H2 x2 (.bl b)⟩
end
/-! ### lots, stands, works as data -/
def dL (xs : List Int) : PyData := .tuple (xs.map .int)
def dN (xs : List Nat) : PyData := .tuple (xs.map fun (n : Nat) => PyData.int (n : Int))
def dS (st : List (List Int)) : PyData := .tuple (st.map dL)
def dR (rs : List (List Nat)) : PyData := .tuple (rs.map dN)
structure Kind where
  wants : List Int
  bars : List Int
  routes : List (List Nat)
structure Wk where
  dyes : Int
  vats : List (List Int)
  kinds : List Kind
def dK (k : Kind) : PyData := .tuple [dL k.wants, dL k.bars, dR k.routes]
def dKs (ks : List Kind) : PyData := .tuple (ks.map dK)
def dW (w : Wk) : PyData := .tuple [.int w.dyes, dS w.vats, dKs w.kinds]
end Dw
set_option Elab.async false
set_option linter.all false
set_option maxRecDepth 100000
set_option maxHeartbeats 2000000
/-! all, any of generator expressions over tuples, over zip of tuples: what they evaluate to -/
namespace Dw
open PySem PySem.Spec PyProof.Rows L2 Gx

def genC (N : List Str) (sc scope : Scope) (own : List (Str × Nat)) : Bool := blkC N sc scope own && !scope.isCoroutine && decide (scope.names.lookup (".0" : Str) = some .local)
theorem genS_by {N : List Str} {sc scope : Scope} {own : List (Str × Nat)} (h : genC N sc scope own = true) : GenS N sc scope own := by
  unfold genC at h
  simp only [Bool.and_eq_true, Bool.not_eq_true', decide_eq_true_eq] at h
  exact ⟨blkOk_by h.1.1, h.1.2, h.2⟩

theorem all_take {f : PyData → Bool} {ds : List PyData} {i : Nat} {d : PyData} (h : (ds.take i).all f = true) (e : ds[i]? = some d) (hd : f d = true) : (ds.take (i + 1)).all f = true := by
  rw [List.take_add_one, e, List.all_append, h]
  simp [hd]
theorem all_false {f : PyData → Bool} {ds : List PyData} {i : Nat} {d : PyData} (e : ds[i]? = some d) (hd : f d = false) : ds.all f = false := by
  rw [List.all_eq_false]
  exact ⟨d, List.mem_of_getElem? e, by rw [hd]; exact Bool.false_ne_true⟩
theorem any_true {f : PyData → Bool} {ds : List PyData} {i : Nat} {d : PyData} (e : ds[i]? = some d) (hd : f d = true) : ds.any f = true := by
  rw [List.any_eq_true]
  exact ⟨d, List.mem_of_getElem? e, hd⟩
theorem none_take {f : PyData → Bool} {ds : List PyData} {i : Nat} {d : PyData} (h : (ds.take i).any f = false) (e : ds[i]? = some d) (hd : f d = false) : (ds.take (i + 1)).any f = false := by
  rw [List.take_add_one, e, List.any_append, h]
  simp [hd]
/-- the answer: st, if some item's element is st; else its contrary -/
def quant (st : Bool) (ds : List PyData) (f : PyData → Bool) : Bool := if st then ds.any f else ds.all f
def qpart (st : Bool) (ds : List PyData) (f : PyData → Bool) (i : Nat) : Prop := quant st (ds.take i) f = !st
theorem qpart0 {st : Bool} {ds : List PyData} {f : PyData → Bool} : qpart st ds f 0 := by cases st <;> rfl
theorem qpart_step {st : Bool} {ds : List PyData} {f : PyData → Bool} {i : Nat} {d : PyData} (h : qpart st ds f i) (e : ds[i]? = some d) (hd : f d ≠ st) : qpart st ds f (i + 1) := by
  cases st with
  | true => exact none_take (f := f) h e (by simpa using hd)
  | false => exact all_take (f := f) h e (by simpa using hd)
theorem q_stop {st : Bool} {ds : List PyData} {f : PyData → Bool} {i : Nat} {d : PyData} (e : ds[i]? = some d) (hd : f d = st) : quant st ds f = st := by
  cases st with
  | true => exact any_true e hd
  | false => exact all_false e hd
theorem q_end {st : Bool} {ds : List PyData} {f : PyData → Bool} {i : Nat} (h : qpart st ds f i) (hi : ds.length ≤ i) : quant st ds f = !st := by
  have e : ds.take i = ds := List.take_of_length_le hi
  unfold qpart at h
  rw [e] at h
  exact h
section
variable {K : PySem.W.Frag} {σ : L2.St} {H : Hp} {tl t2 : TE} {te : Value → TE} {st : Bool} {base : Heap} {cv : Value} {n j j2 : Nat} {vs : List Nat} {ds es : List PyData} {f : PyData → Bool}
/-- over a tuple -/
theorem ev_qT (hi : Ev tl σ H (.tuple ds)) (hc : CodeRd base cv n H) (hw : ∀ x, wipe ((wipe σ vs).set j (some x)) vs = wipe σ vs)
    (he : ∀ (i : Nat) d v cv2 H1, ds[i]? = some d → Ex H H1 → Is H1 v d → Deep n cv2 H1 → Ev (te cv2) ((wipe σ vs).set j (some v)) H1 (.bool (f d))) :
    Ev (tQ st base cv n (iTup K tl) (gName j) te vs) σ H (.bool (quant st ds f)) := fun H1 x Q q => hi H1 x _ fun v H2 x2 hv => by
  obtain ⟨a, ws, rfl, ha, hws⟩ := hv.tup_inv
  have hl := hws.length
  refine ⟨a, rfl, ⟨ws, SqT.of ha⟩, hc.ex (x.trans x2) (fun _ _ _ z => z), fun cv2 H3 x3 d3 => ?_⟩
  refine ⟨fun i m H' => i + m = ds.length ∧ Ex H3 H' ∧ qpart st ds f i, ⟨ds.length, Nat.zero_add _, .refl H3, qpart0⟩, fun i m H' ⟨w1, w2, w3⟩ => ?_⟩
  have ha' : H' a = some (.tup ws) := w2.tup _ _ (x3.tup _ _ ha)
  have uq : ∀ {ys : List V}, H' a = some (.tup ys) → ys = ws := fun e => by
    rw [ha'] at e
    cases e
    rfl
  by_cases hlt : i < ds.length
  · obtain ⟨d, hd⟩ : ∃ d, ds[i]? = some d := ⟨_, List.getElem?_eq_getElem hlt⟩
    obtain ⟨z, hz, hzd⟩ := hws.get hd
    refine .inr ⟨⟨ws, z, SqT.of ha', hz⟩, fun H'' => Ex H3 H'' ∧ qpart st ds f (i + 1), fun H'' ⟨n1, n2⟩ => ⟨m - 1, by omega, by omega, n1, n2⟩, fun y H'' hy => ?_⟩
    obtain ⟨rfl, hy⟩ := hy
    have e1 : y = z := Option.some.inj ((hy _ (SqT.of ha')).symm.trans hz)
    subst e1
    have xa : Ex H H'' := ((x.trans x2).trans x3).trans w2
    refine ⟨hw y, he i d y cv2 H'' hd xa (hzd.ex (x3.trans w2)) (d3.ex w2 fun _ _ _ z => z) H'' (.refl _) _ fun b H4 x4 hb => ⟨f d, hb.bool_inv, fun hs => ?_, fun hs => ⟨w2.trans x4, qpart_step w3 hd hs⟩⟩⟩
    refine q _ H4 (((x2.trans x3).trans w2).trans x4) ?_
    rw [q_stop hd hs]
    exact .bl _
  · refine .inl ⟨⟨ws, SqT.of ha', by omega⟩, q _ H' ((x2.trans x3).trans w2) ?_⟩
    rw [q_end w3 (by omega)]
    exact .bl _
/-- over zip of two tuples -/
theorem ev_qZ {ta : TA} (hi : EvA ta σ H [.tuple ds, .tuple es]) (hc : CodeRd base cv n H) (hj : j ≠ j2) (hw : ∀ x y, wipe (((wipe σ vs).set j (some x)).set j2 (some y)) vs = wipe σ vs)
    (he : ∀ (i : Nat) d e v u cv2 H1, ds[i]? = some d → es[i]? = some e → Ex H H1 → Is H1 v d → Is H1 u e → Deep n cv2 H1 → Ev (te cv2) (((wipe σ vs).set j (some v)).set j2 (some u)) H1 (.bool (f (.tuple [d, e])))) :
    Ev (tQ st base cv n (RZ.iZipA K ta) (gTup K 2 (gCons (gName j) (gCons (gName j2) gNil))) te vs) σ H (.bool (quant st ((ds.zip es).map fun p => .tuple [p.1, p.2]) f)) := fun H1 x Q q => hi H1 x _ fun zs H2 x2 hv => by
  obtain ⟨v1, v2, rfl, h1, h2⟩ := hv.inv2
  obtain ⟨a, ws, rfl, ha, hws⟩ := h1.tup_inv
  obtain ⟨b, us, rfl, hb, hus⟩ := h2.tup_inv
  have hl := hws.length
  have hl2 := hus.length
  have hlen : ((ds.zip es).map fun p => PyData.tuple [p.1, p.2]).length = min ds.length es.length := by simp
  refine ⟨a, b, ws, us, rfl, .inr ⟨SqT.of ha, SqT.of hb, hc.ex (x.trans x2) (fun _ _ _ z => z), fun cv2 H3 x3 d3 => ?_⟩⟩
  refine ⟨fun i m H' => i + m = min ds.length es.length ∧ Ex H3 H' ∧ qpart st ((ds.zip es).map fun p => .tuple [p.1, p.2]) f i, ⟨_, Nat.zero_add _, .refl H3, qpart0⟩, fun i m H' ⟨w1, w2, w3⟩ => ?_⟩
  have ha' : H' a = some (.tup ws) := w2.tup _ _ (x3.tup _ _ ha)
  have hb' : H' b = some (.tup us) := w2.tup _ _ (x3.tup _ _ hb)
  by_cases hlt : i < min ds.length es.length
  · obtain ⟨d, hd⟩ : ∃ d, ds[i]? = some d := ⟨_, List.getElem?_eq_getElem (by omega)⟩
    obtain ⟨e, he'⟩ : ∃ e, es[i]? = some e := ⟨_, List.getElem?_eq_getElem (by omega)⟩
    obtain ⟨z, hz, hzd⟩ := hws.get hd
    obtain ⟨y, hy, hyd⟩ := hus.get he'
    have hp : ((ds.zip es).map fun p => PyData.tuple [p.1, p.2])[i]? = some (.tuple [d, e]) := by
      rw [List.getElem?_map, (List.getElem?_zip_eq_some (z := (d, e))).mpr ⟨hd, he'⟩]
      rfl
    refine .inr ⟨⟨ws, us, z, y, SqT.of ha', SqT.of hb', hz, hy⟩, fun H'' => Ex H3 H'' ∧ qpart st ((ds.zip es).map fun p => .tuple [p.1, p.2]) f (i + 1), fun H'' ⟨n1, n2⟩ => ⟨m - 1, by omega, by omega, n1, n2⟩, fun v H'' hy' => ?_⟩
    obtain ⟨T, z', y', rfl, hT, rfl, g1, g2⟩ := hy'
    have e1 : z' = z := Option.some.inj ((g1 _ (SqT.of ha')).symm.trans hz)
    have e2 : y' = y := Option.some.inj ((g2 _ (SqT.of hb')).symm.trans hy)
    subst e1 e2
    have w4 : Ex H3 (upd H' T (.tup [z', y'])) := w2.trans (.new hT)
    have xa : Ex H (upd H' T (.tup [z', y'])) := ((x.trans x2).trans x3).trans w4
    refine ⟨T, [z', y'], rfl, SqT.of upd_same, rfl, z', [y'], rfl, y', [], rfl, rfl, hw z' y', ?_⟩
    refine he i d e z' y' cv2 _ hd he' xa (hzd.ex (x3.trans w4)) (hyd.ex (x3.trans w4)) (d3.ex w4 fun _ _ _ z => z) _ (.refl _) _ fun r H4 x4 hr => ⟨f (.tuple [d, e]), hr.bool_inv, fun hs => ?_, fun hs => ⟨w4.trans x4, qpart_step w3 hp hs⟩⟩
    refine q _ H4 (((x2.trans x3).trans w4).trans x4) ?_
    rw [q_stop hp hs]
    exact .bl _
  · refine .inl ⟨⟨ws, us, SqT.of ha', SqT.of hb', by omega⟩, q _ H' ((x2.trans x3).trans w2) ?_⟩
    rw [q_end w3 (by omega)]
    exact .bl _
/-! ### further expressions, statements -/
theorem cut1 (xs : List V) : cutV xs (some 1) none = xs.drop 1 := by
  unfold cutV
  rw [show HT.sIx xs.length 0 (some 1) = min 1 xs.length from HT.sIx_nat xs.length 0 1, HT.sIx_none]
  cases xs with
  | nil => rfl
  | cons x r =>
    have e : min 1 (x :: r).length = 1 := Nat.min_eq_left (by simp)
    rw [e]
    show List.take (r.length + 1 - 1) r = r
    rw [Nat.add_sub_cancel]
    exact List.take_length
/-- t[1:] -/
theorem ev_sl1 (h : Ev tl σ H (.tuple ds)) : Ev (tSl (rSlA K) tl (tPart (tC (.int 1))) tNoPart) σ H (.tuple (ds.drop 1)) := fun H1 x Q q =>
  h H1 x _ fun v H2 x2 hv => by
    obtain ⟨a, ws, rfl, ha, hws⟩ := hv.tup_inv
    have hl := hws.length
    refine ⟨1, rfl, a, ws, rfl, SqT.of ha, fun hw => q _ H2 x2 ?_, fun _ p hp => q _ _ (x2.trans (.new hp)) ?_⟩
    · rw [show HT.sIx ws.length 0 (some 1) = min 1 ws.length from HT.sIx_nat ws.length 0 1] at hw
      have h0 : ws.length = 0 := by omega
      have h1 : ds = [] := List.eq_nil_of_length_eq_zero (by omega)
      subst h1
      exact hv
    · rw [cut1]
      exact .tup upd_same ((hws.drop 1).ex (R := none1) (.new hp))
theorem ev_eqI {i j : Int} (ha : Ev tl σ H (.int i)) (hb : Ev t2 σ H (.int j)) : Ev (tOp rEq tl t2) σ H (.bool (decide (i = j))) := fun H1 x Q q =>
  ha H1 x _ fun v H2 x2 hv => hb H2 (x.trans x2) _ fun w H3 x3 hw => by
    have e1 := hv.int_inv
    have e2 := hw.int_inv
    subst e1 e2
    refine ⟨rfl, q _ H3 (x2.trans x3) ?_⟩
    have e : decide (V.int i = V.int j) = decide (i = j) := by
      by_cases h : i = j
      · subst h; simp
      · rw [decide_eq_false h, decide_eq_false]
        intro z
        cases z
        exact h rfl
    rw [e]
    exact .bl _
theorem ev_neI {i j : Int} (ha : Ev tl σ H (.int i)) (hb : Ev t2 σ H (.int j)) : Ev (tOp rNe tl t2) σ H (.bool (!decide (i = j))) := fun H1 x Q q =>
  ha H1 x _ fun v H2 x2 hv => hb H2 (x.trans x2) _ fun w H3 x3 hw => by
    have e1 := hv.int_inv
    have e2 := hw.int_inv
    subst e1 e2
    refine ⟨rfl, q _ H3 (x2.trans x3) ?_⟩
    have e : decide (V.int i = V.int j) = decide (i = j) := by
      by_cases h : i = j
      · subst h; simp
      · rw [decide_eq_false h, decide_eq_false]
        intro z
        cases z
        exact h rfl
    rw [e]
    exact .bl _
/-- a, b, c = e -/
theorem s_unp3 {D : Ends} {i1 i2 i3 : Nat} {d1 d2 d3 : PyData} (h : Ev tl σ H (.tuple [d1, d2, d3])) (k : ∀ v1 v2 v3 H1, Ex H H1 → Is H1 v1 d1 → Is H1 v2 d2 → Is H1 v3 d3 → D.nx (((σ.set i1 (some v1)).set i2 (some v2)).set i3 (some v3)) H1) :
    tAsg tl (gTup K 3 (gCons (gName i1) (gCons (gName i2) (gCons (gName i3) gNil)))) D σ H := h H (.refl H) _ fun v H1 x hv => by
  obtain ⟨a, ws, rfl, ha, hws⟩ := hv.tup_inv
  obtain ⟨v1, v2, v3, rfl, h1, h2, h3⟩ := hws.inv3
  exact ⟨a, _, rfl, SqT.of ha, rfl, v1, _, rfl, v2, _, rfl, v3, _, rfl, rfl, k v1 v2 v3 H1 x h1 h2 h3⟩
theorem s_unp2 {D : Ends} {i1 i2 : Nat} {d1 d2 : PyData} (h : Ev tl σ H (.tuple [d1, d2])) (k : ∀ v1 v2 H1, Ex H H1 → Is H1 v1 d1 → Is H1 v2 d2 → D.nx ((σ.set i1 (some v1)).set i2 (some v2)) H1) :
    tAsg tl (gTup K 2 (gCons (gName i1) (gCons (gName i2) gNil))) D σ H := h H (.refl H) _ fun v H1 x hv => by
  obtain ⟨a, ws, rfl, ha, hws⟩ := hv.tup_inv
  obtain ⟨v1, v2, rfl, h1, h2⟩ := hws.inv2
  exact ⟨a, _, rfl, SqT.of ha, rfl, v1, _, rfl, v2, _, rfl, rfl, k v1 v2 H1 x h1 h2⟩
end
end Dw
set_option Elab.async false
set_option linter.all false
set_option maxRecDepth 100000
set_option maxHeartbeats 4000000
/-! set(..) of a tuple or a list of ints, sorted(set(..)): the one rising list of its members -/
namespace Dw
open PySem PySem.Spec PyProof.Rows L2 Gx

/-! ### the rising list of a list's members -/
def ins (x : Int) : List Int → List Int
  | [] => [x]
  | y :: r => if x < y then x :: y :: r else if x = y then y :: r else y :: ins x r
def srt : List Int → List Int
  | [] => []
  | x :: r => ins x (srt r)
theorem mem_ins {x z : Int} : ∀ {ys : List Int}, z ∈ ins x ys ↔ z = x ∨ z ∈ ys
  | [] => by simp [ins]
  | y :: r => by
    unfold ins
    split
    · simp
    · split
      · rename_i h
        subst h
        simp
      · simp only [List.mem_cons, mem_ins (ys := r)]
        constructor
        · rintro (h | h | h)
          · exact .inr (.inl h)
          · exact .inl h
          · exact .inr (.inr h)
        · rintro (h | h | h)
          · exact .inr (.inl h)
          · exact .inl h
          · exact .inr (.inr h)
theorem mem_srt {z : Int} : ∀ {xs : List Int}, z ∈ srt xs ↔ z ∈ xs
  | [] => by simp [srt]
  | x :: r => by
    unfold srt
    rw [mem_ins, mem_srt (xs := r), List.mem_cons]
theorem ins_rising {x : Int} : ∀ {ys : List Int}, ys.Pairwise (· < ·) → (ins x ys).Pairwise (· < ·)
  | [], _ => by simp [ins]
  | y :: r, h => by
    obtain ⟨h1, h2⟩ := List.pairwise_cons.mp h
    unfold ins
    split
    · rename_i hx
      refine List.pairwise_cons.mpr ⟨fun z hz => ?_, h⟩
      rcases List.mem_cons.mp hz with e | hz
      · omega
      · have := h1 z hz
        omega
    · split
      · exact h
      · refine List.pairwise_cons.mpr ⟨fun z hz => ?_, ins_rising h2⟩
        rcases mem_ins.mp hz with e | hz
        · omega
        · exact h1 z hz
theorem srt_rising : ∀ (xs : List Int), (srt xs).Pairwise (· < ·)
  | [] => by simp [srt]
  | x :: r => ins_rising (srt_rising r)
theorem rising_one : ∀ {xs ys : List Int}, xs.Pairwise (· < ·) → ys.Pairwise (· < ·) → (∀ z, z ∈ xs ↔ z ∈ ys) → xs = ys
  | [], [], _, _, _ => rfl
  | [], y :: r, _, _, h => by
    have := (h y).mpr (by simp)
    simp at this
  | x :: r, [], _, _, h => by
    have := (h x).mp (by simp)
    simp at this
  | x :: r, y :: q, hx, hy, h => by
    obtain ⟨a1, a2⟩ := List.pairwise_cons.mp hx
    obtain ⟨b1, b2⟩ := List.pairwise_cons.mp hy
    have e : x = y := by
      have h1 := (h x).mp (by simp)
      have h2 := (h y).mpr (by simp)
      rcases List.mem_cons.mp h1 with e | h1
      · exact e
      · rcases List.mem_cons.mp h2 with e | h2
        · exact e.symm
        · have := a1 y h2
          have := b1 x h1
          omega
    subst e
    have rest : ∀ z, z ∈ r ↔ z ∈ q := fun z => by
      have hz := h z
      simp only [List.mem_cons] at hz
      constructor
      · intro m
        rcases hz.mp (.inr m) with e | m2
        · have := a1 z m
          omega
        · exact m2
      · intro m
        rcases hz.mpr (.inr m) with e | m2
        · have := b1 z m
          omega
        · exact m2
    rw [rising_one a2 b2 rest]
theorem srt_one {xs ys : List Int} (h1 : ys.Pairwise (· < ·)) (h2 : ∀ z, z ∈ ys ↔ z ∈ xs) : ys = srt xs :=
  rising_one h1 (srt_rising xs) fun z => (h2 z).trans mem_srt.symm
theorem ins_len {x : Int} : ∀ {ys : List Int}, (ins x ys).length ≤ ys.length + 1
  | [] => by simp [ins]
  | y :: r => by
    have := ins_len (x := x) (ys := r)
    unfold ins
    split
    · simp
    · split
      · simp
      · simp only [List.length_cons]; omega
theorem srt_len : ∀ {xs : List Int}, (srt xs).length ≤ xs.length
  | [] => by simp [srt]
  | x :: r => by
    have h1 := ins_len (x := x) (ys := srt r)
    have h2 := srt_len (xs := r)
    unfold srt
    simp only [List.length_cons]
    omega

section
variable {P : Program} {w : World} {A : Around} {E : Value → Shared → Prop} {s : Shared}
/-- set(l), l a list of ints -/
theorem call_set_lstI {l : Addr} {items : Array Value} (ns : List Int) {Q : Value → Shared → Prop} (hh : A.handled = none) (hl : s.heap.IsList l items) (hit : IntsAre items.toList ns) (hb : ns.length + 1 < scanBound)
    (h : ∀ (h' : Heap) (tk c : Nat), SetR w h' s.heap.objs.size (fun j => decide (j ∈ ns)) c → c ≤ ns.length → (∀ b o, s.heap.get? b = some o → h'.get? b = some o) → Q (.ref s.heap.objs.size) { s with heap := h', toks := tk }) :
    wpAny (model P w) A (call (.type "set") [.ref l]) Q E s := by
  have hisz : items.size = ns.length := by
    have q := IntsAre.length hit
    rw [Array.length_toList] at q
    exact q
  have lt1 : l < s.heap.objs.size := let ⟨_, ho, _⟩ := hl; Heap.lt_size ho
  obtain ⟨c, tl, hmro⟩ := PySem.F.called_set.mro
  have k1 := PySem.F.called_set.made
  have k2 := PySem.F.called_set.sub
  refine wpAny_call (codeAny_of_tree ?_)
  show wpAny _ _ (callAny (.type "set") _) _ _ _
  refine wpAny_pure ⟨Code.quiet_builtin _ (by decide +kernel), codeAny_builtin PySem.F.entry_type_call ?_⟩
  rw [Around.under_plain (weight_type_call_type "set" [.ref l] []) rfl]
  have k3 := PySem.F.called_set.notType
  have k4 := PySem.F.called_set.canCreate
  have k5 := PySem.F.typeCall_set_1 (.ref l)
  repeat (any_goals (first | assumption | wp_step))
  refine codeAny_mono (code_set_led1 (.ref l) (E := E) (Q₁ := fun obj s₁ => obj = .ref s.heap.objs.size ∧ s₁ = { s with heap := s.heap.push { cls := .type "set", dict := none, data := .set #[] 0 (.fresh 0 0 (!w.params.followText "set-order")) } }) ⟨rfl, rfl⟩) fun r s₁ hr => ?_
  cases r with
  | error e => exact hr
  | ok fl =>
    cases fl with
    | ret obj =>
      obtain ⟨rfl, rfl⟩ := hr
      have gS : (s.heap.push { cls := .type "set", dict := none, data := .set #[] 0 (.fresh 0 0 (!w.params.followText "set-order")) }).get? s.heap.objs.size = some { cls := .type "set", dict := none, data := .set #[] 0 (.fresh 0 0 (!w.params.followText "set-order")) } := Heap.get?_push_size _ rfl
      have tS : Shared.TypeIs { s with heap := s.heap.push { cls := .type "set", dict := none, data := .set #[] 0 (.fresh 0 0 (!w.params.followText "set-order")) } } (.ref s.heap.objs.size) "set" := ⟨_, gS, rfl⟩
      have k6 := PySem.F.called_set.init.lookup
      have k7 := PySem.F.called_set.init.bind (.ref s.heap.objs.size)
      repeat (any_goals (first | assumption | wp_step))
      refine codeAny_mono (codeAny_call_builtin (R := wants (fun r s₂ => r = .none ∧ ∃ h' tk c, s₂ = { s with heap := h', toks := tk } ∧ SetR w h' s.heap.objs.size (fun j => decide (j ∈ ns)) c ∧ c ≤ ns.length ∧
          (∀ b o, s.heap.get? b = some o → h'.get? b = some o)) E) PySem.F.called_set.init.plain PySem.F.entry_set_init (check_set_init_1 tS ?_)) fun r₂ s₂ hr₂ => ?_
      · have hl1 : (s.heap.push { cls := .type "set", dict := none, data := .set #[] 0 (.fresh 0 0 (!w.params.followText "set-order")) }).IsList l items := hl.push _
        obtain ⟨⟨ocls, odict, odata, oslots⟩, hol, hcl, nl, hdl⟩ := id hl1
        simp only at hcl hdl
        subst hcl; subst hdl
        have k8 := PySem.F.sub_list_set
        have k9 := PySem.F.sub_list_frozenset
        have k10 : (Value.type "list" == Value.type "dict") = false := by decide
        unfold Builtin.«set.__init__» noKeywords Builtin.Frozenset.updateFrom
        generalize hPI : pyIter = PI
        wp_walk
        subst hPI
        refine wpAny_pyIter_list hl1 ?_
        refine wpAny_bind (wpAny_runValue ?_)
        have hh3 : A.in1.in1.in1.handled = none := by simp [hh]
        have sz1 : (s.heap.push { cls := .type "set", dict := none, data := .set #[] 0 (.fresh 0 0 (!w.params.followText "set-order")) }).objs.size = s.heap.objs.size + 1 := Heap.size_push ..
        have nI : l ≠ (s.heap.push { cls := .type "set", dict := none, data := .set #[] 0 (.fresh 0 0 (!w.params.followText "set-order")) }).objs.size := by rw [sz1]; exact Nat.ne_of_lt (Nat.lt_succ_of_lt lt1)
        have nS : s.heap.objs.size ∉ [(s.heap.push { cls := .type "set", dict := none, data := .set #[] 0 (.fresh 0 0 (!w.params.followText "set-order")) }).objs.size, l] := by
          rw [sz1]
          intro z
          rcases List.mem_cons.mp z with z | z
          · exact Nat.ne_of_lt (Nat.lt_succ_self _) z
          · exact Nat.ne_of_gt lt1 (List.mem_singleton.mp z)
        refine set_update_ints ((Walks.list hh3 _ l nI items).toS) s.heap.objs.size nS ns hisz hb (fun i v hv => ?_) (items.size - 0) 0 _ (by omega) (Nat.zero_le _) ⟨⟨_, Heap.get?_push_size _ rfl, rfl, rfl⟩, hl1.push _⟩
          ⟨0, Nat.le_refl 0, setR_new_at (Heap.get?_push_of_some _ gS)⟩ fun s' c' hm hc' hS' => ?_
        · have hi : i < ns.length := by rw [← hisz]; exact (Array.getElem?_eq_some_iff.mp hv).1
          obtain ⟨t, e⟩ := PyProof.Rows.IntsAre.int_at hit i v (by rw [Array.getElem?_toList]; exact hv)
          refine ⟨ns[i], t, List.getElem?_eq_getElem hi, ?_⟩
          rw [e, List.getD_eq_getElem?_getD, List.getElem?_eq_getElem hi]
          rfl
        · obtain ⟨h', g2, d', tk', os'⟩ := s'
          have eg : g2 = s.gens := hm.gens
          have ed : d' = s.drawn := hm.drawn
          have eo : os' = s.os := hm.os
          subst eg ed eo
          show wpAny _ _ _ _ _ _
          refine wpAny_pure ?_
          show wpAny _ _ (ret Value.none) _ _ _
          rw [hisz] at hc'
          refine wpAny_pure ⟨rfl, h', tk', c', rfl, hS', hc', fun b o e => ?_⟩
          have hb0 := Heap.lt_size e
          refine hm.heap b o (fun z => ?_) (Heap.get?_push_of_some _ (Heap.get?_push_of_some _ e))
          rcases List.mem_cons.mp z with z | z
          · exact Nat.ne_of_lt hb0 z
          · have z2 := List.mem_singleton.mp z
            rw [sz1] at z2
            exact Nat.ne_of_lt (Nat.lt_succ_of_lt hb0) z2
      · cases r₂ with
        | error e => exact hr₂
        | ok fl₂ =>
          cases fl₂ with
          | ret r =>
            obtain ⟨rfl, h', tk, c', rfl, hS', hc', hk'⟩ := hr₂
            repeat (any_goals (first | assumption | wp_step))
            exact h _ _ _ hS' hc' hk'
          | _ => exact hr₂.elim
    | _ => exact hr.elim
end
section
variable {X : Cx}
/-- set(e), e a tuple or a list of ints -/
def rSetS (K : PySem.W.Frag) (w : World) : List V → Hp → VK → Prop := fun xs H Q => ∃ (p : Addr) (ns : List Int), xs = [.ref p] ∧ (SqL K H p (ns.map V.int) ∨ SqT K H p (ns.map V.int)) ∧ ns.length ≤ 1000 ∧
  ∀ q c, H q = none → c ≤ ns.length → Q (.ref q) (upd H q (SetO w q (fun j => decide (j ∈ ns)) c))
theorem cr_setS (hc : X.calm = true) : CallR X (.type "set") (rSetS X.K X.w) := by
  intro pins s σ H xs us Q I r h
  obtain ⟨p, ns, rfl, hq, hl, q⟩ := h
  rw [Vals.ref1 r]
  have hsc : ns.length + 1 < scanBound := by unfold scanBound; omega
  have fin : ∀ (h' : Heap) (tk c : Nat), SetR X.w h' s.heap.objs.size (fun j => decide (j ∈ ns)) c → c ≤ ns.length → (∀ b o, s.heap.get? b = some o → h'.get? b = some o) → EP X pins σ Q (.ref s.heap.objs.size) { s with heap := h', toks := tk } := fun h' tk c R hcn k =>
    ⟨.ref _, upd H s.heap.objs.size (SetO X.w s.heap.objs.size (fun j => decide (j ∈ ns)) c), I.laid (t' := tk) k (Nat.le_refl _) (setO_new R), rfl, q _ c (I.hok.fresh (Nat.le_refl _)) hcn⟩
  rcases hq with hq | hq
  · obtain ⟨its, rv, pl, _⟩ := I.list hq
    exact call_set_lstI ns (I.ok.hd hc) pl.isList (by simpa using ints_of_vals rv) hsc fin
  · obtain ⟨its, rv, pl, _⟩ := I.tuple hq
    exact call_set_tupI ns (I.ok.hd hc) (show s.heap.IsTuple p its.toArray from pl) (by simpa using ints_of_vals rv) hsc fin
end
end Dw
set_option Elab.async false
set_option linter.all false
set_option maxRecDepth 100000
set_option maxHeartbeats 2000000
/-! lists of data, sets, sorted, comprehensions: what they evaluate to -/
namespace Dw
open PySem PySem.Spec PyProof.Rows L2 Gx

/-- a list of data -/
def IsL (H : Hp) (v : V) (ds : List PyData) : Prop := ∃ p vs, v = .ref p ∧ H p = some (.lst vs) ∧ IsA H vs ds
theorem IsL.ex {H H' : Hp} {v : V} {ds : List PyData} (x : Ex H H') (h : IsL H v ds) : IsL H' v ds := by
  obtain ⟨p, vs, rfl, hp, hv⟩ := h
  exact ⟨p, vs, rfl, x.keep _ _ hp (fun _ z => by cases z) (fun z => z), hv.ex x⟩
/-- it evaluates to a list of data -/
def EvV (te : TE) (σ : L2.St) (H : Hp) (ds : List PyData) : Prop := ∀ H1, Ex H H1 → ∀ Q : VK, (∀ v H2, Ex H1 H2 → IsL H2 v ds → Q v H2) → te σ H1 Q
/-- it evaluates to a new set of ints -/
def EvS (w : World) (te : TE) (σ : L2.St) (H : Hp) (ns : List Int) : Prop := ∀ H1, Ex H H1 → ∀ Q : VK, (∀ p c H2, Ex H1 H2 → H2 p = some (SetO w p (fun j => decide (j ∈ ns)) c) → c ≤ ns.length → Q (.ref p) H2) → te σ H1 Q
/-- tuple(..), list(..) -/
def rTupOf (K : PySem.W.Frag) : List V → Hp → VK → Prop := fun xs H Q => ∃ p ys, xs = [.ref p] ∧ ((SqL K H p ys ∧ ∀ l, H l = none → Q (.ref l) (upd H l (.tup ys))) ∨ (SqT K H p ys ∧ Q (.ref p) H))
def rListOf (K : PySem.W.Frag) : List V → Hp → VK → Prop := fun xs H Q => ∃ p ys, xs = [.ref p] ∧ (SqL K H p ys ∨ SqT K H p ys) ∧ ∀ l, H l = none → Q (.ref l) (upd H l (.lst ys))
section
variable {K : PySem.W.Frag} {w : World} {σ : L2.St} {H H' : Hp} {ta tb te tl : TE} {d : PyData} {ds es : List PyData} {ns : List Int} {v : V}
theorem EvV.ex (x : Ex H H') (h : EvV te σ H ds) : EvV te σ H' ds := fun H1 y Q q => h H1 (x.trans y) Q q
theorem EvL.toV (h : EvL te σ H ds) : EvV te σ H ds := fun H1 x Q q => h H1 x Q fun p vs H2 x2 _ hp hv => q (.ref p) H2 x2 ⟨p, vs, rfl, hp, hv⟩
theorem evv_var {i : Nat} (h : σ[i]? = some (some v)) (hv : IsL H v ds) : EvV (tVar i) σ H ds := fun H1 x _ q => ⟨v, h, q v H1 (.refl H1) (hv.ex x)⟩
theorem ev_cat (ha : Ev ta σ H (.tuple ds)) (hb : Ev tb σ H (.tuple es)) (hl : ds.length + es.length ≤ 100000) : Ev (tOp (rCatA K) ta tb) σ H (.tuple (ds ++ es)) := fun H1 x Q q =>
  ha H1 x _ fun u H2 x2 hu => hb H2 (x.trans x2) _ fun z H3 x3 hz => by
    obtain ⟨a, us, rfl, a1, a2⟩ := hu.tup_inv
    obtain ⟨b, zs, rfl, b1, b2⟩ := hz.tup_inv
    have a3 := a2.ex x3
    have l1 := a2.length
    have l2 := b2.length
    have x23 := x2.trans x3
    refine ⟨a, b, us, zs, rfl, rfl, SqT.of (x3.tup _ _ a1), SqT.of b1, by rw [l1, l2]; exact sz hl, fun e => ?_, fun _ e => ?_, fun _ _ p hp => ?_⟩
    · subst e
      cases a2
      exact q _ H3 x23 (.tup b1 b2)
    · subst e
      cases b2
      rw [List.append_nil] at q
      exact q _ H3 x23 (.tup (x3.tup _ _ a1) a3)
    · exact q _ _ (x23.trans (.new hp)) (.tup upd_same ((a3.append b2).ex (R := none1) (.new hp)))
theorem es_setT (h : Ev te σ H (dL ns)) (hl : ns.length ≤ 1000) : EvS w (tCB (rSetS K w) (tCons te tNil)) σ H ns := fun H1 x Q q =>
  h H1 x _ fun u H2 x2 hu => by
    obtain ⟨a, us, rfl, a1, a2⟩ := Is.tup_inv hu
    have e := a2.ints
    subst e
    exact ⟨a, ns, rfl, .inr (SqT.of a1), hl, fun p c hp hc => q p c _ (x2.trans (.new hp)) upd_same hc⟩
theorem es_setV (h : EvV te σ H (ns.map .int)) (hl : ns.length ≤ 1000) : EvS w (tCB (rSetS K w) (tCons te tNil)) σ H ns := fun H1 x Q q =>
  h H1 x _ fun u H2 x2 hu => by
    obtain ⟨a, us, rfl, a1, a2⟩ := hu
    have e := a2.ints
    subst e
    exact ⟨a, ns, rfl, .inl (SqL.of a1), hl, fun p c hp hc => q p c _ (x2.trans (.new hp)) upd_same hc⟩
theorem el_sorted (h : EvS w te σ H ns) (hl : ns.length < 64) : EvL (tCB (rSortedSet w) (tCons te tNil)) σ H ((srt ns).map .int) := fun H1 x Q q =>
  h H1 x _ fun p c H2 x2 hp hc => ⟨p, _, c, rfl, hp, by omega, fun ms a h1 h2 _ ha => by
    have e : ms = srt ns := srt_one h1 fun z => (h2 z).trans (by simp)
    subst e
    exact q a _ _ (x2.trans (.new ha)) (x2.back a ha) upd_same (IsA.of_ints _)⟩
theorem ev_tupOf (h : EvV te σ H ds) : Ev (tCB (rTupOf K) (tCons te tNil)) σ H (.tuple ds) := fun H1 x Q q =>
  h H1 x _ fun u H2 x2 hu => by
    obtain ⟨a, us, rfl, a1, a2⟩ := hu
    exact ⟨a, us, rfl, .inl ⟨SqL.of a1, fun p hp => q _ _ (x2.trans (.new hp)) (.tup upd_same (a2.ex (R := none1) (.new hp)))⟩⟩
theorem el_listT (h : Ev te σ H (.tuple ds)) : EvL (tCB (rListOf K) (tCons te tNil)) σ H ds := fun H1 x Q q =>
  h H1 x _ fun u H2 x2 hu => by
    obtain ⟨a, us, rfl, a1, a2⟩ := hu.tup_inv
    exact ⟨a, us, rfl, .inr (SqT.of a1), fun p hp => q p us _ (x2.trans (.new hp)) (x2.back p hp) upd_same (a2.ex (R := none1) (.new hp))⟩
theorem el_listV (h : EvV te σ H ds) : EvL (tCB (rListOf K) (tCons te tNil)) σ H ds := fun H1 x Q q =>
  h H1 x _ fun u H2 x2 hu => by
    obtain ⟨a, us, rfl, a1, a2⟩ := hu
    exact ⟨a, us, rfl, .inl (SqL.of a1), fun p hp => q p us _ (x2.trans (.new hp)) (x2.back p hp) upd_same (a2.ex (R := none1) (.new hp))⟩
theorem ev_lenV (h : EvV te σ H ds) : Ev (tCB (rLn K) (tCons te tNil)) σ H (.int (ds.length : Int)) := fun H1 x Q q =>
  h H1 x _ fun u H2 x2 hu => by
    obtain ⟨a, us, rfl, a1, a2⟩ := hu
    refine ⟨a, us, rfl, .inl (SqL.of a1), q _ H2 x2 ?_⟩
    rw [a2.length]
    exact .int _
theorem ev_ixV {i : Int} (ha : EvV ta σ H ds) (hb : Ev tb σ H (.int i)) (hi : atI ds i = some d) : Ev (tOp (rIxL K) ta tb) σ H d := fun H1 x Q q =>
  ha H1 x _ fun v H2 x2 hv => hb H2 (x.trans x2) _ fun w H3 x3 hw => by
    obtain ⟨p, vs, rfl, hp, hvs⟩ := hv.ex (H' := H2) (.refl _)
    have e := hw.int_inv
    subst e
    obtain ⟨z, hz, hd⟩ := atI_of (hvs.ex x3) hi
    exact ⟨p, vs, i, z, rfl, rfl, SqL.of (x3.keep _ _ hp (fun _ z => by cases z) fun z => z), hz, q z H3 (x2.trans x3) hd⟩
/-- l + m -/
theorem el_catL (ha : EvV ta σ H ds) (hb : EvV tb σ H es) (hl : ds.length + es.length ≤ 100000) : EvL (tOp rCat ta tb) σ H (ds ++ es) := fun H1 x Q q =>
  ha H1 x _ fun u H2 x2 hu => hb H2 (x.trans x2) _ fun z H3 x3 hz => by
    obtain ⟨a, us, rfl, a1, a2⟩ := hu.ex x3
    obtain ⟨b, zs, rfl, b1, b2⟩ := hz
    refine ⟨a, b, us, zs, rfl, rfl, a1, b1, by rw [a2.length, b2.length]; exact sz hl, fun p hp => q p _ _ ((x2.trans x3).trans (.new hp)) ((x2.trans x3).back p hp) upd_same ((a2.append b2).ex (R := none1) (.new hp))⟩

/-! ### comprehensions -/
/-- what a comprehension has made of the first i items -/
def made (p : PyData → Bool) (f : PyData → PyData) (ds : List PyData) (i : Nat) : List PyData := ((ds.take i).filter p).map f
theorem made0 {p : PyData → Bool} {f : PyData → PyData} : made p f ds 0 = [] := rfl
theorem made_yes {p : PyData → Bool} {f : PyData → PyData} {i : Nat} (e : ds[i]? = some d) (h : p d = true) : made p f ds (i + 1) = made p f ds i ++ [f d] := by
  unfold made
  rw [List.take_add_one, e, List.filter_append, List.map_append]
  simp [h]
theorem made_no {p : PyData → Bool} {f : PyData → PyData} {i : Nat} (e : ds[i]? = some d) (h : p d = false) : made p f ds (i + 1) = made p f ds i := by
  unfold made
  rw [List.take_add_one, e, List.filter_append, List.map_append]
  simp [h]
theorem made_len {p : PyData → Bool} {f : PyData → PyData} {i : Nat} : (made p f ds i).length ≤ i := by
  unfold made
  rw [List.length_map]
  have h1 := List.length_filter_le p (ds.take i)
  have h2 : (ds.take i).length ≤ i := by rw [List.length_take]; omega
  omega
theorem made_all {p : PyData → Bool} {f : PyData → PyData} {i : Nat} (h : ds.length ≤ i) : made p f ds i = (ds.filter p).map f := by
  unfold made
  rw [List.take_of_length_le h]
/-- the list at D holds what is made so far -/
def Cw (H : Hp) (p : PyData → Bool) (f : PyData → PyData) (ds : List PyData) (D : Addr) (i : Nat) (H' : Hp) : Prop := H D = none ∧ Ex H H' ∧ ∃ vs, H' D = some (.lst vs) ∧ IsA H' vs (made p f ds i)
theorem cw0 {p : PyData → Bool} {f : PyData → PyData} {D : Addr} (h : H D = none) : Cw H p f ds D 0 (upd H D (.lst [])) := ⟨h, .new h, [], upd_same, .nil⟩
theorem cw_turn {p : PyData → Bool} {f : PyData → PyData} {D : Addr} {i : Nat} {tt : TT} {σ2 : L2.St} (c : Cw H p f ds D i H') (hd : ds[i]? = some d) (hi : i < 50000) (ht : EvB tt σ2 H' (p d)) (he : p d = true → ∀ H1, Ex H' H1 → Ev te σ2 H1 (f d)) :
    tt σ2 H' fun b H3 => if b = true then te σ2 H3 fun y H4 => ∃ acc, H4 D = some (.lst acc) ∧ acc.length < sizeLine ∧ Cw H p f ds D (i + 1) (upd H4 D (.lst (acc ++ [y]))) else Cw H p f ds D (i + 1) H3 := by
  obtain ⟨c1, c2, vs, c3, c4⟩ := c
  refine ht H' (.refl _) _ fun H3 x3 => ?_
  have keepL : ∀ {Ha Hb : Hp}, Ex Ha Hb → ∀ {us : List V}, Ha D = some (.lst us) → Hb D = some (.lst us) := fun x us e => x.keep _ _ e (fun _ z => by cases z) fun z => z
  cases hp : p d with
  | true =>
    refine iteT (he hp H3 x3 H3 (.refl _) _ fun y H4 x4 hy => ⟨vs, keepL (x3.trans x4) c3, ?_, c1, ?_, vs ++ [y], upd_same, ?_⟩)
    · have := made_len (p := p) (f := f) (ds := ds) (i := i)
      rw [c4.length]
      exact szl (by omega)
    · exact ExB.mut ((c2.trans x3).trans x4) c1 (keepL (x3.trans x4) c3) (soft_lst vs)
    · rw [made_yes hd hp]
      exact ((c4.ex (x3.trans x4)).append (.one hy)).keep (tupLe_soft (keepL (x3.trans x4) c3) (soft_lst vs))
  | false =>
    refine iteF ⟨c1, c2.trans x3, vs, keepL x3 c3, ?_⟩
    rw [made_no hd hp]
    exact c4.ex x3
theorem cw_end {p : PyData → Bool} {f : PyData → PyData} {D : Addr} {i : Nat} (c : Cw H p f ds D i H') (h : ds.length ≤ i) : ∃ vs, H' D = some (.lst vs) ∧ IsA H' vs ((ds.filter p).map f) := by
  obtain ⟨_, _, vs, c3, c4⟩ := c
  rw [made_all h] at c4
  exact ⟨vs, c3, c4⟩
/-- over a tuple -/
theorem el_lcT {j : Nat} {vs : List Nat} {tt : TT} (p : PyData → Bool) (f : PyData → PyData) (h : Ev tl σ H (.tuple ds)) (hz : ds.length ≤ 40000) (hw : ∀ x, wipe ((wipe σ vs).set j (some x)) vs = wipe σ vs)
    (ht : ∀ (i : Nat) d v H1, ds[i]? = some d → Ex H H1 → Is H1 v d → EvB tt ((wipe σ vs).set j (some v)) H1 (p d)) (he : ∀ (i : Nat) d v H1, ds[i]? = some d → Ex H H1 → Is H1 v d → p d = true → Ev te ((wipe σ vs).set j (some v)) H1 (f d)) :
    EvL (tLc (iTup K tl) (gName j) tt te vs) σ H ((ds.filter p).map f) := fun H1 x Q q => h H1 x _ fun v H2 x2 hv => by
  obtain ⟨a, ws, rfl, ha, hws⟩ := hv.tup_inv
  have hl := hws.length
  refine ⟨a, rfl, ⟨ws, SqT.of ha⟩, fun D hD => lc_tup (xs := ws) (Cw H2 p f ds D) (cw0 hD) (fun i H' _ c => SqT.of (c.2.1.tup _ _ ha)) (fun i z H' hz' c => ?_) fun H' c => ?_⟩
  · obtain ⟨d, hd, hzd⟩ := hws.got hz'
    have hi : i < ds.length := (List.getElem?_eq_some_iff.mp hd).1
    have xa : Ex H H' := (x.trans x2).trans c.2.1
    exact ⟨hw z, cw_turn c hd (by omega) (ht i d z H' hd xa (hzd.ex c.2.1)) fun hp H1' x1' => he i d z H1' hd (xa.trans x1') ((hzd.ex c.2.1).ex x1') hp⟩
  · obtain ⟨us, c3, c4⟩ := cw_end c (by omega)
    exact q D us H' (x2.trans c.2.1) (x2.back D c.1) c3 c4
/-- over a list -/
theorem el_lcV {j : Nat} {vs : List Nat} {tt : TT} (p : PyData → Bool) (f : PyData → PyData) (h : EvV tl σ H ds) (hz : ds.length ≤ 40000) (hw : ∀ x, wipe ((wipe σ vs).set j (some x)) vs = wipe σ vs)
    (ht : ∀ (i : Nat) d v H1, ds[i]? = some d → Ex H H1 → Is H1 v d → EvB tt ((wipe σ vs).set j (some v)) H1 (p d)) (he : ∀ (i : Nat) d v H1, ds[i]? = some d → Ex H H1 → Is H1 v d → p d = true → Ev te ((wipe σ vs).set j (some v)) H1 (f d)) :
    EvL (tLc (iList K tl) (gName j) tt te vs) σ H ((ds.filter p).map f) := fun H1 x Q q => h H1 x _ fun v H2 x2 hv => by
  obtain ⟨a, ws, rfl, ha, hws⟩ := hv
  have hl := hws.length
  refine ⟨a, rfl, ⟨ws, SqL.of ha⟩, fun D hD => lc_list (xs := ws) (Cw H2 p f ds D) (cw0 hD) (fun i H' _ c => SqL.of (c.2.1.keep _ _ ha (fun _ z => by cases z) fun z => z)) (fun i z H' hz' c => ?_) fun H' c => ?_⟩
  · obtain ⟨d, hd, hzd⟩ := hws.got hz'
    have hi : i < ds.length := (List.getElem?_eq_some_iff.mp hd).1
    have xa : Ex H H' := (x.trans x2).trans c.2.1
    exact ⟨hw z, cw_turn c hd (by omega) (ht i d z H' hd xa (hzd.ex c.2.1)) fun hp H1' x1' => he i d z H1' hd (xa.trans x1') ((hzd.ex c.2.1).ex x1') hp⟩
  · obtain ⟨us, c3, c4⟩ := cw_end c (by omega)
    exact q D us H' (x2.trans c.2.1) (x2.back D c.1) c3 c4
theorem eb_yes {b : Bool} (h : b = true) : EvB tYes σ H b := fun H1 _ _ q => by
  subst h
  exact q H1 (.refl H1)
/-- the numbers from 0 -/
def rangeD (n : Nat) : List PyData := (List.range n).map fun i : Nat => PyData.int (i : Int)
theorem rangeD_at {n i : Nat} (h : i < n) : (rangeD n)[i]? = some (.int (i : Int)) := by
  unfold rangeD
  rw [List.getElem?_map, List.getElem?_range h]
  rfl
theorem rangeD_len (n : Nat) : (rangeD n).length = n := by simp [rangeD]
/-- over range(n) -/
theorem el_lcR {j n : Nat} {vs : List Nat} {tt : TT} {ta : TA} (p : PyData → Bool) (f : PyData → PyData) (h : EvA ta σ H [.int (n : Int)]) (hz : n ≤ 40000) (hw : ∀ x, wipe ((wipe σ vs).set j (some x)) vs = wipe σ vs)
    (ht : ∀ (i : Nat) H1, i < n → Ex H H1 → EvB tt ((wipe σ vs).set j (some (.int (i : Int)))) H1 (p (.int (i : Int)))) (he : ∀ (i : Nat) H1, i < n → Ex H H1 → p (.int (i : Int)) = true → Ev te ((wipe σ vs).set j (some (.int (i : Int)))) H1 (f (.int (i : Int)))) :
    EvL (tLc (iRng1 ta) (gName j) tt te vs) σ H (((rangeD n).filter p).map f) := fun H1 x Q q => h H1 x _ fun us H2 x2 hv => by
  obtain ⟨v1, rfl, h1⟩ := hv.inv1
  have e := h1.int_inv
  subst e
  refine ⟨n, rfl, by omega, by omega, fun D hD => lc_range (lo := 0) (n := (n : Int).toNat) (Cw H2 p f (rangeD n) D) (cw0 hD) (fun i H' hi c => ?_) fun H' c => ?_⟩
  · have hi' : i < n := by simpa using hi
    have e0 : (0 : Int) + (i : Int) = (i : Int) := Int.zero_add _
    have xa : Ex H H' := (x.trans x2).trans c.2.1
    show wipe ((wipe σ vs).set j (some (.int ((0 : Int) + (i : Int))))) vs = wipe σ vs ∧ tt ((wipe σ vs).set j (some (.int ((0 : Int) + (i : Int))))) H' _
    rw [e0]
    exact ⟨hw _, cw_turn c (rangeD_at hi') (by omega) (ht i H' hi' xa) fun hp H1' x1' => he i H1' hi' (xa.trans x1') hp⟩
  · obtain ⟨us, c3, c4⟩ := cw_end c (by rw [rangeD_len]; simp)
    exact q D us H' (x2.trans c.2.1) (x2.back D c.1) c3 c4
end
end Dw
set_option Elab.async false
set_option linter.all false
set_option maxRecDepth 100000
set_option maxHeartbeats 2000000
namespace Dw
open PySem PySem.Spec PyProof.Rows L2 Gx
section
variable {P : Program} {w : World} {K : PySem.W.Frag} {mg : Str → Option Value} {base : Heap}
/-! ### is_number -/
theorem sc_is_number : FnScope ["value", "low", "high"] ["value", "low", "high"] (defScope sIsNumber) := ⟨rfl, rfl, rfl, by decide +kernel, rfl, by decide +kernel, by decide +kernel⟩
def fIsNumber : List PyData → PyData → Prop := fun ds d => ∃ v lo hi : Int, ds = [.int v, .int lo, .int hi] ∧ d = .bool (decide (lo ≤ v ∧ v ≤ hi))
theorem ok_is_number {f : Addr} {fd : FuncData} {k : Nat} (F : Fun K "is_number" "is_number" sIsNumber f fd) (m1 : mg "isinstance" = none) (m2 : mg "int" = none) (m3 : mg "bool" = none) :
    FnOk P w K mg base CX0 (k + 1) f fd ["value", "low", "high"] (spF [] fIsNumber) := by
  refine F.ok sc_is_number (fun vs H Q E h => ?_) (fun cdv A outer s H vs Q E hr h => ?_)
  · obtain ⟨ds, d, hvs, ⟨v, lo, hi, rfl, rfl⟩, _⟩ := h
    exact hvs.length
  · obtain ⟨ds, d, hvs, ⟨v, lo, hi, rfl, rfl⟩, _, q⟩ := h
    obtain ⟨v1, v2, v3, rfl, h1, h2, h3⟩ := hvs.inv3
    refine ⟨_, pss_one (ps_ret (pe_and (pe_callB call_isi (by rfl) m1 (by decide +kernel) (pa_cons (pv 0) (pa_cons (pe_bltn (v := .ty "int") (u := .type "int") (by rfl) m2 (by decide +kernel) rfl) pa_nil)))
      (pe_and (pe_not (pe_callB call_isi (by rfl) m1 (by decide +kernel) (pa_cons (pv 0) (pa_cons (pe_bltn (v := .ty "bool") (u := .type "bool") (by rfl) m3 (by decide +kernel) rfl) pa_nil)))) (pe_one (pe_chain op_le op_le (pv 1) (pv 0) (pv 2)))))), ?_⟩
    refine s_ret (ev_is (ev_andV (ev_isi (ev_var rfl h1) ki_int_int) fun _ => ev_andV (ev_notV (ev_isi (ev_var rfl h1) ki_int_bool)) fun _ => ev_chain (ev_var rfl h2) (ev_var rfl h1) (ev_var rfl h3) (fun i j H Q q => ⟨i, j, rfl, rfl, q⟩) (fun i j H Q q => ⟨i, j, rfl, rfl, q⟩)) ?_) fun v H1 x hv => q v H1 x hv
    simp

/-! ### is_route -/
theorem sc_is_route : FnScope ["value", "vats", "vat"] ["value", "vats"] (defScope sIsRoute) := ⟨rfl, rfl, rfl, by decide +kernel, rfl, by decide +kernel, by decide +kernel⟩
def RouteOk (vats : Int) (r : List Nat) : Prop := 1 ≤ r.length ∧ r.length ≤ 6 ∧ ∀ v ∈ r, (v : Int) < vats
def fIsRoute : List PyData → PyData → Prop := fun ds d => ∃ (r : List Nat) (vats : Int), ds = [dN r, .int vats] ∧ RouteOk vats r ∧ d = .bool true
theorem ok_is_route {f c Pt fn : Addr} {fd fdn : FuncData} {k kn : Nat} (F : FunC K "is_route" "is_route" sIsRoute f fd c) (t : TB base mg c Pt) (hk : kn + 1 ≤ k) (m1 : mg "isinstance" = none) (m2 : mg "tuple" = none) (m3 : mg "len" = none) (m4 : mg "all" = none)
    (tk : Tok) (mL : mg "MOST_LONG" = some (.int 6 tk)) (gn : mg "is_number" = some (.ref fn)) (kpn : PySem.W.keepIn K (.ref fn) = true) (bn : Binds K fdn ["value", "low", "high"] []) (G : FnOk P w K mg base CX0 kn fn fdn ["value", "low", "high"] (spF [] fIsNumber)) :
    FnOk P w K mg base CX0 (k + 1) f fd ["value", "vats"] (spF [Pt] fIsRoute) := by
  refine F.ok sc_is_route (fun vs H Q E h => ?_) (fun A outer s H vs Q E hr h => ?_)
  · obtain ⟨ds, d, hvs, ⟨r, vats, rfl, _, rfl⟩, _⟩ := h
    exact hvs.length
  · obtain ⟨ds, d, hvs, ⟨r, vats, rfl, ⟨r1, r2, r3⟩, rfl⟩, hT, q⟩ := h
    obtain ⟨v1, v2, rfl, h1, h2⟩ := hvs.inv2
    refine ⟨_, pss_cons (ps_if (PW.pt (pw_or (pt_not (pt_val (pe_callB call_isi (by rfl) m1 (by decide +kernel) (pa_cons (pv 0) (pa_cons (pe_bltn (v := .ty "tuple") (u := .type "tuple") (by rfl) m2 (by decide +kernel) rfl) pa_nil)))))
        (pw_or1 (pt_not (pt_chain op_le op_le pe_int (pe_callB (r := rLn K) call_len_seq (by rfl) m3 PySem.boot_len (pa_cons (pv 0) pa_nil)) (pe_glob (v := .int 6) (by rfl) mL ⟨_, rfl⟩)))))) (pss_one (ps_ret pe_bl)) pss_nil)
      (pss_one (ps_ret (pe_all (n := 0) (own := [("vat", 2)]) (g := gName 2) (te := fun _ => tCall (spF [] fIsNumber) [] E0 (tCons (tVar 2) (tCons (tC (.int 0)) (tCons (tOp (rI0 fun i j => .int (i - j)) (tVar 1) (tC (.int 1))) tNil)))) (hr.mono hk) (by rfl) m4 (bmAt_of t) sc_is_route.nd (pi_tup (pv 0)) (genS_by (N := ["value", "vats", "vat"]) (sc := defScope sIsRoute) (by decide +kernel))
        (fun _ _ _ _ _ _ _ _ _ => pg_name (i := 2) sc_is_route.nd rfl (Or.inl rfl)) (fun _ _ _ _ _ _ _ _ rk => pe_call G rk (by rfl) gn kpn bn .nil pass0 (pa_cons (pv 2) (pa_cons pe_int (pa_cons (pe_op op_sub (pv 1) pe_int) pa_nil))))))), ?_⟩
    refine s_if (b := false) (eb_is (eb_or (eb_not (eb_B (ev_isi (ev_var rfl h1) ki_tuple_tuple))) fun _ => eb_not (eb_test (ev_chain ev_int (ev_len (ev_var rfl h1)) ev_int (fun i j H Q q => ⟨i, j, rfl, rfl, q⟩) (fun i j H Q q => ⟨i, j, rfl, rfl, q⟩)))) ?_) (fun z => nomatch z) (fun _ H1 x1 => ?_)
    · simp
      omega
    · refine s_ret (d := .bool true) (ev_is (ev_qT (f := fun _ => true) (ev_var rfl (h1.ex x1)) (codeRd_of t (TabD.down (x1.tab _ _ (hT Pt (List.mem_singleton.mpr rfl))))) (fun _ => rfl) fun i d v cv2 H2 hd x2 hv _ => ?_) ?_) fun v H2 x2 hv => q v H2 (x1.trans x2) hv
      · obtain ⟨y, hy, rfl⟩ := List.mem_map.mp (List.mem_of_getElem? hd)
        refine ev_call (ea_cons (ev_var rfl hv) (ea_cons ev_int (ea_one (ev_sub (ev_var rfl ((h2.ex x1).ex x2)) ev_int)))) ⟨_, _, _, rfl, ?_⟩ (fun _ z => nomatch z)
        have := r3 y hy
        rw [decide_eq_true (by omega)]
      · simp [quant]
end
end Dw
set_option Elab.async false
set_option linter.all false
set_option maxRecDepth 100000
set_option maxHeartbeats 4000000
namespace Dw
open PySem PySem.Spec PyProof.Rows L2 Gx
section
variable {P : Program} {w : World} {K : PySem.W.Frag} {mg : Str → Option Value} {base : Heap}
/-! ### is_lot -/
theorem sc_is_lot : FnScope ["value", "many", "part", "one", "other"] ["value", "many"] (defScope sIsLot) := ⟨rfl, rfl, rfl, by decide +kernel, rfl, by decide +kernel, by decide +kernel⟩
def LotOk (many : Int) (xs : List Int) : Prop := (∀ x ∈ xs, 0 ≤ x ∧ x < many) ∧ xs.Pairwise (· < ·) ∧ xs.length ≤ 1000
def fIsLot : List PyData → PyData → Prop := fun ds d => ∃ (xs : List Int) (many : Int), ds = [dL xs, .int many] ∧ LotOk many xs ∧ d = .bool true
theorem pairs_lt {xs : List Int} (h : xs.Pairwise (· < ·)) {i : Nat} {a b : Int} (h1 : xs[i]? = some a) (h2 : (xs.drop 1)[i]? = some b) : a < b := by
  rw [List.getElem?_drop] at h2
  obtain ⟨l1, e1⟩ := List.getElem?_eq_some_iff.mp h1
  obtain ⟨l2, e2⟩ := List.getElem?_eq_some_iff.mp h2
  rw [← e1, ← e2]
  exact List.pairwise_iff_getElem.mp h i (1 + i) l1 l2 (by omega)
theorem ok_is_lot {f c Pt fn : Addr} {fd fdn : FuncData} {k kn : Nat} (F : FunC K "is_lot" "is_lot" sIsLot f fd c) (t : TB base mg c Pt) (hk : kn + 1 ≤ k) (m1 : mg "isinstance" = none) (m2 : mg "tuple" = none) (m3 : mg "zip" = none) (m4 : mg "all" = none)
    (gn : mg "is_number" = some (.ref fn)) (kpn : PySem.W.keepIn K (.ref fn) = true) (bn : Binds K fdn ["value", "low", "high"] []) (G : FnOk P w K mg base CX0 kn fn fdn ["value", "low", "high"] (spF [] fIsNumber)) :
    FnOk P w K mg base CX0 (k + 1) f fd ["value", "many"] (spF [Pt] fIsLot) := by
  refine F.ok sc_is_lot (fun vs H Q E h => ?_) (fun A outer s H vs Q E hr h => ?_)
  · obtain ⟨ds, d, hvs, ⟨r, many, rfl, _, rfl⟩, _⟩ := h
    exact hvs.length
  · obtain ⟨ds, d, hvs, ⟨xs, many, rfl, ⟨r1, r2, r3⟩, rfl⟩, hT, q⟩ := h
    obtain ⟨v1, v2, rfl, h1, h2⟩ := hvs.inv2
    have hT0 : TabD 0 H Pt := TabD.down (hT Pt (List.mem_singleton.mpr rfl))
    refine ⟨_, pss_cons (ps_if (PW.pt (pw_or (pt_not (pt_val (pe_callB call_isi (by rfl) m1 (by decide +kernel) (pa_cons (pv 0) (pa_cons (pe_bltn (v := .ty "tuple") (u := .type "tuple") (by rfl) m2 (by decide +kernel) rfl) pa_nil)))))
        (pw_or1 (pt_not (pt_val (pe_all (n := 0) (own := [("part", 2)]) (g := gName 2) (te := fun _ => tCall (spF [] fIsNumber) [] E0 (tCons (tVar 2) (tCons (tC (.int 0)) (tCons (tOp (rI0 fun i j => .int (i - j)) (tVar 1) (tC (.int 1))) tNil)))) (hr.mono hk) (by rfl) m4 (bmAt_of t) sc_is_lot.nd (pi_tup (pv 0)) (genS_by (N := ["value", "many", "part", "one", "other"]) (sc := defScope sIsLot) (by decide +kernel))
        (fun _ _ _ _ _ _ _ _ _ => pg_name (i := 2) sc_is_lot.nd rfl (Or.inl rfl)) (fun _ _ _ _ _ _ _ _ rk => pe_call G rk (by rfl) gn kpn bn .nil pass0 (pa_cons (pv 2) (pa_cons pe_int (pa_cons (pe_op op_sub (pv 1) pe_int) pa_nil))))))))))
        (pss_one (ps_ret pe_bl)) pss_nil)
      (pss_one (ps_ret (pe_all (n := 0) (own := [("one", 3), ("other", 4)]) (g := gTup K 2 (gCons (gName 3) (gCons (gName 4) gNil))) (te := fun _ => tOp (rI0 fun i j => .bl (decide (i < j))) (tVar 3) (tVar 4)) (k := kn) (hr.mono hk) (by rfl) m4 (bmAt_of t) sc_is_lot.nd
        (RZ.pi_zipA (by rfl) m3 (pa_cons (pv 0) (pa_cons (pe_slice sl_tupA (pv 0) (po_some pe_int) po_none) pa_nil))) (genS_by (N := ["value", "many", "part", "one", "other"]) (sc := defScope sIsLot) (by decide +kernel))
        (fun _ _ _ _ _ _ _ _ _ => pg_tup rfl (pgs_cons (pg_name (i := 3) sc_is_lot.nd rfl (.inl rfl)) (pgs_cons (pg_name (i := 4) sc_is_lot.nd rfl (.inl rfl)) pgs_nil)))
        (fun _ _ _ _ _ _ _ _ _ => pe_cmpR op_lt (pv 3) (pv 4) (nomark _))))), ?_⟩
    refine s_if (b := false) (eb_is (eb_or (eb_not (eb_B (ev_isi (ev_var rfl h1) ki_tuple_tuple))) fun _ => eb_not (eb_B (ev_qT (f := fun _ => true) (ev_var rfl h1) (codeRd_of t hT0) (fun _ => rfl) fun i d v cv2 H2 hd x2 hv _ => ?_))) ?_) (fun z => nomatch z) (fun _ H1 x1 => ?_)
    · obtain ⟨y, hy, rfl⟩ := List.mem_map.mp (List.mem_of_getElem? hd)
      refine ev_call (ea_cons (ev_var rfl hv) (ea_cons ev_int (ea_one (ev_sub (ev_var rfl (h2.ex x2)) ev_int)))) ⟨_, _, _, rfl, ?_⟩ (fun _ z => nomatch z)
      have := r1 y hy
      rw [decide_eq_true (by omega)]
    · simp [quant]
    · refine s_ret (d := .bool true) (ev_is (ev_qZ (f := fun _ => true) (ea_cons (ev_var rfl (h1.ex x1)) (ea_one (ev_sl1 (ev_var rfl (h1.ex x1))))) (codeRd_of t (x1.tab _ _ hT0)) (by decide) (fun _ _ => rfl) fun i d e v u cv2 H2 hd he x2 hv hu _ => ?_) ?_) fun v H2 x2 hv => q v H2 (x1.trans x2) hv
      · rw [List.getElem?_map] at hd
        rw [← List.map_drop, List.getElem?_map] at he
        obtain ⟨a, ha, rfl⟩ := Option.map_eq_some_iff.mp hd
        obtain ⟨b, hb, rfl⟩ := Option.map_eq_some_iff.mp he
        refine ev_is (ev_lt (ev_var rfl hv) (ev_var rfl hu)) ?_
        rw [decide_eq_true (pairs_lt r2 ha hb)]
      · simp [quant]
/-! ### is_kind -/
theorem sc_is_kind : FnScope ["value", "dyes", "vats", "routes", "route"] ["value", "dyes", "vats"] (defScope sIsKind) := ⟨rfl, rfl, rfl, by decide +kernel, rfl, by decide +kernel, by decide +kernel⟩
def KindOk (dyes vats : Int) (k : Kind) : Prop := LotOk dyes k.wants ∧ LotOk dyes k.bars ∧ 1 ≤ k.routes.length ∧ k.routes.length ≤ 8 ∧ ∀ r ∈ k.routes, RouteOk vats r
def fIsKind : List PyData → PyData → Prop := fun ds d => ∃ (k : Kind) (dyes vats : Int), ds = [dK k, .int dyes, .int vats] ∧ KindOk dyes vats k ∧ d = .bool true
theorem ok_is_kind {f c Pt Pl Pr fl fr : Addr} {fd fdl fdr : FuncData} {k kn : Nat} (F : FunC K "is_kind" "is_kind" sIsKind f fd c) (t : TB base mg c Pt) (hk : kn + 1 ≤ k) (m1 : mg "isinstance" = none) (m2 : mg "tuple" = none) (m3 : mg "len" = none) (m4 : mg "all" = none)
    (tk : Tok) (mR : mg "MOST_ROUTES" = some (.int 8 tk))
    (gl : mg "is_lot" = some (.ref fl)) (kpl : PySem.W.keepIn K (.ref fl) = true) (bl : Binds K fdl ["value", "many"] []) (GL : FnOk P w K mg base CX0 kn fl fdl ["value", "many"] (spF [Pl] fIsLot))
    (gr : mg "is_route" = some (.ref fr)) (kpr : PySem.W.keepIn K (.ref fr) = true) (br : Binds K fdr ["value", "vats"] []) (GR : FnOk P w K mg base CX0 kn fr fdr ["value", "vats"] (spF [Pr] fIsRoute)) :
    FnOk P w K mg base CX0 (k + 1) f fd ["value", "dyes", "vats"] (spF [Pt, Pl, Pr] fIsKind) := by
  refine F.ok sc_is_kind (fun vs H Q E h => ?_) (fun A outer s H vs Q E hr h => ?_)
  · obtain ⟨ds, d, hvs, ⟨r, _, _, rfl, _, rfl⟩, _⟩ := h
    exact hvs.length
  · obtain ⟨ds, d, hvs, ⟨kd, dyes, vats, rfl, ⟨r1, r2, r3, r4, r5⟩, rfl⟩, hT, q⟩ := h
    obtain ⟨v1, v2, v3, rfl, h1, h2, h3⟩ := hvs.inv3
    have hTt : TabD 1 H Pt := hT Pt (by simp)
    have hTl : TabD 1 H Pl := hT Pl (by simp)
    have hTr : TabD 1 H Pr := hT Pr (by simp)
    have hk0 : kn ≤ k := by omega
    refine ⟨_, pss_cons (ps_if (PW.pt (pw_or (pt_not (pt_val (pe_callB call_isi (by rfl) m1 (by decide +kernel) (pa_cons (pv 0) (pa_cons (pe_bltn (v := .ty "tuple") (u := .type "tuple") (by rfl) m2 (by decide +kernel) rfl) pa_nil)))))
        (pw_or (pt_cmpR op_ne (pe_callB (r := rLn K) call_len_seq (by rfl) m3 PySem.boot_len (pa_cons (pv 0) pa_nil)) pe_int (nomark _))
        (pw_or (pt_not (pt_val (pe_call GL (hr.mono hk0) (by rfl) gl kpl bl .nil pass0 (pa_cons (pe_ix ix_tup (pv 0) pe_int (fun _ _ => rfl)) (pa_cons (pv 1) pa_nil)))))
        (pw_or1 (pt_not (pt_val (pe_call GL (hr.mono hk0) (by rfl) gl kpl bl .nil pass0 (pa_cons (pe_ix ix_tup (pv 0) pe_int (fun _ _ => rfl)) (pa_cons (pv 1) pa_nil))))))))))
        (pss_one (ps_ret pe_bl)) pss_nil)
      (pss_cons (ps_set (i := 3) sc_is_kind.nd rfl (Or.inl rfl) (pe_ix ix_tup (pv 0) pe_int (fun _ _ => rfl)))
      (pss_cons (ps_if (PW.pt (pw_or (pt_not (pt_val (pe_callB call_isi (by rfl) m1 (by decide +kernel) (pa_cons (pv 3) (pa_cons (pe_bltn (v := .ty "tuple") (u := .type "tuple") (by rfl) m2 (by decide +kernel) rfl) pa_nil)))))
        (pw_or1 (pt_not (pt_chain op_le op_le pe_int (pe_callB (r := rLn K) call_len_seq (by rfl) m3 PySem.boot_len (pa_cons (pv 3) pa_nil)) (pe_glob (v := .int 8) (by rfl) mR ⟨_, rfl⟩)))))) (pss_one (ps_ret pe_bl)) pss_nil)
      (pss_one (ps_ret (pe_all (n := 0) (own := [("route", 4)]) (g := gName 4) (te := fun _ => tCall (spF [Pr] fIsRoute) [] E0 (tCons (tVar 4) (tCons (tVar 2) tNil))) (hr.mono hk) (by rfl) m4 (bmAt_of t) sc_is_kind.nd (pi_tup (pv 3)) (genS_by (N := ["value", "dyes", "vats", "routes", "route"]) (sc := defScope sIsKind) (by decide +kernel))
        (fun _ _ _ _ _ _ _ _ _ => pg_name (i := 4) sc_is_kind.nd rfl (Or.inl rfl)) (fun _ _ _ _ _ _ _ _ rk => pe_call GR rk (by rfl) gr kpr br .nil pass0 (pa_cons (pv 4) (pa_cons (pv 2) pa_nil)))))))), ?_⟩
    refine s_if (b := false) (eb_is (eb_or (eb_not (eb_B (ev_isi (ev_var rfl h1) ki_tuple_tuple))) fun _ => eb_or (eb_test (ev_neI (ev_len (ev_var rfl h1)) ev_int)) fun _ => eb_or (eb_not (eb_B (ev_call (ea_cons (ev_ixn (i := 0) (ev_var rfl h1) ev_int rfl) (ea_one (ev_var rfl h2))) ⟨_, _, rfl, r1, rfl⟩ (fun P hP => ?_)))) fun _ =>
      eb_not (eb_B (ev_call (ea_cons (ev_ixn (i := 1) (ev_var rfl h1) ev_int rfl) (ea_one (ev_var rfl h2))) ⟨_, _, rfl, r2, rfl⟩ (fun P hP => ?_)))) ?_) (fun z => nomatch z) (fun _ H1 x1 => ?_)
    · rw [List.mem_singleton.mp hP]; exact hTl
    · rw [List.mem_singleton.mp hP]; exact hTl
    · simp
    · refine s_set (ev_ixn (i := 2) (ev_var rfl (h1.ex x1)) ev_int rfl) fun v4 H2 x2 h4 => ?_
      refine s_if (b := false) (eb_is (eb_or (eb_not (eb_B (ev_isi (ev_var rfl h4) ki_tuple_tuple))) fun _ => eb_not (eb_test (ev_chain ev_int (ev_len (ev_var rfl h4)) ev_int (fun i j H Q q => ⟨i, j, rfl, rfl, q⟩) (fun i j H Q q => ⟨i, j, rfl, rfl, q⟩)))) ?_) (fun z => nomatch z) (fun _ H3 x3 => ?_)
      · simp
        omega
      · have x13 : Ex H H3 := (x1.trans x2).trans x3
        refine s_ret (d := .bool true) (ev_is (ev_qT (f := fun _ => true) (ev_var rfl (h4.ex x3)) (codeRd_of t (TabD.down (x13.tab _ _ hTt))) (fun _ => rfl) fun i d v cv2 H4 hd x4 hv _ => ?_) ?_) fun v H4 x4 hv => q v H4 (x13.trans x4) hv
        · obtain ⟨y, hy, rfl⟩ := List.mem_map.mp (List.mem_of_getElem? hd)
          refine ev_call (ea_cons (ev_var rfl hv) (ea_one (ev_var rfl (h3.ex (x13.trans x4))))) ⟨_, _, rfl, r5 y hy, rfl⟩ (fun P hP => ?_)
          rw [List.mem_singleton.mp hP]; exact (x13.trans x4).tab _ _ hTr
        · simp [quant]
end
end Dw
set_option Elab.async false
set_option linter.all false
set_option maxRecDepth 100000
set_option maxHeartbeats 4000000
namespace Dw
open PySem PySem.Spec PyProof.Rows L2 Gx
section
variable {P : Program} {w : World} {K : PySem.W.Frag} {mg : Str → Option Value} {base : Heap}
/-! ### need_works -/
theorem sc_need_works : FnScope ["value", "kinds", "dyes", "vats", "own", "kind"] ["value"] (defScope sNeedWorks) := ⟨rfl, rfl, rfl, by decide +kernel, rfl, by decide +kernel, by decide +kernel⟩
structure WkOk (wk : Wk) : Prop where
  d1 : 1 ≤ wk.dyes
  d2 : wk.dyes ≤ 5
  v1 : 1 ≤ wk.vats.length
  v2 : wk.vats.length ≤ 5
  vs : ∀ o ∈ wk.vats, LotOk wk.dyes o
  k1 : 1 ≤ wk.kinds.length
  k2 : wk.kinds.length ≤ 4
  ks : ∀ k ∈ wk.kinds, KindOk wk.dyes wk.vats.length k
def fNeedWorks : List PyData → PyData → Prop := fun ds d => ∃ wk : Wk, ds = [dW wk] ∧ WkOk wk ∧ d = .none
theorem ok_need_works {f c Pt Pl Pr Pk fn fl fk : Addr} {fd fdn fdl fdk : FuncData} {k kn : Nat} (F : FunC K "need_works" "need_works" sNeedWorks f fd c) (t : TB base mg c Pt) (hk : kn + 1 ≤ k) (m1 : mg "isinstance" = none) (m2 : mg "tuple" = none) (m3 : mg "len" = none) (m4 : mg "all" = none)
    (tk1 tk2 tk3 : Tok) (mD : mg "MOST_DYES" = some (.int 5 tk1)) (mV : mg "MOST_VATS" = some (.int 5 tk2)) (mK : mg "MOST_KINDS" = some (.int 4 tk3))
    (gn : mg "is_number" = some (.ref fn)) (kpn : PySem.W.keepIn K (.ref fn) = true) (bn : Binds K fdn ["value", "low", "high"] []) (GN : FnOk P w K mg base CX0 kn fn fdn ["value", "low", "high"] (spF [] fIsNumber))
    (gl : mg "is_lot" = some (.ref fl)) (kpl : PySem.W.keepIn K (.ref fl) = true) (bl : Binds K fdl ["value", "many"] []) (GL : FnOk P w K mg base CX0 kn fl fdl ["value", "many"] (spF [Pl] fIsLot))
    (gk : mg "is_kind" = some (.ref fk)) (kpk : PySem.W.keepIn K (.ref fk) = true) (bk : Binds K fdk ["value", "dyes", "vats"] []) (GK : FnOk P w K mg base CX0 kn fk fdk ["value", "dyes", "vats"] (spF [Pk, Pl, Pr] fIsKind)) :
    FnOk P w K mg base CX0 (k + 1) f fd ["value"] (spF [Pt, Pk, Pl, Pr] fNeedWorks) := by
  refine F.ok sc_need_works (fun vs H Q E h => ?_) (fun A outer s H vs Q E hr h => ?_)
  · obtain ⟨ds, d, hvs, ⟨r, rfl, _, rfl⟩, _⟩ := h
    exact hvs.length
  · obtain ⟨ds, d, hvs, ⟨wk, rfl, W, rfl⟩, hT, q⟩ := h
    obtain ⟨v1, rfl, h1⟩ := hvs.inv1
    have hTt : TabD 1 H Pt := hT Pt (by simp)
    have hTl : TabD 1 H Pl := hT Pl (by simp)
    have hTk : TabD 1 H Pk := hT Pk (by simp)
    have hTr : TabD 1 H Pr := hT Pr (by simp)
    have hk0 : kn ≤ k := by omega
    refine ⟨_, pss_cons (ps_if (PW.pt (pw_or (pt_not (pt_val (pe_callB call_isi (by rfl) m1 (by decide +kernel) (pa_cons (pv 0) (pa_cons (pe_bltn (v := .ty "tuple") (u := .type "tuple") (by rfl) m2 (by decide +kernel) rfl) pa_nil)))))
        (pw_or1 (pt_cmpR op_ne (pe_callB (r := rLn K) call_len_seq (by rfl) m3 PySem.boot_len (pa_cons (pv 0) pa_nil)) pe_int (nomark _))))) (pss_one ps_never) pss_nil)
      (pss_cons (ps_asg (pv 0) (pg_tup rfl (pgs_cons (pg_name (i := 2) sc_need_works.nd rfl (.inr rfl)) (pgs_cons (pg_name (i := 3) sc_need_works.nd rfl (.inr rfl)) (pgs_cons (pg_name (i := 1) sc_need_works.nd rfl (.inl rfl)) pgs_nil)))))
      (pss_cons (ps_if (pt_not (pt_val (pe_call GN (hr.mono hk0) (by rfl) gn kpn bn .nil pass0 (pa_cons (pv 2) (pa_cons pe_int (pa_cons (pe_glob (v := .int 5) (by rfl) mD ⟨_, rfl⟩) pa_nil)))))) (pss_one ps_never) pss_nil)
      (pss_cons (ps_if (PW.pt (pw_or (pt_not (pt_val (pe_callB call_isi (by rfl) m1 (by decide +kernel) (pa_cons (pv 3) (pa_cons (pe_bltn (v := .ty "tuple") (u := .type "tuple") (by rfl) m2 (by decide +kernel) rfl) pa_nil)))))
        (pw_or (pt_not (pt_chain op_le op_le pe_int (pe_callB (r := rLn K) call_len_seq (by rfl) m3 PySem.boot_len (pa_cons (pv 3) pa_nil)) (pe_glob (v := .int 5) (by rfl) mV ⟨_, rfl⟩)))
        (pw_or1 (pt_not (pt_val (pe_all (n := 0) (own := [("own", 4)]) (g := gName 4) (te := fun _ => tCall (spF [Pl] fIsLot) [] E0 (tCons (tVar 4) (tCons (tVar 2) tNil))) (hr.mono hk) (by rfl) m4 (bmAt_of t) sc_need_works.nd (pi_tup (pv 3)) (genS_by (N := ["value", "kinds", "dyes", "vats", "own", "kind"]) (sc := defScope sNeedWorks) (by decide +kernel))
          (fun _ _ _ _ _ _ _ _ _ => pg_name (i := 4) sc_need_works.nd rfl (Or.inl rfl)) (fun _ _ _ _ _ _ _ _ rk => pe_call GL rk (by rfl) gl kpl bl .nil pass0 (pa_cons (pv 4) (pa_cons (pv 2) pa_nil)))))))))) (pss_one ps_never) pss_nil)
      (pss_cons (ps_if (PW.pt (pw_or (pt_not (pt_val (pe_callB call_isi (by rfl) m1 (by decide +kernel) (pa_cons (pv 1) (pa_cons (pe_bltn (v := .ty "tuple") (u := .type "tuple") (by rfl) m2 (by decide +kernel) rfl) pa_nil)))))
        (pw_or1 (pt_not (pt_chain op_le op_le pe_int (pe_callB (r := rLn K) call_len_seq (by rfl) m3 PySem.boot_len (pa_cons (pv 1) pa_nil)) (pe_glob (v := .int 4) (by rfl) mK ⟨_, rfl⟩)))))) (pss_one ps_never) pss_nil)
      (pss_one (ps_if (pt_not (pt_val (pe_all (n := 0) (own := [("kind", 5)]) (g := gName 5) (te := fun _ => tCall (spF [Pk, Pl, Pr] fIsKind) [] E0 (tCons (tVar 5) (tCons (tVar 2) (tCons (tCB (rLn K) (tCons (tVar 3) tNil)) tNil)))) (hr.mono hk) (by rfl) m4 (bmAt_of t) sc_need_works.nd (pi_tup (pv 1)) (genS_by (N := ["value", "kinds", "dyes", "vats", "own", "kind"]) (sc := defScope sNeedWorks) (by decide +kernel))
          (fun _ _ _ _ _ _ _ _ _ => pg_name (i := 5) sc_need_works.nd rfl (Or.inl rfl)) (fun _ _ _ _ _ _ _ _ rk => pe_call GK rk (by rfl) gk kpk bk .nil pass0 (pa_cons (pv 5) (pa_cons (pv 2) (pa_cons (pe_callB (r := rLn K) call_len_seq (by rfl) m3 PySem.boot_len (pa_cons (pv 3) pa_nil)) pa_nil))))))) (pss_one ps_never) pss_nil)))))), ?_⟩
    refine s_if (b := false) (eb_is (eb_or (eb_not (eb_B (ev_isi (ev_var rfl h1) ki_tuple_tuple))) fun _ => eb_test (ev_neI (ev_len (ev_var rfl h1)) ev_int)) ?_) (fun z => nomatch z) (fun _ H1 x1 => ?_)
    · simp
    refine s_unp3 (ev_var rfl (h1.ex x1)) fun a2 a3 a1 H2 x2 h2 h3 h4 => ?_
    have y2 := x1.trans x2
    refine s_if (b := false) (eb_is (eb_not (eb_B (ev_call (T := []) (ea_cons (ev_var rfl h2) (ea_cons ev_int (ea_one ev_int))) ⟨_, _, _, rfl, rfl⟩ (fun _ z => nomatch z)))) ?_) (fun z => nomatch z) (fun _ H3 x3 => ?_)
    · have := W.d1
      have := W.d2
      simp
      omega
    have y3 := y2.trans x3
    refine s_if (b := false) (eb_is (eb_or (eb_not (eb_B (ev_isi (ev_var rfl (h3.ex x3)) ki_tuple_tuple))) fun _ => eb_or (eb_not (eb_test (ev_chain ev_int (ev_len (ev_var rfl (h3.ex x3))) ev_int (fun i j H Q q => ⟨i, j, rfl, rfl, q⟩) (fun i j H Q q => ⟨i, j, rfl, rfl, q⟩)))) fun _ =>
      eb_not (eb_B (ev_qT (f := fun _ => true) (ev_var rfl (h3.ex x3)) (codeRd_of t (TabD.down (y3.tab _ _ hTt))) (fun _ => rfl) fun i d v cv2 H4 hd x4 hv _ => ?_))) ?_) (fun z => nomatch z) (fun _ H4 x4 => ?_)
    · obtain ⟨y, hy, rfl⟩ := List.mem_map.mp (List.mem_of_getElem? hd)
      refine ev_call (ea_cons (ev_var rfl hv) (ea_one (ev_var rfl ((h2.ex x3).ex x4)))) ⟨_, _, rfl, W.vs y hy, rfl⟩ (fun P hP => ?_)
      rw [List.mem_singleton.mp hP]; exact (y3.trans x4).tab _ _ hTl
    · have := W.v1
      have := W.v2
      simp [quant]
      omega
    have y4 := y3.trans x4
    have z4 := x3.trans x4
    refine s_if (b := false) (eb_is (eb_or (eb_not (eb_B (ev_isi (ev_var rfl (h4.ex z4)) ki_tuple_tuple))) fun _ => eb_not (eb_test (ev_chain ev_int (ev_len (ev_var rfl (h4.ex z4))) ev_int (fun i j H Q q => ⟨i, j, rfl, rfl, q⟩) (fun i j H Q q => ⟨i, j, rfl, rfl, q⟩)))) ?_) (fun z => nomatch z) (fun _ H5 x5 => ?_)
    · have := W.k1
      have := W.k2
      simp
      omega
    have y5 := y4.trans x5
    have z5 := z4.trans x5
    refine s_if (b := false) (eb_is (eb_not (eb_B (ev_qT (f := fun _ => true) (ev_var rfl (h4.ex z5)) (codeRd_of t (TabD.down (y5.tab _ _ hTt))) (fun _ => rfl) fun i d v cv2 H6 hd x6 hv _ => ?_))) ?_) (fun z => nomatch z) (fun _ H6 x6 => q .non H6 (y5.trans x6) .non)
    · obtain ⟨y, hy, rfl⟩ := List.mem_map.mp (List.mem_of_getElem? hd)
      have z6 := z5.trans x6
      refine ev_call (ea_cons (ev_var rfl hv) (ea_cons (ev_var rfl (h2.ex z6)) (ea_one (ev_len (ev_var rfl (h3.ex z6)))))) ⟨_, _, _, rfl, by rw [List.length_map]; exact W.ks y hy, rfl⟩ (fun P hP => ?_)
      have y6 := y5.trans x6
      rcases List.mem_cons.mp hP with e | hP
      · rw [e]; exact y6.tab _ _ hTk
      · rcases List.mem_cons.mp hP with e | hP
        · rw [e]; exact y6.tab _ _ hTl
        · rw [List.mem_singleton.mp hP]; exact y6.tab _ _ hTr
    · simp [quant]
end
end Dw
set_option Elab.async false
set_option linter.all false
set_option maxRecDepth 100000
set_option maxHeartbeats 4000000
namespace Dw
open PySem PySem.Spec PyProof.Rows L2 Gx

theorem inV_ints (x : Int) : ∀ ns : List Int, inV (.int x) (ns.map V.int) = decide (x ∈ ns)
  | [] => by simp [inV]
  | n :: r => by
    have ih := inV_ints x r
    unfold inV at ih ⊢
    rw [List.map_cons, List.any_cons, ih]
    show ((n == x) || decide (x ∈ r)) = _
    by_cases h : n = x
    · subst h; simp
    · have h2 : ¬ x = n := fun z => h z.symm
      simp [h, h2]
theorem flat_ints : ∀ ns : List Int, (ns.map V.int).all flatV = true
  | [] => rfl
  | n :: r => by rw [List.map_cons, List.all_cons, flat_ints r]; rfl
section
variable {K : PySem.W.Frag} {σ : L2.St} {H : Hp} {ta tb : TE}
theorem ev_in {x : Int} {ns : List Int} (ha : Ev ta σ H (.int x)) (hb : Ev tb σ H (dL ns)) : Ev (tOp (rIn K false) ta tb) σ H (.bool (decide (x ∈ ns))) := fun H1 y Q q =>
  ha H1 y _ fun v H2 x2 hv => hb H2 (y.trans x2) _ fun w H3 x3 hw => by
    have e := hv.int_inv
    subst e
    obtain ⟨p, vs, rfl, hp, hvs⟩ := Is.tup_inv hw
    have e := hvs.ints
    subst e
    refine ⟨p, _, rfl, .inr (SqT.of hp), rfl, flat_ints ns, q _ H3 (x2.trans x3) ?_⟩
    rw [inV_ints]
    exact .bl _
theorem dL_at {st : List (List Int)} {i : Nat} (h : i < st.length) : (st.map dL)[i]? = some (dL (st.getD i [])) := by
  rw [List.getElem?_map, List.getD_eq_getElem?_getD, List.getElem?_eq_getElem h]
  rfl
/-- works[1][v], works[2][k] -/
theorem ev_vat {wk : Wk} {v : Nat} (ha : Ev ta σ H (dW wk)) (hb : Ev tb σ H (.int (v : Int))) (hv : v < wk.vats.length) : Ev (tOp (rIxT K) (tOp (rIxT K) ta (tC (.int 1))) tb) σ H (dL (wk.vats.getD v [])) :=
  ev_ixn (ev_ixn (i := 1) ha ev_int rfl) hb (dL_at hv)
end
def Wk.kind (wk : Wk) (k : Nat) : Kind := wk.kinds.getD k ⟨[], [], []⟩
def Wk.route (wk : Wk) (k n : Nat) : List Nat := (wk.kind k).routes.getD n []
section
variable {K : PySem.W.Frag} {σ : L2.St} {H : Hp} {ta tb tc : TE} {wk : Wk} {k n : Nat}
theorem ev_kind (ha : Ev ta σ H (dW wk)) (hb : Ev tb σ H (.int (k : Int))) (hk : k < wk.kinds.length) : Ev (tOp (rIxT K) (tOp (rIxT K) ta (tC (.int 2))) tb) σ H (dK (wk.kind k)) :=
  ev_ixn (ev_ixn (i := 2) ha ev_int rfl) hb (by
    rw [List.getElem?_map, List.getElem?_eq_getElem hk]
    unfold Wk.kind
    rw [List.getD_eq_getElem?_getD, List.getElem?_eq_getElem hk]
    rfl)
theorem ev_routes (ha : Ev ta σ H (dW wk)) (hb : Ev tb σ H (.int (k : Int))) (hk : k < wk.kinds.length) : Ev (tOp (rIxT K) (tOp (rIxT K) (tOp (rIxT K) ta (tC (.int 2))) tb) (tC (.int 2))) σ H (dR (wk.kind k).routes) :=
  ev_ixn (i := 2) (ev_kind ha hb hk) ev_int rfl
theorem ev_route (ha : Ev ta σ H (dW wk)) (hb : Ev tb σ H (.int (k : Int))) (hk : k < wk.kinds.length) (hc : Ev tc σ H (.int (n : Int))) (hn : n < (wk.kind k).routes.length) : Ev (tOp (rIxT K) (tOp (rIxT K) (tOp (rIxT K) (tOp (rIxT K) ta (tC (.int 2))) tb) (tC (.int 2))) tc) σ H (dN (wk.route k n)) :=
  ev_ixn (ev_routes ha hb hk) hc (by
    rw [List.getElem?_map, List.getElem?_eq_getElem hn]
    unfold Wk.route
    rw [List.getD_eq_getElem?_getD, List.getElem?_eq_getElem hn]
    rfl)
end
theorem quant_map_int {st : Bool} (ns : List Int) (f : PyData → Bool) : quant st (ns.map PyData.int) f = (if st then ns.any fun n => f (.int n) else ns.all fun n => f (.int n)) := by
  cases st
  · simp [quant, Function.comp_def]
  · simp [quant, Function.comp_def]
theorem quant_map_nat {st : Bool} (ns : List Nat) (f : PyData → Bool) : quant st (ns.map fun n : Nat => PyData.int (n : Int)) f = (if st then ns.any fun n => f (.int (n : Int)) else ns.all fun n => f (.int (n : Int))) := by
  cases st
  · simp [quant, Function.comp_def]
  · simp [quant, Function.comp_def]
def pInt : PyData → Int
  | .int i => i
  | _ => 0
section
variable {P : Program} {w : World} {K : PySem.W.Frag} {mg : Str → Option Value} {base : Heap}
/-! ### has_wants -/
theorem sc_has_wants : FnScope ["works", "kind", "route", "wants", "dye", "vat"] ["works", "kind", "route"] (defScope sHasWants) := ⟨rfl, rfl, rfl, by decide +kernel, rfl, by decide +kernel, by decide +kernel⟩
def hasWants (wk : Wk) (k : Kind) (r : List Nat) : Bool := k.wants.all fun d => r.any fun v => decide (d ∈ wk.vats.getD v [])
def fHasWants : List PyData → PyData → Prop := fun ds d => ∃ (wk : Wk) (k : Nat) (r : List Nat), ds = [dW wk, .int (k : Int), dN r] ∧ k < wk.kinds.length ∧ (∀ v ∈ r, v < wk.vats.length) ∧ d = .bool (hasWants wk (wk.kind k) r)
/-- the outer generator's scope -/
def hwScope : Scope := match defBody sHasWants with
  | [_, .Return (some (.Call _ [.GeneratorExp _ _ sc _] _ _)) _] => sc
  | _ => { kind := .function, names := [], isGenerator := false, isCoroutine := false }
theorem ok_has_wants {f c Pt : Addr} {fd : FuncData} {k : Nat} (F : FunC K "has_wants" "has_wants" sHasWants f fd c) (t : TB base mg c Pt) (hk : 2 ≤ k) (m1 : mg "any" = none) (m4 : mg "all" = none) :
    FnOk P w K mg base CX0 (k + 1) f fd ["works", "kind", "route"] (spF [Pt] fHasWants) := by
  refine F.ok sc_has_wants (fun vs H Q E h => ?_) (fun A outer s H vs Q E hr h => ?_)
  · obtain ⟨ds, d, hvs, ⟨_, _, r, rfl, _, _, rfl⟩, _⟩ := h
    exact hvs.length
  · obtain ⟨ds, d, hvs, ⟨wk, kd, r, rfl, hkd, hrt, rfl⟩, hT, q⟩ := h
    obtain ⟨v1, v2, v3, rfl, h1, h2, h3⟩ := hvs.inv3
    have hTt : TabD 1 H Pt := hT Pt (by simp)
    refine ⟨_, pss_cons (ps_set (i := 3) sc_has_wants.nd rfl (Or.inl rfl) (pe_ix ix_tup (pe_ix ix_tup (pe_ix ix_tup (pv 0) pe_int (fun _ _ => rfl)) (pv 1) (fun _ _ => rfl)) pe_int (fun _ _ => rfl)))
      (pss_one (ps_ret (pe_all (n := 1) (k := 1) (own := [("dye", 4)]) (g := gName 4) (te := fun cv => tQ true base cv 0 (iTup K (tVar 2)) (gName 5) (fun _ => tOp (rIn K false) (tVar 4) (tOp (rIxT K) (tOp (rIxT K) (tVar 0) (tC (.int 1))) (tVar 5))) [5]) (hr.mono hk) (by rfl) m4 (bmAt_of t) sc_has_wants.nd (pi_tup (pv 3)) (genS_by (N := ["works", "kind", "route", "wants", "dye", "vat"]) (sc := defScope sHasWants) (by decide +kernel))
        (fun _ _ _ _ _ _ _ _ _ => pg_name (i := 4) sc_has_wants.nd rfl (Or.inr rfl)) (fun _ _ _ _ _ _ _ _ rk => pe_any (n := 0) (k := 0) (own := [("vat", 5)]) (g := gName 5) (te := fun _ => tOp (rIn K false) (tVar 4) (tOp (rIxT K) (tOp (rIxT K) (tVar 0) (tC (.int 1))) (tVar 5))) rk (by rfl) m1 (bmAt_of t) sc_has_wants.nd (pi_tup (pv 2)) (genS_by (N := ["works", "kind", "route", "wants", "dye", "vat"]) (sc := hwScope) (by decide +kernel))
          (fun _ _ _ _ _ _ _ _ _ => pg_name (i := 5) sc_has_wants.nd rfl (Or.inl rfl)) (fun _ _ _ _ _ _ _ _ _ => pe_cmpR op_in_seq (pv 4) (pe_ix ix_tup (pe_ix ix_tup (pv 0) pe_int (fun _ _ => rfl)) (pv 5) (fun _ _ => rfl)) (by rfl)))))), ?_⟩
    refine s_set (ev_ixn (i := 0) (ev_kind (ev_var rfl h1) (ev_var rfl h2) hkd) ev_int rfl) fun v4 H1 x1 h4 => ?_
    refine s_ret (ev_is (ev_qT (f := fun d => r.any fun v => decide (pInt d ∈ wk.vats.getD v [])) (ev_var rfl h4) (codeRd_of t (x1.tab _ _ hTt)) (fun _ => rfl) fun i d v cv2 H2 hd x2 hv dp => ?_) ?_) fun v H2 x2 hv => q v H2 (x1.trans x2) hv
    · obtain ⟨y, hy, rfl⟩ := List.mem_map.mp (List.mem_of_getElem? hd)
      have y2 := x1.trans x2
      refine ev_is (ev_qT (f := fun d' => decide (y ∈ wk.vats.getD (pInt d').toNat [])) (ev_var rfl (h3.ex y2)) dp.rd (fun _ => rfl) fun i2 d2 u cv3 H3 hd2 x3 hu _ => ?_) ?_
      · obtain ⟨z, hz, rfl⟩ := List.mem_map.mp (List.mem_of_getElem? hd2)
        refine ev_is (ev_in (ev_var rfl (hv.ex x3)) (ev_vat (ev_var rfl (h1.ex (y2.trans x3))) (ev_var rfl hu) (hrt z hz))) ?_
        simp [pInt]
      · rw [quant_map_nat]
        simp [pInt]
    · rw [quant_map_int]
      simp [pInt, hasWants]
end
end Dw
set_option Elab.async false
set_option linter.all false
set_option maxRecDepth 100000
set_option maxHeartbeats 4000000
namespace Dw
open PySem PySem.Spec PyProof.Rows L2 Gx
/-! ### the mathematics of a pass -/
theorem rising_len {lo hi : Int} : ∀ {xs : List Int}, xs.Pairwise (· < ·) → (∀ x ∈ xs, lo ≤ x ∧ x < hi) → xs.length ≤ (hi - lo).toNat
  | [], _, _ => Nat.zero_le _
  | x :: r, h, hb => by
    obtain ⟨h1, h2⟩ := List.pairwise_cons.mp h
    have hx := hb x (by simp)
    have ih := rising_len (lo := x + 1) (hi := hi) h2 fun z hz => by
      have := h1 z hz
      have := hb z (List.mem_cons_of_mem _ hz)
      omega
    simp only [List.length_cons]
    omega
theorem LotOk.len {n : Int} {xs : List Int} (h : LotOk n xs) (hn : n ≤ 5) : xs.length ≤ 5 := by
  have := rising_len (lo := 0) (hi := n) h.2.1 h.1
  omega
theorem lotOk_srt {n : Int} {xs : List Int} (hn : n ≤ 5) (h : ∀ x ∈ xs, 0 ≤ x ∧ x < n) : LotOk n (srt xs) := by
  have h1 : ∀ x ∈ srt xs, 0 ≤ x ∧ x < n := fun x hx => h x (mem_srt.mp hx)
  refine ⟨h1, srt_rising xs, ?_⟩
  have := rising_len (srt_rising xs) h1
  omega
theorem lotOk_nil {n : Int} : LotOk n [] := ⟨fun _ z => by simp at z, List.Pairwise.nil, Nat.zero_le _⟩
/-- a stand of a works -/
def StOk (wk : Wk) (st : List (List Int)) : Prop := st.length = wk.vats.length ∧ ∀ o ∈ st, LotOk wk.dyes o
def stepV (s : List (List Int) × List Int) (v : Nat) : List (List Int) × List Int := (s.1.set v (srt (s.2 ++ s.1.getD v [])), srt (s.2 ++ s.1.getD v []))
def bhd (st : List (List Int)) (r : List Nat) : List (List Int) × List Int := r.foldl stepV (st, [])
theorem getD_mem {α : Type} {l : List α} {i : Nat} {d : α} (h : i < l.length) : l.getD i d ∈ l := by
  rw [List.getD_eq_getElem?_getD, List.getElem?_eq_getElem h]
  exact List.getElem_mem h
theorem mem_set {α : Type} {l : List α} {i : Nat} {x y : α} (h : y ∈ l.set i x) : y = x ∨ y ∈ l := by
  rcases List.mem_or_eq_of_mem_set h with h | h
  · exact .inr h
  · exact .inl h
theorem stepV_ok {wk : Wk} (hn : wk.dyes ≤ 5) {s : List (List Int) × List Int} {v : Nat} (hv : v < wk.vats.length) (h : StOk wk s.1 ∧ LotOk wk.dyes s.2) : StOk wk (stepV s v).1 ∧ LotOk wk.dyes (stepV s v).2 := by
  obtain ⟨⟨h1, h2⟩, h3⟩ := h
  have h4 := h2 _ (getD_mem (d := []) (show v < s.1.length by omega))
  have h5 : LotOk wk.dyes (srt (s.2 ++ s.1.getD v [])) := lotOk_srt hn fun x hx => by
    rcases List.mem_append.mp hx with hx | hx
    · exact h3.1 x hx
    · exact h4.1 x hx
  refine ⟨⟨?_, fun o ho => ?_⟩, h5⟩
  · show (s.1.set v _).length = _
    rw [List.length_set]
    exact h1
  · rcases mem_set ho with e | ho
    · rw [e]; exact h5
    · exact h2 o ho
theorem bhd_ok {wk : Wk} (hn : wk.dyes ≤ 5) {st : List (List Int)} (h : StOk wk st) : ∀ {r : List Nat}, (∀ v ∈ r, v < wk.vats.length) → StOk wk (bhd st r).1 ∧ LotOk wk.dyes (bhd st r).2 := by
  have key : ∀ (r : List Nat) (s : List (List Int) × List Int), (∀ v ∈ r, v < wk.vats.length) → StOk wk s.1 ∧ LotOk wk.dyes s.2 → StOk wk (r.foldl stepV s).1 ∧ LotOk wk.dyes (r.foldl stepV s).2 := by
    intro r
    induction r with
    | nil => intro s _ h; exact h
    | cons v r ih =>
      intro s hr h
      exact ih _ (fun z hz => hr z (List.mem_cons_of_mem _ hz)) (stepV_ok hn (hr v (by simp)) h)
  intro r hr
  exact key r (st, []) hr ⟨h, lotOk_nil⟩
theorem bhd_take {st : List (List Int)} {r : List Nat} {i v : Nat} (h : r[i]? = some v) : bhd st (r.take (i + 1)) = stepV (bhd st (r.take i)) v := by
  unfold bhd
  rw [List.take_add_one, h, List.foldl_append]
  rfl
def isClean (k : Kind) (c : List Int) : Bool := !(c.any fun d => decide (d ∈ k.bars))
def dyedM (wk : Wk) (st : List (List Int)) (k n : Nat) : List (List Int) × Bool := ((bhd st (wk.route k n)).1, hasWants wk (wk.kind k) (wk.route k n) && isClean (wk.kind k) (bhd st (wk.route k n)).2)
/-- kinds and numbers of routes in bounds -/
def At (wk : Wk) (k n : Nat) : Prop := k < wk.kinds.length ∧ n < (wk.kind k).routes.length
theorem WkOk.kind {wk : Wk} (W : WkOk wk) {k : Nat} (h : k < wk.kinds.length) : KindOk wk.dyes wk.vats.length (wk.kind k) := W.ks _ (getD_mem h)
theorem WkOk.route {wk : Wk} (W : WkOk wk) {k n : Nat} (h : At wk k n) : RouteOk wk.vats.length (wk.route k n) := (W.kind h.1).2.2.2.2 _ (getD_mem h.2)
theorem WkOk.vat {wk : Wk} (W : WkOk wk) {k n : Nat} (h : At wk k n) : ∀ v ∈ wk.route k n, v < wk.vats.length := fun v hv => by
  have := (W.route h).2.2 v hv
  omega
theorem dyedM_ok {wk : Wk} (W : WkOk wk) {st : List (List Int)} (h : StOk wk st) {k n : Nat} (hk : At wk k n) : StOk wk (dyedM wk st k n).1 := (bhd_ok W.d2 h (W.vat hk)).1
theorem stOk0 {wk : Wk} (W : WkOk wk) : StOk wk wk.vats := ⟨rfl, W.vs⟩

section
variable {P : Program} {w : World} {K : PySem.W.Frag} {mg : Str → Option Value} {base : Heap}
/-! ### is_clean -/
theorem sc_is_clean : FnScope ["works", "kind", "carried", "dye"] ["works", "kind", "carried"] (defScope sIsClean) := ⟨rfl, rfl, rfl, by decide +kernel, rfl, by decide +kernel, by decide +kernel⟩
def fIsClean : List PyData → PyData → Prop := fun ds d => ∃ (wk : Wk) (k : Nat) (c : List Int), ds = [dW wk, .int (k : Int), dL c] ∧ k < wk.kinds.length ∧ d = .bool (isClean (wk.kind k) c)
theorem ok_is_clean {f c Pt : Addr} {fd : FuncData} {k : Nat} (F : FunC K "is_clean" "is_clean" sIsClean f fd c) (t : TB base mg c Pt) (hk : 1 ≤ k) (m1 : mg "any" = none) :
    FnOk P w K mg base CX0 (k + 1) f fd ["works", "kind", "carried"] (spF [Pt] fIsClean) := by
  refine F.ok sc_is_clean (fun vs H Q E h => ?_) (fun A outer s H vs Q E hr h => ?_)
  · obtain ⟨ds, d, hvs, ⟨_, _, r, rfl, _, rfl⟩, _⟩ := h
    exact hvs.length
  · obtain ⟨ds, d, hvs, ⟨wk, kd, cs, rfl, hkd, rfl⟩, hT, q⟩ := h
    obtain ⟨v1, v2, v3, rfl, h1, h2, h3⟩ := hvs.inv3
    have hTt : TabD 1 H Pt := hT Pt (by simp)
    refine ⟨_, pss_one (ps_ret (pe_not (pe_any (n := 0) (k := 0) (own := [("dye", 3)]) (g := gName 3) (te := fun _ => tOp (rIn K false) (tVar 3) (tOp (rIxT K) (tOp (rIxT K) (tOp (rIxT K) (tVar 0) (tC (.int 2))) (tVar 1)) (tC (.int 1)))) (hr.mono hk) (by rfl) m1 (bmAt_of t) sc_is_clean.nd (pi_tup (pv 2)) (genS_by (N := ["works", "kind", "carried", "dye"]) (sc := defScope sIsClean) (by decide +kernel))
        (fun _ _ _ _ _ _ _ _ _ => pg_name (i := 3) sc_is_clean.nd rfl (Or.inl rfl)) (fun _ _ _ _ _ _ _ _ _ => pe_cmpR op_in_seq (pv 3) (pe_ix ix_tup (pe_ix ix_tup (pe_ix ix_tup (pv 0) pe_int (fun _ _ => rfl)) (pv 1) (fun _ _ => rfl)) pe_int (fun _ _ => rfl)) (by rfl))))), ?_⟩
    refine s_ret (ev_is (ev_notV (ev_qT (f := fun d => decide (pInt d ∈ (wk.kind kd).bars)) (ev_var rfl h3) (codeRd_of t (TabD.down hTt)) (fun _ => rfl) fun i d v cv2 H2 hd x2 hv _ => ?_)) ?_) fun v H2 x2 hv => q v H2 x2 hv
    · obtain ⟨y, hy, rfl⟩ := List.mem_map.mp (List.mem_of_getElem? hd)
      exact ev_in (ev_var rfl hv) (ev_ixn (i := 1) (ev_kind (ev_var rfl (h1.ex x2)) (ev_var rfl (h2.ex x2)) hkd) ev_int rfl)
    · rw [quant_map_int, if_pos rfl]
      rfl
/-! ### joined -/
theorem sc_joined : FnScope ["one", "other"] ["one", "other"] (defScope sJoined) := ⟨rfl, rfl, rfl, by decide +kernel, rfl, by decide +kernel, by decide +kernel⟩
def fJoined : List PyData → PyData → Prop := fun ds d => ∃ (a b : List Int), ds = [dL a, dL b] ∧ a.length + b.length < 64 ∧ d = dL (srt (a ++ b))
theorem ok_joined {f : Addr} {fd : FuncData} {k : Nat} (F : Fun K "joined" "joined" sJoined f fd) (m1 : mg "tuple" = none) (m2 : mg "sorted" = none) (m3 : mg "set" = none) :
    FnOk P w K mg base CX0 (k + 1) f fd ["one", "other"] (spF [] fJoined) := by
  refine F.ok sc_joined (fun vs H Q E h => ?_) (fun cdv A outer s H vs Q E hr h => ?_)
  · obtain ⟨ds, d, hvs, ⟨_, _, rfl, _, rfl⟩, _⟩ := h
    exact hvs.length
  · obtain ⟨ds, d, hvs, ⟨a, b, rfl, hl, rfl⟩, hT, q⟩ := h
    obtain ⟨v1, v2, rfl, h1, h2⟩ := hvs.inv2
    refine ⟨_, pss_one (ps_ret (pe_callTy (r := rTupOf K) call_tuple_of (by rfl) m1 (by decide +kernel) (pa_cons (pe_callB (cr_sortedSet rfl) (by rfl) m2 (by decide +kernel) (pa_cons (pe_callTy (cr_setS rfl) (by rfl) m3 (by decide +kernel) (pa_cons (pe_op op_catA (pv 0) (pv 1)) pa_nil)) pa_nil)) pa_nil))), ?_⟩
    refine s_ret (ev_tupOf (el_sorted (es_setT (ns := a ++ b) (ev_is (ev_cat (ev_var rfl h1) (ev_var rfl h2) ?_) ?_) ?_) ?_).toV) fun v H2 x2 hv => q v H2 x2 hv
    · rw [List.length_map, List.length_map]; omega
    · rw [← List.map_append]; rfl
    · rw [List.length_append]; omega
    · rw [List.length_append]; omega
/-! ### behind -/
theorem sc_behind : FnScope ["stand", "route", "traces", "carried", "vat"] ["stand", "route"] (defScope sBehind) := ⟨rfl, rfl, rfl, by decide +kernel, rfl, by decide +kernel, by decide +kernel⟩
def fBehind : List PyData → PyData → Prop := fun ds d => ∃ (wk : Wk) (st : List (List Int)) (r : List Nat), ds = [dS st, dN r] ∧ wk.dyes ≤ 5 ∧ StOk wk st ∧ (∀ v ∈ r, v < wk.vats.length) ∧ d = .tuple [dS (bhd st r).1, dL (bhd st r).2]
theorem ok_behind {f fj : Addr} {fd fdj : FuncData} {k kn : Nat} (F : Fun K "behind" "behind" sBehind f fd) (hk : kn ≤ k) (m1 : mg "tuple" = none) (m2 : mg "list" = none)
    (gj : mg "joined" = some (.ref fj)) (kpj : PySem.W.keepIn K (.ref fj) = true) (bj : Binds K fdj ["one", "other"] []) (GJ : FnOk P w K mg base CX0 kn fj fdj ["one", "other"] (spF [] fJoined)) :
    FnOk P w K mg base CX0 (k + 1) f fd ["stand", "route"] (spF [] fBehind) := by
  refine F.ok sc_behind (fun vs H Q E h => ?_) (fun cdv A outer s H vs Q E hr h => ?_)
  · obtain ⟨ds, d, hvs, ⟨_, _, _, rfl, _, _, _, rfl⟩, _⟩ := h
    exact hvs.length
  · obtain ⟨ds, d, hvs, ⟨wk, st, r, rfl, hd5, hst, hrt, rfl⟩, hT, q⟩ := h
    obtain ⟨v1, v2, rfl, h1, h2⟩ := hvs.inv2
    refine ⟨_, pss_cons (ps_par (i := 2) (j := 3) (by rfl) sc_behind.nd rfl rfl (by decide) rfl rfl (pa_cons (pe_callTy (r := rListOf K) call_list_of (by rfl) m2 (by decide +kernel) (pa_cons (pv 0) pa_nil)) (pa_cons (pe_tup pa_nil) pa_nil)) (by rfl))
      (pss_cons (ps_for PassesOwn.never rfl (pi_tup (pv 1)) (pg_name (i := 4) sc_behind.nd rfl (Or.inl rfl))
        (pss_cons (ps_set (i := 3) sc_behind.nd rfl (Or.inl rfl) (pe_call GJ (hr.mono hk) (by rfl) gj kpj bj .nil pass0 (pa_cons (pv 3) (pa_cons (pe_ix ix_list (pv 2) (pv 4) (fun _ _ => rfl)) pa_nil))))
        (pss_one (ps_asg (pv 3) (pg_sub (pv 2) (pv 4) set_list)))))
      (pss_one (ps_ret (pe_tup (pa_cons (pe_callTy (r := rTupOf K) call_tuple_of (by rfl) m1 (by decide +kernel) (pa_cons (pv 2) pa_nil)) (pa_cons (pv 3) pa_nil)))))), ?_⟩
    obtain ⟨a1, w1, rfl, ha1, hw1⟩ := Is.tup_inv h1
    obtain ⟨a2, w2, rfl, ha2, hw2⟩ := Is.tup_inv h2
    refine ⟨.ref a1, rfl, a1, w1, rfl, .inr (SqT.of ha1), fun l hl => ⟨Nat.zero_le _, fun p hp => ⟨_, _, rfl, ?_⟩⟩⟩
    have x1 : Ex H (upd (upd H l (.lst w1)) p (.tup [])) := ExB.trans (.new hl) (.new hp)
    have hlp : l ≠ p := ne_of_none upd_same hp
    refine ⟨.ref a2, rfl, a2, rfl, ⟨w2, SqT.of (x1.tup _ _ ha2)⟩, for_tup (xs := w2) (fun i σ H' => ∃ vc y, σ = [some (.ref a1), some (.ref a2), some (.ref l), some vc, y] ∧ Ex H H' ∧ ∃ us, H' l = some (.lst us) ∧ IsA H' us ((bhd st (r.take i)).1.map dL) ∧ Is H' vc (dL (bhd st (r.take i)).2)) ?_ (fun i σ H' _ ⟨_, _, _, x, _⟩ => SqT.of (x.tup _ _ ha2)) ?_ ?_⟩
    · exact ⟨_, _, rfl, x1, w1, (upd_ne hlp).trans upd_same, hw1.ex x1, .tup upd_same .nil⟩
    · rintro i z σ H' hz ⟨vc, y, rfl, x, us, hu, hus, hc⟩
      obtain ⟨d, hd, hzd⟩ := hw2.got hz
      rw [List.getElem?_map] at hd
      obtain ⟨vt, hvt, rfl⟩ := Option.map_eq_some_iff.mp hd
      have ez := hzd.int_inv
      subst ez
      have okI := bhd_ok hd5 hst (r := r.take i) fun v hv => hrt v (List.mem_of_mem_take hv)
      have hvlt : vt < (bhd st (r.take i)).1.length := by
        rw [okI.1.1]
        exact hrt vt (List.mem_of_getElem? hvt)
      have okV := okI.1.2 _ (getD_mem (d := []) hvlt)
      refine s_set (ev_call (T := []) (ea_cons (ev_var rfl hc) (ea_one (ev_ixV (i := (vt : Int)) (evv_var rfl ⟨l, us, rfl, hu, hus⟩) (ev_var rfl (.int _)) (at_nat (dL_at hvlt))))) ⟨_, _, rfl, ?_, rfl⟩ (fun _ z => nomatch z)) fun vc' H1 y1 hc' => ?_
      · have := okI.2.len hd5
        have := okV.len hd5
        omega
      · have hu1 : H1 l = some (.lst us) := y1.keep _ _ hu (fun _ z => by cases z) fun z => z
        have hul : us.length = (bhd st (r.take i)).1.length := by rw [hus.length, List.length_map]
        refine ⟨_, rfl, .ref l, rfl, .int (vt : Int), rfl, l, us, (vt : Int), vt, rfl, rfl, hu1, ?_, ?_⟩
        · unfold ixN
          rw [if_pos (by omega), if_pos (by omega)]
          simp
        · have tl := tupLe_soft (o := .lst (us.set vt vc')) hu1 (soft_lst us)
          refine ⟨vc', some (.int (vt : Int)), rfl, ExB.mut (x.trans y1) hl hu1 (soft_lst us), us.set vt vc', upd_same, ?_, ?_⟩
          · rw [bhd_take hvt]
            show IsA _ _ (((bhd st (r.take i)).1.set vt _).map dL)
            rw [List.map_set]
            exact IsA.set vt ((hus.ex y1).keep tl) (hc'.keep tl)
          · rw [bhd_take hvt]
            exact hc'.keep tl
    · rintro σ H' ⟨vc, y, rfl, x, us, hu, hus, hc⟩
      have e : r.take w2.length = r := List.take_of_length_le (by rw [hw2.length, List.length_map]; exact Nat.le_refl _)
      rw [e] at hus hc
      exact s_ret (ev_tup (ea_cons (ev_tupOf (evv_var rfl ⟨l, us, rfl, hu, hus⟩)) (ea_one (ev_var rfl hc))) (by show 2 ≤ 100000; decide)) fun v H2 x2 hv => q v H2 (x.trans x2) hv
/-! ### dyed -/
theorem sc_dyed : FnScope ["works", "stand", "kind", "number", "route", "later", "carried"] ["works", "stand", "kind", "number"] (defScope sDyed) := ⟨rfl, rfl, rfl, by decide +kernel, rfl, by decide +kernel, by decide +kernel⟩
def fDyed : List PyData → PyData → Prop := fun ds d => ∃ (wk : Wk) (st : List (List Int)) (k n : Nat), ds = [dW wk, dS st, .int (k : Int), .int (n : Int)] ∧ WkOk wk ∧ StOk wk st ∧ At wk k n ∧ d = .tuple [dS (dyedM wk st k n).1, .bool (dyedM wk st k n).2]
theorem ok_dyed {f fb fw fc Pw Pc : Addr} {fd fdb fdw fdc : FuncData} {k kn : Nat} (F : Fun K "dyed" "dyed" sDyed f fd) (hk : kn ≤ k)
    (gb : mg "behind" = some (.ref fb)) (kpb : PySem.W.keepIn K (.ref fb) = true) (bb : Binds K fdb ["stand", "route"] []) (GB : FnOk P w K mg base CX0 kn fb fdb ["stand", "route"] (spF [] fBehind))
    (gw : mg "has_wants" = some (.ref fw)) (kpw : PySem.W.keepIn K (.ref fw) = true) (bw : Binds K fdw ["works", "kind", "route"] []) (GW : FnOk P w K mg base CX0 kn fw fdw ["works", "kind", "route"] (spF [Pw] fHasWants))
    (gc : mg "is_clean" = some (.ref fc)) (kpc : PySem.W.keepIn K (.ref fc) = true) (bc : Binds K fdc ["works", "kind", "carried"] []) (GC : FnOk P w K mg base CX0 kn fc fdc ["works", "kind", "carried"] (spF [Pc] fIsClean)) :
    FnOk P w K mg base CX0 (k + 1) f fd ["works", "stand", "kind", "number"] (spF [Pw, Pc] fDyed) := by
  refine F.ok sc_dyed (fun vs H Q E h => ?_) (fun cdv A outer s H vs Q E hr h => ?_)
  · obtain ⟨ds, d, hvs, ⟨_, _, _, _, rfl, _, _, _, rfl⟩, _⟩ := h
    exact hvs.length
  · obtain ⟨ds, d, hvs, ⟨wk, st, kd, n, rfl, W, hst, hat, rfl⟩, hT, q⟩ := h
    obtain ⟨v1, v2, v3, v4, rfl, h1, h2, h3, h4⟩ := hvs.inv4
    have hTw : TabD 1 H Pw := hT Pw (by simp)
    have hTc : TabD 1 H Pc := hT Pc (by simp)
    refine ⟨_, pss_cons (ps_set (i := 4) sc_dyed.nd rfl (Or.inl rfl) (pe_ix ix_tup (pe_ix ix_tup (pe_ix ix_tup (pe_ix ix_tup (pv 0) pe_int (fun _ _ => rfl)) (pv 2) (fun _ _ => rfl)) pe_int (fun _ _ => rfl)) (pv 3) (fun _ _ => rfl)))
      (pss_cons (ps_asg (pe_call GB (hr.mono hk) (by rfl) gb kpb bb .nil pass0 (pa_cons (pv 1) (pa_cons (pv 4) pa_nil))) (pg_tup rfl (pgs_cons (pg_name (i := 5) sc_dyed.nd rfl (.inl rfl)) (pgs_cons (pg_name (i := 6) sc_dyed.nd rfl (.inl rfl)) pgs_nil))))
      (pss_one (ps_ret (pe_tup (pa_cons (pv 5) (pa_cons (pe_and (pe_call GW (hr.mono hk) (by rfl) gw kpw bw .nil pass0 (pa_cons (pv 0) (pa_cons (pv 2) (pa_cons (pv 4) pa_nil)))) (pe_one (pe_call GC (hr.mono hk) (by rfl) gc kpc bc .nil pass0 (pa_cons (pv 0) (pa_cons (pv 2) (pa_cons (pv 6) pa_nil)))))) pa_nil)))))), ?_⟩
    refine s_set (ev_route (ev_var rfl h1) (ev_var rfl h3) hat.1 (ev_var rfl h4) hat.2) fun v5 H1 x1 h5 => ?_
    refine s_unp2 (ev_call (T := []) (ea_cons (ev_var rfl (h2.ex x1)) (ea_one (ev_var rfl h5))) ⟨wk, _, _, rfl, W.d2, hst, W.vat hat, rfl⟩ (fun _ z => nomatch z)) fun v6 v7 H2 x2 h6 h7 => ?_
    have y2 := x1.trans x2
    refine s_ret (ev_tup (ea_cons (ev_var rfl h6) (ea_one (ev_andV (ev_call (ea_cons (ev_var rfl (h1.ex y2)) (ea_cons (ev_var rfl (h3.ex y2)) (ea_one (ev_var rfl (h5.ex x2))))) ⟨_, _, _, rfl, hat.1, W.vat hat, rfl⟩ (fun P hP => ?_)) fun _ =>
      ev_call (ea_cons (ev_var rfl (h1.ex y2)) (ea_cons (ev_var rfl (h3.ex y2)) (ea_one (ev_var rfl h7)))) ⟨_, _, _, rfl, hat.1, rfl⟩ (fun P hP => ?_)))) (by show 2 ≤ 100000; decide)) fun v H3 x3 hv => q v H3 (y2.trans x3) hv
    · rw [List.mem_singleton.mp hP]; exact y2.tab _ _ hTw
    · rw [List.mem_singleton.mp hP]; exact y2.tab _ _ hTc
end
end Dw
set_option Elab.async false
set_option linter.all false
set_option maxRecDepth 100000
set_option maxHeartbeats 2000000
/-! zip of a tuple and of a list: an iterator, its rule, its loops -/
namespace Dw
open PySem PySem.Spec PyProof.Rows L2 Gx

/-- the tuple at a, the list at b, as they stand at each turn; the items in new pairs -/
def ItzM (K : PySem.W.Frag) (a b : Addr) : It :=
  ⟨fun n J => ∃ (us ws : List V) (p q : V), SqT K J a us ∧ SqL K J b ws ∧ us[n]? = some p ∧ ws[n]? = some q,
    fun n J r J' => ∃ N p q, r = .ref N ∧ J N = none ∧ J' = upd J N (.tup [p, q]) ∧ (∀ us, SqT K J a us → us[n]? = some p) ∧ ∀ ws, SqL K J b ws → ws[n]? = some q,
    fun n J => ∃ us ws : List V, SqT K J a us ∧ SqL K J b ws ∧ n ≤ us.length ∧ n ≤ ws.length ∧ (n = us.length ∨ n = ws.length)⟩
theorem sep_of {z g o c d a b : Addr} (D : ZipApart z g o c d a b) : ZipSep2 z g o c d [c, a] [d, b] := by
  refine ⟨D.TIz, D.TOz, D.TITO, D.TIi1, by simp, ?_, ?_, D.TIi2, by simp, ?_, ?_, ?_, ?_⟩
  · simp [D.i1z.symm, D.l1z.symm]
  · simp [D.TOi1, D.l1TO.symm]
  · simp [D.i2z.symm, D.l2z.symm]
  · simp [D.TOi2, D.l2TO.symm]
  · simp [D.i12, D.l2i1.symm]
  · simp [D.i12.symm, D.l1i2.symm]
abbrev ZmAt (z g o c d a b : Addr) (n : Nat) (h : Heap) : Prop := IsZip h z g o .none ∧ IsTupOf2 h g (.ref c) (.ref d) ∧ (∃ u v, IsTupOf2 h o u v) ∧ h.IsTupleIter c a n ∧ h.IsListIter d b n
theorem five {α : Type} {m z g o c d : α} (h : m ∈ [z, g, o, c, d]) : m = z ∨ m = g ∨ m = o ∨ m = c ∨ m = d := by simpa using h
theorem four_five {α : Type} {m z g o c d : α} (h : m ∈ [z, o, c, d]) : m ∈ [z, g, o, c, d] := by
  have h' : m = z ∨ m = o ∨ m = c ∨ m = d := by simpa using h
  rcases h' with q | q | q | q <;> simp [q]
theorem turn_mix_obj {z g o c d a b : Addr} {n : Nat} {h : Heap} (st : ZmAt z g o c d a b n h) : ∀ e ∈ [z, g, o, c, d], ∃ x, h.get? e = some x ∧ ∀ v, x.data ≠ .cell v := fun e he => by
  obtain ⟨s1, s2, ⟨u, v, s3⟩, ⟨q1, e1, _, f1⟩, ⟨q2, e2, _, f2⟩⟩ := st
  rcases five he with rfl | rfl | rfl | rfl | rfl
  · exact ⟨_, s1, fun _ j => nomatch j⟩
  · exact ⟨_, s2, fun _ j => nomatch j⟩
  · exact ⟨_, s3, fun _ j => nomatch j⟩
  · exact ⟨q1, e1, fun _ j => by rw [f1] at j; cases j⟩
  · exact ⟨q2, e2, fun _ j => by rw [f2] at j; cases j⟩
theorem turn_mix {P : Program} {w : World} {K : PySem.W.Frag} {es : List Expr} {m : Nat} {at_ : Pos} {z g o c d a b : Addr} (D : ZipApart z g o c d a b) : Turn P w K (.Tuple es m at_) (ItzM K a b) [z, g, o, c, d] z (ZmAt z g o c d a b) where
  mem := by simp
  obj := fun n h st => turn_mix_obj st
  keep := fun n h h' st k => by
    obtain ⟨s1, s2, ⟨u, v, s3⟩, s4, s5⟩ := st
    exact ⟨k z (by simp) _ s1, k g (by simp) _ s2, ⟨u, v, k o (by simp) _ s3⟩, s4.at fun x e => k c (by simp) x e, s5.at fun x e => k d (by simp) x e⟩
  item := by
    intro X hP hw hK hc n pins s σ H E I hf st hg
    subst hP hw hK
    have st0 := st
    obtain ⟨s1, s2, ⟨u, v, s3⟩, s4, s5⟩ := st
    obtain ⟨us, ws, p, q, hu, hv, hp, hq⟩ := hg
    obtain ⟨l1, r1, p1, _⟩ := I.tuple hu
    obtain ⟨l2, r2, p2, _⟩ := I.list hv
    obtain ⟨y1, g1, k1⟩ := r1.get hp
    obtain ⟨y2, g2, k2⟩ := r2.get hq
    have lt1 : n < l1.toArray.size := by simpa using (List.getElem?_eq_some_iff.mp g1).1
    have lt2 : n < l2.toArray.size := by simpa using (List.getElem?_eq_some_iff.mp g2).1
    have W := WalksT.zipD2 (prog := X.prog) (w := X.w) (A := X.A) (sep_of D) (Draws.tuple (A := X.A.in1) (I.ok.hd hc) c a D.l1i1 l1.toArray) (Draws.list (A := X.A.in1) (I.ok.hd hc) d b D.l2i2 l2.toArray)
    refine W.item n s _ _ (by omega) ⟨s1, s2, ⟨u, v, s3⟩, ⟨s4, p1⟩, ⟨s5, p2.isList⟩⟩ fun T vals h' tk hP hT hT' hm hk => ?_
    obtain ⟨x1, x2, a1, a2, rfl⟩ := hP
    refine ⟨.ref T, rfl, W.go es m at_ n T { s with heap := h', toks := tk } _ _ hm fun h2 st2 k2' => ?_⟩
    have e1 : x1 = y1 := Option.some.inj (a1.symm.trans (by simpa using g1))
    have e2 : x2 = y2 := Option.some.inj (a2.symm.trans (by simpa using g2))
    subst e1 e2
    have hT2 := hT'.at fun x e => k2' T x (W.apart n T h' hm) e
    obtain ⟨oT, eT, cT, nT, dT⟩ := hT2
    have nw : ObjOk X.prog X.w (upd H T (.tup [p, q])) h2 T (.tup [p, q]) := ⟨by show 2 ≤ sizeLine; decide, [x1, x2], .cons k1 (.cons k2 .nil), ⟨oT, eT, cT, nT, dT⟩⟩
    have kk : ∀ x y, x ∉ [z, g, o, c, d] → s.heap.get? x = some y → h2.get? x = some y := fun x y hx e =>
      k2' x y (fun j => hx (four_five j)) (hk x y (fun j => hx (four_five j)) e)
    have I1 : Inv X pins σ (upd H T (.tup [p, q])) { s with heap := h2, toks := tk } := I.turnedNew kk hf hT nw
    obtain ⟨t1, t2, t3, ⟨t4, _⟩, ⟨t5, _⟩⟩ := st2
    refine ⟨.ref T, _, I1, rfl, ⟨T, p, q, rfl, I.hok.fresh hT, rfl, fun us' hu' => by rw [I.tuple_inj hu' hu]; exact hp, fun ws' hv' => by rw [I.list_inj hv' hv]; exact hq⟩, ⟨t1, t2, t3, t4, t5⟩, fun x hx => ?_⟩
    obtain ⟨ox, ex, _⟩ := turn_mix_obj st0 x hx
    rw [upd_ne (Nat.ne_of_lt (Nat.lt_of_lt_of_le (Heap.lt_size ex) hT))]
    exact (hf x hx).1
  done := by
    intro X hP hw hK hc n pins s σ H E I hf st hg
    subst hP hw hK
    obtain ⟨s1, s2, ⟨u, v, s3⟩, s4, s5⟩ := st
    obtain ⟨us, ws, hu, hv, hn1, hn2, hn⟩ := hg
    obtain ⟨l1, r1, p1, _⟩ := I.tuple hu
    obtain ⟨l2, r2, p2, _⟩ := I.list hv
    have j1 := r1.length
    have j2 := r2.length
    have W := WalksT.zipD2 (prog := X.prog) (w := X.w) (A := X.A) (sep_of D) (Draws.tuple (A := X.A.in1) (I.ok.hd hc) c a D.l1i1 l1.toArray) (Draws.list (A := X.A.in1) (I.ok.hd hc) d b D.l2i2 l2.toArray)
    have en : min l1.toArray.size l2.toArray.size = n := by
      rw [List.size_toArray, List.size_toArray]
      omega
    rw [en] at W
    exact W.done s _ _ ⟨s1, s2, ⟨u, v, s3⟩, ⟨s4, p1⟩, ⟨s5, p2.isList⟩⟩ fun h' tk hk => ⟨rfl, I.turnedL (ch := [z, g, o, c, d]) (fun x y hx e => hk x y (fun j => hx (four_five j)) e) hf⟩
  self := fun A n s Q E st h => wpAny_pyIter_zip st.1 h

/-- zip(t, t') or zip(t, l) -/
def iZipM (K : PySem.W.Frag) (ta : TA) : TI := fun σ H R => ta σ H fun vs H1 => ∃ a b us ws, vs = [.ref a, .ref b] ∧ SqT K H1 a us ∧ ((SqT K H1 b ws ∧ R (RZ.ItzT K a b) H1) ∨ (SqL K H1 b ws ∧ R (ItzM K a b) H1))
theorem five_new {X : Cx} {pins : List (Addr × Obj)} {σ : L2.St} {H : Hp} {s : Shared} (I : Inv X pins σ H s) : ∀ e, e ∈ [s.heap.objs.size + 4, s.heap.objs.size + 2, s.heap.objs.size + 3, s.heap.objs.size, s.heap.objs.size + 1] → FpOk X pins H e := fun e he => by
  have hle : s.heap.objs.size ≤ e := by
    rcases five he with q | q | q | q | q
    · rw [q]; exact Nat.le_add_right _ _
    · rw [q]; exact Nat.le_add_right _ _
    · rw [q]; exact Nat.le_add_right _ _
    · rw [q]; exact Nat.le_refl _
    · rw [q]; exact Nat.le_add_right _ _
  exact I.fpOk hle (I.hok.fresh hle)
theorem pi_zipM {X : Cx} {e f : Expr} {ta : TA} {p q r : Pos} {es : List Expr} {m : Nat} (hg : Gl X "zip") (hm : X.mg "zip" = none) (ha : PA X [e, f] ta)
    (hs : starEach [e, f] X.env = (false, eval e X.env) :: starEach [f] X.env := by rfl) (hpl : (backTo q (starEach [f] X.env)).any (·.1) = false := by rfl) :
    PI X (.Tuple es m r) (.Call (.Name "zip" p) [e, f] [] q) (iZipM X.K ta) := by
  refine ⟨fun pins s σ H R I h => ?_⟩
  refine Call_ (ld_blt I hg hm PyProof.Rows.boot_zip (PyProof.Rows.callWith_type1 (thn (ha.run q pins s σ H _ I h) fun zs s1 ⟨vs, H1, I1, r1, q1⟩ => ?_) hs hpl))
  obtain ⟨a, b, us, ws, ex, hu, q1⟩ := q1
  subst ex
  cases r1 with
  | cons z1 rr =>
  cases rr with
  | cons z2 rr =>
  cases rr
  cases z1
  cases z2
  obtain ⟨l1, k1, p1, _⟩ := I1.tuple hu
  obtain ⟨o1, ho1, _⟩ := id p1
  rcases q1 with ⟨hv, q⟩ | ⟨hv, q⟩
  · obtain ⟨l2, k2, p2, _⟩ := I1.tuple hv
    obtain ⟨o2, ho2, _⟩ := id p2
    refine RZ.call_zipT (show s1.heap.IsTuple a l1.toArray from p1) (show s1.heap.IsTuple b l2.toArray from p2) fun h' c1 c2 c3 c4 c5 _ hk => wpAny_pyIter_zip c1 ?_
    exact ⟨_, _, _, _, H1, rfl, I1.kept (t' := s1.toks) hk, RZ.turn_zipT (PySem.W.ktu_apart s1.heap.objs.size a b (Heap.lt_size ho1) (Heap.lt_size ho2)), ⟨c1, c2, ⟨_, _, c3⟩, c4, c5⟩, five_new I1, q⟩
  · obtain ⟨l2, k2, p2, _⟩ := I1.list hv
    refine zip_begins2 (begins_tuple a l1.toArray) (begins_list b l2.toArray) (show s1.heap.IsTuple a l1.toArray from p1) p2.isList fun h' c1 c2 c3 c4 c5 _ hk => wpAny_pyIter_zip c1 ?_
    exact ⟨_, _, _, _, H1, rfl, I1.kept (t' := s1.toks) hk, turn_mix (PySem.W.ktu_apart s1.heap.objs.size a b (Heap.lt_size ho1) p2.lt), ⟨c1, c2, ⟨_, _, c3⟩, ⟨_, c4, rfl, rfl⟩, ⟨_, c5, rfl, rfl⟩⟩, five_new I1, q⟩

/-- a tuple or a list of data -/
def IsQ (H : Hp) (v : V) (ds : List PyData) : Prop := Is H v (.tuple ds) ∨ IsL H v ds
theorem IsQ.ex {H H' : Hp} {v : V} {ds : List PyData} (x : Ex H H') (h : IsQ H v ds) : IsQ H' v ds := h.imp (fun z => z.ex x) fun z => z.ex x
/-- what it comes to is a tuple or a list -/
def EvQ (te : TE) (σ : L2.St) (H : Hp) (ds : List PyData) : Prop := ∀ H1, Ex H H1 → ∀ Q : VK, (∀ v H2, Ex H1 H2 → IsQ H2 v ds → Q v H2) → te σ H1 Q
theorem evq_var {σ : L2.St} {H : Hp} {i : Nat} {v : V} {ds : List PyData} (h : σ[i]? = some (some v)) (hv : IsQ H v ds) : EvQ (tVar i) σ H ds := fun H1 x _ q => ⟨v, h, q v H1 (.refl H1) (hv.ex x)⟩
/-- a loop over zip of a tuple and of a tuple or list -/
theorem s_forZ {K : PySem.W.Frag} {σ : L2.St} {H : Hp} {D : Ends} {t1 t2 : TE} {g : TG} {tb : TS} {ds es : List PyData} (Pv : Nat → L2.St → Hp → Prop) (h1 : Ev t1 σ H (.tuple ds)) (h2 : EvQ t2 σ H es) (h0 : ∀ H1, Ex H H1 → Pv 0 σ H1)
    (hs : ∀ (i : Nat) d e v u N σ' H' (Z : L2.St → Hp → Prop), ds[i]? = some d → es[i]? = some e → Ex H H' → Pv i σ' H' → H' N = none → Is H' v d → Is H' u e → (∀ σ4 H4, Ex (upd H' N (.tup [v, u])) H4 → Pv (i + 1) σ4 H4 → Z σ4 H4) →
      g (.ref N) σ' (upd H' N (.tup [v, u])) fun σ2 H3 => tb { D with nx := Z, ct := Z, bk := D.nx } σ2 H3)
    (hd : ∀ σ' H', Ex H H' → Pv (min ds.length es.length) σ' H' → D.nx σ' H') : tFor (iZipM K (tCons t1 (tCons t2 tNil))) g tb D σ H := by
  refine h1 H (.refl H) _ fun v1 H1 x1 hv1 => h2 H1 x1 _ fun v2 H2 x2 hv2 => ?_
  have x12 := x1.trans x2
  obtain ⟨a, us, rfl, ha, hus⟩ := (hv1.ex x2).tup_inv
  have lu := hus.length
  have main : ∀ (J : It) (b : Addr) (ws : List V), IsA H2 ws es → (∀ n J' , Ex H2 J' → ds.length ≤ n ∨ es.length ≤ n → n ≤ ds.length → n ≤ es.length → J.stop n J') → (∀ n J', Ex H2 J' → n < ds.length → n < es.length → J.go n J') →
      (∀ n J' r J2, Ex H2 J' → J.yld n J' r J2 → ∃ N p q, r = .ref N ∧ J' N = none ∧ J2 = upd J' N (.tup [p, q]) ∧ us[n]? = some p ∧ ws[n]? = some q) →
      ∃ W : Nat → Nat → L2.St → Hp → Prop, (∃ m, W 0 m σ H2) ∧ ∀ i m σ H, W i m σ H → (J.stop i H ∧ D.nx σ H) ∨ (J.go i H ∧ ∃ N : L2.St → Hp → Prop, (∀ σ' H', N σ' H' → ∃ m', m' < m ∧ W (i + 1) m' σ' H') ∧ ∀ x H', J.yld i H x H' → g x σ H' fun σ2 H2 => tb { D with nx := N, ct := N, bk := D.nx } σ2 H2) := by
    intro J b ws hws js jg jy
    refine ⟨fun i m σ' H' => i + m = min ds.length es.length ∧ Ex H2 H' ∧ Pv i σ' H', ⟨_, Nat.zero_add _, .refl H2, h0 H2 x12⟩, fun i m σ' H' ⟨w1, w2, w3⟩ => ?_⟩
    by_cases hlt : i < min ds.length es.length
    · refine .inr ⟨jg i H' w2 (by omega) (by omega), fun σ4 H4 => Ex H2 H4 ∧ Pv (i + 1) σ4 H4, fun σ4 H4 ⟨n1, n2⟩ => ⟨m - 1, by omega, by omega, n1, n2⟩, fun r J2 hy => ?_⟩
      obtain ⟨N, p, q, rfl, hN, rfl, hp, hq⟩ := jy i H' r J2 w2 hy
      obtain ⟨d, hd', kd⟩ := hus.got hp
      obtain ⟨e, he', ke⟩ := hws.got hq
      have w4 : Ex H2 (upd H' N (.tup [p, q])) := w2.trans (.new hN)
      exact hs i d e p q N σ' H' _ hd' he' (x12.trans w2) w3 hN (kd.ex w2) (ke.ex w2) fun σ4 H4 n1 n2 => ⟨w4.trans n1, n2⟩
    · have e : i = min ds.length es.length := by omega
      subst e
      exact .inl ⟨js _ H' w2 (by omega) (by omega) (by omega), hd σ' H' (x12.trans w2) w3⟩
  have sa : ∀ {J' : Hp}, Ex H2 J' → SqT K J' a us := fun x => SqT.of (x.tup _ _ ha)
  rcases hv2 with h | ⟨b, ws, rfl, hb, hws⟩
  · obtain ⟨b, ws, rfl, hb, hws⟩ := h.tup_inv
    have lw := hws.length
    have sb : ∀ {J' : Hp}, Ex H2 J' → SqT K J' b ws := fun x => SqT.of (x.tup _ _ hb)
    refine ⟨a, b, us, ws, rfl, sa (.refl _), .inl ⟨sb (.refl _), main _ b ws hws (fun n J' x o _ _ => ⟨us, ws, sa x, sb x, by omega⟩) (fun n J' x n1 n2 => ?_) fun n J' r J2 x hy => ?_⟩⟩
    · exact ⟨us, ws, _, _, sa x, sb x, List.getElem?_eq_getElem (by omega), List.getElem?_eq_getElem (by omega)⟩
    · obtain ⟨N, p, q, rfl, hN, rfl, hp, hq⟩ := hy
      exact ⟨N, p, q, rfl, hN, rfl, hp _ (sa x), hq _ (sb x)⟩
  · have lw := hws.length
    have sb : ∀ {J' : Hp}, Ex H2 J' → SqL K J' b ws := fun x => SqL.of (x.keep _ _ hb (fun _ z => by cases z) fun z => z)
    refine ⟨a, b, us, ws, rfl, sa (.refl _), .inr ⟨sb (.refl _), main _ b ws hws (fun n J' x o _ _ => ⟨us, ws, sa x, sb x, by omega, by omega, by omega⟩) (fun n J' x n1 n2 => ?_) fun n J' r J2 x hy => ?_⟩⟩
    · exact ⟨us, ws, _, _, sa x, sb x, List.getElem?_eq_getElem (by omega), List.getElem?_eq_getElem (by omega)⟩
    · obtain ⟨N, p, q, rfl, hN, rfl, hp, hq⟩ := hy
      exact ⟨N, p, q, rfl, hN, rfl, hp _ (sa x), hq _ (sb x)⟩
end Dw
set_option Elab.async false
set_option linter.all false
set_option maxRecDepth 100000
set_option maxHeartbeats 2000000
/-! a comprehension over a list and a range -/
namespace Dw
open PySem PySem.Spec PyProof.Rows L2 Gx
/-- the items made, in order -/
def prod (f : PyData → Nat → PyData) (n : Nat) (ds : List PyData) : List PyData := ds.flatMap fun d => (List.range n).map fun j => f d j
theorem prod_len {f : PyData → Nat → PyData} {n : Nat} : ∀ {ds : List PyData}, (prod f n ds).length = ds.length * n
  | [] => by simp [prod]
  | d :: r => by
    have ih := prod_len (f := f) (n := n) (ds := r)
    unfold prod at ih ⊢
    rw [List.flatMap_cons, List.length_append, ih, List.length_map, List.length_range, List.length_cons, Nat.add_mul, Nat.one_mul, Nat.add_comm]
theorem prod_app {f : PyData → Nat → PyData} {n : Nat} {ds es : List PyData} : prod f n (ds ++ es) = prod f n ds ++ prod f n es := by
  unfold prod
  rw [List.flatMap_append]
section
variable {K : PySem.W.Frag} {σ : L2.St} {H : Hp} {tl te : TE} {ta : TA} {ds : List PyData} {n j j1 : Nat} {vs vs1 : List Nat}
/-- what stands after i items and j of the next -/
def made2 (f : PyData → Nat → PyData) (n : Nat) (ds : List PyData) (i : Nat) (d : PyData) (k : Nat) : List PyData := prod f n (ds.take i) ++ (List.range k).map fun j => f d j
def Cw2 (H : Hp) (D : Addr) (es : List PyData) (H' : Hp) : Prop := H D = none ∧ Ex H H' ∧ ∃ ws, H' D = some (.lst ws) ∧ IsA H' ws es
theorem el_lc2 (f : PyData → Nat → PyData) (h : EvV tl σ H ds) (hz : ds.length * n ≤ 40000) (hw : ∀ x, wipe ((wipe σ vs).set j (some x)) vs = wipe σ vs)
    (hw1 : ∀ x y, wipe ((wipe ((wipe σ vs).set j (some x)) vs1).set j1 (some y)) vs1 = wipe ((wipe σ vs).set j (some x)) vs1)
    (hn : ∀ (i : Nat) d v H1, ds[i]? = some d → Ex H H1 → Is H1 v d → EvA ta ((wipe σ vs).set j (some v)) H1 [.int (n : Int)])
    (he : ∀ (i : Nat) d v (k : Nat) H1, ds[i]? = some d → k < n → Ex H H1 → Is H1 v d → Ev te ((wipe ((wipe σ vs).set j (some v)) vs1).set j1 (some (.int (k : Int)))) H1 (f d k)) :
    EvL (tLc2 (iList K tl) (gName j) tYes (iRng1 ta) (gName j1) tYes te vs vs1) σ H (prod f n ds) := fun H1 x Q q => h H1 x _ fun v H2 x2 hv => by
  obtain ⟨a, ws, rfl, ha, hws⟩ := hv
  have hl := hws.length
  have sa : ∀ {H' : Hp}, Ex H2 H' → SqL K H' a ws := fun x => SqL.of (x.keep _ _ ha (fun _ z => by cases z) fun z => z)
  refine ⟨a, rfl, ⟨ws, sa (.refl _)⟩, fun D hD => ?_⟩
  refine ⟨fun i m H' => i + m = ds.length ∧ Cw2 H2 D (prod f n (ds.take i)) H', ⟨_, Nat.zero_add _, hD, .new hD, [], upd_same, .nil⟩, fun i m H' ⟨w1, w2⟩ => ?_⟩
  obtain ⟨_, c2, us, c3, c4⟩ := id w2
  by_cases hlt : i < ds.length
  · obtain ⟨d, hd⟩ : ∃ d, ds[i]? = some d := ⟨_, List.getElem?_eq_getElem hlt⟩
    obtain ⟨z, hz', hzd⟩ := hws.get hd
    refine .inr ⟨⟨ws, z, sa c2, hz'⟩, fun H'' => Cw2 H2 D (prod f n (ds.take (i + 1))) H'', fun H'' c => ⟨m - 1, by omega, by omega, c⟩, fun y H'' hy => ?_⟩
    obtain ⟨rfl, hy⟩ := hy
    have e1 : y = z := Option.some.inj ((hy _ (sa c2)).symm.trans hz')
    subst e1
    have xa : Ex H H'' := (x.trans x2).trans c2
    refine ⟨hw y, ?_⟩
    dsimp only [tYes]
    rw [if_pos rfl]
    refine hn i d y H'' hd xa (hzd.ex c2) H'' (.refl _) _ fun ks H3 x3 hk => ?_
    obtain ⟨v1, rfl, hv1⟩ := hk.inv1
    have e := hv1.int_inv
    subst e
    have full : made2 f n ds i d n = prod f n (ds.take (i + 1)) := by
      rw [List.take_add_one, hd, prod_app]
      simp [made2, prod]
    have hprod : (prod f n (ds.take (i + 1))).length ≤ 40000 := by
      rw [prod_len]
      exact Nat.le_trans (Nat.mul_le_mul_right n (by rw [List.length_take]; omega)) hz
    have hn4 : n ≤ 40000 := by
      rw [← full] at hprod
      simp [made2] at hprod
      omega
    refine ⟨n, rfl, by omega, by omega, ?_⟩
    refine ⟨fun k r H4 => k + r = n ∧ Cw2 H2 D (made2 f n ds i d k) H4, ⟨n, Nat.zero_add _, ?_⟩, fun k r H4 ⟨w3, w4⟩ => ?_⟩
    · refine ⟨hD, c2.trans x3, us, x3.keep _ _ c3 (fun _ z => by cases z) (fun z => z), ?_⟩
      have e0 : made2 f n ds i d 0 = prod f n (ds.take i) := by simp [made2]
      rw [e0]
      exact c4.ex x3
    · by_cases hk2 : k < n
      · refine .inr ⟨by show k < (n : Int).toNat; omega, fun H5 => Cw2 H2 D (made2 f n ds i d (k + 1)) H5, fun H5 c => ⟨r - 1, by omega, by omega, c⟩, fun y2 H5 hy2 => ?_⟩
        obtain ⟨rfl, rfl⟩ := hy2
        obtain ⟨_, b2, us2, b3, b4⟩ := w4
        have e0 : (0 : Int) + (k : Int) = (k : Int) := Int.zero_add _
        rw [e0]
        refine ⟨hw1 _ _, ?_⟩
        dsimp only
        rw [if_pos rfl]
        refine he i d y k H5 hd hk2 ((x.trans x2).trans b2) (hzd.ex b2) H5 (.refl _) _ fun y3 H6 x6 hy3 => ?_
        have b5 : H6 D = some (.lst us2) := x6.keep _ _ b3 (fun _ z => by cases z) fun z => z
        refine ⟨us2, b5, ?_, hD, ExB.mut (b2.trans x6) hD b5 (soft_lst us2), us2 ++ [y3], upd_same, ?_⟩
        · rw [b4.length]
          refine szl (Nat.lt_of_le_of_lt ?_ (show 40000 < 100000 by decide))
          refine Nat.le_trans ?_ hprod
          rw [← full]
          simp [made2]
          omega
        · have e2 : made2 f n ds i d (k + 1) = made2 f n ds i d k ++ [f d k] := by
            unfold made2
            rw [List.range_succ, List.map_append, List.append_assoc]
            rfl
          rw [e2]
          exact ((b4.ex x6).append (.one hy3)).keep (tupLe_soft b5 (soft_lst us2))
      · refine .inl ⟨by show (n : Int).toNat ≤ k; omega, ?_⟩
        have e : k = n := by omega
        subst e
        rw [full] at w4
        exact w4
  · refine .inl ⟨⟨ws, sa c2, by omega⟩, ?_⟩
    rw [List.take_of_length_le (by omega)] at c4
    exact q D us H' (x2.trans c2) (x2.back D hD) c3 c4
end
end Dw
set_option Elab.async false
set_option linter.all false
set_option maxRecDepth 100000
set_option maxHeartbeats 2000000
/-! loops: over a tuple, a list, a range; what they may write stands in R -/
namespace Dw
open PySem PySem.Spec PyProof.Rows L2 Gx
/-- known objects of R written: of an earlier heap, where R's objects did not stand, all is kept -/
theorem ex_over {R : Addr → Prop} {H H1 H2 : Hp} (a : Ex H H1) (b : ExB R H1 H2) (h : ∀ r, R r → H r = none) : Ex H H2 :=
  ⟨fun c o e n _ => b.keep c o (a.keep c o e n fun z => z) n fun z => (by rw [h c z] at e; cases e), fun n P t => b.tab n P (a.tab n P t), fun p q => a.back p (b.back p q), fun c xs e => b.tup c xs (a.tup c xs e)⟩
section
variable {K : PySem.W.Frag} {σ : L2.St} {H : Hp} {te : TE} {ta : TA} {ds : List PyData} {n : Nat} {D : Ends} {g : TG} {tb : TS}
abbrev again (D : Ends) (Z : L2.St → Hp → Prop) : Ends := { D with nx := Z, ct := Z, bk := D.nx }
theorem s_forT (R : Addr → Prop) (Pv : Nat → L2.St → Hp → Prop) (h : Ev te σ H (.tuple ds)) (h0 : ∀ H1, Ex H H1 → Pv 0 σ H1)
    (hs : ∀ (i : Nat) d v σ' H' (Z : L2.St → Hp → Prop), ds[i]? = some d → ExB R H H' → Pv i σ' H' → Is H' v d → (∀ σ4 H4, ExB R H' H4 → Pv (i + 1) σ4 H4 → Z σ4 H4) → g v σ' H' fun σ2 H2 => tb (again D Z) σ2 H2)
    (hd : ∀ σ' H', ExB R H H' → Pv ds.length σ' H' → D.nx σ' H') : tFor (iTup K te) g tb D σ H := h H (.refl H) _ fun v H1 x1 hv => by
  obtain ⟨a, us, rfl, ha, hus⟩ := hv.tup_inv
  have sa : ∀ {H' : Hp}, ExB R H1 H' → SqT K H' a us := fun x => SqT.of (x.tup _ _ ha)
  have lu := hus.length
  refine ⟨a, rfl, ⟨us, sa (.refl _)⟩, ?_⟩
  refine ⟨fun i m σ' H' => i + m = ds.length ∧ ExB R H1 H' ∧ Pv i σ' H', ⟨_, Nat.zero_add _, .refl H1, h0 H1 x1⟩, fun i m σ' H' ⟨w1, w2, w3⟩ => ?_⟩
  by_cases hlt : i < ds.length
  · obtain ⟨d, hd'⟩ : ∃ d, ds[i]? = some d := ⟨_, List.getElem?_eq_getElem hlt⟩
    obtain ⟨z, hz, hzd⟩ := hus.get hd'
    refine .inr ⟨⟨us, z, sa w2, hz⟩, fun σ4 H4 => ExB R H1 H4 ∧ Pv (i + 1) σ4 H4, fun σ4 H4 ⟨n1, n2⟩ => ⟨m - 1, by omega, by omega, n1, n2⟩, fun y H2 hy => ?_⟩
    obtain ⟨rfl, hy⟩ := hy
    have e : y = z := Option.some.inj ((hy _ (sa w2)).symm.trans hz)
    subst e
    exact hs i d y σ' H2 _ hd' ((ExB.up x1).trans w2) w3 (hzd.ex w2) fun σ4 H4 n1 n2 => ⟨w2.trans n1, n2⟩
  · have e : i = ds.length := by omega
    subst e
    exact .inl ⟨⟨us, sa w2, by omega⟩, hd σ' H' ((ExB.up x1).trans w2) w3⟩
theorem s_forV (R : Addr → Prop) (Pv : Nat → L2.St → Hp → Prop) {v : V} (hv : IsL H v ds) (hR : ∀ a, v = .ref a → ¬ R a) (h : ∀ Q : VK, Q v H → te σ H Q) (h0 : Pv 0 σ H)
    (hs : ∀ (i : Nat) d v σ' H' (Z : L2.St → Hp → Prop), ds[i]? = some d → ExB R H H' → Pv i σ' H' → Is H' v d → (∀ σ4 H4, ExB R H' H4 → Pv (i + 1) σ4 H4 → Z σ4 H4) → g v σ' H' fun σ2 H2 => tb (again D Z) σ2 H2)
    (hd : ∀ σ' H', ExB R H H' → Pv ds.length σ' H' → D.nx σ' H') : tFor (iList K te) g tb D σ H := h _ (by
  obtain ⟨a, us, rfl, ha, hus⟩ := hv
  have sa : ∀ {H' : Hp}, ExB R H H' → SqL K H' a us := fun x => SqL.of (x.keep _ _ ha (fun _ z => by cases z) (hR a rfl))
  have lu := hus.length
  refine ⟨a, rfl, ⟨us, sa (.refl _)⟩, ?_⟩
  refine ⟨fun i m σ' H' => i + m = ds.length ∧ ExB R H H' ∧ Pv i σ' H', ⟨_, Nat.zero_add _, .refl H, h0⟩, fun i m σ' H' ⟨w1, w2, w3⟩ => ?_⟩
  by_cases hlt : i < ds.length
  · obtain ⟨d, hd'⟩ : ∃ d, ds[i]? = some d := ⟨_, List.getElem?_eq_getElem hlt⟩
    obtain ⟨z, hz, hzd⟩ := hus.get hd'
    refine .inr ⟨⟨us, z, sa w2, hz⟩, fun σ4 H4 => ExB R H H4 ∧ Pv (i + 1) σ4 H4, fun σ4 H4 ⟨n1, n2⟩ => ⟨m - 1, by omega, by omega, n1, n2⟩, fun y H2 hy => ?_⟩
    obtain ⟨rfl, hy⟩ := hy
    have e : y = z := Option.some.inj ((hy _ (sa w2)).symm.trans hz)
    subst e
    exact hs i d y σ' H2 _ hd' w2 w3 (hzd.ex w2) fun σ4 H4 n1 n2 => ⟨w2.trans n1, n2⟩
  · have e : i = ds.length := by omega
    subst e
    exact .inl ⟨⟨us, sa w2, by omega⟩, hd σ' H' w2 w3⟩)
/-- over a list that is made just now -/
theorem s_forE (Pv : Nat → L2.St → Hp → Prop) (h : EvV te σ H ds) (h0 : ∀ H1, Ex H H1 → Pv 0 σ H1)
    (hs : ∀ (i : Nat) d v σ' H' (Z : L2.St → Hp → Prop), ds[i]? = some d → Ex H H' → Pv i σ' H' → Is H' v d → (∀ σ4 H4, Ex H' H4 → Pv (i + 1) σ4 H4 → Z σ4 H4) → g v σ' H' fun σ2 H2 => tb (again D Z) σ2 H2)
    (hd : ∀ σ' H', Ex H H' → Pv ds.length σ' H' → D.nx σ' H') : tFor (iList K te) g tb D σ H := h H (.refl H) _ fun v H1 x1 hv => by
  have k := s_forV (K := K) (te := tC v) (g := g) (tb := tb) (D := D) (σ := σ) (H := H1) none1 (fun i σ' H' => Pv i σ' H') hv (fun _ _ z => z) (fun Q q => q) (h0 H1 x1) (fun i d v σ' H' Z e x => hs i d v σ' H' Z e (x1.trans x)) fun σ' H' x => hd σ' H' (x1.trans x)
  exact k
theorem s_forR (R : Addr → Prop) (Pv : Nat → L2.St → Hp → Prop) (h : EvA ta σ H [.int (n : Int)]) (hn : n ≤ 1000000) (h0 : ∀ H1, Ex H H1 → Pv 0 σ H1)
    (hs : ∀ (i : Nat) σ' H' (Z : L2.St → Hp → Prop), i < n → ExB R H H' → Pv i σ' H' → (∀ σ4 H4, ExB R H' H4 → Pv (i + 1) σ4 H4 → Z σ4 H4) → g (.int (i : Int)) σ' H' fun σ2 H2 => tb (again D Z) σ2 H2)
    (hd : ∀ σ' H', ExB R H H' → Pv n σ' H' → D.nx σ' H') : tFor (iRng1 ta) g tb D σ H := h H (.refl H) _ fun vs H1 x1 hv => by
  obtain ⟨v1, rfl, h1⟩ := hv.inv1
  have e := h1.int_inv
  subst e
  refine ⟨(n : Int), rfl, by omega, by omega, ?_⟩
  refine ⟨fun i m σ' H' => i + m = n ∧ ExB R H1 H' ∧ Pv i σ' H', ⟨_, Nat.zero_add _, .refl H1, h0 H1 x1⟩, fun i m σ' H' ⟨w1, w2, w3⟩ => ?_⟩
  by_cases hlt : i < n
  · refine .inr ⟨by show i < (n : Int).toNat; omega, fun σ4 H4 => ExB R H1 H4 ∧ Pv (i + 1) σ4 H4, fun σ4 H4 ⟨n1, n2⟩ => ⟨m - 1, by omega, by omega, n1, n2⟩, fun y H2 hy => ?_⟩
    obtain ⟨rfl, rfl⟩ := hy
    have e0 : (0 : Int) + (i : Int) = (i : Int) := Int.zero_add _
    rw [e0]
    exact hs i σ' H2 _ hlt ((ExB.up x1).trans w2) w3 fun σ4 H4 n1 n2 => ⟨w2.trans n1, n2⟩
  · have e : i = n := by omega
    subst e
    exact .inl ⟨by show (i : Int).toNat ≤ i; omega, hd σ' H' ((ExB.up x1).trans w2) w3⟩

/-! ### promises of other shapes -/
/-- the last argument a tuple or a list of data -/
def spQ (T : List Addr) (f : List PyData → List PyData → PyData → Prop) : Sp := fun vs H Q _ => ∃ ds es d us u, vs = us ++ [u] ∧ IsA H us ds ∧ IsQ H u es ∧ f ds es d ∧ (∀ P ∈ T, TabD 1 H P) ∧ ∀ v H', Ex H H' → Is H' v d → Q v H'
/-- data arguments, the last a tuple or list -/
def EvAQ (ta : TA) (σ : L2.St) (H : Hp) (ds es : List PyData) : Prop := ∀ H1, Ex H H1 → ∀ Q : List V → Hp → Prop, (∀ us u H2, Ex H1 H2 → IsA H2 us ds → IsQ H2 u es → Q (us ++ [u]) H2) → ta σ H1 Q
theorem eaq_one {es : List PyData} (h : EvQ te σ H es) : EvAQ (tCons te tNil) σ H [] es := fun H1 x Q q => h H1 x _ fun v H2 x2 hv => q [] v H2 x2 .nil hv
theorem eaq_cons {es : List PyData} {d : PyData} {tr : TA} (h : Ev te σ H d) (r : EvAQ tr σ H ds es) : EvAQ (tCons te tr) σ H (d :: ds) es := fun H1 x Q q =>
  h H1 x _ fun v H2 x2 hv => r H2 (x.trans x2) _ fun us u H3 x3 hu hq => q (v :: us) u H3 (x2.trans x3) (.cons (hv.ex x3) hu) hq
theorem ev_callQ {T : List Addr} {f : List PyData → List PyData → PyData → Prop} {E : XK} {es : List PyData} {d : PyData} (h : EvAQ ta σ H ds es) (hf : f ds es d) (hT : ∀ P ∈ T, TabD 1 H P) : Ev (tCall (spQ T f) [] E ta) σ H d := fun H1 x Q q =>
  h H1 x _ fun us u H2 x2 hu hq => ⟨ds, es, d, us, u, by rw [List.append_nil], hu, hq, hf, fun P hP => x2.tab _ _ (x.tab _ _ (hT P hP)), fun v H' x3 hv => q v H' (x2.trans x3) hv⟩
/-- the answer a list of data -/
def spL (T : List Addr) (f : List PyData → List PyData → Prop) : Sp := fun vs H Q _ => ∃ ds es, IsA H vs ds ∧ f ds es ∧ (∀ P ∈ T, TabD 1 H P) ∧ ∀ v H', Ex H H' → IsL H' v es → Q v H'
theorem evv_call {T : List Addr} {f : List PyData → List PyData → Prop} {E : XK} {es : List PyData} (h : EvA ta σ H ds) (hf : f ds es) (hT : ∀ P ∈ T, TabD 1 H P) : EvV (tCall (spL T f) [] E ta) σ H es := fun H1 x Q q =>
  h H1 x _ fun vs H2 x2 hvs => ⟨ds, es, by rw [List.append_nil]; exact hvs, hf, fun P hP => x2.tab _ _ (x.tab _ _ (hT P hP)), fun v H' x3 hv => q v H' (x2.trans x3) hv⟩
theorem EvV.toQ (h : EvV te σ H ds) : EvQ te σ H ds := fun H1 x Q q => h H1 x Q fun v H2 x2 hv => q v H2 x2 (.inr hv)
theorem Ev.toQ (h : Ev te σ H (.tuple ds)) : EvQ te σ H ds := fun H1 x Q q => h H1 x Q fun v H2 x2 hv => q v H2 x2 (.inl hv)
theorem s_setV {i : Nat} (h : EvV te σ H ds) (k : ∀ v H1, Ex H H1 → IsL H1 v ds → D.nx (σ.set i (some v)) H1) : tAsg te (gName i) D σ H := h H (.refl H) _ k
/-- a pair taken apart at a loop's target -/
theorem g_two {N : Addr} {v u : V} {i j : Nat} {H' : Hp} {Z : L2.St → Hp → Prop} (h : H' N = some (.tup [v, u])) (k : Z ((σ.set i (some v)).set j (some u)) H') : gTup K 2 (gCons (gName i) (gCons (gName j) gNil)) (.ref N) σ H' Z :=
  ⟨N, _, rfl, SqT.of h, rfl, v, _, rfl, u, _, rfl, rfl, k⟩
theorem g_three {N : Addr} {v u x : V} {i j l : Nat} {H' : Hp} {Z : L2.St → Hp → Prop} (h : H' N = some (.tup [v, u, x])) (k : Z (((σ.set i (some v)).set j (some u)).set l (some x)) H') : gTup K 3 (gCons (gName i) (gCons (gName j) (gCons (gName l) gNil))) (.ref N) σ H' Z :=
  ⟨N, _, rfl, SqT.of h, rfl, v, _, rfl, u, _, rfl, x, _, rfl, rfl, k⟩
end
end Dw
set_option Elab.async false
set_option linter.all false
set_option maxRecDepth 100000
set_option maxHeartbeats 4000000
namespace Dw
open PySem PySem.Spec PyProof.Rows L2 Gx
/-! ### the mathematics of rows of kinds and routes -/
def wrongM (wk : Wk) : List (List Int) → List (Nat × Nat) → Nat
  | _, [] => 0
  | st, p :: r => (if (dyedM wk st p.1 p.2).2 then 0 else 1) + wrongM wk (dyedM wk st p.1 p.2).1 r
def afterM (wk : Wk) : List (List Int) → List (Nat × Nat) → List (List Int)
  | st, [] => st
  | st, p :: r => afterM wk (dyedM wk st p.1 p.2).1 r
theorem wrongM_app {wk : Wk} : ∀ {xs ys : List (Nat × Nat)} {st : List (List Int)}, wrongM wk st (xs ++ ys) = wrongM wk st xs + wrongM wk (afterM wk st xs) ys
  | [], ys, st => by simp [wrongM, afterM]
  | p :: r, ys, st => by
    rw [List.cons_append, wrongM, wrongM, afterM, wrongM_app, Nat.add_assoc]
theorem afterM_app {wk : Wk} : ∀ {xs ys : List (Nat × Nat)} {st : List (List Int)}, afterM wk st (xs ++ ys) = afterM wk (afterM wk st xs) ys
  | [], ys, st => by simp [afterM]
  | p :: r, ys, st => by
    rw [List.cons_append, afterM, afterM, afterM_app]
theorem afterM_ok {wk : Wk} (W : WkOk wk) : ∀ {xs : List (Nat × Nat)} {st : List (List Int)}, StOk wk st → (∀ p ∈ xs, At wk p.1 p.2) → StOk wk (afterM wk st xs)
  | [], st, h, _ => h
  | p :: r, st, h, ha => by
    rw [afterM]
    exact afterM_ok W (dyedM_ok W h (ha p (by simp))) fun z hz => ha z (List.mem_cons_of_mem _ hz)
theorem take_snoc {α : Type} {l : List α} {i : Nat} {x : α} (h : l[i]? = some x) : l.take (i + 1) = l.take i ++ [x] := by
  rw [List.take_add_one, h]
  rfl
/-- the lists of numbers below the lengths, the first place slowest -/
def plansM : List Nat → List (List Nat) := fun ns => ns.foldl (fun found n => found.flatMap fun p => (List.range n).map fun j => p ++ [j]) [[]]
theorem plansM_snoc (ns : List Nat) (n : Nat) : plansM (ns ++ [n]) = (plansM ns).flatMap fun p => (List.range n).map fun j => p ++ [j] := by
  unfold plansM
  rw [List.foldl_append]
  rfl
theorem sum_const {α : Type} (n : Nat) : ∀ l : List α, (l.map fun _ => n).sum = l.length * n
  | [] => by simp
  | x :: r => by
    have ih := sum_const n r
    rw [List.map_cons, List.sum_cons, ih, List.length_cons, Nat.add_mul, Nat.one_mul, Nat.add_comm]
theorem plans_grow : ∀ {ns : List Nat} {found : List (List Nat)}, (∀ n ∈ ns, n ≤ 8) → (ns.foldl (fun found n => found.flatMap fun p => (List.range n).map fun j => p ++ [j]) found).length ≤ found.length * 8 ^ ns.length
  | [], found, _ => by simp
  | n :: ns, found, h => by
    rw [List.foldl_cons]
    refine Nat.le_trans (plans_grow fun z hz => h z (List.mem_cons_of_mem _ hz)) ?_
    have hn := h n (by simp)
    have e : (found.flatMap fun p => (List.range n).map fun j => p ++ [j]).length = found.length * n := by
      rw [List.length_flatMap]
      simp only [List.length_map, List.length_range]
      exact sum_const n found
    rw [e, List.length_cons, Nat.pow_succ, Nat.mul_assoc]
    refine Nat.mul_le_mul_left _ ?_
    rw [Nat.mul_comm]
    exact Nat.mul_le_mul_left _ hn
theorem plansM_len {ns : List Nat} (h : ∀ n ∈ ns, n ≤ 8) : (plansM ns).length ≤ 8 ^ ns.length := by
  have := plans_grow (found := [[]]) h
  rw [List.length_cons, List.length_nil, Nat.zero_add, Nat.one_mul] at this
  exact this
theorem plansM_long : ∀ {ns : List Nat} {p : List Nat}, p ∈ plansM ns → p.length = ns.length := by
  have key : ∀ (ns : List Nat) (found : List (List Nat)) (m : Nat), (∀ p ∈ found, p.length = m) → ∀ p ∈ ns.foldl (fun found n => found.flatMap fun p => (List.range n).map fun j => p ++ [j]) found, p.length = m + ns.length := by
    intro ns
    induction ns with
    | nil => intro found m h p hp; exact h p hp
    | cons n ns ih =>
      intro found m h p hp
      have := ih _ (m + 1) (fun q hq => ?_) p hp
      · rw [this, List.length_cons]; omega
      · obtain ⟨x, hx, hq⟩ := List.mem_flatMap.mp hq
        obtain ⟨j, _, rfl⟩ := List.mem_map.mp hq
        rw [List.length_append, h x hx]
        rfl
  intro ns p hp
  have := key ns [[]] 0 (fun q hq => by rw [List.mem_singleton.mp hq]; rfl) p hp
  rw [this, Nat.zero_add]
def snocD : PyData → Nat → PyData
  | .tuple xs, j => .tuple (xs ++ [.int (j : Int)])
  | d, _ => d
theorem snocD_dN (p : List Nat) (j : Nat) : snocD (dN p) j = dN (p ++ [j]) := by simp [snocD, dN]
theorem prod_dN (ps : List (List Nat)) (n : Nat) : prod snocD n (ps.map dN) = (ps.flatMap fun p => (List.range n).map fun j => p ++ [j]).map dN := by
  unfold prod
  rw [List.flatMap_map, List.map_flatMap]
  simp only [List.map_map]
  congr 1
  funext p
  refine List.map_congr_left fun j _ => ?_
  rw [snocD_dN]
  rfl
section
variable {P : Program} {w : World} {K : PySem.W.Frag} {mg : Str → Option Value} {base : Heap}
/-! ### need_row -/
theorem sc_need_row : FnScope ["works", "value", "kind"] ["works", "value"] (defScope sNeedRow) := ⟨rfl, rfl, rfl, by decide +kernel, rfl, by decide +kernel, by decide +kernel⟩
def RowOk (wk : Wk) (r : List Nat) : Prop := r.length ≤ 30 ∧ ∀ k ∈ r, k < wk.kinds.length
def fNeedRow : List PyData → PyData → Prop := fun ds d => ∃ (wk : Wk) (r : List Nat), ds = [dW wk, dN r] ∧ RowOk wk r ∧ d = .none
theorem ok_need_row {f c Pt fn : Addr} {fd fdn : FuncData} {k kn : Nat} (F : FunC K "need_row" "need_row" sNeedRow f fd c) (t : TB base mg c Pt) (hk : kn + 1 ≤ k) (m1 : mg "isinstance" = none) (m2 : mg "tuple" = none) (m3 : mg "len" = none) (m4 : mg "all" = none)
    (tk : Tok) (mR : mg "MOST_ROW" = some (.int 30 tk))
    (gn : mg "is_number" = some (.ref fn)) (kpn : PySem.W.keepIn K (.ref fn) = true) (bn : Binds K fdn ["value", "low", "high"] []) (GN : FnOk P w K mg base CX0 kn fn fdn ["value", "low", "high"] (spF [] fIsNumber)) :
    FnOk P w K mg base CX0 (k + 1) f fd ["works", "value"] (spF [Pt] fNeedRow) := by
  refine F.ok sc_need_row (fun vs H Q E h => ?_) (fun A outer s H vs Q E hr h => ?_)
  · obtain ⟨ds, d, hvs, ⟨_, _, rfl, _, rfl⟩, _⟩ := h
    exact hvs.length
  · obtain ⟨ds, d, hvs, ⟨wk, r, rfl, hrow, rfl⟩, hT, q⟩ := h
    obtain ⟨v1, v2, rfl, h1, h2⟩ := hvs.inv2
    have hTt : TabD 1 H Pt := hT Pt (by simp)
    have hk0 : kn ≤ k := by omega
    refine ⟨_, pss_cons (ps_if (PW.pt (pw_or (pt_not (pt_val (pe_callB call_isi (by rfl) m1 (by decide +kernel) (pa_cons (pv 1) (pa_cons (pe_bltn (v := .ty "tuple") (u := .type "tuple") (by rfl) m2 (by decide +kernel) rfl) pa_nil)))))
        (pw_or1 (pt_cmpR op_gt (pe_callB (r := rLn K) call_len_seq (by rfl) m3 PySem.boot_len (pa_cons (pv 1) pa_nil)) (pe_glob (v := .int 30) (by rfl) mR ⟨_, rfl⟩) (nomark _))))) (pss_one ps_never) pss_nil)
      (pss_one (ps_if (pt_not (pt_val (pe_all (n := 0) (own := [("kind", 2)]) (g := gName 2) (te := fun _ => tCall (spF [] fIsNumber) [] E0 (tCons (tVar 2) (tCons (tC (.int 0)) (tCons (tOp (rI0 fun i j => .int (i - j)) (tCB (rLn K) (tCons (tOp (rIxT K) (tVar 0) (tC (.int 2))) tNil)) (tC (.int 1))) tNil)))) (hr.mono hk) (by rfl) m4 (bmAt_of t) sc_need_row.nd (pi_tup (pv 1)) (genS_by (N := ["works", "value", "kind"]) (sc := defScope sNeedRow) (by decide +kernel))
          (fun _ _ _ _ _ _ _ _ _ => pg_name (i := 2) sc_need_row.nd rfl (Or.inl rfl)) (fun _ _ _ _ _ _ _ _ rk => pe_call GN rk (by rfl) gn kpn bn .nil pass0 (pa_cons (pv 2) (pa_cons pe_int (pa_cons (pe_op op_sub (pe_callB (r := rLn K) call_len_seq (by rfl) m3 PySem.boot_len (pa_cons (pe_ix ix_tup (pv 0) pe_int (fun _ _ => rfl)) pa_nil)) pe_int) pa_nil))))))) (pss_one ps_never) pss_nil)), ?_⟩
    refine s_if (b := false) (eb_is (eb_or (eb_not (eb_B (ev_isi (ev_var rfl h2) ki_tuple_tuple))) fun _ => eb_test (ev_gt (ev_len (ev_var rfl h2)) ev_int)) ?_) (fun z => nomatch z) (fun _ H1 x1 => ?_)
    · have := hrow.1
      simp
      omega
    refine s_if (b := false) (eb_is (eb_not (eb_B (ev_qT (f := fun _ => true) (ev_var rfl (h2.ex x1)) (codeRd_of t (TabD.down (x1.tab _ _ hTt))) (fun _ => rfl) fun i d v cv2 H2 hd x2 hv _ => ?_))) ?_) (fun z => nomatch z) (fun _ H2 x2 => q .non H2 (x1.trans x2) .non)
    · obtain ⟨y, hy, rfl⟩ := List.mem_map.mp (List.mem_of_getElem? hd)
      refine ev_call (T := []) (ea_cons (ev_var rfl hv) (ea_cons ev_int (ea_one (ev_sub (ev_len (ev_ixn (i := 2) (ev_var rfl (h1.ex (x1.trans x2))) ev_int rfl)) ev_int)))) ⟨_, _, _, rfl, ?_⟩ (fun _ z => nomatch z)
      have := hrow.2 y hy
      rw [decide_eq_true (by rw [List.length_map]; omega)]
    · simp [quant]
/-! ### all_plans -/
theorem sc_all_plans : FnScope ["works", "found", "kind", "plan", "number"] ["works"] (defScope sAllPlans) := ⟨rfl, rfl, rfl, by decide +kernel, rfl, by decide +kernel, by decide +kernel⟩
def Wk.lens (wk : Wk) : List Nat := wk.kinds.map fun k => k.routes.length
def fAllPlans : List PyData → List PyData → Prop := fun ds es => ∃ (wk : Wk), ds = [dW wk] ∧ WkOk wk ∧ es = (plansM wk.lens).map dN
theorem WkOk.len8 {wk : Wk} (W : WkOk wk) {n : Nat} (h : n ∈ wk.lens) : n ≤ 8 := by
  obtain ⟨k, hk, rfl⟩ := List.mem_map.mp h
  exact (W.ks k hk).2.2.2.1
theorem plansM_small {wk : Wk} (W : WkOk wk) (i : Nat) : (plansM (wk.lens.take i)).length ≤ 4096 := by
  refine Nat.le_trans (plansM_len fun n hn => W.len8 (List.mem_of_mem_take hn)) (Nat.le_trans (Nat.pow_le_pow_right (show 8 > 0 by decide) (show _ ≤ 4 from ?_)) (by decide))
  have := W.k2
  rw [List.length_take]
  unfold Wk.lens
  rw [List.length_map]
  omega
theorem ok_all_plans {f : Addr} {fd : FuncData} {k : Nat} (F : Fun K "all_plans" "all_plans" sAllPlans f fd) (m1 : mg "range" = none) (m2 : mg "len" = none) :
    FnOk P w K mg base CX0 (k + 1) f fd ["works"] (spL [] fAllPlans) := by
  refine F.ok sc_all_plans (fun vs H Q E h => ?_) (fun cdv A outer s H vs Q E hr h => ?_)
  · obtain ⟨ds, d, hvs, ⟨_, rfl, _, rfl⟩, _⟩ := h
    exact hvs.length
  · obtain ⟨ds, d, hvs, ⟨wk, rfl, W, rfl⟩, hT, q⟩ := h
    obtain ⟨v1, rfl, h1⟩ := hvs.inv1
    refine ⟨_, pss_cons (ps_set (i := 1) sc_all_plans.nd rfl (Or.inl rfl) (pe_lst (pa_cons (pe_tup pa_nil) pa_nil)))
      (pss_cons (ps_for PassesOwn.never rfl (pi_tup (pe_ix ix_tup (pv 0) pe_int (fun _ _ => rfl))) (pg_name (i := 2) sc_all_plans.nd rfl (Or.inr rfl))
        (pss_one (ps_setLc2 (i := 1) (vs1 := [4]) (own := [("plan", 3), ("number", 4)]) (te := tOp (rCatA K) (tVar 3) (tTup (tCons (tVar 4) tNil))) (wi1 := iRng1 (tCons (tCB (rLn K) (tCons (tOp (rIxT K) (tVar 2) (tC (.int 2))) tNil)) tNil)) rfl sc_all_plans.nd rfl rfl (sw_true rfl rfl rfl (by decide +kernel)) (pi_list (pv 1)) (blkOk_by (N := ["works", "found", "kind", "plan", "number"]) (sc := defScope sAllPlans) (by decide +kernel)) (by decide)
          (fun _ _ _ _ _ => pg_name (i := 3) sc_all_plans.nd rfl (.inl rfl)) (fun _ _ _ _ _ => pts_nil)
          (fun _ _ _ _ _ => pi_range1 (by rfl) m1 (pa_cons (pe_callB (r := rLn K) call_len_seq (by rfl) m2 PySem.boot_len (pa_cons (pe_ix ix_tup (pv 2) pe_int (fun _ _ => rfl)) pa_nil)) pa_nil))
          (fun _ _ _ _ _ => pg_name (i := 4) sc_all_plans.nd rfl (.inl rfl)) (fun _ _ _ _ _ => pts_nil)
          (fun _ _ _ _ _ => pe_op op_catA (pv 3) (pe_tup (pa_cons (pv 4) pa_nil))))))
      (pss_one (ps_ret (pv 1)))), ?_⟩
    have z0 : ([] : List PyData).length ≤ 100000 := Nat.zero_le _
    refine s_setL (el_lst (ea_one (ev_tup ea_nil z0)) (by show 1 ≤ 100000; decide)) fun p vs H1 x1 _ hp hvs => ?_
    refine s_forT none1 (ds := wk.kinds.map dK) (fun i σ H' => ∃ v y, σ = [some v1, some v, y, none, none] ∧ IsL H' v ((plansM (wk.lens.take i)).map dN)) (ev_ixn (i := 2) (ev_var rfl (h1.ex x1)) ev_int rfl) (fun H2 x2 => ⟨.ref p, none, rfl, p, vs, rfl, x2.keep _ _ hp (fun _ z => by cases z) (fun z => z), hvs.ex x2⟩) ?_ ?_
    · rintro i d v σ' H' Z hd x ⟨v2, y, rfl, hv2⟩ hv kz
      rw [List.getElem?_map] at hd
      obtain ⟨kd, hkd, rfl⟩ := Option.map_eq_some_iff.mp hd
      have hlen : wk.lens[i]? = some kd.routes.length := by
        unfold Wk.lens
        rw [List.getElem?_map, hkd]
        rfl
      have hz : ((plansM (wk.lens.take i)).map dN).length * kd.routes.length ≤ 40000 := by
        have a1 := plansM_small W i
        have a2 := W.len8 (List.mem_of_getElem? hlen)
        rw [List.length_map]
        refine Nat.le_trans (Nat.mul_le_mul a1 a2) (by decide)
      refine s_setL (el_lc2 snocD (evv_var rfl hv2) hz (fun _ => rfl) (fun _ _ => rfl) (fun i2 d2 u H2 _ x2 _ => ea_one (ev_is (ev_len (ev_ixn (i := 2) (ev_var rfl (hv.ex x2)) ev_int rfl)) (by rw [List.length_map]))) fun i2 d2 u k2 H2 hd2 hk2 x2 hu => ?_) fun p2 us H2 x2 _ hp2 hus => ?_
      · rw [List.getElem?_map] at hd2
        obtain ⟨pl, hpl, rfl⟩ := Option.map_eq_some_iff.mp hd2
        have hpl6 : pl.length ≤ 99999 := by
          have hll := plansM_long (List.mem_of_getElem? hpl)
          have := W.k2
          rw [hll, List.length_take]
          unfold Wk.lens
          rw [List.length_map]
          omega
        rw [snocD_dN]
        refine ev_is (ev_cat (ev_var rfl hu) (ev_tup (ea_one (ev_var rfl (.int _))) (by show 1 ≤ 100000; decide)) ?_) ?_
        · rw [List.length_map]
          show pl.length + 1 ≤ 100000
          omega
        · simp [dN]
      · refine kz _ H2 x2 ⟨.ref p2, some v, rfl, p2, us, rfl, hp2, ?_⟩
        rw [prod_dN] at hus
        rw [take_snoc hlen, plansM_snoc]
        exact hus
    · rintro σ' H' x ⟨v2, y, rfl, hv2⟩
      refine ⟨v2, rfl, q v2 H' (x1.trans x) ?_⟩
      rw [List.length_map, show wk.kinds.length = wk.lens.length by simp [Wk.lens], List.take_length] at hv2
      exact hv2
/-! ### goes -/
theorem sc_goes : FnScope ["works", "row", "routes", "stand", "kind", "number", "good"] ["works", "row", "routes"] (defScope sGoes) := ⟨rfl, rfl, rfl, by decide +kernel, rfl, by decide +kernel, by decide +kernel⟩
abbrev nInts (r : List Nat) : List PyData := r.map fun n : Nat => PyData.int (n : Int)
def fGoes : List PyData → List PyData → PyData → Prop := fun ds es d => ∃ (wk : Wk) (row rt : List Nat), ds = [dW wk, dN row] ∧ es = nInts rt ∧ WkOk wk ∧ (∀ p ∈ row.zip rt, At wk p.1 p.2) ∧ d = .bool (decide (wrongM wk wk.vats (row.zip rt) = 0))
theorem ok_goes {f fd' Pw Pc : Addr} {fd fdd : FuncData} {k kn : Nat} (F : Fun K "goes" "goes" sGoes f fd) (hk : kn ≤ k) (m1 : mg "zip" = none)
    (gd : mg "dyed" = some (.ref fd')) (kpd : PySem.W.keepIn K (.ref fd') = true) (bd : Binds K fdd ["works", "stand", "kind", "number"] []) (GD : FnOk P w K mg base CX0 kn fd' fdd ["works", "stand", "kind", "number"] (spF [Pw, Pc] fDyed)) :
    FnOk P w K mg base CX0 (k + 1) f fd ["works", "row", "routes"] (spQ [Pw, Pc] fGoes) := by
  refine F.ok sc_goes (fun vs H Q E h => ?_) (fun cdv A outer s H vs Q E hr h => ?_)
  · obtain ⟨ds, es, d, us, u, rfl, hu, _, ⟨_, _, _, rfl, _⟩, _⟩ := h
    obtain ⟨v1, v2, rfl, _⟩ := hu.inv2
    rfl
  · obtain ⟨ds, es, d, us, u, rfl, hu, h3, ⟨wk, row, rt, rfl, rfl, W, hat, rfl⟩, hT, q⟩ := h
    obtain ⟨v1, v2, rfl, h1, h2⟩ := hu.inv2
    refine ⟨_, pss_cons (ps_set (i := 3) sc_goes.nd rfl (Or.inl rfl) (pe_ix ix_tup (pv 0) pe_int (fun _ _ => rfl)))
      (pss_cons (ps_for PassesOwn.never rfl (pi_zipM (by rfl) m1 (pa_cons (pv 1) (pa_cons (pv 2) pa_nil))) (pg_tup rfl (pgs_cons (pg_name (i := 4) sc_goes.nd rfl (.inl rfl)) (pgs_cons (pg_name (i := 5) sc_goes.nd rfl (.inl rfl)) pgs_nil)))
        (pss_cons (ps_asg (pe_call GD (hr.mono hk) (by rfl) gd kpd bd .nil pass0 (pa_cons (pv 0) (pa_cons (pv 3) (pa_cons (pv 4) (pa_cons (pv 5) pa_nil))))) (pg_tup rfl (pgs_cons (pg_name (i := 3) sc_goes.nd rfl (.inl rfl)) (pgs_cons (pg_name (i := 6) sc_goes.nd rfl (.inl rfl)) pgs_nil))))
        (pss_one (ps_if (pt_not (pt_val (pv 6))) (pss_one (ps_ret pe_bl)) pss_nil))))
      (pss_one (ps_ret pe_bl))), ?_⟩
    refine s_set (ev_ixn (i := 1) (ev_var rfl h1) ev_int rfl) fun v4 H1 x1 h4 => ?_
    refine s_forZ (fun i σ H' => ∃ v y5 y6 y7, σ = [some v1, some v2, some u, some v, y5, y6, y7] ∧ wrongM wk wk.vats ((row.zip rt).take i) = 0 ∧ Is H' v (dS (afterM wk wk.vats ((row.zip rt).take i)))) (ev_var rfl (h2.ex x1)) (evq_var rfl (h3.ex x1)) (fun H2 x2 => ⟨v4, none, none, none, rfl, rfl, h4.ex x2⟩) ?_ ?_
    · rintro i d e v u' N σ' H' Z hd he x ⟨vs', y5, y6, y7, rfl, hw, hs⟩ hN hv hu' kz
      rw [List.getElem?_map] at hd he
      obtain ⟨a, ha, rfl⟩ := Option.map_eq_some_iff.mp hd
      obtain ⟨b, hb, rfl⟩ := Option.map_eq_some_iff.mp he
      have hz : (row.zip rt)[i]? = some (a, b) := List.getElem?_zip_eq_some.mpr ⟨ha, hb⟩
      have hAt : At wk a b := hat _ (List.mem_of_getElem? hz)
      have hok : StOk wk (afterM wk wk.vats ((row.zip rt).take i)) := afterM_ok W (stOk0 W) fun p hp => hat p (List.mem_of_mem_take hp)
      have xn : Ex H' (upd H' N (.tup [v, u'])) := .new hN
      have y := x1.trans (x.trans xn)
      refine g_two upd_same (s_unp2 (ev_call (ea_cons (ev_var rfl (h1.ex y)) (ea_cons (ev_var rfl (hs.ex xn)) (ea_cons (ev_var rfl (hv.ex xn)) (ea_one (ev_var rfl (hu'.ex xn)))))) ⟨wk, _, a, b, rfl, W, hok, hAt, rfl⟩ (fun P hP => y.tab _ _ (hT P hP))) fun w1 w2 H2 x2 k1 k2 => ?_)
      have eb := k2.bool_inv
      subst eb
      refine s_if (eb_not (eb_test (ev_var rfl k2))) (fun hb H3 x3 => s_ret (d := .bool false) ev_bl fun v' H4 x4 hv' => q v' H4 (((y.trans x2).trans x3).trans x4) ?_) (fun hb H3 x3 => kz _ H3 (x2.trans x3) ⟨w1, _, _, _, rfl, ?_, ?_⟩)
      · have e : wrongM wk wk.vats (row.zip rt) ≠ 0 := by
          have e1 : row.zip rt = (row.zip rt).take (i + 1) ++ (row.zip rt).drop (i + 1) := (List.take_append_drop _ _).symm
          rw [e1, wrongM_app, take_snoc hz, wrongM_app, wrongM]
          have hb' : (dyedM wk (afterM wk wk.vats ((row.zip rt).take i)) a b).2 = false := by simpa using hb
          simp [hb']
        rw [decide_eq_false e]
        exact hv'
      · rw [take_snoc hz, wrongM_app, hw, wrongM]
        have hb' : (dyedM wk (afterM wk wk.vats ((row.zip rt).take i)) a b).2 = true := by simpa using hb
        simp [hb', wrongM]
      · rw [take_snoc hz, afterM_app]
        exact k1.ex x3
    · rintro σ' H' x ⟨v, y5, y6, y7, rfl, hw, _⟩
      rw [List.length_map, List.length_map] at hw
      rw [List.take_of_length_le (by rw [List.length_zip]; exact Nat.le_refl _)] at hw
      rw [decide_eq_true hw] at q
      dsimp only
      refine s_ret (d := .bool true) ev_bl fun v' H4 x4 hv' => ?_
      exact q v' H4 ((x1.trans x).trans x4) hv'
end
end Dw
set_option Elab.async false
set_option linter.all false
set_option maxRecDepth 100000
set_option maxHeartbeats 4000000
namespace Dw
open PySem PySem.Spec PyProof.Rows L2 Gx
/-! ### which lists of numbers are plans -/
def Under (p ns : List Nat) : Prop := p.length = ns.length ∧ ∀ q ∈ p.zip ns, q.1 < q.2
theorem under_nil {p : List Nat} : Under p [] ↔ p = [] := ⟨fun h => List.eq_nil_of_length_eq_zero h.1, fun h => by subst h; exact ⟨rfl, fun _ z => by simp at z⟩⟩
theorem under_cons {p ns : List Nat} {n : Nat} : Under p (n :: ns) ↔ ∃ j r, p = j :: r ∧ j < n ∧ Under r ns := by
  constructor
  · rintro ⟨h1, h2⟩
    cases p with
    | nil => cases h1
    | cons j r => exact ⟨j, r, rfl, h2 (j, n) (by simp), by simpa using h1, fun q hq => h2 q (by rw [List.zip_cons_cons]; exact List.mem_cons_of_mem _ hq)⟩
  · rintro ⟨j, r, rfl, hj, h1, h2⟩
    refine ⟨by simp [h1], fun q hq => ?_⟩
    rw [List.zip_cons_cons] at hq
    rcases List.mem_cons.mp hq with e | hq
    · rw [e]; exact hj
    · exact h2 q hq
theorem plans_mem : ∀ {ns : List Nat} {found : List (List Nat)} {p : List Nat}, p ∈ ns.foldl (fun found n => found.flatMap fun p => (List.range n).map fun j => p ++ [j]) found ↔ ∃ a b, a ∈ found ∧ Under b ns ∧ p = a ++ b
  | [], found, p => by
    refine ⟨fun h => ⟨p, [], h, under_nil.mpr rfl, by simp⟩, fun ⟨a, b, h, u, e⟩ => ?_⟩
    rw [under_nil.mp u, List.append_nil] at e
    rw [e]
    exact h
  | n :: ns, found, p => by
    rw [List.foldl_cons, plans_mem]
    constructor
    · rintro ⟨a, b, ha, hb, rfl⟩
      obtain ⟨x, hx, ha⟩ := List.mem_flatMap.mp ha
      obtain ⟨j, hj, rfl⟩ := List.mem_map.mp ha
      exact ⟨x, j :: b, hx, under_cons.mpr ⟨j, b, rfl, List.mem_range.mp hj, hb⟩, by simp⟩
    · rintro ⟨a, b, ha, hb, rfl⟩
      obtain ⟨j, r, rfl, hj, hr⟩ := under_cons.mp hb
      exact ⟨a ++ [j], r, List.mem_flatMap.mpr ⟨a, ha, List.mem_map.mpr ⟨j, List.mem_range.mpr hj, rfl⟩⟩, hr, by simp⟩
theorem mem_plansM {ns p : List Nat} : p ∈ plansM ns ↔ Under p ns := by
  unfold plansM
  rw [plans_mem]
  refine ⟨fun ⟨a, b, ha, hb, e⟩ => ?_, fun h => ⟨[], p, by simp, h, rfl⟩⟩
  rw [List.mem_singleton.mp ha, List.nil_append] at e
  rw [e]
  exact hb
theorem Under.get {p ns : List Nat} (h : Under p ns) {k : Nat} (hk : k < ns.length) : p.getD k 0 < ns.getD k 0 := by
  have h1 : k < p.length := by rw [h.1]; exact hk
  have e1 : p.getD k 0 = p[k] := by rw [List.getD_eq_getElem?_getD, List.getElem?_eq_getElem h1]; rfl
  have e2 : ns.getD k 0 = ns[k] := by rw [List.getD_eq_getElem?_getD, List.getElem?_eq_getElem hk]; rfl
  rw [e1, e2]
  exact h.2 (p[k], ns[k]) (List.mem_of_getElem? ((List.getElem?_zip_eq_some (z := (p[k], ns[k]))).mpr ⟨List.getElem?_eq_getElem h1, List.getElem?_eq_getElem hk⟩))
theorem lens_get {wk : Wk} {k : Nat} (h : k < wk.kinds.length) : wk.lens.getD k 0 = (wk.kind k).routes.length := by
  unfold Wk.lens Wk.kind
  rw [List.getD_eq_getElem?_getD, List.getD_eq_getElem?_getD, List.getElem?_map, List.getElem?_eq_getElem h]
  rfl
/-- the numbers that a plan gives a row -/
def byPlan (p row : List Nat) : List Nat := row.map fun k => p.getD k 0
theorem zip_map_self {α β : Type} (f : α → β) : ∀ l : List α, l.zip (l.map f) = l.map fun x => (x, f x)
  | [] => rfl
  | x :: r => by rw [List.map_cons, List.zip_cons_cons, zip_map_self f r, List.map_cons]
theorem byPlan_at {wk : Wk} {p row : List Nat} (hp : p ∈ plansM wk.lens) (hr : ∀ k ∈ row, k < wk.kinds.length) : ∀ q ∈ row.zip (byPlan p row), At wk q.1 q.2 := fun q hq => by
  unfold byPlan at hq
  rw [zip_map_self] at hq
  obtain ⟨k, hk, rfl⟩ := List.mem_map.mp hq
  have h1 := hr k hk
  refine ⟨h1, ?_⟩
  have := (mem_plansM.mp hp).get (k := k) (by unfold Wk.lens; rw [List.length_map]; exact h1)
  rw [lens_get h1] at this
  exact this
/-- whether a plan makes a row good -/
def fits (wk : Wk) (row p : List Nat) : Bool := decide (wrongM wk wk.vats (row.zip (byPlan p row)) = 0)
theorem find_take {α : Type} {q : α → Bool} : ∀ {l : List α} {i : Nat}, (∀ x ∈ l.take i, q x = false) → ∀ {x}, l[i]? = some x → q x = true → l.find? q = some x
  | [], i, _, x, h, _ => by simp at h
  | y :: r, 0, _, x, h, hq => by
    have e := Option.some.inj h
    subst e
    rw [List.find?_cons, hq]
  | y :: r, i + 1, h0, x, h, hq => by
    rw [List.find?_cons, h0 y (by simp)]
    exact find_take (i := i) (fun z hz => h0 z (by rw [List.take_succ_cons]; exact List.mem_cons_of_mem _ hz)) h hq
def optD : Option (List Nat) → PyData
  | none => .none
  | some p => dN p
section
variable {P : Program} {w : World} {K : PySem.W.Frag} {mg : Str → Option Value} {base : Heap}
theorem s_drop {te : TE} {σ : L2.St} {H : Hp} {D : Ends} {d : PyData} (h : Ev te σ H d) (k : ∀ v H1, Ex H H1 → Is H1 v d → D.nx σ H1) : tDrop te D σ H := h H (.refl H) _ k
theorem sc_plan_for : FnScope ["works", "row", "plan", "kind"] ["works", "row"] (defScope sPlanFor) := ⟨rfl, rfl, rfl, by decide +kernel, rfl, by decide +kernel, by decide +kernel⟩
def fPlanFor : List PyData → PyData → Prop := fun ds d => ∃ (wk : Wk) (row : List Nat), ds = [dW wk, dN row] ∧ WkOk wk ∧ RowOk wk row ∧ d = optD ((plansM wk.lens).find? (fits wk row))
theorem lc_true {ds : List PyData} {f : PyData → PyData} : (ds.filter fun _ => true).map f = ds.map f := by
  rw [List.filter_eq_self.mpr fun _ _ => rfl]
theorem ok_plan_for {f fn fr fa fg Pn Pk Pl Pr Po Pw Pc : Addr} {fd fdn fdr fda fdg : FuncData} {k kn : Nat} (F : Fun K "plan_for" "plan_for" sPlanFor f fd) (hk : kn ≤ k)
    (gn : mg "need_works" = some (.ref fn)) (kpn : PySem.W.keepIn K (.ref fn) = true) (bn : Binds K fdn ["value"] []) (GN : FnOk P w K mg base CX0 kn fn fdn ["value"] (spF [Pn, Pk, Pl, Pr] fNeedWorks))
    (gr : mg "need_row" = some (.ref fr)) (kpr : PySem.W.keepIn K (.ref fr) = true) (br : Binds K fdr ["works", "value"] []) (GR : FnOk P w K mg base CX0 kn fr fdr ["works", "value"] (spF [Po] fNeedRow))
    (ga : mg "all_plans" = some (.ref fa)) (kpa : PySem.W.keepIn K (.ref fa) = true) (ba : Binds K fda ["works"] []) (GA : FnOk P w K mg base CX0 kn fa fda ["works"] (spL [] fAllPlans))
    (gg : mg "goes" = some (.ref fg)) (kpg : PySem.W.keepIn K (.ref fg) = true) (bg : Binds K fdg ["works", "row", "routes"] []) (GG : FnOk P w K mg base CX0 kn fg fdg ["works", "row", "routes"] (spQ [Pw, Pc] fGoes)) :
    FnOk P w K mg base CX0 (k + 1) f fd ["works", "row"] (spF [Pn, Pk, Pl, Pr, Po, Pw, Pc] fPlanFor) := by
  refine F.ok sc_plan_for (fun vs H Q E h => ?_) (fun cdv A outer s H vs Q E hr h => ?_)
  · obtain ⟨ds, d, hvs, ⟨_, _, rfl, _, _, rfl⟩, _⟩ := h
    exact hvs.length
  · obtain ⟨ds, d, hvs, ⟨wk, row, rfl, W, hrow, rfl⟩, hT, q⟩ := h
    obtain ⟨v1, v2, rfl, h1, h2⟩ := hvs.inv2
    refine ⟨_, pss_cons (ps_expr (pe_call GN (hr.mono hk) (by rfl) gn kpn bn .nil pass0 (pa_cons (pv 0) pa_nil)))
      (pss_cons (ps_expr (pe_call GR (hr.mono hk) (by rfl) gr kpr br .nil pass0 (pa_cons (pv 0) (pa_cons (pv 1) pa_nil))))
      (pss_cons (ps_for PassesOwn.never rfl (pi_list (pe_call GA (hr.mono hk) (by rfl) ga kpa ba .nil pass0 (pa_cons (pv 0) pa_nil))) (pg_name (i := 2) sc_plan_for.nd rfl (Or.inr rfl))
        (pss_one (ps_if (pt_val (pe_call GG (hr.mono hk) (by rfl) gg kpg bg .nil pass0 (pa_cons (pv 0) (pa_cons (pv 1) (pa_cons (pe_lc (own := [("kind", 3)]) (te := tOp (rIxT K) (tVar 2) (tVar 3)) rfl sc_plan_for.nd (pi_tup (pv 1)) (blkOk_by (N := ["works", "row", "plan", "kind"]) (sc := defScope sPlanFor) (by decide +kernel))
          (fun _ _ _ _ _ => pg_name (i := 3) sc_plan_for.nd rfl (.inl rfl)) (fun _ _ _ _ _ => pts_nil) (fun _ _ _ _ _ => pe_ix ix_tup (pv 2) (pv 3) (fun _ _ => rfl))) pa_nil))))) (pss_one (ps_ret (pv 2))) pss_nil)))
      (pss_one (ps_ret pe_non)))), ?_⟩
    have tb : ∀ {H' : Hp}, Ex H H' → ∀ P ∈ [Pn, Pk, Pl, Pr, Po, Pw, Pc], TabD 1 H' P := fun x P hP => x.tab _ _ (hT P hP)
    refine s_drop (ev_call (ea_one (ev_var rfl h1)) ⟨wk, rfl, W, rfl⟩ (fun P hP => tb (.refl H) P (List.mem_append_left [Po, Pw, Pc] hP))) fun _ H1 x1 _ => ?_
    refine s_drop (ev_call (ea_cons (ev_var rfl (h1.ex x1)) (ea_one (ev_var rfl (h2.ex x1)))) ⟨wk, row, rfl, hrow, rfl⟩ (fun P hP => tb x1 P (List.mem_append_right [Pn, Pk, Pl, Pr] (List.mem_append_left [Pw, Pc] hP)))) fun _ H2 x2 _ => ?_
    have y2 := x1.trans x2
    refine s_forE (fun i σ H' => ∃ y, σ = [some v1, some v2, y, none] ∧ ∀ p ∈ (plansM wk.lens).take i, fits wk row p = false) (evv_call (T := []) (ea_one (ev_var rfl (h1.ex y2))) ⟨wk, rfl, W, rfl⟩ (fun _ z => nomatch z)) (fun H3 x3 => ⟨none, rfl, fun _ z => by simp at z⟩) ?_ ?_
    · rintro i d v σ' H' Z hd x ⟨y, rfl, hno⟩ hv kz
      rw [List.getElem?_map] at hd
      obtain ⟨p, hp, rfl⟩ := Option.map_eq_some_iff.mp hd
      have y3 := y2.trans x
      have hpm := List.mem_of_getElem? hp
      have er : (nInts row).map (fun d => PyData.int ((p.getD (pInt d).toNat 0 : Nat) : Int)) = nInts (byPlan p row) := by simp [byPlan, pInt, Function.comp_def]
      refine s_if (eb_B (ev_callQ (eaq_cons (ev_var rfl (h1.ex y3)) (eaq_cons (ev_var rfl (h2.ex y3)) (eaq_one (EvL.toV (el_lcT (fun _ => true) (fun d => PyData.int ((p.getD (pInt d).toNat 0 : Nat) : Int)) (ev_var rfl (h2.ex y3)) ?_ (fun _ => rfl) (fun _ _ _ _ _ _ _ => eb_yes rfl) (fun i2 d2 u H3 hd2 x3 hu _ => ?_))).toQ))) ⟨wk, row, byPlan p row, rfl, ?_, W, byPlan_at hpm hrow.2, rfl⟩ (fun P hP => tb y3 P (List.mem_append_right [Pn, Pk, Pl, Pr, Po] hP)))) (fun hb H3 x3 => s_ret (ev_var rfl (hv.ex x3)) fun v' H4 x4 hv' => q v' H4 ((y3.trans x3).trans x4) ?_) (fun hb H3 x3 => kz _ H3 x3 ⟨_, rfl, fun z hz => ?_⟩)
      · have := hrow.1
        rw [List.length_map]; omega
      · obtain ⟨kk, hkk, rfl⟩ := List.mem_map.mp (List.mem_of_getElem? hd2)
        have hlt := hrow.2 kk hkk
        have hu' := (mem_plansM.mp hpm).1
        have hpl : kk < p.length := by rw [hu']; unfold Wk.lens; rw [List.length_map]; exact hlt
        refine ev_ixn (ev_var rfl (hv.ex x3)) (ev_var rfl hu) ?_
        rw [List.getElem?_map, List.getElem?_eq_getElem hpl, show (pInt (PyData.int (kk : Int))).toNat = kk by simp [pInt], List.getD_eq_getElem?_getD, List.getElem?_eq_getElem hpl]
        rfl
      · rw [lc_true, er]
      · rw [find_take hno hp hb]
        exact hv'
      · rw [take_snoc hp] at hz
        rcases List.mem_append.mp hz with hz | hz
        · exact hno z hz
        · rw [List.mem_singleton.mp hz]
          exact hb
    · rintro σ' H' x ⟨y, rfl, hno⟩
      rw [List.length_map, List.take_length] at hno
      have e : (plansM wk.lens).find? (fits wk row) = none := List.find?_eq_none.mpr fun z hz => by rw [hno z hz]; exact Bool.false_ne_true
      rw [e] at q
      dsimp only
      exact s_ret ev_non fun v' H4 x4 hv' => q v' H4 ((y2.trans x).trans x4) hv'
end
end Dw
set_option Elab.async false
set_option linter.all false
set_option maxRecDepth 100000
set_option maxHeartbeats 2000000
/-! dicts whose keys are stands (tuples of tuples of ints) -/
namespace Dw
open PySem PySem.Spec PyProof.Rows L2 Gx
abbrev Stand := List (List Int)
/-! ### pairs in order -/
section
variable {α : Type}
def valD (m : List (Stand × α)) (k : Stand) : Option α := (m.find? fun x => decide (x.1 = k)).map (·.2)
def putD (m : List (Stand × α)) (k : Stand) (v : α) : List (Stand × α) := if (valD m k).isSome then m.map fun x => if x.1 = k then (x.1, v) else x else m ++ [(k, v)]
theorem valD_pos {x : Stand × α} {r : List (Stand × α)} {k : Stand} (e : x.1 = k) : valD (x :: r) k = some x.2 := by simp [valD, e]
theorem valD_neg {x : Stand × α} {r : List (Stand × α)} {k : Stand} (e : ¬ x.1 = k) : valD (x :: r) k = valD r k := by simp [valD, e]
theorem putD_len (m : List (Stand × α)) (k : Stand) (v : α) : (putD m k v).length ≤ m.length + 1 := by
  unfold putD
  split
  · rw [List.length_map]; omega
  · rw [List.length_append]; exact Nat.le_refl _
end
/-! ### stands as keys -/
def nkL (o : List Int) : NestedKey := .tup (o.map .num)
def nk (st : Stand) : NestedKey := .tup (st.map nkL)
theorem num_inj : ∀ {a b : List Int}, a.map NestedKey.num = b.map NestedKey.num → a = b
  | [], [], _ => rfl
  | [], _ :: _, e => by simp at e
  | _ :: _, [], e => by simp at e
  | x :: a, y :: b, e => by
    rw [List.map_cons, List.map_cons] at e
    injection e with e1 e2
    injection e1 with e1
    rw [e1, num_inj e2]
theorem nkL_inj {a b : List Int} (e : nkL a = nkL b) : a = b := by
  injection e with e
  exact num_inj e
theorem nkLs_inj : ∀ {a b : Stand}, a.map nkL = b.map nkL → a = b
  | [], [], _ => rfl
  | [], _ :: _, e => by simp at e
  | _ :: _, [], e => by simp at e
  | x :: a, y :: b, e => by
    rw [List.map_cons, List.map_cons] at e
    injection e with e1 e2
    rw [nkL_inj e1, nkLs_inj e2]
theorem nk_inj {a b : Stand} (e : nk a = nk b) : a = b := by
  injection e with e
  exact nkLs_inj e
theorem depth_num : ∀ o : List Int, NestedKey.depthAll (o.map .num) = 0
  | [] => rfl
  | x :: r => by
    rw [List.map_cons, NestedKey.depthAll, depth_num r]
    rfl
theorem depth_nkL (o : List Int) : (nkL o).depth = 1 := by
  unfold nkL
  rw [NestedKey.depth, depth_num]
theorem depth_nkLs : ∀ st : Stand, NestedKey.depthAll (st.map nkL) ≤ 1
  | [] => Nat.zero_le _
  | o :: r => by
    rw [List.map_cons, NestedKey.depthAll, depth_nkL]
    have := depth_nkLs r
    omega
theorem depth_nk (st : Stand) : (nk st).depth ≤ 8 := by
  unfold nk
  rw [NestedKey.depth]
  have := depth_nkLs st
  omega
section
variable {X : Cx} {pins : List (Addr × Obj)} {σ : L2.St} {H : Hp} {s : Shared}
theorem nested_nums {h : Heap} : ∀ {o : List Int} {us : List Value}, Vals (o.map V.int) us → NestedAll h (o.map .num) us
  | [], us, r => by cases r; exact .nil
  | x :: o, us, r => by
    rw [List.map_cons] at r
    cases r with
    | cons a t =>
      obtain ⟨t', rfl⟩ := (show ∃ t, _ = Value.int x t from a)
      exact .cons (.int x t') (nested_nums t)
theorem nested_lot (I : Inv X pins σ H s) {o : List Int} {v : V} {u : Value} (h : Is H v (dL o)) (r : RelV v u) : NestedIs s.heap (nkL o) u := by
  obtain ⟨a, vs, rfl, ha, hvs⟩ := Is.tup_inv h
  have e := hvs.ints
  subst e
  obtain rfl : u = Value.ref a := r
  obtain ⟨its, rv, ⟨ob, h1, h2, n, h3⟩, _⟩ := I.tuple (SqT.of (K := X.K) ha)
  exact .tup h1 h2 h3 (by simpa using nested_nums rv)
theorem nested_lots (I : Inv X pins σ H s) : ∀ {st : Stand} {vs : List V} {us : List Value}, IsA H vs (st.map dL) → Vals vs us → NestedAll s.heap (st.map nkL) us
  | [], _, _, h, r => by cases h; cases r; exact .nil
  | o :: st, _, _, h, r => by
    obtain ⟨v, vs, rfl, h1, h2⟩ := h.cons_inv
    cases r with
    | cons a t => exact .cons (nested_lot I h1 a) (nested_lots I h2 t)
theorem nested_stand (I : Inv X pins σ H s) {st : Stand} {a : Addr} (h : Is H (.ref a) (dS st)) : (nestedKind X.prog X.w).is s.heap (nk st) a := by
  obtain ⟨b, vs, e, ha, hvs⟩ := Is.tup_inv h
  cases e
  obtain ⟨its, rv, ⟨ob, h1, h2, n, h3⟩, _⟩ := I.tuple (SqT.of (K := X.K) ha)
  exact ⟨.tup h1 h2 h3 (by simpa using nested_lots I hvs rv), depth_nk st⟩
end
/-! ### a dict of stands -/
/-- the object at a is o -/
def thisO (a : Addr) (o : Obj) : HO := .ext fun h => h.get? a = some o
theorem thisO_ok {P : Program} {w : World} {H : Hp} {h : Heap} {a : Addr} {o : Obj} (e : h.get? a = some o) : ObjOk P w H h a (thisO a o) := ⟨e, ⟨o, e⟩, fun _ _ e1 k => k _ e1⟩
abbrev Ents := List (NestedKey × Addr × Value)
/-- the entries xs hold the pairs m -/
def Pd (H : Hp) : List (Stand × PyData) → Ents → Prop
  | [], [] => True
  | p :: m, q :: xs => (q.1 = nk p.1 ∧ Is H (.ref q.2.1) (dS p.1) ∧ ∃ v, RelV v q.2.2 ∧ Is H v p.2) ∧ Pd H m xs
  | [], _ :: _ => False
  | _ :: _, [] => False
theorem Pd.keep {H H' : Hp} (t : TupLe H H') : ∀ {m : List (Stand × PyData)} {xs : Ents}, Pd H m xs → Pd H' m xs
  | [], [], _ => trivial
  | p :: m, q :: xs, ⟨⟨h1, h2, v, h3, h4⟩, h5⟩ => ⟨⟨h1, Is.keep t _ h2, v, h3, Is.keep t _ h4⟩, Pd.keep t h5⟩
  | [], _ :: _, h => h.elim
  | _ :: _, [], h => h.elim
theorem Pd.len {H : Hp} : ∀ {m : List (Stand × PyData)} {xs : Ents}, Pd H m xs → m.length = xs.length
  | [], [], _ => rfl
  | p :: m, q :: xs, h => by rw [List.length_cons, List.length_cons, Pd.len h.2]
  | [], _ :: _, h => h.elim
  | _ :: _, [], h => h.elim
theorem Pd.at {H : Hp} : ∀ {m : List (Stand × PyData)} {xs : Ents} {i : Nat} {q : NestedKey × Addr × Value}, Pd H m xs → xs[i]? = some q → ∃ p, m[i]? = some p ∧ q.1 = nk p.1 ∧ Is H (.ref q.2.1) (dS p.1) ∧ ∃ v, RelV v q.2.2 ∧ Is H v p.2
  | [], [], _, _, _, e => by simp at e
  | p :: m, q :: xs, 0, _, h, e => by
    have e := Option.some.inj e
    subst e
    exact ⟨p, rfl, h.1⟩
  | p :: m, q :: xs, i + 1, _, h, e => Pd.at (i := i) h.2 e
  | [], _ :: _, _, _, h, _ => h.elim
  | _ :: _, [], _, _, h, _ => h.elim
theorem Pd.snoc {H : Hp} {p : Stand × PyData} {q : NestedKey × Addr × Value} (g : q.1 = nk p.1 ∧ Is H (.ref q.2.1) (dS p.1) ∧ ∃ v, RelV v q.2.2 ∧ Is H v p.2) : ∀ {m : List (Stand × PyData)} {xs : Ents}, Pd H m xs → Pd H (m ++ [p]) (xs ++ [q])
  | [], [], _ => ⟨g, trivial⟩
  | p :: m, q :: xs, h => ⟨h.1, Pd.snoc g h.2⟩
  | [], _ :: _, h => h.elim
  | _ :: _, [], h => h.elim
theorem Pd.val {H : Hp} {k : Stand} : ∀ {m : List (Stand × PyData)} {xs : Ents}, Pd H m xs → (valD m k = none ∧ atKey xs (nk k) = none) ∨ ∃ d p v, valD m k = some d ∧ atKey xs (nk k) = some p ∧ RelV v p.2 ∧ Is H v d
  | [], [], _ => .inl ⟨rfl, rfl⟩
  | p :: m, q :: xs, h => by
    obtain ⟨⟨h1, h2, v, h3, h4⟩, h5⟩ := h
    by_cases e : p.1 = k
    · refine .inr ⟨p.2, q.2, v, valD_pos e, ?_, h3, h4⟩
      have e' : q.1 = nk k := by rw [h1, e]
      simp [atKey, e']
    · have e' : ¬ q.1 = nk k := fun z => e (nk_inj (h1.symm.trans z))
      have b : atKey (q :: xs) (nk k) = atKey xs (nk k) := by simp [atKey, e']
      rw [valD_neg e, b]
      exact Pd.val h5
  | [], _ :: _, h => h.elim
  | _ :: _, [], h => h.elim
theorem Pd.repl {H : Hp} {k : Stand} {d : PyData} {u : Value} {v : V} (r : RelV v u) (hv : Is H v d) : ∀ {m : List (Stand × PyData)} {xs : Ents}, Pd H m xs → Pd H (m.map fun x => if x.1 = k then (x.1, d) else x) (xs.map (putAt (nk k) u))
  | [], [], _ => trivial
  | p :: m, q :: xs, h => by
    refine ⟨?_, Pd.repl r hv h.2⟩
    obtain ⟨⟨h1, h2, v', h3, h4⟩, _⟩ := h
    unfold putAt
    dsimp only
    by_cases e : p.1 = k
    · rw [if_pos e, if_pos (by rw [h1, e])]
      exact ⟨h1, h2, v, r, hv⟩
    · rw [if_neg e, if_neg (fun z => e (nk_inj (h1.symm.trans z)))]
      exact ⟨h1, h2, v', h3, h4⟩
  | [], _ :: _, h => h.elim
  | _ :: _, [], h => h.elim
theorem Pd.put {H : Hp} {k : Stand} {a : Addr} {d : PyData} {u : Value} {v : V} (r : RelV v u) (hv : Is H v d) (ha : Is H (.ref a) (dS k)) {m : List (Stand × PyData)} {xs : Ents} (h : Pd H m xs) : Pd H (putD m k d) (storedH xs (nk k) a u) := by
  rcases h.val (k := k) with ⟨h1, h2⟩ | ⟨d', p, v', h1, h2, _, _⟩
  · unfold putD storedH
    rw [h1, h2]
    exact h.snoc ⟨rfl, ha, v, r, hv⟩
  · unfold putD storedH
    rw [h1, h2]
    exact h.repl r hv
/-- at a stands a dict with the pairs m, in order -/
def IsDc (P : Program) (w : World) (H : Hp) (a : Addr) (m : List (Stand × PyData)) : Prop :=
  (a == sysModules) = false ∧ m.length ≤ 50000 ∧ ∃ (o : Obj) (es : Array DictEntry) (ep : Nat) (xs : Ents), H a = some (thisO a o) ∧ o.ExactDict ∧ o.data = .dict es ep ∧ es.toList = xs.map (entryOfKey (nestedKind P w)) ∧ (xs.map (·.1)).Nodup ∧ Pd H m xs
theorem IsDc.ex {P : Program} {w : World} {R : Addr → Prop} {H H' : Hp} {a : Addr} {m : List (Stand × PyData)} (x : ExB R H H') (hR : ¬ R a) (h : IsDc P w H a m) : IsDc P w H' a m := by
  obtain ⟨h0, hl, o, es, ep, xs, h1, h2, h3, h4, h5, h6⟩ := h
  exact ⟨h0, hl, o, es, ep, xs, x.keep _ _ h1 (fun _ z => by cases z) hR, h2, h3, h4, h5, h6.keep x.tup⟩
theorem IsDc.ex0 {P : Program} {w : World} {H H' : Hp} {a : Addr} {m : List (Stand × PyData)} (x : Ex H H') (h : IsDc P w H a m) : IsDc P w H' a m := h.ex x fun z => z
section
variable {X : Cx} {pins : List (Addr × Obj)} {σ : L2.St} {H : Hp} {s : Shared} {a : Addr} {m : List (Stand × PyData)} {k : Stand} {b : Addr} {A : Around} {E : Value → Shared → Prop}
/-- the heap's own dict -/
theorem IsDc.there (h : IsDc X.prog X.w H a m) (I : Inv X pins σ H s) : ∃ xs, s.heap.DictOfH (nestedKind X.prog X.w) a xs ∧ Pd H m xs ∧ xs.length ≤ 50000 := by
  obtain ⟨h0, hl, o, es, ep, xs, h1, h2, h3, h4, h5, h6⟩ := h
  have ho : s.heap.get? a = some o := (show ObjOk X.prog X.w H s.heap a (thisO a o) from I.hok a _ h1).1
  refine ⟨xs, ⟨o, es, ep, ho, h2, h3, h4, fun x hx => ?_, h5⟩, h6, by rw [← h6.len]; exact hl⟩
  obtain ⟨i, hi⟩ := List.mem_iff_getElem?.mp hx
  obtain ⟨p, _, e1, e2, _⟩ := h6.at hi
  rw [e1]
  exact nested_stand I e2
theorem IsDc.soft (h : IsDc X.prog X.w H a m) : ∃ o, H a = some (thisO a o) := by
  obtain ⟨_, _, o, _, _, _, h1, _⟩ := h
  exact ⟨o, h1⟩
theorem room_nd (hu : A.units + 9 < cLine) : (nestedKind X.prog X.w).room A.in1 := by
  show A.in1.units + 8 < cLine
  have : A.in1.units ≤ A.units + 1 := by
    first | exact Nat.le_refl _ | (show A.units + 1 ≤ A.units + 1; exact Nat.le_refl _)
  omega
/-- d[k] = v -/
theorem n_set {v : V} {r : Value} {d : PyData} {Q : Unit → Shared → Prop} (hu : A.units + 9 < cLine) (I : Inv X pins σ H s) (h : IsDc X.prog X.w H a m) (hl : m.length < 50000) (hb : Is H (.ref b) (dS k)) (rv : RelV v r) (hv : Is H v d)
    (q : ∀ s' H', ExB (fun x => x = a) H H' → IsDc X.prog X.w H' a (putD m k d) → Inv X pins σ H' s' → Q () s') : wpAny (model X.prog X.w) A (setItem (.ref a) (.ref b) r) Q E s := by
  obtain ⟨xs, dd, pd, lx⟩ := h.there I
  obtain ⟨o0, e0⟩ := h.soft
  obtain ⟨h0, _⟩ := h
  refine wpAny_setItem_heap (hsz := by rw [sizeLine_eq]; omega) (room_nd hu) (nested_stand I hb) dd fun h' dd' hs => ?_
  obtain ⟨o, es, ep, ho, h2, h3, h4, _, h5⟩ := dd'
  have sf : Soft (thisO a o0) := soft_ext _
  have x : ExB (fun x => x = a) H (upd H a (thisO a o)) := .write rfl e0 sf
  refine q _ (upd H a (thisO a o)) x ⟨h0, Nat.le_trans (putD_len m k d) hl, o, es, ep, _, upd_same, h2, h3, h4, h5, (pd.put rv hv hb).keep x.tup⟩ ?_
  exact d_write I (by rw [e0]; exact True.intro) hs ⟨o, ho⟩ (thisO_ok ho)
/-- k not in d -/
theorem n_notIn {Q : Value → Shared → Prop} (hu : A.units + 9 < cLine) (I : Inv X pins σ H s) (h : IsDc X.prog X.w H a m) (hb : Is H (.ref b) (dS k)) (q : ∀ s', Inv X pins σ H s' → Q (.bool (!(valD m k).isSome)) s') :
    wpAny (model X.prog X.w) A (compareOp .NotIn (.ref b) (.ref a)) Q E s := by
  obtain ⟨xs, dd, pd, lx⟩ := h.there I
  refine wpAny_notIn_heap (room_nd hu) (nested_stand I hb) h.1 dd ?_
  have e : (atKey xs (nk k)).isSome = (valD m k).isSome := by
    rcases pd.val (k := k) with ⟨h1, h2⟩ | ⟨_, _, _, h1, h2, _⟩ <;> rw [h1, h2] <;> rfl
  rw [e]
  exact q _ (I.tok _)
/-- d.get(k, x) -/
theorem n_get {v : V} {r : Value} {d : PyData} {Q : Value → Shared → Prop} (hu : A.units + 9 < cLine) (I : Inv X pins σ H s) (h : IsDc X.prog X.w H a m) (hb : Is H (.ref b) (dS k)) (rv : RelV v r) (hv : Is H v d)
    (q : ∀ v' r' s', Inv X pins σ H s' → RelV v' r' → Is H v' ((valD m k).getD d) → Q r' s') : wpAny (model X.prog X.w) A (call (.builtin "dict.get") [.ref a, .ref b, r]) Q E s := by
  obtain ⟨xs, dd, pd, lx⟩ := h.there I
  refine call_meetsIn PySem.F.slot_dict_get dd.typeIs PySem.F.entry_dict_get (PySem.F.args_dict_get_3 _ _ _) (meetsH_dict_get_default (nestedKind X.prog X.w) a b h.1 r) ⟨room_nd hu, nk k, xs, nested_stand I hb, dd, ?_⟩
  rcases pd.val (k := k) with ⟨h1, h2⟩ | ⟨d', p, v', h1, h2, h3, h4⟩
  · rw [h2]
    exact q v r _ (I.tok _) rv (by rw [h1]; exact hv)
  · rw [h2]
    exact q v' p.2 _ (I.tok _) h3 (by rw [h1]; exact h4)
end
/-! ### rules -/
/-- d[k] = v -/
def sNPut (P : Program) (w : World) (td ty tv : TE) : TS := fun D σ H => tv σ H fun v H1 => td σ H1 fun x H2 => ty σ H2 fun y H3 => ∃ a m k d, x = .ref a ∧ IsDc P w H3 a m ∧ m.length < 50000 ∧ Is H3 y (dS k) ∧ Is H3 v d ∧
  ∀ H4, ExB (fun b => b = a) H3 H4 → IsDc P w H4 a (putD m k d) → D.nx σ H4
def tNNotIn (P : Program) (w : World) (ty td : TE) : TE := fun σ H Q => ty σ H fun y H1 => td σ H1 fun x H2 => ∃ a m k, x = .ref a ∧ IsDc P w H2 a m ∧ Is H2 y (dS k) ∧ Q (.bl (!(valD m k).isSome)) H2
def tNGet (P : Program) (w : World) (td ty tx : TE) : TE := fun σ H Q => td σ H fun x H1 => ∃ a, x = .ref a ∧ (∃ m, IsDc P w H1 a m) ∧ ty σ H1 fun y H2 => tx σ H2 fun z H3 => ∃ m k d, IsDc P w H3 a m ∧ Is H3 y (dS k) ∧ Is H3 z d ∧ ∀ v, Is H3 v ((valD m k).getD d) → Q v H3
def tNNew (P : Program) (w : World) : TE := fun _ H Q => ∀ p H', H p = none → Ex H H' → IsDc P w H' p [] → Q (.ref p) H'
section
variable {X : Cx} {o i e f value : Expr} {pos pos' apos cpos : Pos} {td ty tv tx : TE}
theorem ref_stand {H : Hp} {v : V} {k : Stand} (h : Is H v (dS k)) : ∃ b, v = .ref b := by
  obtain ⟨b, _, e, _⟩ := Is.tup_inv h
  exact ⟨b, e⟩
theorem ps_nput (hu : X.A.units + 9 < cLine) (hv : PE X value tv) (ho : PE X o td) (hi : PE X i ty) (hs : swapsWith value (some (.Subscript o i pos')) pos.line X.env = pure false := by rfl) :
    PS X (.Assign [.Subscript o i pos'] value pos) (sNPut X.prog X.w td ty tv) := by
  refine ⟨fun pins s σ H D I h => ?_⟩
  refine wpAny_Assign_Subscript (thn (hv.run pins s σ H _ I h) fun r s1 ⟨v, H1, I1, rv, q1⟩ => thn (ho.run pins s1 σ H1 _ I1 q1) fun u s2 ⟨x, H2, I2, rx, q2⟩ => thn (hi.run pins s2 σ H2 _ I2 q2) fun iv s3 ⟨y, H3, I3, ry, a, m, k, d, ex, dc, hl, hk, hd, q3⟩ => ?_) hs
  subst ex
  obtain rfl : u = Value.ref a := rx
  obtain ⟨b, rfl⟩ := ref_stand hk
  obtain rfl : iv = Value.ref b := ry
  exact n_set hu I3 dc hl hk rv hd fun s4 H4 x4 dc4 I4 => ⟨σ, H4, I4, q3 H4 x4 dc4⟩
theorem pc_nnotin (hu : X.A.units + 9 < cLine) (hi : PE X i ty) (ho : PE X o td) : PC X .NotIn i o (tNNotIn X.prog X.w ty td) := by
  refine ⟨fun pins s σ H Q I h => ?_⟩
  refine thn (hi.run pins s σ H _ I h) fun iv s1 ⟨y, H1, I1, ry, q1⟩ => thn (ho.run pins s1 σ H1 _ I1 q1) fun u s2 ⟨x, H2, I2, rx, a, m, k, ex, dc, hk, q2⟩ => ?_
  subst ex
  obtain rfl : u = Value.ref a := rx
  obtain ⟨b, rfl⟩ := ref_stand hk
  obtain rfl : iv = Value.ref b := ry
  exact n_notIn hu I2 dc hk fun s3 I3 => ⟨.bl (!(valD m k).isSome), H2, I3, rfl, q2⟩
theorem pe_nget (hu : X.A.units + 9 < cLine) (ho : PE X o td) (he : PE X e ty) (hf : PE X f tx) (m2 : M2 X o "get" apos e f cpos) : PE X (.Call (.Attribute o "get" apos) [e, f] [] cpos) (tNGet X.prog X.w td ty tx) := by
  refine ⟨fun pins s σ H Q I h => ?_⟩
  refine wpAny_Call_method m2.base m2.few m2.line PySem.F.plainAttrs_dict PySem.F.slot_dict_get PySem.F.type_dict_get (thn (ho.run pins s σ H _ I h) fun u s1 ⟨x, H1, I1, rx, a, ex, ⟨m0, dc0⟩, q1⟩ => ?_)
  subst ex
  obtain rfl : u = Value.ref a := rx
  obtain ⟨xs0, dd0, _, _⟩ := dc0.there I1
  obtain ⟨ob, _, _, g1, g2, _⟩ := id dd0
  refine ⟨dd0.typeIs, fun b z => ?_, ?_⟩
  · cases z
    exact ⟨ob, g1, g2.2.1⟩
  rw [m2.trees]
  refine Calls.callWith_builtin rfl (Calls.evalArgs_plain (Calls.spliced_cons (thn (he.run pins s1 σ H1 _ I1 q1) fun iv s2 ⟨y, H2, I2, ry, q2⟩ =>
    Calls.spliced_cons (thn (hf.run pins s2 σ H2 _ I2 q2) fun fv s3 ⟨z, H3, I3, rz, m, k, d, dc, hk, hd, q3⟩ => Calls.spliced_nil ?_))))
  obtain ⟨b, rfl⟩ := ref_stand hk
  obtain rfl : iv = Value.ref b := ry
  exact n_get hu I3 dc hk rz hd fun v' r' s4 I4 rr hv' => ⟨v', H3, I4, rr, q3 v' hv'⟩
theorem pe_nnew : PE X (.Dict [] [] pos) (tNNew X.prog X.w) := ⟨fun pins s σ H Q I h => by
  have hn : H s.heap.objs.size = none := I.hok.fresh (Nat.le_refl _)
  have hg : (s.heap.push { cls := .type "dict", data := .dict #[] }).get? s.heap.objs.size = some { cls := .type "dict", data := .dict #[] } := Heap.get?_push_size _ rfl
  have hd : (s.heap.objs.size == sysModules) = false := beq_eq_false_iff_ne.mpr (Ne.symm (Nat.ne_of_lt I.big))
  exact wpAny_Dict_empty ⟨.ref s.heap.objs.size, _, I.laid (a := s.heap.objs.size) (o := thisO s.heap.objs.size { cls := .type "dict", data := .dict #[] }) (t' := s.toks) (fun _ _ q => Heap.get?_push_of_some _ q) (Nat.le_refl _) (thisO_ok hg), rfl,
    h _ _ hn (.new hn) ⟨hd, Nat.zero_le _, _, #[], 0, [], upd_same, ⟨rfl, rfl, rfl⟩, rfl, rfl, List.nodup_nil, trivial⟩⟩⟩
/-- len(d) -/
def rLenN (P : Program) (w : World) : List V → Hp → VK → Prop := fun xs H Q => ∃ a m, xs = [.ref a] ∧ IsDc P w H a m ∧ Q (.int ((m.length : Nat) : Int)) H
theorem call_lenN : CallR X (.builtin "len") (rLenN X.prog X.w) := by
  intro pins s σ H xs us Q I r h
  obtain ⟨p, m, rfl, dc, q⟩ := h
  obtain ⟨u, rfl, rx⟩ := vals1 r
  obtain rfl : u = .ref p := rx
  obtain ⟨ys, dd, pd, lx⟩ := dc.there I
  have hl := pd.len
  refine call_len_dictH dc.1 dd (by omega) ?_
  rw [← hl]
  exact ⟨.int ((m.length : Nat) : Int), H, I.tok _, ⟨_, rfl⟩, q⟩
end
end Dw
set_option Elab.async false
set_option linter.all false
set_option maxRecDepth 100000
set_option maxHeartbeats 2000000
/-! dicts of stands: truth, a display, items, values -/
namespace Dw
open PySem PySem.Spec PyProof.Rows L2 Gx
section
variable {X : Cx} {pins : List (Addr × Obj)} {σ : L2.St} {H : Hp} {s : Shared} {a : Addr} {m : List (Stand × PyData)} {A : Around} {E : Value → Shared → Prop}
/-- the raw dict -/
theorem IsDc.rawly (h : IsDc X.prog X.w H a m) (I : Inv X pins σ H s) : ∃ o es ep xs, H a = some (thisO a o) ∧ s.heap.DictRaw a es ep ∧ o.ExactDict ∧ o.data = .dict es ep ∧ es.toList = xs.map (entryOfKey (nestedKind X.prog X.w)) ∧ Pd H m xs := by
  obtain ⟨h0, hl, o, es, ep, xs, h1, h2, h3, h4, h5, h6⟩ := h
  have ho : s.heap.get? a = some o := (show ObjOk X.prog X.w H s.heap a (thisO a o) from I.hok a _ h1).1
  exact ⟨o, es, ep, xs, h1, ⟨o, ho, h2, h3⟩, h2, h3, h4, h6⟩
theorem IsDc.typ (h : IsDc X.prog X.w H a m) (I : Inv X pins σ H s) : s.TypeIs (.ref a) "dict" ∧ ∀ b, Value.ref a = .ref b → ∃ ob, s.heap.get? b = some ob ∧ ob.dict = none := by
  obtain ⟨o, es, ep, xs, _, ⟨ob, g1, g2, g3⟩, _⟩ := h.rawly I
  refine ⟨⟨ob, g1, g2.1⟩, fun b z => ?_⟩
  cases z
  exact ⟨ob, g1, g2.2.1⟩
/-- bool(d) -/
theorem n_truth {Q : Bool → Shared → Prop} (h : IsDc X.prog X.w H a m) (I : Inv X pins σ H s) (q : ∀ s', Inv X pins σ H s' → Q (!m.isEmpty) s') : wpAny (model X.prog X.w) A (truthy (.ref a)) Q E s := by
  obtain ⟨ys, dd, pd, lx⟩ := h.there I
  have hl := pd.len
  have e : ((ys.length : Int) != 0) = !m.isEmpty := by
    rw [← hl]
    cases m with
    | nil => rfl
    | cons x r => simp; omega
  have body : wpAny (model X.prog X.w) A (runValue (.builtin "len" ⟨[.ref a], []⟩)) (fun r s' => r = .int ys.length (s.toks + 1) ∧ Q ((ys.length : Int) != 0) s') E s := by
    refine wpAny_runValue (codeAny_builtin entry_len ?_)
    rw [Around.under_plainId plain_len _]
    refine wpAny_mono (wpAny_len_body_dictH (Q := fun r s' => r = .int ys.length (s.toks + 1) ∧ Q ((ys.length : Int) != 0) s') h.1 dd (by omega) ⟨rfl, by rw [e]; exact q _ (I.tok _)⟩) (fun fin s' z => ?_) fun _ _ z => z
    obtain ⟨r, rfl, z⟩ := z
    exact z
  unfold truthy
  refine wpAny_bind (wpAny_callSpecial?_none (name := Str.ofString "__bool__") dd.typeIs noBool_dict ?_)
  refine wpAny_bind (wpAny_specialOf (name := Str.ofString "__len__") dd.typeIs F.slot_dict_len.lookup ?_)
  refine wpAny_bind (wpAny_mono body (fun r s' z => ?_) fun _ _ z => z)
  obtain ⟨rfl, z⟩ := z
  exact wpAny_pure z
end
/-! ### rules -/
def tNotN (P : Program) (w : World) (te : TE) : TE := fun σ H Q => te σ H fun x H1 => ∃ a m, x = .ref a ∧ IsDc P w H1 a m ∧ Q (.bl m.isEmpty) H1
def tDisp1 (P : Program) (w : World) (tk tv : TE) : TE := fun σ H Q => ∀ p H0, H p = none → Ex H H0 → IsDc P w H0 p [] → tk σ H0 fun x H1 => tv σ H1 fun y H2 => IsDc P w H2 p [] ∧ ∃ k d, Is H2 x (dS k) ∧ Is H2 y d ∧
  ∀ H3, ExB (fun b => b = p) H2 H3 → IsDc P w H3 p [(k, d)] → Q (.ref p) H3
/-- the view of the values -/
def valsO (p a : Addr) : HO := .ext fun h => h.IsValuesView p a
def tVals (P : Program) (w : World) (te : TE) : TE := fun σ H Q => te σ H fun x H1 => ∃ a m, x = .ref a ∧ IsDc P w H1 a m ∧ ∀ p, H1 p = none → Q (.ref p) (upd H1 p (valsO p a))
def rListVals (P : Program) (w : World) : List V → Hp → VK → Prop := fun xs H Q => ∃ p a m, xs = [.ref p] ∧ H p = some (valsO p a) ∧ IsDc P w H a m ∧ ∀ l vs, H l = none → IsA H vs (m.map (·.2)) → Q (.ref l) (upd H l (.lst vs))
def rMinVals (P : Program) (w : World) : List V → Hp → VK → Prop := fun xs H Q => ∃ p a m, xs = [.ref p] ∧ H p = some (valsO p a) ∧ IsDc P w H a m ∧ ∃ is : List Int, m.map (·.2) = is.map .int ∧ is ≠ [] ∧ ∀ j ∈ is, (∀ i ∈ is, j ≤ i) → Q (.int j) H
section
variable {X : Cx} {o e f value : Expr} {pos pos' apos cpos : Pos} {te tk tv : TE}
theorem pe_notN (ha : PE X e te) : PE X (.UnaryOp .Not e pos) (tNotN X.prog X.w te) := by
  refine ⟨fun pins s σ H Q I h => ?_⟩
  refine UnaryOp_ (thn (ha.run pins s σ H _ I h) fun v s1 ⟨x, H1, I1, r1, a, m, ex, dc, q1⟩ => ?_)
  subst ex
  obtain rfl : v = Value.ref a := r1
  refine not_of (n_truth dc I1 fun s2 I2 => ⟨.bl m.isEmpty, H1, I2, ?_, q1⟩)
  rw [Bool.not_not]
  rfl
theorem pe_disp1 (hu : X.A.units + 9 < cLine) {k v : Expr} (hk : PE X k tk) (hv : PE X v tv) : PE X (.Dict [some k] [v] pos) (tDisp1 X.prog X.w tk tv) := by
  refine ⟨fun pins s σ H Q I q => ?_⟩
  have hn : H s.heap.objs.size = none := I.hok.fresh (Nat.le_refl _)
  have hg : (s.heap.push { cls := .type "dict", data := .dict #[] }).get? s.heap.objs.size = some { cls := .type "dict", data := .dict #[] } := Heap.get?_push_size _ rfl
  have hd : (s.heap.objs.size == sysModules) = false := beq_eq_false_iff_ne.mpr (Ne.symm (Nat.ne_of_lt I.big))
  have I1 := I.laid (a := s.heap.objs.size) (o := thisO s.heap.objs.size { cls := .type "dict", data := .dict #[] }) (t' := s.toks) (fun _ _ q => Heap.get?_push_of_some _ q) (Nat.le_refl _) (thisO_ok hg)
  have dc1 : IsDc X.prog X.w (upd H s.heap.objs.size (thisO s.heap.objs.size { cls := .type "dict", data := .dict #[] })) s.heap.objs.size [] := ⟨hd, Nat.zero_le _, _, #[], 0, [], upd_same, ⟨rfl, rfl, rfl⟩, rfl, rfl, List.nodup_nil, trivial⟩
  rw [arm_eval_Dict, zip_pairTrees [some k] [v] X.env pos rfl rfl, dictDisplay_pairs (pairTrees [some k] [v] X.env pos) (by intro z; cases z) (by rw [show (pairTrees [some k] [v] X.env pos).length = 1 from rfl]; decide)]
  refine wpAny_bind (wpAny_standAt (wpAny_bind (wpAny_subDictH (knd := nestedKind X.prog X.w) (show X.A.units + 8 < cLine by omega) (show 1 ≤ 15 by decide) ?_)))
  refine pairTrees_cons_walk (thn (hk.run pins _ σ _ _ I1 (q _ _ hn (.new hn) dc1)) fun u s2 ⟨x, H2, I2, rx, q2⟩ => thn (hv.run pins s2 σ H2 _ I2 q2) fun u' s3 ⟨y, H3, I3, ry, dc3, st, d, hst, hd3, q3⟩ => pairTrees_nil_walk ?_)
  obtain ⟨b, rfl⟩ := ref_stand hst
  obtain rfl : u = Value.ref b := rx
  obtain ⟨xs, dd, pd, _⟩ := dc3.there I3
  obtain ⟨o0, e0⟩ := dc3.soft
  have ex : xs = [] := List.eq_nil_of_length_eq_zero pd.len.symm
  subst ex
  refine ⟨[(nk st, b, u')], ⟨rfl, rfl, nested_stand I3 hst, trivial⟩, dd, fun h' tk' dk hs => wpAny_pure ?_⟩
  obtain ⟨o, es, ep, ho, h2, h3, h4, _, h5⟩ := dk
  have sf : Soft (thisO s.heap.objs.size o0) := soft_ext _
  have x : ExB (fun z => z = s.heap.objs.size) H3 (upd H3 s.heap.objs.size (thisO s.heap.objs.size o)) := .write rfl e0 sf
  have pd' : Pd H3 [(st, d)] [(nk st, b, u')] := ⟨⟨rfl, hst, y, ry, hd3⟩, trivial⟩
  exact ⟨.ref s.heap.objs.size, _, d_write I3 (by rw [e0]; exact True.intro) hs ⟨o, ho⟩ (thisO_ok ho), rfl, q3 _ x ⟨hd, (show 1 ≤ 50000 by decide), o, es, ep, _, upd_same, h2, h3, h4, h5, pd'.keep x.tup⟩⟩
/-- d.values() -/
theorem pe_vals (ho : PE X e te) (hbase : attributeBase e "values" X.env (eval e X.env) = eval e X.env := by rfl) (hline : (apos.endLine == cpos.line) = true := by rfl) : PE X (.Call (.Attribute e "values" apos) [] [] cpos) (tVals X.prog X.w te) := by
  refine ⟨fun pins s σ H Q I h => ?_⟩
  refine wpAny_Call_method0_late hbase hline (thn (ho.run pins s σ H _ I h) fun v s1 ⟨x, H1, I1, r1, a, m, ex, dc, q1⟩ => ?_)
  subst ex
  obtain rfl : v = Value.ref a := r1
  obtain ⟨t1, t2⟩ := dc.typ I1
  obtain ⟨o, es, ep, xs, _, raw, _⟩ := dc.rawly I1
  refine ⟨"dict", "dict.values", F.plainAttrs_dict, F.slot_dict_values, F.type_dict_values, t1, t2, Calls.callWith_builtin rfl (PySem.evalArgs_none ?_)⟩
  refine call_meetsIn F.slot_dict_values t1 F.entry_dict_values (F.args_dict_values_1 _) (meets_dict_values_raw a dc.1) ⟨⟨es, ep, raw⟩, ?_⟩
  have hg : (s1.heap.push { cls := .type "dict_values", data := .fields #[.ref a] }).get? s1.heap.objs.size = some { cls := .type "dict_values", data := .fields #[.ref a] } := Heap.get?_push_size _ rfl
  refine ⟨.ref s1.heap.objs.size, upd H1 s1.heap.objs.size (valsO s1.heap.objs.size a), I1.laid (t' := s1.toks) (fun b u e => Heap.get?_push_of_some _ e) (Nat.le_refl _) ⟨⟨_, hg, rfl, rfl⟩, ⟨_, hg⟩, fun h1 h2 z k => ?_⟩, rfl, q1 _ (I1.hok.fresh (Nat.le_refl _))⟩
  obtain ⟨ov, z1, z2⟩ := z
  exact ⟨ov, k ov z1, z2⟩
theorem vals_at {pins : List (Addr × Obj)} {σ : L2.St} {H : Hp} {s : Shared} {p a : Addr} (I : Inv X pins σ H s) (h : H p = some (valsO p a)) : s.heap.IsValuesView p a := (show ObjOk X.prog X.w H s.heap p (valsO p a) from I.hok p _ h).1
theorem ent_at {es : Array DictEntry} {xs : Ents} {P : Program} {w : World} (he : es.toList = xs.map (entryOfKey (nestedKind P w))) {i : Nat} (hi : i < es.size) : ∃ q, xs[i]? = some q ∧ es[i].key = .ref q.2.1 ∧ es[i].val = q.2.2 := by
  have e := entry_at he i
  rw [Array.getElem?_eq_getElem hi] at e
  obtain ⟨q, hq, e2⟩ := Option.map_eq_some_iff.mp e.symm
  exact ⟨q, hq, by rw [← e2]; rfl, by rw [← e2]; rfl⟩
theorem cr_listVals (hc : X.calm = true) : CallR X (.type "list") (rListVals X.prog X.w) := by
  intro pins s σ H xs us Q I r h
  obtain ⟨p, a, m, rfl, hp, dc, q⟩ := h
  obtain ⟨u, rfl, rx⟩ := vals1 r
  obtain rfl : u = .ref p := rx
  obtain ⟨o, es, ep, xs, _, raw, _, _, he, pd⟩ := dc.rawly I
  have hes : es.size = m.length := by rw [size_of_entries he, pd.len]
  have hl := dc.2.1
  refine PySem.W.kdl_call (KdlSrc.rawValues (es := es) (ep := ep) (r := p) (d := a)) (I.ok.hd hc) ⟨vals_at I hp, raw⟩ (by rw [sizeLine_eq]; omega) fun h' tk acc c' hk hS hacc => ?_
  have hsz := hacc.1
  have get : ∀ (i : Nat) (v : Value), acc.toList[i]? = some v → ∃ pr x, m[i]? = some pr ∧ RelV x v ∧ Is H x pr.2 := fun i v hv => by
    obtain ⟨hi, e⟩ := hacc.2 i v (by rw [← Array.getElem?_toList]; exact hv)
    obtain ⟨q', h1, _, h3⟩ := ent_at he hi
    obtain ⟨pr, k1, _, _, x, k2, k3⟩ := pd.at h1
    exact ⟨pr, x, k1, by rw [e, h3]; exact k2, k3⟩
  have build : ∀ (l : List Value) (m' : List (Stand × PyData)), l.length = m'.length → (∀ (i : Nat) (v : Value), l[i]? = some v → ∃ pr x, m'[i]? = some pr ∧ RelV x v ∧ Is H x pr.2) → ∃ vs, Vals vs l ∧ IsA H vs (m'.map (·.2)) := by
    intro l
    induction l with
    | nil =>
      intro m' hl _
      have e : m' = [] := List.eq_nil_of_length_eq_zero hl.symm
      subst e
      exact ⟨[], .nil, .nil⟩
    | cons v l ih =>
      intro m' hl hg
      cases m' with
      | nil => cases hl
      | cons pr m' =>
        obtain ⟨vs, r1, r2⟩ := ih m' (by simpa using hl) fun i v hv => hg (i + 1) v hv
        obtain ⟨pr', x, e, k1, k2⟩ := hg 0 v rfl
        have e := Option.some.inj e
        subst e
        exact ⟨x :: vs, .cons k1 r1, .cons k2 r2⟩
  obtain ⟨vs, r1, r2⟩ := build acc.toList m (by rw [Array.length_toList, hsz, hes]) get
  have hn : H s.heap.objs.size = none := I.hok.fresh (Nat.le_refl _)
  have hlen : acc.toList.length ≤ 50000 := by rw [Array.length_toList, hsz, hes]; exact hl
  refine ⟨.ref s.heap.objs.size, _, I.laid (a := s.heap.objs.size) (o := .lst vs) (t' := tk) hk (Nat.le_refl _) ⟨by rw [r1.length, sizeLine_eq]; omega, acc.toList, c', r1, ?_⟩, rfl, q _ vs hn r2⟩
  rw [hS]

theorem cr_minVals (hc : X.calm = true) : CallR X (.builtin "min") (rMinVals X.prog X.w) := by
  intro pins s σ H xs us Q I r h
  obtain ⟨p, a, m, rfl, hp, dc, js, hjs, hne, q⟩ := h
  obtain ⟨u, rfl, rx⟩ := vals1 r
  obtain rfl : u = .ref p := rx
  obtain ⟨o, es, ep, xs, _, raw, _, _, he, pd⟩ := dc.rawly I
  have hes : es.size = m.length := by rw [size_of_entries he, pd.len]
  have hlj : m.length = js.length := by
    have := congrArg List.length hjs
    simpa using this
  have hpos : 0 < js.length := List.length_pos_iff.mpr hne
  have hval : ∀ (i : Nat) (v : Value), (∃ hi : i < es.size, v = es[i].val) → ∃ t, v = Value.int (js.getD i 0) t := fun i v ⟨hi, e⟩ => by
    obtain ⟨q', h1, _, h3⟩ := ent_at he hi
    obtain ⟨pr, k1, _, _, x, k2, k3⟩ := pd.at h1
    have e1 : (m.map (·.2))[i]? = some pr.2 := by rw [List.getElem?_map, k1]; rfl
    rw [hjs, List.getElem?_map] at e1
    obtain ⟨j, hj, e2⟩ := Option.map_eq_some_iff.mp e1
    rw [← e2] at k3
    have ex := k3.int_inv
    subst ex
    obtain ⟨t, e3⟩ := k2
    refine ⟨t, ?_⟩
    rw [e, h3, e3, List.getD_eq_getElem?_getD, hj]
    rfl
  have hlt : a < s.heap.objs.size := raw.lt_size
  have view := vals_at I hp
  refine call_min_walk (wpAny_pyIter_values_raw view raw ?_)
  refine ⟨_, _, _, _, _, _, _, rfl, Walks.rawValues (prog := X.prog) (w := X.w) (A := X.A.in1) (I.ok.hd hc) s.heap.objs.size a (Nat.ne_of_lt hlt) es ep, ⟨⟨_, Heap.get?_push_size _ rfl, rfl, rfl⟩, raw.at fun o e => Heap.get?_push_of_some _ e⟩, fun b hb => ?_, by omega, CmpOf.ints_lt (fun i => js.getD i 0) hval, fun v h' tk hP hk => ?_⟩
  · show b < (s.heap.push _).objs.size
    rw [Heap.size_push]
    rcases List.mem_cons.mp hb with e | hb
    · rw [e]
      exact Nat.lt_succ_self _
    · rw [List.mem_singleton.mp hb]
      exact Nat.lt_succ_of_lt hlt
  · obtain ⟨t, rfl⟩ := hval _ v hP
    obtain ⟨b1, b2⟩ := argBest_lt (fun i => js.getD i 0) (es.size - 1)
    refine ⟨.int _, H, I.kept (t' := tk) fun b u e => hk b u (fun hm => ?_) (Heap.get?_push_of_some _ e), ⟨t, rfl⟩, q _ ?_ fun i hi => ?_⟩
    · have e2 := Heap.lt_size e
      rw [List.mem_singleton.mp hm] at e2
      exact Nat.lt_irrefl _ e2
    · have hb : argBest (fun i j => decide (js.getD i 0 < js.getD j 0)) (es.size - 1) < js.length := by omega
      rw [List.getD_eq_getElem?_getD, List.getElem?_eq_getElem hb]
      exact List.getElem_mem hb
    · obtain ⟨n, hn, e⟩ := List.mem_iff_getElem.mp hi
      have e2 : js.getD n 0 = i := by
        rw [List.getD_eq_getElem?_getD, List.getElem?_eq_getElem hn, ← e]
        rfl
      rw [← e2]
      exact b2 n (by omega)
end
/-! ### items -/
/-- the pairs of the dict at a (the object o), in new tuples -/
def ItN (a : Addr) (o : Obj) (m : List (Stand × PyData)) (xs : Ents) : It :=
  ⟨fun i H => H a = some (thisO a o) ∧ Pd H m xs ∧ i < m.length,
    fun i H x H' => ∃ T b v pr, x = .ref T ∧ H T = none ∧ H' = upd H T (.tup [.ref b, v]) ∧ m[i]? = some pr ∧ Is H (.ref b) (dS pr.1) ∧ Is H v pr.2,
    fun i H => H a = some (thisO a o) ∧ i = m.length⟩
theorem turn_N {P : Program} {w : World} {K : PySem.W.Frag} {es' : List Expr} {kk : Nat} {at_ : Pos} {a I : Addr} {o : Obj} {es : Array DictEntry} {ep : Nat} {m : List (Stand × PyData)} {xs : Ents} (hne : a ≠ I) (hx : o.ExactDict) (hd : o.data = .dict es ep)
    (he : es.toList = xs.map (entryOfKey (nestedKind P w))) (hl : m.length = xs.length) : Turn P w K (.Tuple es' kk at_) (ItN a o m xs) [I] I (fun i h => ∃ ok ov, IsItemIter h I a i es.size ep ok ov) where
  mem := by simp
  obj := fun i h st b hb => by
    obtain ⟨ok, ov, st⟩ := st
    rw [List.mem_singleton.mp hb]
    exact ⟨_, st, fun _ j => nomatch j⟩
  keep := fun i h h' st k => by
    obtain ⟨ok, ov, st⟩ := st
    exact ⟨ok, ov, k I (by simp) _ st⟩
  item := by
    intro X hP hw hK hc i pins s σ H E In hf st hg
    subst hP hw hK
    have st0 := st
    obtain ⟨hH, pd, hi⟩ := hg
    have ho : s.heap.get? a = some o := (show ObjOk X.prog X.w H s.heap a (thisO a o) from In.hok a _ hH).1
    have hes : es.size = m.length := by rw [size_of_entries he, hl]
    have W := WalksT.rawItems (prog := X.prog) (w := X.w) (A := X.A) (In.ok.hd hc) I a hne es ep
    refine W.item i s _ _ (by omega) ⟨st, ⟨o, ho, hx, hd⟩⟩ fun T vals h' tk hP hT hT' hm hk => ?_
    obtain ⟨hi', rfl⟩ := hP
    refine ⟨.ref T, rfl, W.go es' kk at_ i T { s with heap := h', toks := tk } _ _ hm fun h2 st2 k2' => ?_⟩
    obtain ⟨q, h1, g1, g2⟩ := ent_at he hi'
    obtain ⟨pr, k1, _, kb, x, k2, k3⟩ := pd.at h1
    have hT2 := hT'.at fun x e => k2' T x (W.apart i T h' hm) e
    obtain ⟨oT, eT, cT, nT, dT⟩ := hT2
    have nw : ObjOk X.prog X.w (upd H T (.tup [.ref q.2.1, x])) h2 T (.tup [.ref q.2.1, x]) := ⟨by show 2 ≤ sizeLine; decide, [es[i].key, es[i].val], .cons (by rw [g1]; rfl) (.cons (by rw [g2]; exact k2) .nil), ⟨oT, eT, cT, nT, dT⟩⟩
    have I1 : Inv X pins σ (upd H T (.tup [.ref q.2.1, x])) { s with heap := h2, toks := tk } := In.turnedNew (ch := [I]) (fun c y hc' e => k2' c y hc' (hk c y hc' e)) hf hT nw
    obtain ⟨t1, _⟩ := st2
    refine ⟨.ref T, _, I1, rfl, ⟨T, q.2.1, x, pr, rfl, In.hok.fresh hT, rfl, k1, kb, k3⟩, t1, fun c hc' => ?_⟩
    obtain ⟨ok, ov, st1⟩ := st0
    have e := List.mem_singleton.mp hc'
    subst e
    rw [upd_ne (Nat.ne_of_lt (Nat.lt_of_lt_of_le (Heap.lt_size st1) hT))]
    exact (hf c (by simp)).1
  done := by
    intro X hP hw hK hc i pins s σ H E In hf st hg
    subst hP hw hK
    obtain ⟨hH, rfl⟩ := hg
    have ho : s.heap.get? a = some o := (show ObjOk X.prog X.w H s.heap a (thisO a o) from In.hok a _ hH).1
    have hes : es.size = m.length := by rw [size_of_entries he, hl]
    have W := WalksT.rawItems (prog := X.prog) (w := X.w) (A := X.A) (In.ok.hd hc) I a hne es ep
    rw [← hes] at st
    exact W.done s _ _ ⟨st, ⟨o, ho, hx, hd⟩⟩ fun h' tk hk => ⟨rfl, In.turnedL (ch := [I]) hk hf⟩
  self := fun A i s Q E st h => by
    obtain ⟨ok, ov, st⟩ := st
    exact wpAny_pyIter_itemiter st h
def iItems (P : Program) (w : World) (te : TE) : TI := fun σ H R => te σ H fun x H1 => ∃ a m, x = .ref a ∧ IsDc P w H1 a m ∧ ∀ o xs, H1 a = some (thisO a o) → Pd H1 m xs → R (ItN a o m xs) H1
theorem pi_items {X : Cx} {e : Expr} {te : TE} {apos cpos r : Pos} {es : List Expr} {kk : Nat} (ho : PE X e te) (hbase : attributeBase e "items" X.env (eval e X.env) = eval e X.env := by rfl) (hline : (apos.endLine == cpos.line) = true := by rfl) :
    PI X (.Tuple es kk r) (.Call (.Attribute e "items" apos) [] [] cpos) (iItems X.prog X.w te) := by
  refine ⟨fun pins s σ H R I h => ?_⟩
  refine wpAny_Call_method0_late hbase hline (thn (ho.run pins s σ H _ I h) fun v s1 ⟨x, H1, I1, r1, a, m, ex, dc, q1⟩ => ?_)
  subst ex
  obtain rfl : v = Value.ref a := r1
  obtain ⟨t1, t2⟩ := dc.typ I1
  obtain ⟨o, es0, ep, xs, h1, raw, h2, h3, h4, pd⟩ := dc.rawly I1
  refine ⟨"dict", "dict.items", F.plainAttrs_dict, F.slot_dict_items, F.type_dict_items, t1, t2, Calls.callWith_builtin rfl (PySem.evalArgs_none ?_)⟩
  refine call_meetsIn F.slot_dict_items t1 F.entry_dict_items (F.args_dict_items_1 _) (meets_dict_items_raw a dc.1) ⟨⟨es0, ep, raw⟩, ?_⟩
  have k1 : ∀ b u, s1.heap.get? b = some u → (s1.heap.push { cls := .type "dict_items", data := .fields #[.ref a] }).get? b = some u := fun b u e => Heap.get?_push_of_some _ e
  have raw1 : (s1.heap.push { cls := .type "dict_items", data := .fields #[.ref a] }).DictRaw a es0 ep := raw.at fun o e => k1 a o e
  have I2 : Inv X pins σ H1 { s1 with heap := s1.heap.push { cls := .type "dict_items", data := .fields #[.ref a] } } := I1.kept (t' := s1.toks) k1
  refine wpAny_pyIter_items_raw (d := a) ⟨_, Heap.get?_push_size _ rfl, rfl, rfl⟩ raw1 ?_
  have I3 := I2.kept (t' := s1.toks) (h' := (s1.heap.push { cls := .type "dict_items", data := .fields #[.ref a] }).push { cls := .type "dict_itemiterator", data := .fields #[.none, .bool false, .ref a, .int 0 0, .int es0.size 0, .int ep 0, .none, .none] }) fun b u e => Heap.get?_push_of_some _ e
  have hlt : a < (s1.heap.push { cls := .type "dict_items", data := .fields #[.ref a] }).objs.size := raw1.lt_size
  refine ⟨_, [(s1.heap.push { cls := .type "dict_items", data := .fields #[.ref a] }).objs.size], _, _, H1, rfl, I3, turn_N (Nat.ne_of_lt hlt) h2 h3 h4 pd.len, ⟨_, _, Heap.get?_push_size _ rfl⟩, fun c hc => ?_, q1 o xs h1 pd⟩
  rw [List.mem_singleton.mp hc]
  exact I2.fpOk (Nat.le_refl _) (I2.hok.fresh (Nat.le_refl _))
/-- a loop over d.items() -/
theorem s_forN {P : Program} {w : World} {σ : L2.St} {H : Hp} {D : Ends} {g : TG} {tb : TS} {te : TE} {a : Addr} {m : List (Stand × PyData)} (R : Addr → Prop) (hR : ¬ R a) (Pv : Nat → L2.St → Hp → Prop) (dc : IsDc P w H a m) (h : ∀ Q : VK, Q (.ref a) H → te σ H Q) (h0 : Pv 0 σ H)
    (hs : ∀ (i : Nat) pr v u N σ' H' (Z : L2.St → Hp → Prop), m[i]? = some pr → ExB R H H' → Pv i σ' H' → H' N = none → Is H' v (dS pr.1) → Is H' u pr.2 → (∀ σ4 H4, ExB R (upd H' N (.tup [v, u])) H4 → Pv (i + 1) σ4 H4 → Z σ4 H4) →
      g (.ref N) σ' (upd H' N (.tup [v, u])) fun σ2 H3 => tb (again D Z) σ2 H3)
    (hd : ∀ σ' H', ExB R H H' → Pv m.length σ' H' → D.nx σ' H') : tFor (iItems P w te) g tb D σ H := h _ ⟨a, m, rfl, dc, fun o xs h1 pd => by
  have keepA : ∀ {H' : Hp}, ExB R H H' → H' a = some (thisO a o) := fun x => x.keep _ _ h1 (fun _ z => by cases z) hR
  refine ⟨fun i n σ' H' => i + n = m.length ∧ ExB R H H' ∧ Pv i σ' H', ⟨_, Nat.zero_add _, .refl H, h0⟩, fun i n σ' H' ⟨w1, w2, w3⟩ => ?_⟩
  by_cases hlt : i < m.length
  · refine .inr ⟨⟨keepA w2, pd.keep w2.tup, hlt⟩, fun σ4 H4 => ExB R H H4 ∧ Pv (i + 1) σ4 H4, fun σ4 H4 ⟨n1, n2⟩ => ⟨n - 1, by omega, by omega, n1, n2⟩, fun y H2 hy => ?_⟩
    obtain ⟨T, b, v, pr, rfl, hT, rfl, hp, hb, hv⟩ := hy
    have w4 : ExB R H (upd H' T (.tup [.ref b, v])) := w2.trans (.new hT)
    exact hs i pr (.ref b) v T σ' H' _ hp w2 w3 hT hb hv fun σ4 H4 n1 n2 => ⟨w4.trans n1, n2⟩
  · have e : i = m.length := by omega
    subst e
    exact .inl ⟨⟨keepA w2, rfl⟩, hd σ' H' w2 w3⟩⟩
end Dw
set_option Elab.async false
set_option linter.all false
set_option maxRecDepth 100000
set_option maxHeartbeats 4000000
namespace Dw
open PySem PySem.Spec PyProof.Rows L2 Gx
/-! ### the mathematics of ways_through -/
abbrev Ways := List (Stand × List Nat)
def wIn (wk : Wk) (k n : Nat) (x : Stand × List Nat) (acc : Ways) : Ways := if (dyedM wk x.1 k n).2 && !(valD acc (dyedM wk x.1 k n).1).isSome then acc ++ [((dyedM wk x.1 k n).1, x.2 ++ [n])] else acc
def wOne (wk : Wk) (k : Nat) (x : Stand × List Nat) (r : Nat) (acc : Ways) : Ways := (List.range r).foldl (fun acc n => wIn wk k n x acc) acc
def wAll (wk : Wk) (k : Nat) (found : Ways) (acc : Ways) : Ways := found.foldl (fun acc x => wOne wk k x (wk.kind k).routes.length acc) acc
def wStep (wk : Wk) (k : Nat) (found : Ways) : Ways := wAll wk k found []
def ways (wk : Wk) (row : List Nat) : Ways := row.foldl (fun f k => wStep wk k f) [(wk.vats, [])]
def WOk (wk : Wk) (acc : Ways) : Prop := ∀ x ∈ acc, StOk wk x.1
theorem wIn_len {wk : Wk} {k n : Nat} {x : Stand × List Nat} {acc : Ways} : (wIn wk k n x acc).length ≤ acc.length + 1 := by
  unfold wIn
  split
  · rw [List.length_append]; exact Nat.le_refl _
  · omega
theorem wOne_succ {wk : Wk} {k r : Nat} {x : Stand × List Nat} {acc : Ways} : wOne wk k x (r + 1) acc = wIn wk k r x (wOne wk k x r acc) := by
  unfold wOne
  rw [List.range_succ, List.foldl_append]
  rfl
theorem wOne_len {wk : Wk} {k : Nat} {x : Stand × List Nat} {acc : Ways} : ∀ r, (wOne wk k x r acc).length ≤ acc.length + r
  | 0 => Nat.le_refl _
  | r + 1 => by
    rw [wOne_succ]
    have h1 := wIn_len (wk := wk) (k := k) (n := r) (x := x) (acc := wOne wk k x r acc)
    have h2 := wOne_len (wk := wk) (k := k) (x := x) (acc := acc) r
    omega
theorem wAll_snoc {wk : Wk} {k : Nat} {found : Ways} {x : Stand × List Nat} {acc : Ways} : wAll wk k (found ++ [x]) acc = wOne wk k x (wk.kind k).routes.length (wAll wk k found acc) := by
  unfold wAll
  rw [List.foldl_append]
  rfl
theorem wAll_len {wk : Wk} {k : Nat} : ∀ {found acc : Ways}, (wAll wk k found acc).length ≤ acc.length + found.length * (wk.kind k).routes.length
  | [], acc => by simp [wAll]
  | x :: r, acc => by
    have h1 := wOne_len (wk := wk) (k := k) (x := x) (acc := acc) (wk.kind k).routes.length
    have h2 := wAll_len (wk := wk) (k := k) (found := r) (acc := wOne wk k x (wk.kind k).routes.length acc)
    have e : wAll wk k (x :: r) acc = wAll wk k r (wOne wk k x (wk.kind k).routes.length acc) := rfl
    rw [e, List.length_cons, Nat.add_mul, Nat.one_mul]
    omega
theorem wIn_ok {wk : Wk} (W : WkOk wk) {k n : Nat} (h : At wk k n) {x : Stand × List Nat} (hx : StOk wk x.1) {acc : Ways} (ha : WOk wk acc) : WOk wk (wIn wk k n x acc) := by
  unfold wIn
  split
  · intro y hy
    rcases List.mem_append.mp hy with hy | hy
    · exact ha y hy
    · rw [List.mem_singleton.mp hy]
      exact dyedM_ok W hx h
  · exact ha
theorem wOne_ok {wk : Wk} (W : WkOk wk) {k : Nat} (hk : k < wk.kinds.length) {x : Stand × List Nat} (hx : StOk wk x.1) {acc : Ways} (ha : WOk wk acc) : ∀ r, r ≤ (wk.kind k).routes.length → WOk wk (wOne wk k x r acc)
  | 0, _ => ha
  | r + 1, hr => by
    rw [wOne_succ]
    exact wIn_ok W ⟨hk, by omega⟩ hx (wOne_ok W hk hx ha r (by omega))
theorem wAll_ok {wk : Wk} (W : WkOk wk) {k : Nat} (hk : k < wk.kinds.length) : ∀ {found acc : Ways}, WOk wk found → WOk wk acc → WOk wk (wAll wk k found acc)
  | [], acc, _, ha => ha
  | x :: r, acc, hf, ha => wAll_ok (found := r) W hk (fun y hy => hf y (List.mem_cons_of_mem _ hy)) (wOne_ok W hk (hf x (by simp)) ha _ (Nat.le_refl _))
theorem ways_snoc {wk : Wk} {row : List Nat} {k : Nat} : ways wk (row ++ [k]) = wStep wk k (ways wk row) := by
  unfold ways
  rw [List.foldl_append]
  rfl
/-- the works of the law: no kind has more than four routes -/
def Few (wk : Wk) : Prop := ∀ k, k < wk.kinds.length → (wk.kind k).routes.length ≤ 4
theorem ways_ok {wk : Wk} (W : WkOk wk) (F : Few wk) : ∀ {row : List Nat}, (∀ k ∈ row, k < wk.kinds.length) → WOk wk (ways wk row) ∧ (ways wk row).length ≤ 4 ^ row.length := by
  have key : ∀ (row : List Nat) (f : Ways) (n : Nat), (∀ k ∈ row, k < wk.kinds.length) → WOk wk f → f.length ≤ n → WOk wk (row.foldl (fun f k => wStep wk k f) f) ∧ (row.foldl (fun f k => wStep wk k f) f).length ≤ n * 4 ^ row.length := by
    intro row
    induction row with
    | nil => intro f n _ h hl; exact ⟨h, by simpa using hl⟩
    | cons k row ih =>
      intro f n hr h hl
      have hk := hr k (by simp)
      have h1 : WOk wk (wStep wk k f) := wAll_ok W hk h fun _ z => by simp at z
      have h2 : (wStep wk k f).length ≤ n * 4 := by
        have := wAll_len (wk := wk) (k := k) (found := f) (acc := [])
        have h3 : f.length * (wk.kind k).routes.length ≤ n * 4 := Nat.mul_le_mul hl (F k hk)
        unfold wStep
        simp at this
        omega
      obtain ⟨g1, g2⟩ := ih (wStep wk k f) (n * 4) (fun z hz => hr z (List.mem_cons_of_mem _ hz)) h1 h2
      refine ⟨g1, Nat.le_trans g2 ?_⟩
      rw [List.length_cons, Nat.pow_succ, Nat.mul_assoc, Nat.mul_comm 4]
      exact Nat.le_refl _
  intro row hr
  have := key row [(wk.vats, [])] 1 hr (fun x hx => by rw [List.mem_singleton.mp hx]; exact stOk0 W) (Nat.le_refl _)
  rw [Nat.one_mul] at this
  exact this
def toD (m : Ways) : List (Stand × PyData) := m.map fun x => (x.1, dN x.2)
theorem valD_map {α β : Type} (f : α → β) (k : Stand) : ∀ m : List (Stand × α), valD (m.map fun x => (x.1, f x.2)) k = (valD m k).map f
  | [] => rfl
  | x :: r => by
    rw [List.map_cons]
    by_cases e : x.1 = k
    · rw [valD_pos (x := (x.1, f x.2)) e, valD_pos e]; rfl
    · rw [valD_neg (x := (x.1, f x.2)) e, valD_neg e, valD_map f k r]
theorem toD_wIn {wk : Wk} {k n : Nat} {x : Stand × List Nat} {acc : Ways} : toD (wIn wk k n x acc) = if (dyedM wk x.1 k n).2 && !(valD (toD acc) (dyedM wk x.1 k n).1).isSome then putD (toD acc) (dyedM wk x.1 k n).1 (dN (x.2 ++ [n])) else toD acc := by
  have e : (valD (toD acc) (dyedM wk x.1 k n).1).isSome = (valD acc (dyedM wk x.1 k n).1).isSome := by
    unfold toD
    rw [valD_map, Option.isSome_map]
  unfold wIn
  rw [e]
  split
  · rename_i h
    have h2 : (valD acc (dyedM wk x.1 k n).1).isSome = false := by
      have := (Bool.and_eq_true _ _ ▸ h).2
      simpa using this
    unfold putD
    rw [if_neg (by rw [e, h2]; exact Bool.false_ne_true)]
    simp [toD]
  · rfl
/-! ### what evaluates -/
section
variable {P : Program} {w : World} {K : PySem.W.Frag} {σ : L2.St} {H : Hp} {a : Addr} {m : List (Stand × PyData)} {k : Stand} {d : PyData} {i : Nat} {ty tv tx : TE} {D : Ends}
theorem ev_nnotin (hy : Ev ty σ H (dS k)) (hv : σ[i]? = some (some (.ref a))) (dc : IsDc P w H a m) : Ev (tNNotIn P w ty (tVar i)) σ H (.bool (!(valD m k).isSome)) := fun H1 x Q q =>
  hy H1 x _ fun v H2 x2 hv2 => ⟨.ref a, hv, a, m, k, rfl, (dc.ex0 x).ex0 x2, hv2, q _ H2 x2 (.bl _)⟩
theorem ev_lenN (hv : σ[i]? = some (some (.ref a))) (dc : IsDc P w H a m) : Ev (tCB (rLenN P w) (tCons (tVar i) tNil)) σ H (.int (m.length : Int)) := fun H1 x Q q =>
  ⟨.ref a, hv, a, m, rfl, dc.ex0 x, q _ H1 (.refl H1) (.int _)⟩
theorem ev_nget {d0 : PyData} (hv : σ[i]? = some (some (.ref a))) (dc : IsDc P w H a m) (hy : Ev ty σ H (dS k)) (hx : Ev tx σ H d0) : Ev (tNGet P w (tVar i) ty tx) σ H ((valD m k).getD d0) := fun H1 x Q q =>
  ⟨.ref a, hv, a, rfl, ⟨m, dc.ex0 x⟩, hy H1 x _ fun y H2 x2 hy2 => hx H2 (x.trans x2) _ fun z H3 x3 hz => ⟨m, k, d0, ((dc.ex0 x).ex0 x2).ex0 x3, hy2.ex x3, hz, fun v hv' => q v H3 (x2.trans x3) hv'⟩⟩
theorem s_nput (hd : Ev tv σ H d) (hv : σ[i]? = some (some (.ref a))) (hy : Ev ty σ H (dS k)) (dc : IsDc P w H a m) (hl : m.length < 50000) (kk : ∀ H4, ExB (fun b => b = a) H H4 → IsDc P w H4 a (putD m k d) → D.nx σ H4) : sNPut P w (tVar i) ty tv D σ H :=
  hd H (.refl H) _ fun v H1 x1 hv1 => ⟨.ref a, hv, hy H1 x1 _ fun y H2 x2 hy2 => ⟨a, m, k, d, rfl, (dc.ex0 x1).ex0 x2, hl, hy2, hv1.ex x2, fun H4 x4 dc4 => kk H4 ((ExB.up (x1.trans x2)).trans x4) dc4⟩⟩
theorem s_disp1 {j : Nat} (hy : Ev ty σ H (dS k)) (hd : Ev tv σ H d) (kk : ∀ p H', H p = none → Ex H H' → IsDc P w H' p [(k, d)] → D.nx (σ.set j (some (.ref p))) H') : tAsg (tDisp1 P w ty tv) (gName j) D σ H := fun p H0 hp x0 dc =>
  hy H0 x0 _ fun y H1 x1 hy1 => hd H1 (x0.trans x1) _ fun v H2 x2 hv2 => ⟨(dc.ex0 x1).ex0 x2, k, d, hy1.ex x2, hv2, fun H3 x3 dc3 => kk p H3 hp (ex_over ((x0.trans x1).trans x2) x3 fun r e => by rw [e]; exact hp) dc3⟩
theorem s_nnew {j : Nat} (kk : ∀ p H', H p = none → Ex H H' → IsDc P w H' p [] → D.nx (σ.set j (some (.ref p))) H') : tAsg (tNNew P w) (gName j) D σ H := fun p H0 hp x0 dc => kk p H0 hp x0 dc
/-- the answer a dict of stands -/
def spD (P : Program) (w : World) (T : List Addr) (f : List PyData → List (Stand × PyData) → Prop) : Sp := fun vs H Q _ => ∃ ds m, IsA H vs ds ∧ f ds m ∧ (∀ P ∈ T, TabD 1 H P) ∧ ∀ a H', Ex H H' → IsDc P w H' a m → Q (.ref a) H'
def EvN (P : Program) (w : World) (te : TE) (σ : L2.St) (H : Hp) (m : List (Stand × PyData)) : Prop := ∀ H1, Ex H H1 → ∀ Q : VK, (∀ a H2, Ex H1 H2 → IsDc P w H2 a m → Q (.ref a) H2) → te σ H1 Q
theorem en_call {T : List Addr} {f : List PyData → List (Stand × PyData) → Prop} {E : XK} {ta : TA} {ds : List PyData} (h : EvA ta σ H ds) (hf : f ds m) (hT : ∀ P ∈ T, TabD 1 H P) : EvN P w (tCall (spD P w T f) [] E ta) σ H m := fun H1 x Q q =>
  h H1 x _ fun vs H2 x2 hvs => ⟨ds, m, by rw [List.append_nil]; exact hvs, hf, fun P hP => x2.tab _ _ (x.tab _ _ (hT P hP)), fun v H' x3 hv => q v H' (x2.trans x3) hv⟩
theorem ev_notN {te : TE} (h : EvN P w te σ H m) : Ev (tNotN P w te) σ H (.bool m.isEmpty) := fun H1 x Q q => h H1 x _ fun a H2 x2 dc => ⟨a, m, rfl, dc, q _ H2 x2 (.bl _)⟩
theorem el_listVals {te : TE} (h : EvN P w te σ H m) : EvL (tCB (rListVals P w) (tCons (tVals P w te) tNil)) σ H (m.map (·.2)) := fun H1 x Q q => h H1 x _ fun a H2 x2 dc => ⟨a, m, rfl, dc, fun p hp =>
  have xp : Ex H2 (upd H2 p (valsO p a)) := .new hp
  ⟨p, a, m, rfl, upd_same, dc.ex0 xp, fun l vs hl hvs => q l vs _ (x2.trans (xp.trans (.new hl))) (x2.back l (xp.back l hl)) upd_same (hvs.ex (R := none1) (.new hl))⟩⟩
theorem ev_minVals {te : TE} {js : List Int} {j : Int} (h : EvN P w te σ H m) (hj : m.map (·.2) = js.map .int) (hne : js ≠ []) (hm : j ∈ js) (hl : ∀ i ∈ js, j ≤ i) : Ev (tCB (rMinVals P w) (tCons (tVals P w te) tNil)) σ H (.int j) := fun H1 x Q q => h H1 x _ fun a H2 x2 dc => ⟨a, m, rfl, dc, fun p hp =>
  have xp : Ex H2 (upd H2 p (valsO p a)) := .new hp
  ⟨p, a, m, rfl, upd_same, dc.ex0 xp, js, hj, hne, fun i hi hil => by
    have e : i = j := Int.le_antisymm (hil j hm) (hl i hi)
    subst e
    exact q _ _ (x2.trans xp) (.int _)⟩⟩
theorem en_var (hv : σ[i]? = some (some (.ref a))) (dc : IsDc P w H a m) : EvN P w (tVar i) σ H m := fun H1 x Q q => ⟨.ref a, hv, q a H1 (.refl H1) (dc.ex0 x)⟩
end
end Dw
set_option Elab.async false
set_option linter.all false
set_option maxRecDepth 100000
set_option maxHeartbeats 4000000
namespace Dw
/-! which routes ways_through finds -/
theorem snoc_ind {α : Type} {motive : List α → Prop} (h0 : motive []) (h1 : ∀ l x, motive l → motive (l ++ [x])) : ∀ l, motive l := by
  have key : ∀ l : List α, motive l.reverse := by
    intro l
    induction l with
    | nil => exact h0
    | cons x r ih => rw [List.reverse_cons]; exact h1 _ x ih
  intro l
  have := key l.reverse
  rwa [List.reverse_reverse] at this
theorem valD_mem {α : Type} {k : Stand} : ∀ {m : List (Stand × α)}, (valD m k).isSome = true → ∃ y ∈ m, y.1 = k
  | [], h => by simp [valD] at h
  | x :: r, h => by
    by_cases e : x.1 = k
    · exact ⟨x, by simp, e⟩
    · rw [valD_neg e] at h
      obtain ⟨y, hy, ey⟩ := valD_mem h
      exact ⟨y, List.mem_cons_of_mem _ hy, ey⟩
theorem wIn_sub {wk : Wk} {k n : Nat} {x y : Stand × List Nat} {acc : Ways} (h : y ∈ acc) : y ∈ wIn wk k n x acc := by
  unfold wIn
  split
  · exact List.mem_append_left _ h
  · exact h
theorem wIn_from {wk : Wk} {k n : Nat} {x y : Stand × List Nat} {acc : Ways} (h : y ∈ wIn wk k n x acc) : y ∈ acc ∨ ((dyedM wk x.1 k n).2 = true ∧ y = ((dyedM wk x.1 k n).1, x.2 ++ [n])) := by
  unfold wIn at h
  split at h
  · rename_i g
    rcases List.mem_append.mp h with h | h
    · exact .inl h
    · exact .inr ⟨(Bool.and_eq_true _ _ ▸ g).1, List.mem_singleton.mp h⟩
  · exact .inl h
theorem wIn_has {wk : Wk} {k n : Nat} {x : Stand × List Nat} {acc : Ways} (g : (dyedM wk x.1 k n).2 = true) : ∃ y ∈ wIn wk k n x acc, y.1 = (dyedM wk x.1 k n).1 := by
  unfold wIn
  cases e : (valD acc (dyedM wk x.1 k n).1).isSome with
  | true =>
    obtain ⟨y, hy, ey⟩ := valD_mem e
    rw [g]
    exact ⟨y, by simpa using hy, ey⟩
  | false =>
    rw [g]
    exact ⟨_, by simp; exact .inr rfl, rfl⟩
theorem wOne_sub {wk : Wk} {k : Nat} {x y : Stand × List Nat} {acc : Ways} (h : y ∈ acc) : ∀ r, y ∈ wOne wk k x r acc
  | 0 => h
  | r + 1 => by rw [wOne_succ]; exact wIn_sub (wOne_sub h r)
theorem wOne_from {wk : Wk} {k : Nat} {x y : Stand × List Nat} {acc : Ways} : ∀ {r}, y ∈ wOne wk k x r acc → y ∈ acc ∨ ∃ n, n < r ∧ (dyedM wk x.1 k n).2 = true ∧ y = ((dyedM wk x.1 k n).1, x.2 ++ [n])
  | 0, h => .inl h
  | r + 1, h => by
    rw [wOne_succ] at h
    rcases wIn_from h with h | ⟨g, e⟩
    · rcases wOne_from h with h | ⟨n, hn, g⟩
      · exact .inl h
      · exact .inr ⟨n, by omega, g⟩
    · exact .inr ⟨r, by omega, g, e⟩
theorem wOne_has {wk : Wk} {k n : Nat} {x : Stand × List Nat} {acc : Ways} (g : (dyedM wk x.1 k n).2 = true) : ∀ {r}, n < r → ∃ y ∈ wOne wk k x r acc, y.1 = (dyedM wk x.1 k n).1
  | 0, h => by omega
  | r + 1, h => by
    rw [wOne_succ]
    by_cases e : n = r
    · subst e
      exact wIn_has g
    · obtain ⟨y, hy, ey⟩ := wOne_has (acc := acc) g (r := r) (by omega)
      exact ⟨y, wIn_sub hy, ey⟩
theorem wAll_sub {wk : Wk} {k : Nat} {y : Stand × List Nat} : ∀ {found acc : Ways}, y ∈ acc → y ∈ wAll wk k found acc
  | [], _, h => h
  | x :: r, acc, h => wAll_sub (found := r) (wOne_sub h _)
theorem wAll_from {wk : Wk} {k : Nat} {y : Stand × List Nat} : ∀ {found acc : Ways}, y ∈ wAll wk k found acc → y ∈ acc ∨ ∃ x ∈ found, ∃ n, n < (wk.kind k).routes.length ∧ (dyedM wk x.1 k n).2 = true ∧ y = ((dyedM wk x.1 k n).1, x.2 ++ [n])
  | [], _, h => .inl h
  | x :: r, acc, h => by
    rcases wAll_from (found := r) h with h | ⟨z, hz, g⟩
    · rcases wOne_from h with h | g
      · exact .inl h
      · exact .inr ⟨x, by simp, g⟩
    · exact .inr ⟨z, List.mem_cons_of_mem _ hz, g⟩
theorem wAll_has {wk : Wk} {k n : Nat} {x : Stand × List Nat} (g : (dyedM wk x.1 k n).2 = true) (hn : n < (wk.kind k).routes.length) : ∀ {found acc : Ways}, x ∈ found → ∃ y ∈ wAll wk k found acc, y.1 = (dyedM wk x.1 k n).1
  | [], _, h => by simp at h
  | z :: r, acc, h => by
    rcases List.mem_cons.mp h with e | h
    · subst e
      obtain ⟨y, hy, ey⟩ := wOne_has (acc := acc) g hn
      exact ⟨y, wAll_sub (found := r) hy, ey⟩
    · exact wAll_has g hn (found := r) (acc := wOne wk k z (wk.kind k).routes.length acc) h
/-- numbers of routes for a row -/
def Seq (wk : Wk) (row rt : List Nat) : Prop := rt.length = row.length ∧ ∀ p ∈ row.zip rt, At wk p.1 p.2
theorem zip_snoc {row rt : List Nat} {k n : Nat} (h : rt.length = row.length) : (row ++ [k]).zip (rt ++ [n]) = row.zip rt ++ [(k, n)] := by
  rw [List.zip_append h.symm]
  rfl
theorem seq_snoc {wk : Wk} {row rt : List Nat} {k n : Nat} (h : Seq wk row rt) (ha : At wk k n) : Seq wk (row ++ [k]) (rt ++ [n]) := by
  refine ⟨by simp [h.1], fun p hp => ?_⟩
  rw [zip_snoc h.1] at hp
  rcases List.mem_append.mp hp with hp | hp
  · exact h.2 p hp
  · rw [List.mem_singleton.mp hp]
    exact ha
theorem seq_unsnoc {wk : Wk} {row rt : List Nat} {k : Nat} (h : Seq wk (row ++ [k]) rt) : ∃ r n, rt = r ++ [n] ∧ Seq wk row r ∧ At wk k n := by
  obtain ⟨h1, h2⟩ := h
  have hne : rt ≠ [] := fun z => by subst z; simp at h1
  have e : rt = rt.dropLast ++ [rt.getLast hne] := (List.dropLast_concat_getLast hne).symm
  have hl : rt.dropLast.length = row.length := by
    rw [List.length_dropLast, h1, List.length_append]
    rfl
  rw [e, zip_snoc hl] at h2
  exact ⟨_, _, e, ⟨hl, fun p hp => h2 p (List.mem_append_left _ hp)⟩, h2 _ (List.mem_append_right _ (List.mem_singleton.mpr rfl))⟩
theorem wrongM_one {wk : Wk} {st : Stand} {p : Nat × Nat} : wrongM wk st [p] = if (dyedM wk st p.1 p.2).2 then 0 else 1 := by simp [wrongM]
/-- what is found is good -/
theorem ways_sound {wk : Wk} : ∀ (row : List Nat), (∀ k ∈ row, k < wk.kinds.length) → ∀ x ∈ ways wk row, Seq wk row x.2 ∧ wrongM wk wk.vats (row.zip x.2) = 0 ∧ afterM wk wk.vats (row.zip x.2) = x.1 := by
  refine snoc_ind (fun _ x hx => ?_) fun row k ih hr x hx => ?_
  · rw [List.mem_singleton.mp hx]
    exact ⟨⟨rfl, fun _ z => by simp at z⟩, rfl, rfl⟩
  · rw [ways_snoc] at hx
    rcases wAll_from hx with h | ⟨y, hy, n, hn, g, rfl⟩
    · simp at h
    · obtain ⟨i1, i2, i3⟩ := ih (fun z hz => hr z (List.mem_append_left _ hz)) y hy
      have hk : k < wk.kinds.length := hr k (by simp)
      refine ⟨seq_snoc i1 ⟨hk, hn⟩, ?_, ?_⟩
      · rw [zip_snoc i1.1, wrongM_app, i2, i3, wrongM_one, if_pos g]
      · rw [zip_snoc i1.1, afterM_app, i3]
        rfl
/-- what is good is found, by its stand -/
theorem ways_full {wk : Wk} : ∀ (row rt : List Nat), Seq wk row rt → wrongM wk wk.vats (row.zip rt) = 0 → ∃ x ∈ ways wk row, x.1 = afterM wk wk.vats (row.zip rt) := by
  refine snoc_ind (fun rt h _ => ?_) fun row k ih rt h h0 => ?_
  · exact ⟨(wk.vats, []), by simp [ways], by simp [afterM]⟩
  · obtain ⟨r, n, rfl, hs, hat⟩ := seq_unsnoc h
    rw [zip_snoc hs.1, wrongM_app, wrongM_one] at h0
    have h1 : wrongM wk wk.vats (row.zip r) = 0 := by omega
    obtain ⟨x, hx, ex⟩ := ih r hs h1
    have g : (dyedM wk (afterM wk wk.vats (row.zip r)) k n).2 = true := by
      cases e : (dyedM wk (afterM wk wk.vats (row.zip r)) k n).2 with
      | true => rfl
      | false =>
        rw [e] at h0
        simp at h0
    rw [← ex] at g
    obtain ⟨y, hy, ey⟩ := wAll_has g hat.2 (acc := []) hx
    refine ⟨y, by rw [ways_snoc]; exact hy, ?_⟩
    rw [ey, zip_snoc hs.1, afterM_app, ex]
    rfl
theorem ways_nil {wk : Wk} {row : List Nat} (hr : ∀ k ∈ row, k < wk.kinds.length) : ways wk row = [] ↔ ∀ rt, Seq wk row rt → wrongM wk wk.vats (row.zip rt) ≠ 0 := by
  constructor
  · intro h rt hs h0
    obtain ⟨x, hx, _⟩ := ways_full row rt hs h0
    rw [h] at hx
    simp at hx
  · intro h
    cases e : ways wk row with
    | nil => rfl
    | cons x r =>
      obtain ⟨i1, i2, _⟩ := ways_sound row hr x (by rw [e]; simp)
      exact absurd i2 (h x.2 i1)
end Dw
set_option Elab.async false
set_option linter.all false
set_option maxRecDepth 100000
set_option maxHeartbeats 4000000
namespace Dw
open PySem PySem.Spec PyProof.Rows L2 Gx
section
variable {P : Program} {w : World} {K : PySem.W.Frag} {mg : Str → Option Value} {base : Heap}
theorem sc_ways : FnScope ["works", "row", "found", "kind", "later", "stand", "routes", "number", "other", "good"] ["works", "row"] (defScope sWaysThrough) := ⟨rfl, rfl, rfl, by decide +kernel, rfl, by decide +kernel, by decide +kernel⟩
/-- the rows of the law -/
def RowS (wk : Wk) (row : List Nat) : Prop := row.length ≤ 5 ∧ ∀ k ∈ row, k < wk.kinds.length
def fWays : List PyData → List (Stand × PyData) → Prop := fun ds m => ∃ (wk : Wk) (row : List Nat), ds = [dW wk, dN row] ∧ WkOk wk ∧ Few wk ∧ RowS wk row ∧ m = toD (ways wk row)
theorem RowS.len {wk : Wk} {row : List Nat} (W : WkOk wk) (F : Few wk) (h : RowS wk row) (i : Nat) : WOk wk (ways wk (row.take i)) ∧ (ways wk (row.take i)).length ≤ 1024 := by
  obtain ⟨h1, h2⟩ := ways_ok W F (row := row.take i) fun k hk => h.2 k (List.mem_of_mem_take hk)
  refine ⟨h1, Nat.le_trans h2 (Nat.le_trans (Nat.pow_le_pow_right (show 4 > 0 by decide) (show _ ≤ 5 from ?_)) (by decide))⟩
  have := h.1
  rw [List.length_take]
  omega
theorem toD_len (m : Ways) : (toD m).length = m.length := by simp [toD]
theorem ev_routesLen {σ : L2.St} {H : Hp} {wk : Wk} {k i j : Nat} {v : V} (h1 : σ[i]? = some (some v)) (hv : Is H v (dW wk)) (h2 : σ[j]? = some (some (.int (k : Int)))) (hk : k < wk.kinds.length) :
    Ev (tCB (rLn K) (tCons (tOp (rIxT K) (tOp (rIxT K) (tOp (rIxT K) (tVar i) (tC (.int 2))) (tVar j)) (tC (.int 2))) tNil)) σ H (.int ((wk.kind k).routes.length : Int)) :=
  ev_is (ev_len (ev_routes (ev_var h1 hv) (ev_var h2 (.int _)) hk)) (by rw [List.length_map])
theorem ok_ways {f fd' Pw Pc : Addr} {fd fdd : FuncData} {k kn : Nat} (F : Fun K "ways_through" "ways_through" sWaysThrough f fd) (hk : kn ≤ k) (m1 : mg "range" = none) (m2 : mg "len" = none) (tk : Tok) (mS : mg "MOST_STANDS" = some (.int 5000 tk))
    (gd : mg "dyed" = some (.ref fd')) (kpd : PySem.W.keepIn K (.ref fd') = true) (bd : Binds K fdd ["works", "stand", "kind", "number"] []) (GD : FnOk P w K mg base CX0 kn fd' fdd ["works", "stand", "kind", "number"] (spF [Pw, Pc] fDyed)) :
    FnOk P w K mg base CX0 (k + 1) f fd ["works", "row"] (spD P w [Pw, Pc] fWays) := by
  refine F.ok sc_ways (fun vs H Q E h => ?_) (fun cdv A outer s H vs Q E hr h => ?_)
  · obtain ⟨ds, d, hvs, ⟨_, _, rfl, _⟩, _⟩ := h
    exact hvs.length
  · obtain ⟨ds, d, hvs, ⟨wk, row, rfl, W, Fw, hrow, rfl⟩, hT, q⟩ := h
    obtain ⟨v1, v2, rfl, h1, h2⟩ := hvs.inv2
    have hu := hr.units
    refine ⟨_, pss_cons (ps_set (i := 2) sc_ways.nd rfl (Or.inl rfl) (pe_disp1 (Nat.lt_of_le_of_lt (Nat.add_le_add_left (by decide : 9 ≤ 64) _) hu) (pe_ix ix_tup (pv 0) pe_int (fun _ _ => rfl)) (pe_tup pa_nil)))
      (pss_cons (ps_for PassesOwn.never rfl (pi_tup (pv 1)) (pg_name (i := 3) sc_ways.nd rfl (Or.inl rfl))
        (pss_cons (ps_set (i := 4) sc_ways.nd rfl (Or.inl rfl) pe_nnew)
        (pss_cons (ps_for PassesOwn.never rfl (pi_items (pv 2)) (pg_tup rfl (pgs_cons (pg_name (i := 5) sc_ways.nd rfl (.inl rfl)) (pgs_cons (pg_name (i := 6) sc_ways.nd rfl (.inl rfl)) pgs_nil)))
          (pss_one (ps_for PassesOwn.never rfl (pi_range1 (by rfl) m1 (pa_cons (pe_callB (r := rLn K) call_len_seq (by rfl) m2 PySem.boot_len (pa_cons (pe_ix ix_tup (pe_ix ix_tup (pe_ix ix_tup (pv 0) pe_int (fun _ _ => rfl)) (pv 3) (fun _ _ => rfl)) pe_int (fun _ _ => rfl)) pa_nil)) pa_nil)) (pg_name (i := 7) sc_ways.nd rfl (Or.inl rfl))
            (pss_cons (ps_asg (pe_call GD (hr.mono hk) (by rfl) gd kpd bd .nil pass0 (pa_cons (pv 0) (pa_cons (pv 5) (pa_cons (pv 3) (pa_cons (pv 7) pa_nil))))) (pg_tup rfl (pgs_cons (pg_name (i := 8) sc_ways.nd rfl (.inl rfl)) (pgs_cons (pg_name (i := 9) sc_ways.nd rfl (.inl rfl)) pgs_nil))))
            (pss_one (ps_if (PW.pt (pw_and (pt_val (pv 9)) (pw_and1 (pt_cmp (pc_nnotin (Nat.lt_of_le_of_lt (Nat.add_le_add_left (by decide : 9 ≤ 64) _) hu) (pv 8) (pv 4)) (by rfl)))))
              (pss_one (ps_nput (Nat.lt_of_le_of_lt (Nat.add_le_add_left (by decide : 9 ≤ 64) _) hu) (pe_op op_catA (pv 6) (pe_tup (pa_cons (pv 7) pa_nil))) (pv 4) (pv 8))) pss_nil))))))
        (pss_cons (ps_if (pt_cmpR op_gt (pe_callB (r := rLenN P w) call_lenN (by rfl) m2 PySem.boot_len (pa_cons (pv 4) pa_nil)) (pe_glob (v := .int 5000) (by rfl) mS ⟨_, rfl⟩) (nomark _)) (pss_one ps_never) pss_nil)
        (pss_one (ps_set (i := 2) sc_ways.nd rfl (Or.inl rfl) (pv 4)))))))
      (pss_one (ps_ret (pv 2)))), ?_⟩
    have z0 : ([] : List PyData).length ≤ 100000 := Nat.zero_le _
    refine s_disp1 (k := wk.vats) (d := dN []) (ev_ixn (i := 1) (ev_var rfl h1) ev_int rfl) (ev_tup ea_nil z0) fun p1 H1 _ x1 dc1 => ?_
    refine s_forT none1 (ds := nInts row) (fun i σ H' => ∃ a y3 y4 y5 y6 y7 y8 y9, σ = [some v1, some v2, some (.ref a), y3, y4, y5, y6, y7, y8, y9] ∧ IsDc P w H' a (toD (ways wk (row.take i)))) (ev_var rfl (h2.ex x1)) (fun H2 x2 => ⟨p1, none, none, none, none, none, none, none, rfl, dc1.ex0 x2⟩) ?_ ?_
    · rintro i d v σ' H' Z hd x ⟨a, y3, y4, y5, y6, y7, y8, y9, rfl, dc⟩ hv kz
      rw [List.getElem?_map] at hd
      obtain ⟨kd, hkd, rfl⟩ := Option.map_eq_some_iff.mp hd
      have ev := hv.int_inv
      subst ev
      have hkk : kd < wk.kinds.length := hrow.2 kd (List.mem_of_getElem? hkd)
      obtain ⟨ok0, len0⟩ := hrow.len W Fw i
      have r4 := Fw kd hkk
      refine s_nnew fun p H2 hp x2 dc2 => ?_
      have hap : ¬ a = p := by
        obtain ⟨_, _, o, _, _, _, e, _⟩ := dc
        exact ne_of_none e hp
      have xH : Ex H H2 := (x1.trans x).trans x2
      refine s_forN (te := tVar 2) (fun b => b = p) hap (fun i2 σ H' => ∃ y5 y6 y7 y8 y9, σ = [some v1, some v2, some (.ref a), some (.int (kd : Int)), some (.ref p), y5, y6, y7, y8, y9] ∧ IsDc P w H' p (toD (wAll wk kd ((ways wk (row.take i)).take i2) []))) (dc.ex0 x2) (fun Q q => ⟨.ref a, rfl, q⟩) ⟨y5, y6, y7, y8, y9, rfl, dc2⟩ ?_ ?_
      · rintro i2 pr v5 v6 N σ2 H3 Z2 hpr x3 ⟨y5, y6, y7, y8, y9, rfl, dc3⟩ hN h5 h6 kz2
        unfold toD at hpr
        rw [List.getElem?_map] at hpr
        obtain ⟨⟨st, rt⟩, hst, rfl⟩ := Option.map_eq_some_iff.mp hpr
        have hstm := List.mem_of_getElem? hst
        have stOk := ok0 _ hstm
        have xN : Ex H3 (upd H3 N (.tup [v5, v6])) := .new hN
        have lenA : (wAll wk kd ((ways wk (row.take i)).take i2) []).length ≤ 4096 := by
          have g1 := wAll_len (wk := wk) (k := kd) (found := (ways wk (row.take i)).take i2) (acc := [])
          have g2 : ((ways wk (row.take i)).take i2).length * (wk.kind kd).routes.length ≤ 1024 * 4 := Nat.mul_le_mul (Nat.le_trans (by rw [List.length_take]; omega) len0) r4
          simp at g1 g2
          omega
        refine g_two upd_same ?_
        refine s_forR (n := (wk.kind kd).routes.length) (fun b => b = p) (fun j σ H' => ∃ y7 y8 y9, σ = [some v1, some v2, some (.ref a), some (.int (kd : Int)), some (.ref p), some v5, some v6, y7, y8, y9] ∧ IsDc P w H' p (toD (wOne wk kd (st, rt) j (wAll wk kd ((ways wk (row.take i)).take i2) [])))) (ea_one (ev_routesLen rfl ((h1.ex xH).ex (x3.trans (.up xN))) rfl hkk)) (by omega) (fun H4 x4 => ⟨y7, y8, y9, rfl, (dc3.ex0 xN).ex0 x4⟩) ?_ ?_
        · rintro j σ3 H4 Z3 hj x4 ⟨y7, y8, y9, rfl, dc4⟩ kz3
          have hat : At wk kd j := ⟨hkk, hj⟩
          have xa := (x3.trans (.up xN)).trans x4
          have tabs : ∀ P ∈ [Pw, Pc], TabD 1 H4 P := fun P hP => xa.tab _ _ (xH.tab _ _ (hT P hP))
          refine s_unp2 (ev_call (ea_cons (ev_var rfl ((h1.ex xH).ex xa)) (ea_cons (ev_var rfl ((h5.ex xN).ex x4)) (ea_cons (ev_var rfl (.int _)) (ea_one (ev_var rfl (.int _)))))) ⟨wk, st, kd, j, rfl, W, stOk, hat, rfl⟩ tabs) fun w8 w9 H5 x5 k8 k9 => ?_
          have eb := k9.bool_inv
          subst eb
          have hsucc : wOne wk kd (st, rt) (j + 1) (wAll wk kd ((ways wk (row.take i)).take i2) []) = wIn wk kd j (st, rt) (wOne wk kd (st, rt) j (wAll wk kd ((ways wk (row.take i)).take i2) [])) := wOne_succ
          refine s_if (eb_and (eb_test (ev_var rfl k9)) fun _ => eb_B (ev_nnotin (ev_var rfl k8) rfl (dc4.ex0 x5))) (fun hb H6 x6 => ?_) (fun hb H6 x6 => ?_)
          · have lenO := wOne_len (wk := wk) (k := kd) (x := (st, rt)) (acc := wAll wk kd ((ways wk (row.take i)).take i2) []) j
            refine s_nput (k := (dyedM wk st kd j).1) (d := dN (rt ++ [j])) (ev_is (ev_cat (ev_var rfl (((h6.ex xN).ex x4).ex (x5.trans x6))) (ev_tup (ea_one (ev_var rfl (.int (j : Int)))) (by show 1 ≤ 100000; decide)) ?_) ?_) rfl (ev_var rfl (k8.ex x6)) ((dc4.ex0 x5).ex0 x6) ?_ fun H7 x7 dc7 => ?_
            · have lrt := (ways_sound (row.take i) (fun z hz => hrow.2 z (List.mem_of_mem_take hz)) _ hstm).1.1
              have := hrow.1
              rw [List.length_take] at lrt
              simp only [List.length_map, List.length_cons, List.length_nil]
              simp only at lrt
              omega
            · simp [dN]
            · rw [toD_len]; omega
            · refine kz3 _ H7 ((ExB.up (x5.trans x6)).trans x7) ⟨_, _, _, rfl, ?_⟩
              rw [hsucc, toD_wIn, if_pos hb]
              exact dc7
          · refine kz3 _ H6 (.up (x5.trans x6)) ⟨_, _, _, rfl, ?_⟩
            rw [hsucc, toD_wIn, if_neg (by rw [hb]; exact Bool.false_ne_true)]
            exact (dc4.ex0 x5).ex0 x6
        · rintro σ3 H4 x4 ⟨y7, y8, y9, rfl, dc4⟩
          refine kz2 _ H4 x4 ⟨_, _, _, _, _, rfl, ?_⟩
          rw [take_snoc hst, wAll_snoc]
          exact dc4
      · rintro σ2 H3 x3 ⟨y5, y6, y7, y8, y9, rfl, dc3⟩
        rw [toD_len, List.take_length] at dc3
        have lenS : (wStep wk kd (ways wk (row.take i))).length ≤ 4096 := by
          have g1 := wAll_len (wk := wk) (k := kd) (found := ways wk (row.take i)) (acc := [])
          have g2 : (ways wk (row.take i)).length * (wk.kind kd).routes.length ≤ 1024 * 4 := Nat.mul_le_mul len0 r4
          unfold wStep
          simp at g1 g2
          omega
        have x23 : Ex H' H3 := ex_over x2 x3 fun r e => by rw [e]; exact hp
        refine s_if (b := false) (eb_is (eb_test (ev_gt (ev_lenN rfl dc3) ev_int)) ?_) (fun z => nomatch z) (fun _ H4 x4 => ?_)
        · rw [toD_len]
          have : (wAll wk kd (ways wk (row.take i)) []).length ≤ 4096 := lenS
          simp
          omega
        · refine ⟨.ref p, rfl, kz _ H4 (x23.trans x4) ⟨p, _, _, _, _, _, _, _, rfl, ?_⟩⟩
          rw [take_snoc hkd, ways_snoc]
          exact dc3.ex0 x4
    · rintro σ' H' x ⟨a, y3, y4, y5, y6, y7, y8, y9, rfl, dc⟩
      rw [List.length_map, List.take_length] at dc
      exact ⟨.ref a, rfl, q a H' (x1.trans x) dc⟩
end
end Dw
set_option Elab.async false
set_option linter.all false
set_option maxRecDepth 100000
set_option maxHeartbeats 4000000
namespace Dw
/-! ### the mathematics of least_wrong -/
theorem valD_some {α : Type} {k : Stand} {v : α} : ∀ {m : List (Stand × α)}, valD m k = some v → (k, v) ∈ m
  | [], h => by simp [valD] at h
  | x :: r, h => by
    by_cases e : x.1 = k
    · rw [valD_pos e] at h
      have h := Option.some.inj h
      subst h
      subst e
      exact List.mem_cons_self ..
    · rw [valD_neg e] at h
      exact List.mem_cons_of_mem _ (valD_some h)
theorem valD_repl {α : Type} {k j : Stand} {v : α} : ∀ {m : List (Stand × α)}, valD (m.map fun x => if x.1 = k then (x.1, v) else x) j = if j = k then (valD m k).map fun _ => v else valD m j
  | [] => by by_cases e : j = k <;> simp [valD, e]
  | x :: r => by
    rw [List.map_cons]
    by_cases e : x.1 = k
    · rw [if_pos e]
      by_cases e2 : j = k
      · rw [if_pos e2, valD_pos (x := (x.1, v)) (e.trans e2.symm), valD_pos e]
        rfl
      · rw [if_neg e2, valD_neg (x := (x.1, v)) (fun z => e2 (z.symm.trans e)), valD_neg (fun z => e2 (z.symm.trans e)), valD_repl, if_neg e2]
    · rw [if_neg e]
      by_cases e2 : j = k
      · rw [if_pos e2, valD_neg (fun z => e (z.trans e2)), valD_neg e, valD_repl, if_pos e2]
      · rw [if_neg e2]
        by_cases e3 : x.1 = j
        · rw [valD_pos e3, valD_pos e3]
        · rw [valD_neg e3, valD_neg e3, valD_repl, if_neg e2]
theorem valD_snoc {α : Type} {k j : Stand} {v : α} : ∀ {m : List (Stand × α)}, valD m k = none → valD (m ++ [(k, v)]) j = if j = k then some v else valD m j
  | [], _ => by
    by_cases e : j = k
    · rw [if_pos e]; exact valD_pos e.symm
    · rw [if_neg e]; exact valD_neg fun z => e z.symm
  | x :: r, h => by
    have e : ¬ x.1 = k := fun z => by rw [valD_pos z] at h; cases h
    rw [valD_neg e] at h
    rw [List.cons_append]
    by_cases e3 : x.1 = j
    · rw [valD_pos e3, valD_pos e3, if_neg fun z => e (e3.trans z)]
    · rw [valD_neg e3, valD_neg e3, valD_snoc h]
theorem valD_put {α : Type} {k j : Stand} {v : α} {m : List (Stand × α)} : valD (putD m k v) j = if j = k then some v else valD m j := by
  unfold putD
  cases h : valD m k with
  | none => exact valD_snoc h
  | some u =>
    show valD (m.map _) j = _
    rw [valD_repl, h]
    rfl
theorem put_from {α : Type} {k : Stand} {v : α} {m : List (Stand × α)} {y : Stand × α} (h : y ∈ putD m k v) : y ∈ m ∨ y = (k, v) := by
  unfold putD at h
  split at h
  · obtain ⟨x, hx, e⟩ := List.mem_map.mp h
    by_cases c : x.1 = k
    · rw [if_pos c] at e
      rw [← e, c]
      exact .inr rfl
    · rw [if_neg c] at e
      rw [← e]
      exact .inl hx
  · rcases List.mem_append.mp h with h | h
    · exact .inl h
    · exact .inr (List.mem_singleton.mp h)
abbrev Leasts := List (Stand × Nat)
def tot (wk : Wk) (k n : Nat) (x : Stand × Nat) : Nat := if (dyedM wk x.1 k n).2 then x.2 else x.2 + 1
def lIn (wk : Wk) (k n : Nat) (x : Stand × Nat) (acc : Leasts) : Leasts := putD acc (dyedM wk x.1 k n).1 (min ((valD acc (dyedM wk x.1 k n).1).getD (tot wk k n x)) (tot wk k n x))
def lOne (wk : Wk) (k : Nat) (x : Stand × Nat) (r : Nat) (acc : Leasts) : Leasts := (List.range r).foldl (fun acc n => lIn wk k n x acc) acc
def lAll (wk : Wk) (k : Nat) (found : Leasts) (acc : Leasts) : Leasts := found.foldl (fun acc x => lOne wk k x (wk.kind k).routes.length acc) acc
def lStep (wk : Wk) (k : Nat) (found : Leasts) : Leasts := lAll wk k found []
def leasts (wk : Wk) (row : List Nat) : Leasts := row.foldl (fun f k => lStep wk k f) [(wk.vats, 0)]
def LOk (wk : Wk) (acc : Leasts) : Prop := ∀ x ∈ acc, StOk wk x.1
theorem lOne_succ {wk : Wk} {k r : Nat} {x : Stand × Nat} {acc : Leasts} : lOne wk k x (r + 1) acc = lIn wk k r x (lOne wk k x r acc) := by
  unfold lOne
  rw [List.range_succ, List.foldl_append]
  rfl
theorem lAll_snoc {wk : Wk} {k : Nat} {found : Leasts} {x : Stand × Nat} {acc : Leasts} : lAll wk k (found ++ [x]) acc = lOne wk k x (wk.kind k).routes.length (lAll wk k found acc) := by
  unfold lAll
  rw [List.foldl_append]
  rfl
theorem leasts_snoc {wk : Wk} {row : List Nat} {k : Nat} : leasts wk (row ++ [k]) = lStep wk k (leasts wk row) := by
  unfold leasts
  rw [List.foldl_append]
  rfl
theorem lOne_len {wk : Wk} {k : Nat} {x : Stand × Nat} {acc : Leasts} : ∀ r, (lOne wk k x r acc).length ≤ acc.length + r
  | 0 => Nat.le_refl _
  | r + 1 => by
    rw [lOne_succ]
    have h1 : (lIn wk k r x (lOne wk k x r acc)).length ≤ (lOne wk k x r acc).length + 1 := putD_len _ _ _
    have h2 := lOne_len (wk := wk) (k := k) (x := x) (acc := acc) r
    omega
theorem lAll_len {wk : Wk} {k : Nat} : ∀ {found acc : Leasts}, (lAll wk k found acc).length ≤ acc.length + found.length * (wk.kind k).routes.length
  | [], acc => by simp [lAll]
  | x :: r, acc => by
    have h1 := lOne_len (wk := wk) (k := k) (x := x) (acc := acc) (wk.kind k).routes.length
    have h2 := lAll_len (wk := wk) (k := k) (found := r) (acc := lOne wk k x (wk.kind k).routes.length acc)
    have e : lAll wk k (x :: r) acc = lAll wk k r (lOne wk k x (wk.kind k).routes.length acc) := rfl
    rw [e, List.length_cons, Nat.add_mul, Nat.one_mul]
    omega
theorem lIn_ok {wk : Wk} (W : WkOk wk) {k n : Nat} (h : At wk k n) {x : Stand × Nat} (hx : StOk wk x.1) {acc : Leasts} (ha : LOk wk acc) : LOk wk (lIn wk k n x acc) := fun y hy => by
  rcases put_from hy with hy | e
  · exact ha y hy
  · rw [e]; exact dyedM_ok W hx h
theorem lOne_ok {wk : Wk} (W : WkOk wk) {k : Nat} (hk : k < wk.kinds.length) {x : Stand × Nat} (hx : StOk wk x.1) {acc : Leasts} (ha : LOk wk acc) : ∀ r, r ≤ (wk.kind k).routes.length → LOk wk (lOne wk k x r acc)
  | 0, _ => ha
  | r + 1, hr => by
    rw [lOne_succ]
    exact lIn_ok W ⟨hk, by omega⟩ hx (lOne_ok W hk hx ha r (by omega))
theorem lAll_ok {wk : Wk} (W : WkOk wk) {k : Nat} (hk : k < wk.kinds.length) : ∀ {found acc : Leasts}, LOk wk found → LOk wk acc → LOk wk (lAll wk k found acc)
  | [], acc, _, ha => ha
  | x :: r, acc, hf, ha => lAll_ok (found := r) W hk (fun y hy => hf y (List.mem_cons_of_mem _ hy)) (lOne_ok W hk (hf x (by simp)) ha _ (Nat.le_refl _))
theorem leasts_ok {wk : Wk} (W : WkOk wk) (F : Few wk) : ∀ {row : List Nat}, (∀ k ∈ row, k < wk.kinds.length) → LOk wk (leasts wk row) ∧ (leasts wk row).length ≤ 4 ^ row.length := by
  have key : ∀ row : List Nat, (∀ k ∈ row, k < wk.kinds.length) → LOk wk (leasts wk row) ∧ (leasts wk row).length ≤ 4 ^ row.length := by
    refine snoc_ind (fun _ => ⟨fun x hx => by rw [List.mem_singleton.mp hx]; exact stOk0 W, Nat.le_refl _⟩) fun row k ih hr => ?_
    obtain ⟨i1, i2⟩ := ih fun z hz => hr z (List.mem_append_left _ hz)
    have hk : k < wk.kinds.length := hr k (by simp)
    rw [leasts_snoc]
    refine ⟨lAll_ok W hk i1 fun _ z => by simp at z, ?_⟩
    have h1 := lAll_len (wk := wk) (k := k) (found := leasts wk row) (acc := [])
    have h2 : (leasts wk row).length * (wk.kind k).routes.length ≤ 4 ^ row.length * 4 := Nat.mul_le_mul i2 (F k hk)
    rw [List.length_append, List.length_singleton, Nat.pow_succ]
    unfold lStep
    simp only [List.length_nil, Nat.zero_add] at h1
    exact Nat.le_trans h1 h2
  intro row
  exact key row
/-! every entry comes from numbers -/
theorem lIn_from {wk : Wk} {k n : Nat} {x y : Stand × Nat} {acc : Leasts} {Pq : Stand × Nat → Prop} (ha : ∀ y ∈ acc, Pq y) (hx : Pq ((dyedM wk x.1 k n).1, tot wk k n x)) (h : y ∈ lIn wk k n x acc) : Pq y := by
  rcases put_from h with h | e
  · exact ha y h
  · rw [e]
    cases c : valD acc (dyedM wk x.1 k n).1 with
    | none =>
      rw [show (none : Option Nat).getD (tot wk k n x) = tot wk k n x from rfl, Nat.min_self]
      exact hx
    | some v =>
      rw [show (some v : Option Nat).getD (tot wk k n x) = v from rfl]
      rcases Nat.le_total v (tot wk k n x) with g | g
      · rw [Nat.min_eq_left g]; exact ha _ (valD_some c)
      · rw [Nat.min_eq_right g]; exact hx
theorem lOne_from {wk : Wk} {k : Nat} {x : Stand × Nat} {acc : Leasts} {Pq : Stand × Nat → Prop} (ha : ∀ y ∈ acc, Pq y) : ∀ {r}, (∀ n, n < r → Pq ((dyedM wk x.1 k n).1, tot wk k n x)) → ∀ y ∈ lOne wk k x r acc, Pq y
  | 0, _ => ha
  | r + 1, hx => by
    rw [lOne_succ]
    exact fun y hy => lIn_from (lOne_from ha fun n hn => hx n (by omega)) (hx r (by omega)) hy
theorem lAll_from {wk : Wk} {k : Nat} {Pq : Stand × Nat → Prop} : ∀ {found acc : Leasts}, (∀ y ∈ acc, Pq y) → (∀ x ∈ found, ∀ n, n < (wk.kind k).routes.length → Pq ((dyedM wk x.1 k n).1, tot wk k n x)) → ∀ y ∈ lAll wk k found acc, Pq y
  | [], _, ha, _ => ha
  | x :: r, acc, ha, hx => lAll_from (found := r) (lOne_from ha (hx x (by simp))) fun z hz => hx z (List.mem_cons_of_mem _ hz)
/-! every list of numbers has an entry as small -/
def Has (acc : Leasts) (s : Stand) (t : Nat) : Prop := ∃ v, valD acc s = some v ∧ v ≤ t
theorem lIn_keep {wk : Wk} {k n : Nat} {x : Stand × Nat} {acc : Leasts} {s : Stand} {t : Nat} (h : Has acc s t) : Has (lIn wk k n x acc) s t := by
  obtain ⟨v, hv, hle⟩ := h
  unfold lIn Has
  rw [valD_put]
  by_cases e : s = (dyedM wk x.1 k n).1
  · rw [if_pos e]
    refine ⟨_, rfl, ?_⟩
    rw [← e, hv]
    exact Nat.le_trans (Nat.min_le_left _ _) hle
  · rw [if_neg e]
    exact ⟨v, hv, hle⟩
theorem lIn_has {wk : Wk} {k n : Nat} {x : Stand × Nat} {acc : Leasts} : Has (lIn wk k n x acc) (dyedM wk x.1 k n).1 (tot wk k n x) := by
  unfold lIn Has
  rw [valD_put, if_pos rfl]
  exact ⟨_, rfl, Nat.min_le_right _ _⟩
theorem lOne_keep {wk : Wk} {k : Nat} {x : Stand × Nat} {acc : Leasts} {s : Stand} {t : Nat} (h : Has acc s t) : ∀ r, Has (lOne wk k x r acc) s t
  | 0 => h
  | r + 1 => by rw [lOne_succ]; exact lIn_keep (lOne_keep h r)
theorem lOne_has {wk : Wk} {k n : Nat} {x : Stand × Nat} {acc : Leasts} : ∀ {r}, n < r → Has (lOne wk k x r acc) (dyedM wk x.1 k n).1 (tot wk k n x)
  | 0, h => by omega
  | r + 1, h => by
    rw [lOne_succ]
    by_cases e : n = r
    · subst e; exact lIn_has
    · exact lIn_keep (lOne_has (by omega))
theorem lAll_keep {wk : Wk} {k : Nat} {s : Stand} {t : Nat} : ∀ {found acc : Leasts}, Has acc s t → Has (lAll wk k found acc) s t
  | [], _, h => h
  | x :: r, acc, h => lAll_keep (found := r) (lOne_keep h _)
theorem lAll_has {wk : Wk} {k n : Nat} {x : Stand × Nat} (hn : n < (wk.kind k).routes.length) : ∀ {found acc : Leasts}, x ∈ found → Has (lAll wk k found acc) (dyedM wk x.1 k n).1 (tot wk k n x)
  | [], _, h => by simp at h
  | z :: r, acc, h => by
    rcases List.mem_cons.mp h with e | h
    · subst e
      exact lAll_keep (found := r) (lOne_has hn)
    · exact lAll_has hn (found := r) (acc := lOne wk k z (wk.kind k).routes.length acc) h
theorem leasts_sound {wk : Wk} : ∀ (row : List Nat), (∀ k ∈ row, k < wk.kinds.length) → ∀ x ∈ leasts wk row, ∃ rt, Seq wk row rt ∧ wrongM wk wk.vats (row.zip rt) = x.2 ∧ afterM wk wk.vats (row.zip rt) = x.1 := by
  refine snoc_ind (fun _ x hx => ?_) fun row k ih hr => ?_
  · rw [List.mem_singleton.mp hx]
    exact ⟨[], ⟨rfl, fun _ z => by simp at z⟩, rfl, rfl⟩
  · rw [leasts_snoc]
    have hk : k < wk.kinds.length := hr k (by simp)
    refine lAll_from (fun _ z => by simp at z) fun x hx n hn => ?_
    obtain ⟨rt, i1, i2, i3⟩ := ih (fun z hz => hr z (List.mem_append_left _ hz)) x hx
    refine ⟨rt ++ [n], seq_snoc i1 ⟨hk, hn⟩, ?_, ?_⟩
    · rw [zip_snoc i1.1, wrongM_app, i2, i3, wrongM_one]
      unfold tot
      dsimp only
      cases (dyedM wk x.1 k n).2 <;> rfl
    · rw [zip_snoc i1.1, afterM_app, i3]
      rfl
theorem leasts_full {wk : Wk} : ∀ (row rt : List Nat), Seq wk row rt → Has (leasts wk row) (afterM wk wk.vats (row.zip rt)) (wrongM wk wk.vats (row.zip rt)) := by
  refine snoc_ind (fun rt h => ?_) fun row k ih rt h => ?_
  · exact ⟨0, by simp [leasts, afterM, valD], Nat.zero_le _⟩
  · obtain ⟨r, n, rfl, hs, hat⟩ := seq_unsnoc h
    obtain ⟨v, hv, hle⟩ := ih r hs
    have hm := valD_some hv
    obtain ⟨u, hu, hul⟩ := lAll_has (wk := wk) (k := k) hat.2 (acc := []) hm
    rw [leasts_snoc, zip_snoc hs.1, afterM_app, wrongM_app, wrongM_one]
    refine ⟨u, hu, Nat.le_trans hul ?_⟩
    unfold tot
    dsimp only
    cases (dyedM wk (afterM wk wk.vats (row.zip r)) k n).2 with
    | true => show v ≤ _ + 0; omega
    | false => show v + 1 ≤ _ + 1; omega
/-- the least -/
def leastM (wk : Wk) (row : List Nat) : Nat := ((leasts wk row).map (·.2)).foldl min (((leasts wk row).map (·.2)).headD 0)
end Dw
set_option Elab.async false
set_option linter.all false
set_option maxRecDepth 100000
set_option maxHeartbeats 4000000
namespace Dw
open PySem PySem.Spec PyProof.Rows L2 Gx
section
variable {K : PySem.W.Frag} {σ : L2.St} {H : Hp} {ds : List PyData}
/-- a name's truth, it being a list -/
theorem eb_truL {i : Nat} {v : V} (hv : σ[i]? = some (some v)) (h : IsL H v ds) : EvB (fun σ H Q => tVar i σ H fun x H' => ∃ k, TruV K x H' k ∧ Q k H') σ H (!ds.isEmpty) := fun H1 x Q q => by
  obtain ⟨p, vs, rfl, hp, hvs⟩ := h.ex x
  refine ⟨.ref p, hv, !vs.isEmpty, .inl ⟨vs, SqL.of hp, rfl⟩, ?_⟩
  have e : vs.isEmpty = ds.isEmpty := by
    have := hvs.length
    cases vs <;> cases ds <;> first | rfl | (simp at this)
  rw [e]
  exact q H1 (.refl H1)
end
section
variable {P : Program} {w : World} {K : PySem.W.Frag} {mg : Str → Option Value} {base : Heap}
/-! ### routes_for -/
theorem sc_routes : FnScope ["works", "row", "found"] ["works", "row"] (defScope sRoutesFor) := ⟨rfl, rfl, rfl, by decide +kernel, rfl, by decide +kernel, by decide +kernel⟩
def routesM (wk : Wk) (row : List Nat) : Option (List Nat) := ((ways wk row).head?).map (·.2)
def fRoutes : List PyData → PyData → Prop := fun ds d => ∃ (wk : Wk) (row : List Nat), ds = [dW wk, dN row] ∧ WkOk wk ∧ Few wk ∧ RowS wk row ∧ d = optD (routesM wk row)
theorem RowS.row {wk : Wk} {row : List Nat} (h : RowS wk row) : RowOk wk row := ⟨by have := h.1; omega, h.2⟩
theorem ok_routes {f fn fr fw Pn Pk Pl Pr Po Pw Pc : Addr} {fd fdn fdr fdw : FuncData} {k kn : Nat} (F : Fun K "routes_for" "routes_for" sRoutesFor f fd) (hk : kn ≤ k) (m1 : mg "list" = none)
    (gn : mg "need_works" = some (.ref fn)) (kpn : PySem.W.keepIn K (.ref fn) = true) (bn : Binds K fdn ["value"] []) (GN : FnOk P w K mg base CX0 kn fn fdn ["value"] (spF [Pn, Pk, Pl, Pr] fNeedWorks))
    (gr : mg "need_row" = some (.ref fr)) (kpr : PySem.W.keepIn K (.ref fr) = true) (br : Binds K fdr ["works", "value"] []) (GR : FnOk P w K mg base CX0 kn fr fdr ["works", "value"] (spF [Po] fNeedRow))
    (gw : mg "ways_through" = some (.ref fw)) (kpw : PySem.W.keepIn K (.ref fw) = true) (bw : Binds K fdw ["works", "row"] []) (GW : FnOk P w K mg base CX0 kn fw fdw ["works", "row"] (spD P w [Pw, Pc] fWays)) :
    FnOk P w K mg base CX0 (k + 1) f fd ["works", "row"] (spF [Pn, Pk, Pl, Pr, Po, Pw, Pc] fRoutes) := by
  refine F.ok sc_routes (fun vs H Q E h => ?_) (fun cdv A outer s H vs Q E hr h => ?_)
  · obtain ⟨ds, d, hvs, ⟨_, _, rfl, _⟩, _⟩ := h
    exact hvs.length
  · obtain ⟨ds, d, hvs, ⟨wk, row, rfl, W, Fw, hrow, rfl⟩, hT, q⟩ := h
    obtain ⟨v1, v2, rfl, h1, h2⟩ := hvs.inv2
    refine ⟨_, pss_cons (ps_expr (pe_call GN (hr.mono hk) (by rfl) gn kpn bn .nil pass0 (pa_cons (pv 0) pa_nil)))
      (pss_cons (ps_expr (pe_call GR (hr.mono hk) (by rfl) gr kpr br .nil pass0 (pa_cons (pv 0) (pa_cons (pv 1) pa_nil))))
      (pss_cons (ps_set (i := 2) sc_routes.nd rfl (Or.inl rfl) (pe_callTy (cr_listVals rfl) (by rfl) m1 (by decide +kernel) (pa_cons (pe_vals (pe_call GW (hr.mono hk) (by rfl) gw kpw bw .nil pass0 (pa_cons (pv 0) (pa_cons (pv 1) pa_nil)))) pa_nil)))
      (pss_one (ps_ret (pe_ifExp (pt_truth (pv 2) (fun _ => rfl)) (pe_ix ix_list (pv 2) pe_int (fun _ _ => rfl)) pe_non))))), ?_⟩
    have tb : ∀ {H' : Hp}, Ex H H' → ∀ P ∈ [Pn, Pk, Pl, Pr, Po, Pw, Pc], TabD 1 H' P := fun x P hP => x.tab _ _ (hT P hP)
    refine s_drop (ev_call (ea_one (ev_var rfl h1)) ⟨wk, rfl, W, rfl⟩ (fun P hP => tb (.refl H) P (List.mem_append_left [Po, Pw, Pc] hP))) fun _ H1 x1 _ => ?_
    refine s_drop (ev_call (ea_cons (ev_var rfl (h1.ex x1)) (ea_one (ev_var rfl (h2.ex x1)))) ⟨wk, row, rfl, hrow.row, rfl⟩ (fun P hP => tb x1 P (List.mem_append_right [Pn, Pk, Pl, Pr] (List.mem_append_left [Pw, Pc] hP)))) fun _ H2 x2 _ => ?_
    have y2 := x1.trans x2
    refine s_setL (el_listVals (en_call (ea_cons (ev_var rfl (h1.ex y2)) (ea_one (ev_var rfl (h2.ex y2)))) ⟨wk, row, rfl, W, Fw, hrow, rfl⟩ (fun P hP => tb y2 P (List.mem_append_right [Pn, Pk, Pl, Pr, Po] hP)))) fun p us H3 x3 _ hp hus => ?_
    have isl : IsL H3 (.ref p) ((toD (ways wk row)).map (·.2)) := ⟨p, us, rfl, hp, hus⟩
    refine s_ret (d := optD (routesM wk row)) (ev_if (eb_truL rfl isl) (fun hb => ?_) (fun hb => ?_)) fun v H4 x4 hv => q v H4 ((y2.trans x3).trans x4) hv
    · cases e : ways wk row with
      | nil => rw [e] at hb; simp [toD] at hb
      | cons x r =>
        rw [e] at isl
        have er : optD (routesM wk (row)) = dN x.2 := by unfold routesM; rw [e]; rfl
        rw [er]
        exact ev_ixV (i := 0) (evv_var rfl isl) ev_int (by
          show atI _ ((0 : Nat) : Int) = _
          exact at_nat rfl)
    · cases e : ways wk row with
      | nil =>
        have er : optD (routesM wk (row)) = .none := by unfold routesM; rw [e]; rfl
        rw [er]
        exact ev_non
      | cons x r => rw [e] at hb; simp [toD] at hb
/-! ### least_wrong -/
theorem sc_least : FnScope ["works", "row", "found", "kind", "later", "stand", "wrong", "number", "other", "good", "total"] ["works", "row"] (defScope sLeastWrong) := ⟨rfl, rfl, rfl, by decide +kernel, rfl, by decide +kernel, by decide +kernel⟩
def fLeast : List PyData → PyData → Prop := fun ds d => ∃ (wk : Wk) (row : List Nat) (j : Nat), ds = [dW wk, dN row] ∧ WkOk wk ∧ Few wk ∧ RowS wk row ∧ j ∈ (leasts wk row).map (·.2) ∧ (∀ i ∈ (leasts wk row).map (·.2), j ≤ i) ∧ d = .int (j : Int)
def toL (m : Leasts) : List (Stand × PyData) := m.map fun x => (x.1, .int (x.2 : Int))
theorem toL_len (m : Leasts) : (toL m).length = m.length := by simp [toL]
theorem toL_put {m : Leasts} {k : Stand} {v : Nat} : toL (putD m k v) = putD (toL m) k (.int (v : Int)) := by
  unfold putD toL
  rw [valD_map (fun n : Nat => PyData.int (n : Int)), Option.isSome_map]
  split
  · rw [List.map_map, List.map_map]
    refine List.map_congr_left fun x _ => ?_
    by_cases e : x.1 = k <;> simp [e]
  · simp
theorem toL_lIn {wk : Wk} {k n : Nat} {x : Stand × Nat} {acc : Leasts} : toL (lIn wk k n x acc) = putD (toL acc) (dyedM wk x.1 k n).1 (.int ((min ((valD acc (dyedM wk x.1 k n).1).getD (tot wk k n x)) (tot wk k n x) : Nat) : Int)) := toL_put
theorem RowS.lenL {wk : Wk} {row : List Nat} (W : WkOk wk) (F : Few wk) (h : RowS wk row) (i : Nat) : LOk wk (leasts wk (row.take i)) ∧ (leasts wk (row.take i)).length ≤ 1024 := by
  obtain ⟨h1, h2⟩ := leasts_ok W F (row := row.take i) fun k hk => h.2 k (List.mem_of_mem_take hk)
  refine ⟨h1, Nat.le_trans h2 (Nat.le_trans (Nat.pow_le_pow_right (show 4 > 0 by decide) (show _ ≤ 5 from ?_)) (by decide))⟩
  have := h.1
  rw [List.length_take]
  omega
def rMin2 : List V → Hp → VK → Prop := fun xs H Q => ∃ i j, xs = [.int i, .int j] ∧ Q (.int (if j < i then j else i)) H
theorem ev_min2 {ta tb : TE} {σ : L2.St} {H : Hp} {i j : Nat} (ha : Ev ta σ H (.int (i : Int))) (hb : Ev tb σ H (.int (j : Int))) : Ev (tCB rMin2 (tCons ta (tCons tb tNil))) σ H (.int ((min i j : Nat) : Int)) := fun H1 x Q q =>
  ha H1 x _ fun v H2 x2 hv => hb H2 (x.trans x2) _ fun u H3 x3 hu => by
    refine ⟨i, j, by rw [hv.int_inv, hu.int_inv], ?_⟩
    have e : (if (j : Int) < (i : Int) then (j : Int) else (i : Int)) = ((min i j : Nat) : Int) := by
      by_cases h : j < i
      · rw [if_pos (by omega)]; omega
      · rw [if_neg (by omega)]; omega
    rw [e]
    exact q _ H3 (x2.trans x3) (.int _)
theorem ok_least {f fd' fn fr Pn Pk Pl Pr Po Pw Pc : Addr} {fd fdd fdn fdr : FuncData} {k kn : Nat} (F : Fun K "least_wrong" "least_wrong" sLeastWrong f fd) (hk : kn ≤ k) (m1 : mg "range" = none) (m2 : mg "len" = none) (m3 : mg "min" = none) (tk : Tok) (mS : mg "MOST_STANDS" = some (.int 5000 tk))
    (gn : mg "need_works" = some (.ref fn)) (kpn : PySem.W.keepIn K (.ref fn) = true) (bn : Binds K fdn ["value"] []) (GN : FnOk P w K mg base CX0 kn fn fdn ["value"] (spF [Pn, Pk, Pl, Pr] fNeedWorks))
    (gr : mg "need_row" = some (.ref fr)) (kpr : PySem.W.keepIn K (.ref fr) = true) (br : Binds K fdr ["works", "value"] []) (GR : FnOk P w K mg base CX0 kn fr fdr ["works", "value"] (spF [Po] fNeedRow))
    (gd : mg "dyed" = some (.ref fd')) (kpd : PySem.W.keepIn K (.ref fd') = true) (bd : Binds K fdd ["works", "stand", "kind", "number"] []) (GD : FnOk P w K mg base CX0 kn fd' fdd ["works", "stand", "kind", "number"] (spF [Pw, Pc] fDyed)) :
    FnOk P w K mg base CX0 (k + 1) f fd ["works", "row"] (spF [Pn, Pk, Pl, Pr, Po, Pw, Pc] fLeast) := by
  refine F.ok sc_least (fun vs H Q E h => ?_) (fun cdv A outer s H vs Q E hr h => ?_)
  · obtain ⟨ds, d, hvs, ⟨_, _, _, rfl, _⟩, _⟩ := h
    exact hvs.length
  · obtain ⟨ds, d, hvs, ⟨wk, row, jmin, rfl, W, Fw, hrow, hj1, hj2, rfl⟩, hT, q⟩ := h
    obtain ⟨v1, v2, rfl, h1, h2⟩ := hvs.inv2
    have hu := hr.units
    have hu9 := Nat.lt_of_le_of_lt (Nat.add_le_add_left (by decide : 9 ≤ 64) _) hu
    refine ⟨_, pss_cons (ps_expr (pe_call GN (hr.mono hk) (by rfl) gn kpn bn .nil pass0 (pa_cons (pv 0) pa_nil)))
      (pss_cons (ps_expr (pe_call GR (hr.mono hk) (by rfl) gr kpr br .nil pass0 (pa_cons (pv 0) (pa_cons (pv 1) pa_nil))))
      (pss_cons (ps_set (i := 2) sc_least.nd rfl (Or.inl rfl) (pe_disp1 hu9 (pe_ix ix_tup (pv 0) pe_int (fun _ _ => rfl)) pe_int))
      (pss_cons (ps_for PassesOwn.never rfl (pi_tup (pv 1)) (pg_name (i := 3) sc_least.nd rfl (Or.inl rfl))
        (pss_cons (ps_set (i := 4) sc_least.nd rfl (Or.inl rfl) pe_nnew)
        (pss_cons (ps_for PassesOwn.never rfl (pi_items (pv 2)) (pg_tup rfl (pgs_cons (pg_name (i := 5) sc_least.nd rfl (.inl rfl)) (pgs_cons (pg_name (i := 6) sc_least.nd rfl (.inl rfl)) pgs_nil)))
          (pss_one (ps_for PassesOwn.never rfl (pi_range1 (by rfl) m1 (pa_cons (pe_callB (r := rLn K) call_len_seq (by rfl) m2 PySem.boot_len (pa_cons (pe_ix ix_tup (pe_ix ix_tup (pe_ix ix_tup (pv 0) pe_int (fun _ _ => rfl)) (pv 3) (fun _ _ => rfl)) pe_int (fun _ _ => rfl)) pa_nil)) pa_nil)) (pg_name (i := 7) sc_least.nd rfl (Or.inl rfl))
            (pss_cons (ps_asg (pe_call GD (hr.mono hk) (by rfl) gd kpd bd .nil pass0 (pa_cons (pv 0) (pa_cons (pv 5) (pa_cons (pv 3) (pa_cons (pv 7) pa_nil))))) (pg_tup rfl (pgs_cons (pg_name (i := 8) sc_least.nd rfl (.inl rfl)) (pgs_cons (pg_name (i := 9) sc_least.nd rfl (.inl rfl)) pgs_nil))))
            (pss_cons (ps_set (i := 10) sc_least.nd rfl (Or.inl rfl) (pe_ifExp (pt_val (pv 9)) (pv 6) (pe_op op_add (pv 6) pe_int)))
            (pss_one (ps_nput hu9 (pe_callB (r := rMin2) (call_min2 rfl) (by rfl) m3 (by decide +kernel) (pa_cons (pe_nget hu9 (pv 4) (pv 8) (pv 10) ⟨by rfl, by rfl, by rfl, by rfl⟩) (pa_cons (pv 10) pa_nil))) (pv 4) (pv 8))))))))
        (pss_cons (ps_if (pt_cmpR op_gt (pe_callB (r := rLenN P w) call_lenN (by rfl) m2 PySem.boot_len (pa_cons (pv 4) pa_nil)) (pe_glob (v := .int 5000) (by rfl) mS ⟨_, rfl⟩) (nomark _)) (pss_one ps_never) pss_nil)
        (pss_one (ps_set (i := 2) sc_least.nd rfl (Or.inl rfl) (pv 4)))))))
      (pss_one (ps_ret (pe_callB (r := rMinVals P w) (cr_minVals rfl) (by rfl) m3 (by decide +kernel) (pa_cons (pe_vals (pv 2)) pa_nil))))))), ?_⟩
    have tb : ∀ {H' : Hp}, Ex H H' → ∀ P ∈ [Pn, Pk, Pl, Pr, Po, Pw, Pc], TabD 1 H' P := fun x P hP => x.tab _ _ (hT P hP)
    refine s_drop (ev_call (ea_one (ev_var rfl h1)) ⟨wk, rfl, W, rfl⟩ (fun P hP => tb (.refl H) P (List.mem_append_left [Po, Pw, Pc] hP))) fun _ Ha xa _ => ?_
    refine s_drop (ev_call (ea_cons (ev_var rfl (h1.ex xa)) (ea_one (ev_var rfl (h2.ex xa)))) ⟨wk, row, rfl, hrow.row, rfl⟩ (fun P hP => tb xa P (List.mem_append_right [Pn, Pk, Pl, Pr] (List.mem_append_left [Pw, Pc] hP)))) fun _ Hb xb _ => ?_
    have xab := xa.trans xb
    refine s_disp1 (k := wk.vats) (d := .int 0) (ev_ixn (i := 1) (ev_var rfl (h1.ex xab)) ev_int rfl) ev_int fun p1 H1 _ xc dc1 => ?_
    have x1 := xab.trans xc
    refine s_forT none1 (ds := nInts row) (fun i σ H' => ∃ a y3 y4 y5 y6 y7 y8 y9 y10, σ = [some v1, some v2, some (.ref a), y3, y4, y5, y6, y7, y8, y9, y10] ∧ IsDc P w H' a (toL (leasts wk (row.take i)))) (ev_var rfl (h2.ex x1)) (fun H2 x2 => ⟨p1, none, none, none, none, none, none, none, none, rfl, dc1.ex0 x2⟩) ?_ ?_
    · rintro i d v σ' H' Z hd x ⟨a, y3, y4, y5, y6, y7, y8, y9, y10, rfl, dc⟩ hv kz
      rw [List.getElem?_map] at hd
      obtain ⟨kd, hkd, rfl⟩ := Option.map_eq_some_iff.mp hd
      have ev := hv.int_inv
      subst ev
      have hkk : kd < wk.kinds.length := hrow.2 kd (List.mem_of_getElem? hkd)
      obtain ⟨ok0, len0⟩ := hrow.lenL W Fw i
      have r4 := Fw kd hkk
      refine s_nnew fun p H2 hp x2 dc2 => ?_
      have hap : ¬ a = p := by
        obtain ⟨_, _, o, _, _, _, e, _⟩ := dc
        exact ne_of_none e hp
      have xH : Ex H H2 := (x1.trans x).trans x2
      refine s_forN (te := tVar 2) (fun b => b = p) hap (fun i2 σ H' => ∃ y5 y6 y7 y8 y9 y10, σ = [some v1, some v2, some (.ref a), some (.int (kd : Int)), some (.ref p), y5, y6, y7, y8, y9, y10] ∧ IsDc P w H' p (toL (lAll wk kd ((leasts wk (row.take i)).take i2) []))) (dc.ex0 x2) (fun Q q => ⟨.ref a, rfl, q⟩) ⟨y5, y6, y7, y8, y9, y10, rfl, dc2⟩ ?_ ?_
      · rintro i2 pr v5 v6 N σ2 H3 Z2 hpr x3 ⟨y5, y6, y7, y8, y9, y10, rfl, dc3⟩ hN h5 h6 kz2
        unfold toL at hpr
        rw [List.getElem?_map] at hpr
        obtain ⟨⟨st, t⟩, hst, rfl⟩ := Option.map_eq_some_iff.mp hpr
        have hstm := List.mem_of_getElem? hst
        have stOk := ok0 _ hstm
        have xN : Ex H3 (upd H3 N (.tup [v5, v6])) := .new hN
        have lenA : (lAll wk kd ((leasts wk (row.take i)).take i2) []).length ≤ 4096 := by
          have g1 := lAll_len (wk := wk) (k := kd) (found := (leasts wk (row.take i)).take i2) (acc := [])
          have g2 : ((leasts wk (row.take i)).take i2).length * (wk.kind kd).routes.length ≤ 1024 * 4 := Nat.mul_le_mul (Nat.le_trans (by rw [List.length_take]; omega) len0) r4
          simp at g1 g2
          omega
        refine g_two upd_same ?_
        refine s_forR (n := (wk.kind kd).routes.length) (fun b => b = p) (fun j σ H' => ∃ y7 y8 y9 y10, σ = [some v1, some v2, some (.ref a), some (.int (kd : Int)), some (.ref p), some v5, some v6, y7, y8, y9, y10] ∧ IsDc P w H' p (toL (lOne wk kd (st, t) j (lAll wk kd ((leasts wk (row.take i)).take i2) [])))) (ea_one (ev_routesLen rfl ((h1.ex xH).ex (x3.trans (.up xN))) rfl hkk)) (by omega) (fun H4 x4 => ⟨y7, y8, y9, y10, rfl, (dc3.ex0 xN).ex0 x4⟩) ?_ ?_
        · rintro j σ3 H4 Z3 hj x4 ⟨y7, y8, y9, y10, rfl, dc4⟩ kz3
          have hat : At wk kd j := ⟨hkk, hj⟩
          have xa := (x3.trans (.up xN)).trans x4
          have tabs : ∀ P ∈ [Pw, Pc], TabD 1 H4 P := fun P hP => xa.tab _ _ (tb xH P (List.mem_append_right [Pn, Pk, Pl, Pr, Po] hP))
          refine s_unp2 (ev_call (ea_cons (ev_var rfl ((h1.ex xH).ex xa)) (ea_cons (ev_var rfl ((h5.ex xN).ex x4)) (ea_cons (ev_var rfl (.int _)) (ea_one (ev_var rfl (.int _)))))) ⟨wk, st, kd, j, rfl, W, stOk, hat, rfl⟩ tabs) fun w8 w9 H5 x5 k8 k9 => ?_
          have eb := k9.bool_inv
          subst eb
          have h6' := ((h6.ex xN).ex x4).ex x5
          refine s_set (d := .int ((tot wk kd j (st, t) : Nat) : Int)) (ev_if (b := (dyedM wk st kd j).2) (eb_test (ev_var rfl k9)) (fun hb => ev_is (ev_var rfl h6') ?_) (fun hb => ev_is (ev_add (ev_var rfl h6') ev_int) ?_)) fun w10 H6 x6 k10 => ?_
          · unfold tot; rw [if_pos hb]
          · unfold tot; rw [if_neg (by rw [hb]; exact Bool.false_ne_true)]; rfl
          have hsucc : lOne wk kd (st, t) (j + 1) (lAll wk kd ((leasts wk (row.take i)).take i2) []) = lIn wk kd j (st, t) (lOne wk kd (st, t) j (lAll wk kd ((leasts wk (row.take i)).take i2) [])) := lOne_succ
          have lenO := lOne_len (wk := wk) (k := kd) (x := (st, t)) (acc := lAll wk kd ((leasts wk (row.take i)).take i2) []) j
          have dc5 := (dc4.ex0 x5).ex0 x6
          refine s_nput (k := (dyedM wk st kd j).1) (ev_min2 (i := (valD (lOne wk kd (st, t) j (lAll wk kd ((leasts wk (row.take i)).take i2) [])) (dyedM wk st kd j).1).getD (tot wk kd j (st, t))) (ev_is (ev_nget (d0 := .int ((tot wk kd j (st, t) : Nat) : Int)) rfl dc5 (ev_var rfl (k8.ex x6)) (ev_var rfl k10)) ?_) (ev_var rfl k10)) rfl (ev_var rfl (k8.ex x6)) dc5 ?_ fun H7 x7 dc7 => ?_
          · unfold toL
            rw [valD_map (fun n : Nat => PyData.int (n : Int))]
            cases valD (lOne wk kd (st, t) j (lAll wk kd ((leasts wk (row.take i)).take i2) [])) (dyedM wk st kd j).1 <;> rfl
          · rw [toL_len]; omega
          · refine kz3 _ H7 ((ExB.up (x5.trans x6)).trans x7) ⟨_, _, _, _, rfl, ?_⟩
            rw [hsucc, toL_lIn]
            exact dc7
        · rintro σ3 H4 x4 ⟨y7, y8, y9, y10, rfl, dc4⟩
          refine kz2 _ H4 x4 ⟨_, _, _, _, _, _, rfl, ?_⟩
          rw [take_snoc hst, lAll_snoc]
          exact dc4
      · rintro σ2 H3 x3 ⟨y5, y6, y7, y8, y9, y10, rfl, dc3⟩
        rw [toL_len, List.take_length] at dc3
        have lenS : (lStep wk kd (leasts wk (row.take i))).length ≤ 4096 := by
          have g1 := lAll_len (wk := wk) (k := kd) (found := leasts wk (row.take i)) (acc := [])
          have g2 : (leasts wk (row.take i)).length * (wk.kind kd).routes.length ≤ 1024 * 4 := Nat.mul_le_mul len0 r4
          unfold lStep
          simp at g1 g2
          omega
        have x23 : Ex H' H3 := ex_over x2 x3 fun r e => by rw [e]; exact hp
        refine s_if (b := false) (eb_is (eb_test (ev_gt (ev_lenN rfl dc3) ev_int)) ?_) (fun z => nomatch z) (fun _ H4 x4 => ?_)
        · rw [toL_len]
          have : (lAll wk kd (leasts wk (row.take i)) []).length ≤ 4096 := lenS
          simp
          omega
        · refine ⟨.ref p, rfl, kz _ H4 (x23.trans x4) ⟨p, _, _, _, _, _, _, _, _, rfl, ?_⟩⟩
          rw [take_snoc hkd, leasts_snoc]
          exact dc3.ex0 x4
    · rintro σ' H' x ⟨a, y3, y4, y5, y6, y7, y8, y9, y10, rfl, dc⟩
      rw [List.length_map, List.take_length] at dc
      dsimp only
      refine s_ret (ev_minVals (js := (leasts wk row).map fun x => (x.2 : Int)) (j := (jmin : Int)) (en_var rfl dc) ?_ ?_ ?_ ?_) fun v' H4 x4 hv' => q v' H4 ((x1.trans x).trans x4) hv'
      · simp [toL, Function.comp_def]
      · intro z
        have e : leasts wk row = [] := List.map_eq_nil_iff.mp z
        rw [e] at hj1
        simp at hj1
      · obtain ⟨x, hx, e⟩ := List.mem_map.mp hj1
        exact List.mem_map.mpr ⟨x, hx, by rw [e]⟩
      · intro i hi
        obtain ⟨x, hx, e⟩ := List.mem_map.mp hi
        have := hj2 x.2 (List.mem_map.mpr ⟨x, hx, rfl⟩)
        omega
end
end Dw
set_option Elab.async false
set_option linter.all false
set_option maxRecDepth 100000
set_option maxHeartbeats 4000000
namespace Dw
open PySem PySem.Spec PyProof.Rows L2 Gx
/-! ### values that the law tries -/
inductive PV where
  | non
  | tup (rt : List Nat)
  | lst (rt : List Nat)
  | dic
def IsP (H : Hp) (v : V) : PV → Prop
  | .non => v = .non
  | .tup rt => Is H v (dN rt)
  | .lst rt => IsL H v (nInts rt)
  | .dic => ∃ a, v = .ref a ∧ H a = some (.dK [])
theorem IsP.ex {H H' : Hp} {v : V} (x : Ex H H') : ∀ {p : PV}, IsP H v p → IsP H' v p
  | .non, h => h
  | .tup rt, h => Is.ex x h
  | .lst rt, h => IsL.ex x h
  | .dic, ⟨a, e, h⟩ => ⟨a, e, x.keep _ _ h (fun _ z => by cases z) fun z => z⟩
def tyP : PV → String
  | .non => "NoneType"
  | .tup _ => "tuple"
  | .lst _ => "list"
  | .dic => "dict"
section
variable {K : PySem.W.Frag} {σ : L2.St} {H : Hp}
theorem IsP.ty {v : V} : ∀ {p : PV}, IsP H v p → TyX K H v (.type (tyP p))
  | .non, h => by rw [show v = .non from h]; exact .base .non
  | .tup rt, h => Is.ty (d := dN rt) h
  | .lst rt, ⟨p, vs, e, h, _⟩ => by rw [e]; exact .base (.lst h)
  | .dic, ⟨a, e, h⟩ => by rw [e]; exact .base (.dK h)
theorem ev_isiP {i : Nat} {v : V} {p : PV} {T : String} {b : Bool} (hv : σ[i]? = some (some v)) (h : IsP H v p) (k : kitB (tyP p) T = some b) : Ev (tCB (rIsi K) (tCons (tVar i) (tCons (tC (.ty T)) tNil))) σ H (.bool b) := fun H1 x _ q =>
  ⟨v, hv, v, .ty T, _, _, b, rfl, .ty T, (h.ex x).ty, kit_ty k, q _ H1 (.refl H1) (.bl b)⟩
theorem ev_isN {i : Nat} {v : V} (hv : σ[i]? = some (some v)) : Ev (tIsN (tVar i)) σ H (.bool (decide (v = .non))) := fun H1 x _ q => ⟨v, hv, q _ H1 (.refl H1) (.bl _)⟩
end
/-- the last argument such a value -/
def spP (T : List Addr) (f : List PyData → PV → PyData → Prop) : Sp := fun vs H Q _ => ∃ ds pv d us u, vs = us ++ [u] ∧ IsA H us ds ∧ IsP H u pv ∧ f ds pv d ∧ (∀ P ∈ T, TabD 1 H P) ∧ ∀ v H', Ex H H' → Is H' v d → Q v H'
def seqB (wk : Wk) (row rt : List Nat) : Bool := decide (rt.length = row.length) && (row.zip rt).all fun p => decide (p.2 < (wk.kind p.1).routes.length)
theorem seqB_iff {wk : Wk} {row rt : List Nat} (hr : ∀ k ∈ row, k < wk.kinds.length) : seqB wk row rt = true ↔ Seq wk row rt := by
  unfold seqB Seq
  rw [Bool.and_eq_true, decide_eq_true_iff, List.all_eq_true]
  refine and_congr_right fun _ => ⟨fun h p hp => ⟨hr _ (List.of_mem_zip hp).1, by simpa using h p hp⟩, fun h p hp => by simpa using (h p hp).2⟩
def showsM (wk : Wk) (row : List Nat) : PV → Bool
  | .non => (ways wk row).isEmpty
  | .tup rt => seqB wk row rt && decide (wrongM wk wk.vats (row.zip rt) = 0)
  | .lst _ => false
  | .dic => false
def fShows : List PyData → PV → PyData → Prop := fun ds pv d => ∃ (wk : Wk) (row : List Nat), ds = [dW wk, dN row] ∧ WkOk wk ∧ Few wk ∧ RowS wk row ∧ d = .bool (showsM wk row pv)
/-- whether a number stands below its kind's routes -/
def numB (wk : Wk) : PyData → Bool
  | .tuple [.int k, .int n] => decide (0 ≤ n ∧ n ≤ ((wk.kind k.toNat).routes.length : Int) - 1)
  | _ => false
theorem all_num {wk : Wk} (row rt : List Nat) : quant false (((nInts row).zip (nInts rt)).map fun p => PyData.tuple [p.1, p.2]) (numB wk) = (row.zip rt).all fun p => decide (p.2 < (wk.kind p.1).routes.length) := by
  unfold quant nInts
  rw [if_neg (by decide), List.zip_map, List.map_map, List.all_map]
  refine congrArg (fun f => (row.zip rt).all f) ?_
  funext p
  show decide _ = decide _
  apply decide_eq_decide.mpr
  show (0 ≤ (p.2 : Int) ∧ (p.2 : Int) ≤ ((wk.kind (p.1 : Int).toNat).routes.length : Int) - 1) ↔ _
  rw [Int.toNat_natCast]
  omega
section
variable {P : Program} {w : World} {K : PySem.W.Frag} {mg : Str → Option Value} {base : Heap}
theorem sc_shows : FnScope ["works", "row", "value", "kind", "number"] ["works", "row", "value"] (defScope sShowsRoutes) := ⟨rfl, rfl, rfl, by decide +kernel, rfl, by decide +kernel, by decide +kernel⟩
theorem ok_shows {f c Pt fi fn fr fw fg Pn Pk Pl Pr Po Pw Pc : Addr} {fd fdi fdn fdr fdw fdg : FuncData} {k kn : Nat} (F : FunC K "shows_routes" "shows_routes" sShowsRoutes f fd c) (t : TB base mg c Pt) (hk : kn + 1 ≤ k)
    (m1 : mg "isinstance" = none) (m2 : mg "tuple" = none) (m3 : mg "len" = none) (m4 : mg "all" = none) (m5 : mg "zip" = none)
    (gi : mg "is_number" = some (.ref fi)) (kpi : PySem.W.keepIn K (.ref fi) = true) (bi : Binds K fdi ["value", "low", "high"] []) (GI : FnOk P w K mg base CX0 kn fi fdi ["value", "low", "high"] (spF [] fIsNumber))
    (gn : mg "need_works" = some (.ref fn)) (kpn : PySem.W.keepIn K (.ref fn) = true) (bn : Binds K fdn ["value"] []) (GN : FnOk P w K mg base CX0 kn fn fdn ["value"] (spF [Pn, Pk, Pl, Pr] fNeedWorks))
    (gr : mg "need_row" = some (.ref fr)) (kpr : PySem.W.keepIn K (.ref fr) = true) (br : Binds K fdr ["works", "value"] []) (GR : FnOk P w K mg base CX0 kn fr fdr ["works", "value"] (spF [Po] fNeedRow))
    (gw : mg "ways_through" = some (.ref fw)) (kpw : PySem.W.keepIn K (.ref fw) = true) (bw : Binds K fdw ["works", "row"] []) (GW : FnOk P w K mg base CX0 kn fw fdw ["works", "row"] (spD P w [Pw, Pc] fWays))
    (gg : mg "goes" = some (.ref fg)) (kpg : PySem.W.keepIn K (.ref fg) = true) (bg : Binds K fdg ["works", "row", "routes"] []) (GG : FnOk P w K mg base CX0 kn fg fdg ["works", "row", "routes"] (spQ [Pw, Pc] fGoes)) :
    FnOk P w K mg base CX0 (k + 1) f fd ["works", "row", "value"] (spP [Pn, Pk, Pl, Pr, Po, Pw, Pc, Pt] fShows) := by
  refine F.ok sc_shows (fun vs H Q E h => ?_) (fun A outer s H vs Q E hr h => ?_)
  · obtain ⟨ds, vp, d, us, u, rfl, hu, _, ⟨_, _, rfl, _⟩, _⟩ := h
    obtain ⟨v1, v2, rfl, _⟩ := hu.inv2
    rfl
  · obtain ⟨ds, vp, d, us, u, rfl, hu, hp, ⟨wk, row, rfl, W, Fw, hrow, rfl⟩, hT, q⟩ := h
    obtain ⟨v1, v2, rfl, h1, h2⟩ := hu.inv2
    have hk0 : kn ≤ k := by omega
    refine ⟨_, pss_cons (ps_expr (pe_call GN (hr.mono hk0) (by rfl) gn kpn bn .nil pass0 (pa_cons (pv 0) pa_nil)))
      (pss_cons (ps_expr (pe_call GR (hr.mono hk0) (by rfl) gr kpr br .nil pass0 (pa_cons (pv 0) (pa_cons (pv 1) pa_nil))))
      (pss_cons (ps_if (pt_cmp (pc_isN (pv 2))) (pss_one (ps_ret (pe_notN (pe_call GW (hr.mono hk0) (by rfl) gw kpw bw .nil pass0 (pa_cons (pv 0) (pa_cons (pv 1) pa_nil)))))) pss_nil)
      (pss_cons (ps_if (PW.pt (pw_or (pt_not (pt_val (pe_callB call_isi (by rfl) m1 (by decide +kernel) (pa_cons (pv 2) (pa_cons (pe_bltn (v := .ty "tuple") (u := .type "tuple") (by rfl) m2 (by decide +kernel) rfl) pa_nil)))))
        (pw_or1 (pt_cmpR op_ne (pe_callB (r := rLn K) call_len_seq (by rfl) m3 PySem.boot_len (pa_cons (pv 2) pa_nil)) (pe_callB (r := rLn K) call_len_seq (by rfl) m3 PySem.boot_len (pa_cons (pv 1) pa_nil)) (nomark _))))) (pss_one (ps_ret pe_bl)) pss_nil)
      (pss_cons (ps_if (pt_not (pt_val (pe_all (n := 0) (own := [("kind", 3), ("number", 4)]) (g := gTup K 2 (gCons (gName 3) (gCons (gName 4) gNil)))
          (te := fun _ => tCall (spF [] fIsNumber) [] E0 (tCons (tVar 4) (tCons (tC (.int 0)) (tCons (tOp (rI0 fun i j => .int (i - j)) (tCB (rLn K) (tCons (tOp (rIxT K) (tOp (rIxT K) (tOp (rIxT K) (tVar 0) (tC (.int 2))) (tVar 3)) (tC (.int 2))) tNil)) (tC (.int 1))) tNil)))) (hr.mono hk) (by rfl) m4 (bmAt_of t) sc_shows.nd
          (RZ.pi_zipA (by rfl) m5 (pa_cons (pv 1) (pa_cons (pv 2) pa_nil))) (genS_by (N := ["works", "row", "value", "kind", "number"]) (sc := defScope sShowsRoutes) (by decide +kernel))
          (fun _ _ _ _ _ _ _ _ _ => pg_tup rfl (pgs_cons (pg_name (i := 3) sc_shows.nd rfl (.inl rfl)) (pgs_cons (pg_name (i := 4) sc_shows.nd rfl (.inl rfl)) pgs_nil)))
          (fun _ _ _ _ _ _ _ _ rk => pe_call GI rk (by rfl) gi kpi bi .nil pass0 (pa_cons (pv 4) (pa_cons pe_int (pa_cons (pe_op op_sub (pe_callB (r := rLn K) call_len_seq (by rfl) m3 PySem.boot_len (pa_cons (pe_ix ix_tup (pe_ix ix_tup (pe_ix ix_tup (pv 0) pe_int (fun _ _ => rfl)) (pv 3) (fun _ _ => rfl)) pe_int (fun _ _ => rfl)) pa_nil)) pe_int) pa_nil))))))) (pss_one (ps_ret pe_bl)) pss_nil)
      (pss_one (ps_ret (pe_call GG (hr.mono hk0) (by rfl) gg kpg bg .nil pass0 (pa_cons (pv 0) (pa_cons (pv 1) (pa_cons (pv 2) pa_nil)))))))))), ?_⟩
    have tb : ∀ {H' : Hp}, Ex H H' → ∀ P ∈ [Pn, Pk, Pl, Pr, Po, Pw, Pc, Pt], TabD 1 H' P := fun x P hP => x.tab _ _ (hT P hP)
    refine s_drop (ev_call (ea_one (ev_var rfl h1)) ⟨wk, rfl, W, rfl⟩ (fun P hP => tb (.refl H) P (List.mem_append_left [Po, Pw, Pc, Pt] hP))) fun _ H1 x1 _ => ?_
    refine s_drop (ev_call (ea_cons (ev_var rfl (h1.ex x1)) (ea_one (ev_var rfl (h2.ex x1)))) ⟨wk, row, rfl, hrow.row, rfl⟩ (fun P hP => tb x1 P (List.mem_append_right [Pn, Pk, Pl, Pr] (List.mem_append_left [Pw, Pc, Pt] hP)))) fun _ H2 x2 _ => ?_
    have y2 := x1.trans x2
    have hp2 := hp.ex y2
    have mw : ∀ P ∈ [Pw, Pc], P ∈ [Pn, Pk, Pl, Pr, Po, Pw, Pc, Pt] := fun P hP => List.mem_append_right [Pn, Pk, Pl, Pr, Po] (List.mem_append_left [Pt] hP)
    cases vp with
    | non =>
      have eu : u = .non := hp2
      subst eu
      refine s_if (b := true) (eb_is (eb_B (ev_isN rfl)) rfl) (fun _ H3 x3 => ?_) (fun z => nomatch z)
      have y3 := y2.trans x3
      refine s_ret (ev_is (ev_notN (en_call (ea_cons (ev_var rfl (h1.ex y3)) (ea_one (ev_var rfl (h2.ex y3)))) ⟨wk, row, rfl, W, Fw, hrow, rfl⟩ fun P hP => tb y3 P (mw P hP))) ?_) fun v H4 x4 hv => q v H4 (y3.trans x4) hv
      show _ = PyData.bool (ways wk row).isEmpty
      cases ways wk row <;> rfl
    | tup rt =>
      have ht : Is H2 u (dN rt) := hp2
      obtain ⟨pa, wa, eu, _⟩ := Is.tup_inv ht
      refine s_if (b := false) (eb_is (eb_B (ev_isN rfl)) (by rw [eu]; exact decide_eq_false fun z => nomatch z)) (fun z => nomatch z) (fun _ H3 x3 => ?_)
      refine s_if (b := !decide (rt.length = row.length)) (eb_is (eb_or (eb_not (eb_B (ev_isiP (p := .tup rt) rfl (IsP.ex x3 hp2) ki_tuple_tuple))) fun _ => eb_test (ev_neI (ev_len (ev_var rfl (ht.ex x3))) (ev_len (ev_var rfl (h2.ex (y2.trans x3)))))) ?_) (fun hb H4 x4 => ?_) (fun hb H4 x4 => ?_)
      · rw [List.length_map, List.length_map, show decide ((rt.length : Int) = (row.length : Int)) = decide (rt.length = row.length) from decide_eq_decide.mpr (by omega)]
        rfl
      · refine s_ret (d := .bool false) ev_bl fun v H5 x5 hv => q v H5 (((y2.trans x3).trans x4).trans x5) ?_
        have e : showsM wk row (.tup rt) = false := by
          have : decide (rt.length = row.length) = false := by simpa using hb
          simp [showsM, seqB, this]
        rw [e]
        exact hv
      · have hlen : rt.length = row.length := by simpa using hb
        have y4 := (y2.trans x3).trans x4
        refine s_if (eb_not (eb_B (ev_qZ (f := numB wk) (ea_cons (ev_var rfl (h2.ex y4)) (ea_one (ev_var rfl ((ht.ex x3).ex x4)))) (codeRd_of t (TabD.down (tb y4 Pt (by simp)))) (by decide) (fun _ _ => rfl) fun i d e v u' cv2 H5 hd he x5 hv hu' _ => ?_))) (fun hb H5 x5 => ?_) (fun hb H5 x5 => ?_)
        · rw [List.getElem?_map] at hd he
          obtain ⟨a, ha, rfl⟩ := Option.map_eq_some_iff.mp hd
          obtain ⟨b, hb', rfl⟩ := Option.map_eq_some_iff.mp he
          have ev := hv.int_inv
          subst ev
          refine ev_call (T := []) (ea_cons (ev_var rfl hu') (ea_cons ev_int (ea_one (ev_sub (ev_routesLen rfl (h1.ex (y4.trans x5)) rfl (hrow.2 a (List.mem_of_getElem? ha))) ev_int)))) ⟨_, _, _, rfl, ?_⟩ (fun _ z => nomatch z)
          show PyData.bool (decide (0 ≤ (b : Int) ∧ (b : Int) ≤ ((wk.kind (a : Int).toNat).routes.length : Int) - 1)) = _
          rw [Int.toNat_natCast]
        · refine s_ret (d := .bool false) ev_bl fun v H6 x6 hv => q v H6 ((y4.trans x5).trans x6) ?_
          rw [all_num] at hb
          have e : showsM wk row (.tup rt) = false := by
            have : (row.zip rt).all (fun p => decide (p.2 < (wk.kind p.1).routes.length)) = false := by simpa using hb
            show (seqB wk row rt && _) = false
            unfold seqB
            rw [this]
            simp
          rw [e]
          exact hv
        · rw [all_num] at hb
          have hall : (row.zip rt).all (fun p => decide (p.2 < (wk.kind p.1).routes.length)) = true := by simpa using hb
          have hseq : seqB wk row rt = true := by
            unfold seqB
            rw [hall, decide_eq_true hlen]
            rfl
          have y5 := y4.trans x5
          refine s_ret (ev_callQ (eaq_cons (ev_var rfl (h1.ex y5)) (eaq_cons (ev_var rfl (h2.ex y5)) (eaq_one (Ev.toQ (ev_var rfl (((ht.ex x3).ex x4).ex x5)))))) ⟨wk, row, rt, rfl, rfl, W, ((seqB_iff hrow.2).mp hseq).2, rfl⟩ fun P hP => tb y5 P (mw P hP)) fun v H6 x6 hv => q v H6 (y5.trans x6) ?_
          show Is H6 v (.bool (seqB wk row rt && decide (wrongM wk wk.vats (row.zip rt) = 0)))
          rw [hseq, Bool.true_and]
          exact hv
    | lst rt =>
      obtain ⟨pa, wa, eu, _⟩ := id hp2
      refine s_if (b := false) (eb_is (eb_B (ev_isN rfl)) (by rw [eu]; exact decide_eq_false fun z => nomatch z)) (fun z => nomatch z) (fun _ H3 x3 => ?_)
      refine s_if (b := true) (eb_is (eb_or (a := true) (b := false) (eb_not (eb_B (ev_isiP (b := false) (p := .lst rt) rfl (IsP.ex x3 hp2) ki_list_tuple))) (fun z => nomatch z)) rfl) (fun _ H4 x4 => s_ret (d := .bool false) ev_bl fun v H5 x5 hv => q v H5 (((y2.trans x3).trans x4).trans x5) hv) (fun z => nomatch z)
    | dic =>
      obtain ⟨pa, eu, _⟩ := id hp2
      refine s_if (b := false) (eb_is (eb_B (ev_isN rfl)) (by rw [eu]; exact decide_eq_false fun z => nomatch z)) (fun z => nomatch z) (fun _ H3 x3 => ?_)
      refine s_if (b := true) (eb_is (eb_or (a := true) (b := false) (eb_not (eb_B (ev_isiP (b := false) (p := .dic) rfl (IsP.ex x3 hp2) ki_dict_tuple))) (fun z => nomatch z)) rfl) (fun _ H4 x4 => s_ret (d := .bool false) ev_bl fun v H5 x5 hv => q v H5 (((y2.trans x3).trans x4).trans x5) hv) (fun z => nomatch z)
end
end Dw
set_option Elab.async false
set_option linter.all false
set_option maxRecDepth 100000
set_option maxHeartbeats 2000000
/-! the law's own row: a list that every taking writes; what evaluates while it changes -/
namespace Dw
open PySem PySem.Spec PyProof.Rows L2 Gx
section
variable {K : PySem.W.Frag} {R : Addr → Prop} {H H' H1 : Hp}
theorem sqL_ex {a : Addr} {xs : List V} (x : ExB R H H') (hR : ¬ R a) (h : SqL K H a xs) : SqL K H' a xs := by
  rcases h with (h | ⟨o, h⟩) | h
  · exact .inl (.inl (x.keep _ _ h (fun _ z => by cases z) hR))
  · exact .inl (.inr ⟨o, x.keep _ _ h (fun _ z => by cases z) hR⟩)
  · exact .inr h
theorem sqL_none {a : Addr} {xs : List V} (h : SqL K (fun _ => none) a xs) : SqL K H a xs := by
  rcases h with (h | ⟨o, h⟩) | h
  · cases h
  · cases h
  · exact .inr h
theorem sqL_exR {a r : Addr} {xs : List V} (x : ExB (fun b => b = r) H H') (n : a ≠ r ∨ SqL K (fun _ => none) a xs) (h : SqL K H a xs) : SqL K H' a xs := by
  rcases n with n | n
  · exact sqL_ex x n h
  · exact sqL_none n
/-- the row: the script, how far it is read, the last number, what is left -/
def RowAt (K : PySem.W.Frag) (H : Hp) (r sc : Addr) : Prop := ∃ (ns : List Int) (a : Nat) (b c : Int), H r = some (.lst [.ref sc, .int (a : Int), .int b, .int c]) ∧ SqL K H sc (ns.map V.int) ∧ (sc ≠ r ∨ SqL K (fun _ => none) sc (ns.map V.int)) ∧ 0 ≤ b ∧ b < 2147483647
theorem RowAt.ex {r sc : Addr} (x : ExB R H H') (hR : ¬ R r) (hS : ∀ b, R b → H b = none) (h : RowAt K H r sc) : RowAt K H' r sc := by
  obtain ⟨ns, a, b, c, h1, h2, h3, h4, h5⟩ := h
  refine ⟨ns, a, b, c, x.keep _ _ h1 (fun _ z => by cases z) hR, ?_, h3, h4, h5⟩
  by_cases hs : R sc
  · rcases h2 with (h | ⟨o, h⟩) | h
    · rw [hS sc hs] at h; cases h
    · rw [hS sc hs] at h; cases h
    · exact .inr h
  · exact sqL_ex x hs h2
theorem RowAt.ex0 {r sc : Addr} (x : Ex H H') (h : RowAt K H r sc) : RowAt K H' r sc := h.ex x (fun z => z) fun _ z => z.elim
theorem RowAt.wr {r sc D : Addr} {H2 H4 : Hp} {o : HO} (h2 : RowAt K H2 r sc) (hD : H2 D = none) (h4 : RowAt K H4 r sc) : RowAt K (upd H4 D o) r sc := by
  obtain ⟨ns2, a2, b2, c2, g1, g2, _⟩ := h2
  obtain ⟨ns, a, b, c, h1, h2, h3, h4, h5⟩ := h4
  have hr := (upd_ne (o := o) (ne_of_none g1 hD)).trans h1
  rcases g2 with g | g
  · have ne : sc ≠ D := by
      rcases g with g | ⟨o', g⟩
      · exact ne_of_none g hD
      · exact ne_of_none g hD
    refine ⟨ns, a, b, c, hr, ?_, h3, h4, h5⟩
    rcases h2 with (h | ⟨o', h⟩) | h
    · exact .inl (.inl ((upd_ne ne).trans h))
    · exact .inl (.inr ⟨o', (upd_ne ne).trans h⟩)
    · exact .inr h
  · exact ⟨ns2, a, b, c, hr, .inr g, .inr (.inr g), h4, h5⟩
/-- all is kept but the row, and the row is a row again -/
def XR (K : PySem.W.Frag) (r sc : Addr) (H H' : Hp) : Prop := ExB (fun b => b = r) H H' ∧ RowAt K H' r sc
theorem XR.trans {r sc : Addr} {H2 : Hp} (a : XR K r sc H H1) (b : XR K r sc H1 H2) : XR K r sc H H2 := ⟨a.1.trans b.1, b.2⟩
theorem XR.of {r sc : Addr} (h : RowAt K H r sc) (x : Ex H H') : XR K r sc H H' := ⟨.up x, h.ex0 x⟩
theorem XR.then {r sc : Addr} {H2 : Hp} (a : XR K r sc H H1) (b : Ex H1 H2) : XR K r sc H H2 := a.trans (.of a.2 b)
theorem XR.refl {r sc : Addr} (h : RowAt K H r sc) : XR K r sc H H := .of h (.refl H)
end
/-- it comes to some data of A, while the row changes -/
def EvR (K : PySem.W.Frag) (r sc : Addr) (te : TE) (σ : L2.St) (H : Hp) (A : PyData → Prop) : Prop := ∀ H1, XR K r sc H H1 → ∀ Q : VK, (∀ v d H2, XR K r sc H1 H2 → Is H2 v d → A d → Q v H2) → te σ H1 Q
def EvBR (K : PySem.W.Frag) (r sc : Addr) (tt : TT) (σ : L2.St) (H : Hp) (T : Bool → Prop) : Prop := ∀ H1, XR K r sc H H1 → ∀ Q : Bool → Hp → Prop, (∀ b H2, XR K r sc H1 H2 → T b → Q b H2) → tt σ H1 Q
/-- .. to a new list of such -/
def EvLR (K : PySem.W.Frag) (r sc : Addr) (te : TE) (σ : L2.St) (H : Hp) (A : List PyData → Prop) : Prop := ∀ H1, XR K r sc H H1 → ∀ Q : VK, (∀ p vs ds H2, XR K r sc H1 H2 → H1 p = none → H2 p = some (.lst vs) → IsA H2 vs ds → A ds → Q (.ref p) H2) → te σ H1 Q
def EvAR (K : PySem.W.Frag) (r sc : Addr) (ta : TA) (σ : L2.St) (H : Hp) (A : List PyData → Prop) : Prop := ∀ H1, XR K r sc H H1 → ∀ Q : List V → Hp → Prop, (∀ vs ds H2, XR K r sc H1 H2 → IsA H2 vs ds → A ds → Q vs H2) → ta σ H1 Q
section
variable {K : PySem.W.Frag} {r sc : Addr} {σ : L2.St} {H : Hp} {te ta tb : TE} {A B : PyData → Prop}
theorem EvR.ex {H' : Hp} (x : XR K r sc H H') (h : EvR K r sc te σ H A) : EvR K r sc te σ H' A := fun H1 y Q q => h H1 (x.trans y) Q q
theorem er_of {d : PyData} (h : ∀ H1, XR K r sc H H1 → Ev te σ H1 d) (hA : A d) : EvR K r sc te σ H A := fun H1 x Q q => h H1 x H1 (.refl H1) Q fun v H2 x2 hv => q v d H2 (.of x.2 x2) hv hA
theorem EvR.mono (h : EvR K r sc te σ H A) (hm : ∀ d, A d → B d) : EvR K r sc te σ H B := fun H1 x Q q => h H1 x Q fun v d H2 x2 hv ha => q v d H2 x2 hv (hm d ha)
theorem ear_nil : EvAR K r sc tNil σ H (fun ds => ds = []) := fun H1 x Q q => q [] [] H1 (.refl x.2) .nil rfl
theorem ear_cons {tr : TA} {C : List PyData → Prop} (h : EvR K r sc te σ H A) (hr : EvAR K r sc tr σ H C) : EvAR K r sc (tCons te tr) σ H (fun ds => ∃ d es, ds = d :: es ∧ A d ∧ C es) := fun H1 x Q q =>
  h H1 x _ fun v d H2 x2 hv ha => hr H2 (x.trans x2) _ fun vs es H3 x3 hvs hc => q (v :: vs) (d :: es) H3 (x2.trans x3) (.cons (hv.ex x3.1) hvs) ⟨d, es, rfl, ha, hc⟩
theorem ear_one (h : EvR K r sc te σ H A) : EvAR K r sc (tCons te tNil) σ H (fun ds => ∃ d, ds = [d] ∧ A d) := fun H1 x Q q =>
  h H1 x _ fun v d H2 x2 hv ha => q [v] [d] H2 x2 (.one hv) ⟨d, rfl, ha⟩
theorem er_tup {ta : TA} {C : List PyData → Prop} (h : EvAR K r sc ta σ H C) (hl : ∀ ds, C ds → ds.length ≤ 100000) (hA : ∀ ds, C ds → A (.tuple ds)) : EvR K r sc (tTup ta) σ H A := fun H1 x Q q =>
  h H1 x _ fun vs ds H2 x2 hvs hc => ⟨by rw [hvs.length]; exact sz (hl ds hc), fun p hp => q (.ref p) _ _ (x2.then (.new hp)) (.tup upd_same (hvs.ex (R := none1) (.new hp))) (hA ds hc)⟩
theorem er_tupOf {C : List PyData → Prop} (h : EvLR K r sc te σ H C) (hA : ∀ ds, C ds → A (.tuple ds)) : EvR K r sc (tCB (rTupOf K) (tCons te tNil)) σ H A := fun H1 x Q q =>
  h H1 x _ fun p vs ds H2 x2 _ hp hvs hc => ⟨p, vs, rfl, .inl ⟨SqL.of hp, fun l hl => q _ _ _ (x2.then (.new hl)) (.tup upd_same (hvs.ex (R := none1) (.new hl))) (hA ds hc)⟩⟩
/-- 1 + e -/
theorem er_add1 {i : Int} {N M : Int → Prop} (ha : ∀ H1, XR K r sc H H1 → Ev ta σ H1 (.int i)) (hb : EvR K r sc tb σ H (fun d => ∃ n, d = .int n ∧ N n)) (hm : ∀ n, N n → M (i + n)) : EvR K r sc (tOp (rI0 fun i j => .int (i + j)) ta tb) σ H (fun d => ∃ n, d = .int n ∧ M n) := fun H1 x Q q =>
  ha H1 x H1 (.refl H1) _ fun v H2 x2 hv => hb H2 (x.then x2) _ fun u d H3 x3 hu ⟨n, e, hn⟩ => by
    subst e
    exact ⟨i, n, hv.int_inv, hu.int_inv, q _ _ H3 ((XR.of x.2 x2).trans x3) (.int _) ⟨_, rfl, hm n hn⟩⟩
/-- e == i, whatever e is -/
theorem ebr_eq {i : Int} (ha : EvR K r sc ta σ H (fun d => ∃ n, d = .int n)) (hb : ∀ H1, XR K r sc H H1 → Ev tb σ H1 (.int i)) : EvBR K r sc (tTest (tOp rEq ta tb)) σ H (fun _ => True) := fun H1 x Q q =>
  ha H1 x _ fun v d H2 x2 hv ⟨n, e⟩ => hb H2 (x.trans x2) H2 (.refl H2) _ fun u H3 x3 hu => by
    subst e
    have e1 := hv.int_inv
    have e2 := hu.int_inv
    subst e1 e2
    exact ⟨rfl, _, rfl, q _ H3 (x2.then x3) trivial⟩
theorem ebr_yes : EvBR K r sc tYes σ H (fun b => b = true) := fun H1 x Q q => q true H1 (.refl x.2) rfl
/-- a comprehension over a range while the row changes; P: what is made of the first i -/
theorem elr_lc {j : Nat} {vs : List Nat} {tt : TT} {ta : TA} {N : Nat → Prop} {C : Nat → Nat → List PyData → Prop} {B : Nat → Nat → PyData → Prop} {T : Bool → Prop} (h : EvAR K r sc ta σ H (fun ds => ∃ n : Nat, ds = [.int (n : Int)] ∧ N n)) (hN : ∀ n, N n → n ≤ 40000)
    (hw : ∀ x, wipe ((wipe σ vs).set j (some x)) vs = wipe σ vs) (hl : ∀ n i ds, C n i ds → ds.length ≤ i) (h0 : ∀ n, N n → C n 0 [])
    (ht : ∀ (n i : Nat) H1, N n → i < n → XR K r sc H H1 → EvBR K r sc tt ((wipe σ vs).set j (some (.int (i : Int)))) H1 T) (he : ∀ (n i : Nat) H1, N n → i < n → XR K r sc H H1 → EvR K r sc te ((wipe σ vs).set j (some (.int (i : Int)))) H1 (B n i))
    (hyes : ∀ n i ds d, N n → i < n → C n i ds → B n i d → C n (i + 1) (ds ++ [d])) (hno : ∀ n i ds, T false → N n → i < n → C n i ds → C n (i + 1) ds) :
    EvLR K r sc (tLc (iRng1 ta) (gName j) tt te vs) σ H (fun ds => ∃ n : Nat, N n ∧ C n n ds) := fun H1 x Q q => h H1 x _ fun us ds H2 x2 hv ⟨n, en, hn⟩ => by
  subst en
  obtain ⟨v1, rfl, h1⟩ := hv.inv1
  have e := h1.int_inv
  subst e
  have hn4 := hN n hn
  refine ⟨n, rfl, by omega, by omega, fun D hD => ?_⟩
  have rD : r ≠ D := by
    obtain ⟨ns, a, b, c, g, _⟩ := x2.2
    exact ne_of_none g hD
  refine lc_range (lo := 0) (n := (n : Int).toNat) (fun i H' => ExB (fun b => b = r) H2 H' ∧ RowAt K H' r sc ∧ ∃ ws es, H' D = some (.lst ws) ∧ IsA H' ws es ∧ C n i es) ⟨.new hD, x2.2.ex0 (.new hD), [], [], upd_same, .nil, h0 n hn⟩ (fun i H' hi ⟨c1, c2, ws, es, c3, c4, c5⟩ => ?_) fun H' ⟨c1, c2, ws, es, c3, c4, c5⟩ => ?_
  · have hi' : i < n := by simpa using hi
    have e0 : (0 : Int) + (i : Int) = (i : Int) := Int.zero_add _
    have xa : XR K r sc H H' := (x.trans x2).trans ⟨c1, c2⟩
    show wipe ((wipe σ vs).set j (some (.int ((0 : Int) + (i : Int))))) vs = wipe σ vs ∧ tt ((wipe σ vs).set j (some (.int ((0 : Int) + (i : Int))))) H' _
    rw [e0]
    refine ⟨hw _, ht n i H' hn hi' xa H' (.refl c2) _ fun b H3 x3 hT => ?_⟩
    have keepD : ∀ {Ha Hb : Hp}, XR K r sc Ha Hb → ∀ {ys : List V}, Ha D = some (.lst ys) → Hb D = some (.lst ys) := fun y _ e => y.1.keep _ _ e (fun _ z => by cases z) fun z => rD z.symm
    cases b with
    | true =>
      refine iteT (he n i H' hn hi' xa H3 x3 _ fun y d H4 x4 hy hB => ?_)
      have x34 := x3.trans x4
      have hD4 := keepD x34 c3
      have cle := hl n i es c5
      refine ⟨ws, hD4, ?_, ?_, ?_, ws ++ [y], es ++ [d], upd_same, ?_, hyes n i es d hn hi' c5 hB⟩
      · rw [c4.length]
        exact szl (by omega)
      · have xD : ExB (fun b => b = r) H2 (upd H4 D (.lst (ws ++ [y]))) := by
          refine ExB.mut (c1.trans x34.1) hD hD4 (soft_lst ws)
        exact xD
      · exact RowAt.wr x2.2 hD x34.2
      · exact ((c4.ex x34.1).append (.one hy)).keep (tupLe_soft hD4 (soft_lst ws))
    | false =>
      exact iteF ⟨c1.trans x3.1, x3.2, ws, es, keepD x3 c3, c4.ex x3.1, hno n i es hT hn hi' c5⟩
  · rw [show (n : Int).toNat = n by simp] at c5
    exact q D ws es H' (x2.trans ⟨c1, c2⟩) ((x2.1.back D) hD) c3 c4 ⟨n, hn, c5⟩
end
end Dw
set_option Elab.async false
set_option linter.all false
set_option maxRecDepth 100000
set_option maxHeartbeats 4000000
namespace Dw
open PySem PySem.Spec PyProof.Rows L2 Gx
def rInt1 : List V → Hp → VK → Prop := fun xs H Q => (∃ i, xs = [.int i] ∧ Q (.int i) H) ∨ ∃ k, xs = [.bl k] ∧ Q (.int (if k then 1 else 0)) H
section
variable {K : PySem.W.Frag} {σ : L2.St} {H : Hp} {te ta tb : TE} {D : Ends}
theorem ev_int1 {i : Int} (h : Ev te σ H (.int i)) : Ev (tCB rInt1 (tCons te tNil)) σ H (.int i) := fun H1 x Q q => h H1 x _ fun v H2 x2 hv => .inl ⟨i, by rw [hv.int_inv], q _ H2 x2 (.int i)⟩
theorem ev_int1b {b : Bool} (h : Ev te σ H (.bool b)) : Ev (tCB rInt1 (tCons te tNil)) σ H (.int (if b then 1 else 0)) := fun H1 x Q q => h H1 x _ fun v H2 x2 hv => .inr ⟨b, by rw [hv.bool_inv], q _ H2 x2 (.int _)⟩
theorem ev_mod {i j : Int} (ha : Ev ta σ H (.int i)) (hb : Ev tb σ H (.int j)) (h : 0 < j) : Ev (tOp (rI (fun _ j => 0 < j) fun i j => .int (i % j)) ta tb) σ H (.int (i % j)) := ev_I (g' := fun i j => .int (i % j)) ha hb h fun _ => .int _
theorem ev_fdiv {i j : Int} (ha : Ev ta σ H (.int i)) (hb : Ev tb σ H (.int j)) (h : 0 < j ∧ j < 1073741824) : Ev (tOp (rI CDiv fun i j => .int (i / j)) ta tb) σ H (.int (i / j)) := ev_I (g' := fun i j => .int (i / j)) ha hb h fun _ => .int _
theorem ev_mul {i j : Int} (ha : Ev ta σ H (.int i)) (hb : Ev tb σ H (.int j)) (h : CMul i j) : Ev (tOp (rI CMul fun i j => .int (i * j)) ta tb) σ H (.int (i * j)) := ev_I (g' := fun i j => .int (i * j)) ha hb h fun _ => .int _
theorem ev_pow {i j : Int} (ha : Ev ta σ H (.int i)) (hb : Ev tb σ H (.int j)) (h : CPow i j) : Ev (tOp (rI CPow fun i j => .int (i ^ j.toNat)) ta tb) σ H (.int (i ^ j.toNat)) := ev_I (g' := fun i j => .int (i ^ j.toNat)) ha hb h fun _ => .int _
theorem ev_ge {i j : Int} (ha : Ev ta σ H (.int i)) (hb : Ev tb σ H (.int j)) : Ev (tOp (rI0 fun i j => .bl (decide (j ≤ i))) ta tb) σ H (.bool (decide (j ≤ i))) := ev_I0 (g' := fun i j => .bool (decide (j ≤ i))) ha hb fun _ => .bl _
/-- l[i] of a list that holds more than data -/
theorem ev_lix {i : Nat} {p : Addr} {vs : List V} {j z : Int} (hv : σ[i]? = some (some (.ref p))) (hp : H p = some (.lst vs)) (hb : Ev tb σ H (.int j)) (hz : atI vs j = some (.int z)) : Ev (tOp (rIxL K) (tVar i) tb) σ H (.int z) := fun H1 x Q q =>
  ⟨.ref p, hv, hb H1 x _ fun u H2 x2 hu => by
    have e := hu.int_inv
    subst e
    exact ⟨p, vs, j, .int z, rfl, rfl, SqL.of (x2.keep _ _ (x.keep _ _ hp (fun _ z => by cases z) fun z => z) (fun _ z => by cases z) fun z => z), hz, q _ H2 x2 (.int z)⟩⟩
/-- .. its item a list of ints: the item's length, an item of it -/
theorem ev_lenlix {i : Nat} {p sc : Addr} {vs : List V} {ns : List Int} {j : Int} (hv : σ[i]? = some (some (.ref p))) (hp : H p = some (.lst vs)) (hb : Ev tb σ H (.int j)) (hz : atI vs j = some (.ref sc)) (hs : SqL K H sc (ns.map V.int)) :
    Ev (tCB (rLn K) (tCons (tOp (rIxL K) (tVar i) tb) tNil)) σ H (.int (ns.length : Int)) := fun H1 x Q q =>
  ⟨.ref p, hv, hb H1 x _ fun u H2 x2 hu => by
    have e := hu.int_inv
    subst e
    refine ⟨p, vs, j, .ref sc, rfl, rfl, SqL.of (x2.keep _ _ (x.keep _ _ hp (fun _ z => by cases z) fun z => z) (fun _ z => by cases z) fun z => z), hz, sc, ns.map V.int, rfl, .inl (sqL_ex (x.trans x2) (fun z => z) hs), ?_⟩
    rw [List.length_map]
    exact q _ H2 x2 (.int _)⟩
theorem ev_lixlix {i : Nat} {p sc : Addr} {vs : List V} {ns : List Int} {j k z : Int} {tc : TE} (hv : σ[i]? = some (some (.ref p))) (hp : H p = some (.lst vs)) (hb : Ev tb σ H (.int j)) (hz : atI vs j = some (.ref sc)) (hs : SqL K H sc (ns.map V.int)) (hc : Ev tc σ H (.int k)) (hk : atI (ns.map V.int) k = some (.int z)) :
    Ev (tOp (rIxL K) (tOp (rIxL K) (tVar i) tb) tc) σ H (.int z) := fun H1 x Q q =>
  ⟨.ref p, hv, hb H1 x _ fun u H2 x2 hu => by
    have e := hu.int_inv
    subst e
    refine ⟨p, vs, j, .ref sc, rfl, rfl, SqL.of (x2.keep _ _ (x.keep _ _ hp (fun _ z => by cases z) fun z => z) (fun _ z => by cases z) fun z => z), hz, hc H2 (x.trans x2) _ fun u3 H3 x3 hu3 => ?_⟩
    have e := hu3.int_inv
    subst e
    exact ⟨sc, ns.map V.int, k, .int z, rfl, rfl, sqL_ex ((x.trans x2).trans x3) (fun z => z) hs, hk, q _ H3 (x2.trans x3) (.int z)⟩⟩
/-- l[j] = e, of ints -/
theorem s_lset {i n : Nat} {p : Addr} {vs : List V} {j z : Int} (h : Ev te σ H (.int z)) (hv : σ[i]? = some (some (.ref p))) (hp : H p = some (.lst vs)) (hb : ∀ H1, Ex H H1 → Ev tb σ H1 (.int j)) (hj : ixN vs.length j = some n)
    (k : ∀ H1, ExB (fun b => b = p) H H1 → H1 p = some (.lst (vs.set n (.int z))) → (∀ q u, H q = some u → (∀ ps, u ≠ .tbl ps) → q ≠ p → H1 q = some u) → D.nx σ H1) : tAsg te (gSub (tVar i) tb rSetL) D σ H :=
  h H (.refl H) _ fun v H1 x1 hv1 => ⟨.ref p, hv, hb H1 x1 H1 (.refl H1) _ fun u H2 x2 hu => by
    have e1 := hv1.int_inv
    have e2 := hu.int_inv
    subst e1 e2
    have hp2 : H2 p = some (.lst vs) := x2.keep _ _ (x1.keep _ _ hp (fun _ z => by cases z) fun z => z) (fun _ z => by cases z) fun z => z
    have x12 : ExB (fun b => b = p) H H2 := .up (x1.trans x2)
    refine ⟨p, vs, j, n, rfl, rfl, hp2, hj, k _ (x12.trans (.write rfl hp2 (soft_lst vs))) upd_same fun q u hq hu' hne => ?_⟩
    exact (upd_ne hne).trans (x12.keep _ _ hq hu' hne)⟩
end
/-- what a taking promises -/
def spTk (K : PySem.W.Frag) : Sp := fun vs H Q _ => ∃ (r sc : Addr) (many : Int), vs = [.ref r, .int many] ∧ RowAt K H r sc ∧ 0 < many ∧ many < 1073741824 ∧ ∀ (n : Nat) H', XR K r sc H H' → (n : Int) < many → Q (.int (n : Int)) H'
section
variable {P : Program} {w : World} {K : PySem.W.Frag} {mg : Str → Option Value} {base : Heap}
theorem er_taken {r sc : Addr} {σ : L2.St} {H : Hp} {E : XK} {tm : TE} {many : Int} {i : Nat} (hv : σ[i]? = some (some (.ref r))) (hm : ∀ H1, XR K r sc H H1 → Ev tm σ H1 (.int many)) (h0 : 0 < many) (h1 : many < 1073741824) :
    EvR K r sc (tCall (spTk K) [] E (tCons (tVar i) (tCons tm tNil))) σ H (fun d => ∃ n : Nat, d = .int (n : Int) ∧ (n : Int) < many) := fun H1 x Q q =>
  ⟨.ref r, hv, hm H1 x H1 (.refl H1) _ fun v H2 x2 hv2 => by
    have e := hv2.int_inv
    subst e
    exact ⟨r, sc, many, rfl, x.2.ex0 x2, h0, h1, fun n H' x3 hn => q _ (.int (n : Int)) H' ((XR.of x.2 x2).trans x3) (.int _) ⟨n, rfl, hn⟩⟩⟩
theorem sc_taken : FnScope ["_law_row", "_law_many", "_law_found", "_law_cell"] ["_law_row", "_law_many"] (defScope sTaken) := ⟨rfl, rfl, rfl, by decide +kernel, rfl, by decide +kernel, by decide +kernel⟩
theorem mod_nat {i j : Int} (h : 0 < j) : ∃ n : Nat, i % j = (n : Int) ∧ (n : Int) < j := ⟨(i % j).toNat, by have := Int.emod_nonneg i (show j ≠ 0 by omega); omega, by have := Int.emod_nonneg i (show j ≠ 0 by omega); have := Int.emod_lt_of_pos i h; omega⟩
theorem ok_taken {f : Addr} {fd : FuncData} {k : Nat} (F : Fun K "_law_taken" "_law_taken" sTaken f fd) (m1 : mg "int" = none) (m2 : mg "len" = none) :
    FnOk P w K mg base CX0 (k + 1) f fd ["_law_row", "_law_many"] (spTk K) := by
  refine F.ok sc_taken (fun vs H Q E h => ?_) (fun cdv A outer s H vs Q E hr h => ?_)
  · obtain ⟨_, _, _, rfl, _⟩ := h
    rfl
  · obtain ⟨r, sc, many, rfl, ⟨ns, a, b, c, hR, hS, hne, hb0, hb1⟩, hm0, hm1, q⟩ := h
    refine ⟨_, pss_cons (ps_if (pt_cmpR op_gt (pe_ix ix_list (pv 0) pe_int (fun _ _ => rfl)) pe_int (nomark _))
        (pss_cons (ps_set (i := 2) sc_taken.nd rfl (Or.inl rfl) (pe_op op_mod (pe_callTy (r := rInt1) call_int1 (by rfl) m1 (by decide +kernel) (pa_cons (pe_ix ix_list (pv 0) pe_int (fun _ _ => rfl)) pa_nil)) (pv 1)))
        (pss_cons (ps_asg (pe_op op_fdiv (pe_ix ix_list (pv 0) pe_int (fun _ _ => rfl)) (pv 1)) (pg_sub (pv 0) pe_int set_list))
        (pss_one (ps_ret (pv 2))))) pss_nil)
      (pss_cons (ps_asg (pe_op op_add (pe_ix ix_list (pv 0) pe_int (fun _ _ => rfl)) pe_int) (pg_sub (pv 0) pe_int set_list))
      (pss_cons (ps_if (pt_cmpR op_gt (pe_ix ix_list (pv 0) pe_int (fun _ _ => rfl)) (pe_callB (r := rLn K) call_len_seq (by rfl) m2 PySem.boot_len (pa_cons (pe_ix ix_list (pv 0) pe_int (fun _ _ => rfl)) pa_nil)) (nomark _))
        (pss_cons (ps_asg (pe_op op_mod (pe_callTy (r := rInt1) call_int1 (by rfl) m1 (by decide +kernel) (pa_cons (pe_op op_add (pe_op op_mul (pe_ix ix_list (pv 0) pe_int (fun _ _ => rfl)) pe_int) pe_int) pa_nil)) pe_int) (pg_sub (pv 0) pe_int set_list))
        (pss_one (ps_ret (pe_op op_mod (pe_callTy (r := rInt1) call_int1 (by rfl) m1 (by decide +kernel) (pa_cons (pe_op op_fdiv (pe_ix ix_list (pv 0) pe_int (fun _ _ => rfl)) pe_int) pa_nil)) (pv 1))))) pss_nil)
      (pss_cons (ps_set (i := 3) sc_taken.nd rfl (Or.inl rfl) (pe_ix ix_list (pe_ix ix_list (pv 0) pe_int (fun _ _ => rfl)) (pe_op op_sub (pe_ix ix_list (pv 0) pe_int (fun _ _ => rfl)) pe_int) (fun _ _ => rfl)))
      (pss_cons (ps_asg (pe_op op_mod (pe_callTy (r := rInt1) call_int1 (by rfl) m1 (by decide +kernel) (pa_cons (pe_op op_add (pe_op op_add (pe_op op_mul (pe_ix ix_list (pv 0) pe_int (fun _ _ => rfl)) pe_int) (pv 3)) pe_int) pa_nil)) pe_int) (pg_sub (pv 0) pe_int set_list))
      (pss_cons (ps_if (pt_cmpR op_ge (pv 3) (pe_op op_pow pe_int pe_int) (nomark _))
        (pss_one (ps_asg (pe_op op_fdiv (pv 3) (pv 1)) (pg_sub (pv 0) pe_int set_list))) pss_nil)
      (pss_one (ps_ret (pe_op op_mod (pe_callTy (r := rInt1) call_int1 (by rfl) m1 (by decide +kernel) (pa_cons (pv 3) pa_nil)) (pv 1))))))))), ?_⟩
    have kp : ∀ {Ha Hb : Hp}, Ex Ha Hb → ∀ {us : List V}, Ha r = some (.lst us) → Hb r = some (.lst us) := fun x _ e => x.keep _ _ e (fun _ z => by cases z) fun z => z
    have fin : ∀ {Ha Hb : Hp} {a' : Nat} {b' c' : Int}, ExB (fun b => b = r) H Ha → Ex Ha Hb → Ha r = some (.lst [.ref sc, .int (a' : Int), .int b', .int c']) → 0 ≤ b' → b' < 2147483647 → XR K r sc H Hb := fun x y e g1 g2 =>
      ⟨x.trans (.up y), ns, _, _, _, kp y e, sqL_exR (x.trans (.up y)) hne hS, hne, g1, g2⟩
    have ret : ∀ {te : TE} {σ : L2.St} {Ha : Hp} {i : Int} {a' : Nat} {b' c' : Int}, Ev te σ Ha (.int (i % many)) → ExB (fun b => b = r) H Ha → Ha r = some (.lst [.ref sc, .int (a' : Int), .int b', .int c']) → 0 ≤ b' → b' < 2147483647 → tRet te { nx := fun _ H' => Q .non H', rt := Q } σ Ha := fun {te σ Ha i a' b' c'} hE x e g1 g2 => by
      obtain ⟨n, en, hn⟩ := mod_nat (i := i) hm0
      refine s_ret hE fun v Hb y hv => ?_
      rw [en] at hv
      have ev := hv.int_inv
      subst ev
      exact q n Hb (fin x y e g1 g2) hn
    refine s_if (eb_test (ev_gt (ev_lix rfl hR ev_int rfl) ev_int)) (fun hb H1 x1 => ?_) (fun hb H1 x1 => ?_)
    · refine s_set (ev_mod (ev_int1 (ev_lix rfl (kp x1 hR) ev_int rfl)) (ev_var rfl (.int many)) hm0) fun v H2 x2 hv2 => ?_
      refine s_lset (n := 3) (ev_fdiv (ev_lix rfl (kp x2 (kp x1 hR)) ev_int rfl) (ev_var rfl (.int _)) ⟨hm0, hm1⟩) rfl (kp x2 (kp x1 hR)) (fun _ _ => ev_int) rfl fun H3 x3 hr3 _ => ?_
      exact ret (ev_var rfl (hv2.ex x3)) ((ExB.up (x1.trans x2)).trans x3) hr3 hb0 hb1
    · refine s_lset (n := 1) (z := ((a + 1 : Nat) : Int)) (ev_is (ev_add (ev_lix rfl (kp x1 hR) ev_int rfl) ev_int) (by rfl)) rfl (kp x1 hR) (fun _ _ => ev_int) rfl fun H2 x2 hr2 _ => ?_
      have xb : ExB (fun b => b = r) H H2 := (ExB.up x1).trans x2
      have hS2 : SqL K H2 sc (ns.map V.int) := sqL_exR xb hne hS
      refine s_if (eb_test (ev_gt (ev_lix rfl hr2 ev_int rfl) (ev_lenlix rfl hr2 ev_int rfl hS2))) (fun hb2 H3 x3 => ?_) (fun hb2 H3 x3 => ?_)
      · have hr3 := kp x3 hr2
        have g0 := Int.emod_nonneg (b * 48271 + 11) (show (2147483647 : Int) ≠ 0 by decide)
        have g1 := Int.emod_lt_of_pos (b * 48271 + 11) (show (0 : Int) < 2147483647 by decide)
        refine s_lset (n := 2) (ev_mod (ev_int1 (ev_add (ev_mul (ev_lix rfl hr3 ev_int rfl) ev_int (.inr (by decide))) ev_int)) ev_int (by decide)) rfl hr3 (fun _ _ => ev_int) rfl fun H4 x4 hr4 _ => ?_
        exact ret (ev_mod (ev_int1 (ev_fdiv (ev_lix rfl hr4 ev_int rfl) ev_int (by decide))) (ev_var rfl (.int _)) hm0) ((xb.trans (.up x3)).trans x4) hr4 g0 g1
      · have hlt : a + 1 ≤ ns.length := by
          have := of_decide_eq_false hb2
          omega
        have hr3 := kp x3 hr2
        have hS3 : SqL K H3 sc (ns.map V.int) := sqL_exR (xb.trans (.up x3)) hne hS
        obtain ⟨cell, hcell⟩ : ∃ z, ns[a]? = some z := ⟨_, List.getElem?_eq_getElem (by omega)⟩
        have hat : atI (ns.map V.int) (((a + 1 : Nat) : Int) - 1) = some (.int cell) := by
          have e : (((a + 1 : Nat) : Int) - 1) = (a : Int) := by omega
          rw [e]
          exact at_nat (by rw [List.getElem?_map, hcell]; rfl)
        refine s_set (ev_lixlix rfl hr3 ev_int rfl hS3 (ev_sub (ev_lix rfl hr3 ev_int rfl) ev_int) hat) fun v H4 x4 hv4 => ?_
        have hr4 := kp x4 hr3
        have g0 := Int.emod_nonneg (b * 48271 + cell + 11) (show (2147483647 : Int) ≠ 0 by decide)
        have g1 := Int.emod_lt_of_pos (b * 48271 + cell + 11) (show (0 : Int) < 2147483647 by decide)
        refine s_lset (n := 2) (ev_mod (ev_int1 (ev_add (ev_add (ev_mul (ev_lix rfl hr4 ev_int rfl) ev_int (.inr (by decide))) (ev_var rfl hv4)) ev_int)) ev_int (by decide)) rfl hr4 (fun _ _ => ev_int) rfl fun H5 x5 hr5 _ => ?_
        have xc : ExB (fun b => b = r) H H5 := ((xb.trans (.up x3)).trans (.up x4)).trans x5
        refine s_if (eb_test (ev_ge (ev_var rfl (hv4.ex x5)) (ev_pow ev_int ev_int ⟨by decide, by decide, by decide⟩))) (fun hb3 H6 x6 => ?_) (fun hb3 H6 x6 => ?_)
        · refine s_lset (n := 3) (ev_fdiv (ev_var rfl ((hv4.ex x5).ex x6)) (ev_var rfl (.int _)) ⟨hm0, hm1⟩) rfl (kp x6 hr5) (fun _ _ => ev_int) rfl fun H7 x7 hr7 _ => ?_
          exact ret (ev_mod (ev_int1 (ev_var rfl (((hv4.ex x5).ex x6).ex x7))) (ev_var rfl (.int _)) hm0) ((xc.trans (.up x6)).trans x7) hr7 g0 g1
        · exact ret (ev_mod (ev_int1 (ev_var rfl ((hv4.ex x5).ex x6))) (ev_var rfl (.int _)) hm0) (xc.trans (.up x6)) (kp x6 hr5) g0 g1
end
end Dw
set_option Elab.async false
set_option linter.all false
set_option maxRecDepth 100000
set_option maxHeartbeats 4000000
namespace Dw
open PySem PySem.Spec PyProof.Rows L2 Gx
def spDy (K : PySem.W.Frag) : Sp := fun vs H Q _ => ∃ (r sc : Addr) (h : Nat) (many : Int), vs = [.ref r, .int (h : Int), .int many] ∧ RowAt K H r sc ∧ h ≤ 1000 ∧ 0 < many ∧ many < 1073741824 ∧ ∀ v xs H', XR K r sc H H' → Is H' v (dL xs) → LotOk (h : Int) xs → Q v H'
section
variable {P : Program} {w : World} {K : PySem.W.Frag} {mg : Str → Option Value} {base : Heap}
theorem er_dyes {r sc : Addr} {σ : L2.St} {H : Hp} {E : XK} {th tm : TE} {h : Nat} {many : Int} {i : Nat} (hv : σ[i]? = some (some (.ref r))) (hh : ∀ H1, XR K r sc H H1 → Ev th σ H1 (.int (h : Int))) (hm : ∀ H1, XR K r sc H H1 → Ev tm σ H1 (.int many)) (h9 : h ≤ 1000) (h0 : 0 < many) (h1 : many < 1073741824) :
    EvR K r sc (tCall (spDy K) [] E (tCons (tVar i) (tCons th (tCons tm tNil)))) σ H (fun d => ∃ xs, d = dL xs ∧ LotOk (h : Int) xs) := fun H1 x Q q =>
  ⟨.ref r, hv, hh H1 x H1 (.refl H1) _ fun u H2 x2 hu => hm H2 (x.then x2) H2 (.refl H2) _ fun v H3 x3 hv2 => by
    have e := hu.int_inv
    have e2 := hv2.int_inv
    subst e e2
    have x23 := x2.trans x3
    exact ⟨r, sc, h, many, rfl, x.2.ex0 x23, h9, h0, h1, fun v xs H' x4 hv' hx => q v (dL xs) H' ((XR.of x.2 x23).trans x4) hv' ⟨xs, rfl, hx⟩⟩⟩
theorem sc_dyes : FnScope ["_law_row", "_law_dyes_here", "_law_many", "_law_dye"] ["_law_row", "_law_dyes_here", "_law_many"] (defScope sDyes) := ⟨rfl, rfl, rfl, by decide +kernel, rfl, by decide +kernel, by decide +kernel⟩
theorem ok_dyes {f ft : Addr} {fd fdt : FuncData} {k kn : Nat} (F : Fun K "_law_dyes" "_law_dyes" sDyes f fd) (hk : kn ≤ k) (m1 : mg "tuple" = none) (m2 : mg "range" = none)
    (gt : mg "_law_taken" = some (.ref ft)) (kpt : PySem.W.keepIn K (.ref ft) = true) (bt : Binds K fdt ["_law_row", "_law_many"] []) (GT : FnOk P w K mg base CX0 kn ft fdt ["_law_row", "_law_many"] (spTk K)) :
    FnOk P w K mg base CX0 (k + 1) f fd ["_law_row", "_law_dyes_here", "_law_many"] (spDy K) := by
  refine F.ok sc_dyes (fun vs H Q E h => ?_) (fun cdv A outer s H vs Q E hr h => ?_)
  · obtain ⟨_, _, _, _, rfl, _⟩ := h
    rfl
  · obtain ⟨r, sc, h, many, rfl, hR, h9, hm0, hm1, q⟩ := h
    refine ⟨_, pss_one (ps_ret (pe_callTy (r := rTupOf K) call_tuple_of (by rfl) m1 (by decide +kernel) (pa_cons (pe_lc (own := [("_law_dye", 3)]) (tt := tTest (tOp rEq (tCall (spTk K) [] E0 (tCons (tVar 0) (tCons (tVar 2) tNil))) (tC (.int 0)))) (te := tVar 3) rfl sc_dyes.nd (pi_range1 (by rfl) m2 (pa_cons (pv 1) pa_nil)) (blkOk_by (N := ["_law_row", "_law_dyes_here", "_law_many", "_law_dye"]) (sc := defScope sDyes) (by decide +kernel))
      (fun _ _ _ _ _ => pg_name (i := 3) sc_dyes.nd rfl (.inl rfl)) (fun _ _ _ _ _ => pts_one (pt_cmpR op_eq (pe_call GT (hr.mono hk) (by rfl) gt kpt bt .nil pass0 (pa_cons (pv 0) (pa_cons (pv 2) pa_nil))) pe_int (nomark _))) (fun _ _ _ _ _ => pv 3)) pa_nil))), ?_⟩
    have main : EvR K r sc (tCB (rTupOf K) (tCons (tLc (iRng1 (tCons (tVar 1) tNil)) (gName 3) (tTest (tOp rEq (tCall (spTk K) [] E0 (tCons (tVar 0) (tCons (tVar 2) tNil))) (tC (.int 0)))) (tVar 3) [3]) tNil)) [some (.ref r), some (.int (h : Int)), some (.int many), none] H (fun d => ∃ xs, d = dL xs ∧ LotOk (h : Int) xs) := by
      refine er_tupOf (elr_lc (T := fun _ => True) (N := fun n => n = h) (C := fun _ i ds => ∃ xs : List Int, ds = xs.map .int ∧ (∀ x ∈ xs, 0 ≤ x ∧ x < (i : Int)) ∧ xs.Pairwise (· < ·) ∧ xs.length ≤ i) (B := fun _ i d => d = .int (i : Int)) ?_ (fun n hn => by omega) (fun _ => rfl) ?_ (fun n _ => ⟨[], rfl, fun _ z => by simp at z, List.Pairwise.nil, Nat.le_refl _⟩) ?_ ?_ ?_ ?_) ?_
      · exact fun H1 x Q q => ⟨_, rfl, q _ [.int (h : Int)] H1 (.refl x.2) (.one (.int _)) ⟨h, rfl, rfl⟩⟩
      · rintro n i ds ⟨xs, rfl, _, _, hl⟩
        rw [List.length_map]; exact hl
      · intro n i H1 _ _ x
        refine ebr_eq (EvR.mono (er_taken (many := many) (i := 0) rfl (fun H2 x2 => ev_var rfl (.int _)) hm0 hm1) fun d ⟨n, e, _⟩ => ⟨_, e⟩) fun H2 x2 => ev_int
      · exact fun n i H1 _ _ x => er_of (d := .int (i : Int)) (fun H2 x2 => ev_var rfl (.int _)) rfl
      · rintro n i ds d _ _ ⟨xs, rfl, g1, g2, g3⟩ rfl
        refine ⟨xs ++ [(i : Int)], by simp, fun x hx => ?_, ?_, by simp; omega⟩
        · rcases List.mem_append.mp hx with hx | hx
          · have := g1 x hx; omega
          · rw [List.mem_singleton.mp hx]; omega
        · rw [List.pairwise_append]
          refine ⟨g2, List.pairwise_singleton _ _, fun a ha b hb => ?_⟩
          rw [List.mem_singleton.mp hb]
          exact (g1 a ha).2
      · rintro n i ds _ _ _ ⟨xs, rfl, g1, g2, g3⟩
        exact ⟨xs, rfl, fun x hx => by have := g1 x hx; omega, g2, by omega⟩
      · rintro ds ⟨n, rfl, xs, rfl, g1, g2, g3⟩
        exact ⟨xs, rfl, g1, g2, by omega⟩
    exact main H (.refl hR) _ fun v d H1 x1 hv ⟨xs, e, hx⟩ => by
      subst e
      exact q v xs H1 x1 hv hx
end
end Dw
set_option Elab.async false
set_option linter.all false
set_option maxRecDepth 100000
set_option maxHeartbeats 4000000
namespace Dw
open PySem PySem.Spec PyProof.Rows L2 Gx
section
variable {K : PySem.W.Frag} {r sc : Addr} {σ : L2.St} {H H0 H1 : Hp} {te : TE} {ta : TA} {A : PyData → Prop} {D : Ends} {g : TG} {tb : TS}
/-- an object made since is written -/
theorem xr_wr {p : Addr} {o u : HO} (r0 : RowAt K H0 r sc) (hp : H0 p = none) (x : XR K r sc H0 H1) (h1 : H1 p = some u) (su : Soft u) : XR K r sc H0 (upd H1 p o) := ⟨ExB.mut x.1 hp h1 su, RowAt.wr r0 hp x.2⟩
theorem XR.keepL {p : Addr} {ws : List V} (x : XR K r sc H0 H1) (hp : p ≠ r) (h : H0 p = some (.lst ws)) : H1 p = some (.lst ws) := x.1.keep _ _ h (fun _ z => by cases z) hp
theorem RowAt.ne {p : Addr} (h : RowAt K H r sc) (hp : H p = none) : p ≠ r := by
  obtain ⟨ns, a, b, c, g, _⟩ := h
  exact (ne_of_none g hp).symm
theorem s_setR {i : Nat} (h : EvR K r sc te σ H A) (hr : RowAt K H r sc) (k : ∀ v d H1, XR K r sc H H1 → Is H1 v d → A d → D.nx (σ.set i (some v)) H1) : tAsg te (gName i) D σ H := h H (.refl hr) _ k
theorem s_appR {i : Nat} {p : Addr} {ws : List V} (hv : σ[i]? = some (some (.ref p))) (hp : H p = some (.lst ws)) (hpr : p ≠ r) (h : EvR K r sc te σ H A) (hr : RowAt K H r sc) (hl : ws.length ≤ 50000)
    (k : ∀ v d H1, XR K r sc H H1 → H1 p = some (.lst ws) → Is H1 v d → A d → D.nx σ (upd H1 p (.lst (ws ++ [v])))) : tDrop (tBM K "list" rAppend (tVar i) (tCons te tNil)) D σ H :=
  ⟨.ref p, hv, .inl ⟨rfl, ws, SqL.of hp⟩, h H (.refl hr) _ fun v d H1 x hv1 ha => ⟨p, ws, v, rfl, rfl, x.keepL hpr hp, szl (by omega), k v d H1 x (x.keepL hpr hp) hv1 ha⟩⟩
theorem s_unp2R {B : PyData → PyData → Prop} {i j : Nat} (h : EvR K r sc te σ H (fun d => ∃ d1 d2, d = .tuple [d1, d2] ∧ B d1 d2)) (hr : RowAt K H r sc) (k : ∀ v1 v2 d1 d2 H1, XR K r sc H H1 → Is H1 v1 d1 → Is H1 v2 d2 → B d1 d2 → D.nx ((σ.set i (some v1)).set j (some v2)) H1) :
    tAsg te (gTup K 2 (gCons (gName i) (gCons (gName j) gNil))) D σ H := h H (.refl hr) _ fun v d H1 x hv ⟨d1, d2, e, hb⟩ => by
  subst e
  obtain ⟨a, ws, rfl, ha, hws⟩ := hv.tup_inv
  obtain ⟨v1, v2, rfl, h1, h2⟩ := hws.inv2
  exact ⟨a, _, rfl, SqT.of ha, rfl, v1, _, rfl, v2, _, rfl, rfl, k v1 v2 d1 d2 H1 x h1 h2 hb⟩
/-- both ways of an if lead to one state -/
theorem s_ifJ {t : TT} {tu tw : TS} {T : Bool → Prop} (M : L2.St → Hp → Prop) (h : EvBR K r sc t σ H T) (hr : RowAt K H r sc) (k : ∀ σ' H', M σ' H' → D.nx σ' H') (h1 : (∀ σ' H', M σ' H' → D.nx σ' H') → ∀ H1, XR K r sc H H1 → tu D σ H1) (h2 : (∀ σ' H', M σ' H' → D.nx σ' H') → ∀ H1, XR K r sc H H1 → tw D σ H1) :
    tIfS t tu tw D σ H := h H (.refl hr) _ fun b H1 x _ => by
  cases b with
  | true => exact iteT (h1 k H1 x)
  | false => exact iteF (h2 k H1 x)
theorem EvAR.mono {C B : List PyData → Prop} (h : EvAR K r sc ta σ H C) (hm : ∀ ds, C ds → B ds) : EvAR K r sc ta σ H B := fun H1 x Q q => h H1 x Q fun vs ds H2 x2 hv hc => q vs ds H2 x2 hv (hm ds hc)
/-- 1 + a taking -/
theorem er_one {E : XK} {many : Nat} {i : Nat} (hv : σ[i]? = some (some (.ref r))) (h0 : 0 < many) (h1 : many ≤ 100) :
    EvR K r sc (tOp (rI0 fun i j => .int (i + j)) (tC (.int 1)) (tCall (spTk K) [] E (tCons (tVar i) (tCons (tC (.int (many : Int))) tNil)))) σ H (fun d => ∃ n : Nat, d = .int (n : Int) ∧ 1 ≤ n ∧ n ≤ many) :=
  EvR.mono (er_add1 (i := 1) (N := fun n => 0 ≤ n ∧ n < many) (M := fun n => 1 ≤ n ∧ n ≤ many) (fun _ _ => ev_int) (EvR.mono (er_taken (many := (many : Int)) hv (fun _ _ => ev_int) (by omega) (by omega)) fun d ⟨n, e, hn⟩ => ⟨n, e, by omega, by omega⟩) fun n ⟨h2, h3⟩ => by omega) fun d ⟨n, e, h2, h3⟩ => ⟨n.toNat, by rw [e]; congr 1; omega, by omega, by omega⟩
/-- a loop over a range whose end the row gives -/
theorem s_forX {N : Nat → Prop} (Pv : Nat → Nat → L2.St → Hp → Prop) (h : EvAR K r sc ta σ H (fun ds => ∃ n : Nat, ds = [.int (n : Int)] ∧ N n)) (hr : RowAt K H r sc) (hN : ∀ n, N n → n ≤ 1000000) (h0 : ∀ n H1, N n → XR K r sc H H1 → Pv n 0 σ H1)
    (hs : ∀ (n i : Nat) σ' H' (Z : L2.St → Hp → Prop), N n → i < n → Pv n i σ' H' → (∀ σ4 H4, Pv n (i + 1) σ4 H4 → Z σ4 H4) → g (.int (i : Int)) σ' H' fun σ2 H2 => tb (again D Z) σ2 H2)
    (hd : ∀ n σ' H', N n → Pv n n σ' H' → D.nx σ' H') : tFor (iRng1 ta) g tb D σ H := h H (.refl hr) _ fun vs ds H1 x1 hv ⟨n, e, hn⟩ => by
  subst e
  obtain ⟨v1, rfl, h1⟩ := hv.inv1
  have e := h1.int_inv
  subst e
  have hn4 := hN n hn
  refine ⟨(n : Int), rfl, by omega, by omega, ?_⟩
  refine ⟨fun i m σ' H' => i + m = n ∧ Pv n i σ' H', ⟨_, Nat.zero_add _, h0 n H1 hn x1⟩, fun i m σ' H' ⟨w1, w3⟩ => ?_⟩
  by_cases hlt : i < n
  · refine .inr ⟨by show i < (n : Int).toNat; omega, fun σ4 H4 => Pv n (i + 1) σ4 H4, fun σ4 H4 n2 => ⟨m - 1, by omega, by omega, n2⟩, fun y H2 hy => ?_⟩
    obtain ⟨rfl, rfl⟩ := hy
    have e0 : (0 : Int) + (i : Int) = (i : Int) := Int.zero_add _
    rw [e0]
    exact hs n i σ' H2 _ hn hlt w3 fun σ4 H4 n2 => n2
  · have e : i = n := by omega
    subst e
    exact .inl ⟨by show (i : Int).toNat ≤ i; omega, hd i σ' H' hn w3⟩
/-- x in l, l a list of ints -/
theorem ev_inV {tx tl : TE} {x : Int} {ns : List Int} (ha : Ev tx σ H (.int x)) (hb : EvV tl σ H (ns.map .int)) : Ev (tOp (rIn K false) tx tl) σ H (.bool (decide (x ∈ ns))) := fun H1 y Q q =>
  ha H1 y _ fun v H2 x2 hv => hb H2 (y.trans x2) _ fun w H3 x3 hw => by
    have e := hv.int_inv
    subst e
    obtain ⟨p, vs, rfl, hp, hvs⟩ := hw
    have e := hvs.ints
    subst e
    refine ⟨p, _, rfl, .inl (SqL.of hp), rfl, flat_ints ns, q _ H3 (x2.trans x3) ?_⟩
    rw [inV_ints]
    exact .bl _
end
/-- the law's works -/
def WkL (wk : Wk) : Prop := WkOk wk ∧ Few wk ∧ wk.kinds.length ≤ 3
def spWk (K : PySem.W.Frag) : Sp := fun vs H Q _ => ∃ (r sc : Addr), vs = [.ref r] ∧ RowAt K H r sc ∧ ∀ v wk H', XR K r sc H H' → Is H' v (dW wk) → WkL wk → Q v H'
section
variable {P : Program} {w : World} {K : PySem.W.Frag} {mg : Str → Option Value} {base : Heap}
theorem sc_works : FnScope ["_law_row", "_law_dyes_here", "_law_vats", "_law_vat", "_law_own", "_law_kinds", "_law_kind", "_law_routes", "_law_turn", "_law_wants", "_law_owns", "_law_step", "_law_dye"] ["_law_row"] (defScope sWorks) := ⟨rfl, rfl, rfl, by decide +kernel, rfl, by decide +kernel, by decide +kernel⟩
theorem ok_works {f ft fy : Addr} {fd fdt fdy : FuncData} {k kn : Nat} (F : Fun K "_law_works" "_law_works" sWorks f fd) (hk : kn ≤ k) (m1 : mg "tuple" = none) (m2 : mg "range" = none) (m3 : mg "list" = none)
    (gt : mg "_law_taken" = some (.ref ft)) (kpt : PySem.W.keepIn K (.ref ft) = true) (bt : Binds K fdt ["_law_row", "_law_many"] []) (GT : FnOk P w K mg base CX0 kn ft fdt ["_law_row", "_law_many"] (spTk K))
    (gy : mg "_law_dyes" = some (.ref fy)) (kpy : PySem.W.keepIn K (.ref fy) = true) (by' : Binds K fdy ["_law_row", "_law_dyes_here", "_law_many"] []) (GY : FnOk P w K mg base CX0 kn fy fdy ["_law_row", "_law_dyes_here", "_law_many"] (spDy K)) :
    FnOk P w K mg base CX0 (k + 1) f fd ["_law_row"] (spWk K) := by
  refine F.ok sc_works (fun vs H Q E h => ?_) (fun cdv A outer s H vs Q E hr h => ?_)
  · obtain ⟨_, _, rfl, _⟩ := h
    rfl
  · obtain ⟨r, sc, rfl, hR, q⟩ := h
    let N0 : List Str := ["_law_row", "_law_dyes_here", "_law_vats", "_law_vat", "_law_own", "_law_kinds", "_law_kind", "_law_routes", "_law_turn", "_law_wants", "_law_owns", "_law_step", "_law_dye"]
    refine ⟨_, pss_cons (ps_asg (pe_tup (pa_cons (pe_op op_add pe_int (pe_call GT (hr.mono hk) (by rfl) gt kpt bt .nil pass0 (pa_cons (pv 0) (pa_cons pe_int pa_nil)))) (pa_cons (pe_op op_add pe_int (pe_call GT (hr.mono hk) (by rfl) gt kpt bt .nil pass0 (pa_cons (pv 0) (pa_cons pe_int pa_nil)))) pa_nil))) (pg_tup rfl (pgs_cons (pg_name (i := 1) sc_works.nd rfl (.inr rfl)) (pgs_cons (pg_name (i := 2) sc_works.nd rfl (.inr rfl)) pgs_nil))))
      (pss_cons (ps_set (i := 4) sc_works.nd rfl (Or.inl rfl) (pe_callTy (r := rTupOf K) call_tuple_of (by rfl) m1 (by decide +kernel) (pa_cons (pe_lc (own := [("_law_vat", 3)]) (te := tCall (spDy K) [] E0 (tCons (tVar 0) (tCons (tVar 1) (tCons (tC (.int 2)) tNil)))) rfl sc_works.nd (pi_range1 (by rfl) m2 (pa_cons (pv 2) pa_nil)) (blkOk_by (N := ["_law_row", "_law_dyes_here", "_law_vats", "_law_vat", "_law_own", "_law_kinds", "_law_kind", "_law_routes", "_law_turn", "_law_wants", "_law_owns", "_law_step", "_law_dye"]) (sc := defScope sWorks) (by decide +kernel))
        (fun _ _ _ _ _ => pg_name (i := 3) sc_works.nd rfl (.inl rfl)) (fun _ _ _ _ _ => pts_nil) (fun _ _ _ _ _ => pe_call GY (hr.mono hk) (by rfl) gy kpy by' .nil pass0 (pa_cons (pv 0) (pa_cons (pv 1) (pa_cons pe_int pa_nil))))) pa_nil)))
      (pss_cons (ps_set (i := 5) sc_works.nd rfl (Or.inl rfl) (pe_lst pa_nil))
      (pss_cons (ps_for PassesOwn.never rfl (pi_range1 (by rfl) m2 (pa_cons (pe_op op_add pe_int (pe_call GT (hr.mono hk) (by rfl) gt kpt bt .nil pass0 (pa_cons (pv 0) (pa_cons pe_int pa_nil)))) pa_nil)) (pg_name (i := 6) sc_works.nd rfl (Or.inl rfl))
        (pss_cons (ps_set (i := 7) sc_works.nd rfl (Or.inl rfl) (pe_lst pa_nil))
        (pss_cons (ps_for PassesOwn.never rfl (pi_range1 (by rfl) m2 (pa_cons (pe_op op_add pe_int (pe_call GT (hr.mono hk) (by rfl) gt kpt bt .nil pass0 (pa_cons (pv 0) (pa_cons pe_int pa_nil)))) pa_nil)) (pg_name (i := 8) sc_works.nd rfl (Or.inl rfl))
          (pss_one (ps_expr (pe_bm PySem.F.plainAttrs_list PySem.F.slot_list_append PySem.F.type_list_append mt_append (pv 7) (pa_cons (pe_callTy (r := rTupOf K) call_tuple_of (by rfl) m1 (by decide +kernel) (pa_cons (pe_lc (own := [("_law_step", 11)]) (te := tCall (spTk K) [] E0 (tCons (tVar 0) (tCons (tVar 2) tNil))) rfl sc_works.nd (pi_range1 (by rfl) m2 (pa_cons (pe_op op_add pe_int (pe_call GT (hr.mono hk) (by rfl) gt kpt bt .nil pass0 (pa_cons (pv 0) (pa_cons pe_int pa_nil)))) pa_nil)) (blkOk_by (N := ["_law_row", "_law_dyes_here", "_law_vats", "_law_vat", "_law_own", "_law_kinds", "_law_kind", "_law_routes", "_law_turn", "_law_wants", "_law_owns", "_law_step", "_law_dye"]) (sc := defScope sWorks) (by decide +kernel))
            (fun _ _ _ _ _ => pg_name (i := 11) sc_works.nd rfl (.inl rfl)) (fun _ _ _ _ _ => pts_nil) (fun _ _ _ _ _ => pe_call GT (hr.mono hk) (by rfl) gt kpt bt .nil pass0 (pa_cons (pv 0) (pa_cons (pv 2) pa_nil)))) pa_nil)) pa_nil)))))
        (pss_cons (ps_set (i := 9) sc_works.nd rfl (Or.inl rfl) (pe_call GY (hr.mono hk) (by rfl) gy kpy by' .nil pass0 (pa_cons (pv 0) (pa_cons (pv 1) (pa_cons pe_int pa_nil)))))
        (pss_cons (ps_if (pt_cmpR op_eq (pe_call GT (hr.mono hk) (by rfl) gt kpt bt .nil pass0 (pa_cons (pv 0) (pa_cons pe_int pa_nil))) pe_int (nomark _))
          (pss_cons (ps_set (i := 10) sc_works.nd rfl (Or.inr rfl) (pe_lst pa_nil))
          (pss_cons (ps_for PassesOwn.never rfl (pi_tup (pe_ix ix_list (pv 7) pe_int (fun _ _ => rfl))) (pg_name (i := 3) sc_works.nd rfl (Or.inl rfl))
            (pss_one (ps_set (i := 10) sc_works.nd rfl (Or.inr rfl) (pe_op op_cat (pv 10) (pe_callTy (r := rListOf K) call_list_of (by rfl) m3 (by decide +kernel) (pa_cons (pe_ix ix_tup (pv 4) (pv 3) (fun _ _ => rfl)) pa_nil))))))
          (pss_one (ps_set (i := 9) sc_works.nd rfl (Or.inl rfl) (pe_callTy (r := rTupOf K) call_tuple_of (by rfl) m1 (by decide +kernel) (pa_cons (pe_lc (own := [("_law_dye", 12)]) (te := tVar 12) (tt := tB (tOp (rIn K false) (tVar 12) (tVar 10))) rfl sc_works.nd (pi_tup (pv 9)) (blkOk_by (N := ["_law_row", "_law_dyes_here", "_law_vats", "_law_vat", "_law_own", "_law_kinds", "_law_kind", "_law_routes", "_law_turn", "_law_wants", "_law_owns", "_law_step", "_law_dye"]) (sc := defScope sWorks) (by decide +kernel))
            (fun _ _ _ _ _ => pg_name (i := 12) sc_works.nd rfl (.inl rfl)) (fun _ _ _ _ _ => pts_one (pt_cmpR op_in_seq (pv 12) (pv 10) (by rfl))) (fun _ _ _ _ _ => pv 12)) pa_nil)))))) pss_nil)
        (pss_one (ps_expr (pe_bm PySem.F.plainAttrs_list PySem.F.slot_list_append PySem.F.type_list_append mt_append (pv 5) (pa_cons (pe_tup (pa_cons (pv 9) (pa_cons (pe_call GY (hr.mono hk) (by rfl) gy kpy by' .nil pass0 (pa_cons (pv 0) (pa_cons (pv 1) (pa_cons pe_int pa_nil)))) (pa_cons (pe_callTy (r := rTupOf K) call_tuple_of (by rfl) m1 (by decide +kernel) (pa_cons (pv 7) pa_nil)) pa_nil)))) pa_nil)))))))))
      (pss_one (ps_ret (pe_tup (pa_cons (pv 1) (pa_cons (pv 4) (pa_cons (pe_callTy (r := rTupOf K) call_tuple_of (by rfl) m1 (by decide +kernel) (pa_cons (pv 5) pa_nil)) pa_nil))))))))), ?_⟩
    have z0 : ([] : List PyData).length ≤ 100000 := Nat.zero_le _
    refine s_unp2R (B := fun d1 d2 => ∃ h vn : Nat, d1 = .int (h : Int) ∧ d2 = .int (vn : Int) ∧ 1 ≤ h ∧ h ≤ 4 ∧ 1 ≤ vn ∧ vn ≤ 4) (er_tup (ear_cons (er_one (many := 4) rfl (by decide) (by decide)) (ear_one (er_one (many := 4) rfl (by decide) (by decide)))) ?_ ?_) hR fun v1 v2 d1 d2 H1 x1 hv1 hv2 ⟨h, vn, e1, e2, hh1, hh4, hv1', hv4⟩ => ?_
    · rintro ds ⟨d, es, rfl, _, d', rfl, _⟩
      exact (by show 2 ≤ 100000; decide)
    · rintro ds ⟨d, es, rfl, ⟨a, e1, a1, a2⟩, d', rfl, ⟨b, e2, b1, b2⟩⟩
      exact ⟨d, d', rfl, a, b, e1, e2, a1, a2, b1, b2⟩
    subst e1 e2
    have ev1 := hv1.int_inv
    have ev2 := hv2.int_inv
    subst ev1 ev2
    -- own
    have mainOwn : EvR K r sc (tCB (rTupOf K) (tCons (tLc (iRng1 (tCons (tVar 2) tNil)) (gName 3) tYes (tCall (spDy K) [] E0 (tCons (tVar 0) (tCons (tVar 1) (tCons (tC (.int 2)) tNil)))) [3]) tNil)) [some (.ref r), some (.int (h : Int)), some (.int (vn : Int)), none, none, none, none, none, none, none, none, none, none] H1 (fun d => ∃ own : List (List Int), d = dS own ∧ own.length = vn ∧ ∀ o ∈ own, LotOk (h : Int) o) := by
      refine er_tupOf (elr_lc (T := fun b => b = true) (N := fun n => n = vn) (C := fun _ i ds => ∃ os : List (List Int), ds = os.map dL ∧ os.length = i ∧ ∀ o ∈ os, LotOk (h : Int) o) (B := fun _ _ d => ∃ xs, d = dL xs ∧ LotOk (h : Int) xs) ?_ (fun n hn => by omega) (fun _ => rfl) ?_ (fun n _ => ⟨[], rfl, rfl, fun _ z => by simp at z⟩) (fun _ _ _ _ _ _ => ebr_yes) ?_ ?_ (fun _ _ _ z => nomatch z)) ?_
      · exact fun Ha x Q q => ⟨_, rfl, q _ [.int (vn : Int)] Ha (.refl x.2) (.one (.int _)) ⟨vn, rfl, rfl⟩⟩
      · rintro n i ds ⟨os, rfl, hl, _⟩
        rw [List.length_map]; omega
      · exact fun n i Ha _ _ x => er_dyes (many := 2) (i := 0) rfl (fun _ _ => ev_var rfl (.int _)) (fun _ _ => ev_int) (by omega) (by decide) (by decide)
      · rintro n i ds d _ _ ⟨os, rfl, hl, ho⟩ ⟨xs, rfl, hx⟩
        refine ⟨os ++ [xs], by simp, by simp [hl], fun o hoo => ?_⟩
        rcases List.mem_append.mp hoo with z | z
        · exact ho o z
        · rw [List.mem_singleton.mp z]; exact hx
      · rintro ds ⟨n, rfl, os, rfl, hl, ho⟩
        exact ⟨os, rfl, hl, ho⟩
    refine s_setR mainOwn x1.2 fun v4 d4 H2 x2 hv4 ⟨own, e4, ownl, owno⟩ => ?_
    subst e4
    have x12 := x1.trans x2
    -- kinds
    refine s_setL (el_lst ea_nil z0) fun p5 ws5 H3 x3 hp5 h5 hw5 => ?_
    have e5 := hw5.nil_inv
    subst e5
    have hp50 : H p5 = none := x12.1.back p5 hp5
    have x13 := x12.then x3
    have n5 : p5 ≠ r := x12.2.ne hp5
    refine s_forX (N := fun n => 1 ≤ n ∧ n ≤ 3) (fun n i σ' H' => ∃ y3 y6 y7 y8 y9 y10 ws ks, σ' = [some (.ref r), some (.int (h : Int)), some (.int (vn : Int)), y3, some v4, some (.ref p5), y6, y7, y8, y9, y10, none, none] ∧ XR K r sc H H' ∧ H' p5 = some (.lst ws) ∧ IsA H' ws (ks.map dK) ∧ ks.length = i ∧ (∀ k ∈ ks, KindOk (h : Int) (vn : Int) k ∧ k.routes.length ≤ 4) ∧ Is H' v4 (dS own))
      (EvAR.mono (ear_one (er_one (many := 3) rfl (by decide) (by decide))) fun ds ⟨d, e, n, e2, g1, g2⟩ => ⟨n, by rw [e, e2], g1, g2⟩) x13.2 (fun n hn => by omega) (fun n Ha hn xa => ⟨none, none, none, none, none, none, [], [], rfl, x13.trans xa, xa.keepL n5 h5, .nil, rfl, fun _ z => by simp at z, (hv4.ex x3).ex xa.1⟩) ?_ ?_
    · rintro n i σ' Ha Z hn hi ⟨y3, y6, y7, y8, y9, y10, ws, ks, rfl, xa, hk5, hks, hkl, hko, hown⟩ kz
      -- routes
      refine s_setL (el_lst ea_nil z0) fun p7 ws7 Hb xb hp7 h7 hw7 => ?_
      have e7 := hw7.nil_inv
      subst e7
      have hp70 : H p7 = none := xa.1.back p7 hp7
      have n7 : p7 ≠ r := xa.2.ne hp7
      have n57 : p5 ≠ p7 := ne_of_none hk5 hp7
      have xab := xa.then xb
      have kpb : ∀ {us : List V}, Ha p5 = some (.lst us) → Hb p5 = some (.lst us) := fun e => xb.keep _ _ e (fun _ z => by cases z) fun z => z
      refine s_forX (N := fun n => 1 ≤ n ∧ n ≤ 4) (fun m j σ' H' => ∃ y8 us rts, σ' = [some (.ref r), some (.int (h : Int)), some (.int (vn : Int)), y3, some v4, some (.ref p5), some (.int (i : Int)), some (.ref p7), y8, y9, y10, none, none] ∧ XR K r sc H H' ∧ H' p5 = some (.lst ws) ∧ IsA H' ws (ks.map dK) ∧ Is H' v4 (dS own) ∧ H' p7 = some (.lst us) ∧ IsA H' us (rts.map dN) ∧ rts.length = j ∧ ∀ rt ∈ rts, RouteOk (vn : Int) rt)
        (EvAR.mono (ear_one (er_one (many := 4) rfl (by decide) (by decide))) fun ds ⟨d, e, n, e2, g1, g2⟩ => ⟨n, by rw [e, e2], g1, g2⟩) xab.2 (fun n hn => by omega) (fun m Hc hm xc => ⟨y8, [], [], rfl, xab.trans xc, xc.keepL n5 (kpb hk5), (hks.ex xb).ex xc.1, (hown.ex xb).ex xc.1, xc.keepL n7 h7, .nil, rfl, fun _ z => by simp at z⟩) ?_ ?_
      · rintro m j σ' Hc Z2 hm hj ⟨y8, us, rts, rfl, xc, g5, gks, gown, g7, grt, grl, gro⟩ kz2
        have mainRt : ∀ {y8 : Option V}, EvR K r sc (tCB (rTupOf K) (tCons (tLc (iRng1 (tCons (tOp (rI0 fun i j => .int (i + j)) (tC (.int 1)) (tCall (spTk K) [] E0 (tCons (tVar 0) (tCons (tC (.int 3)) tNil)))) tNil)) (gName 11) tYes (tCall (spTk K) [] E0 (tCons (tVar 0) (tCons (tVar 2) tNil))) [11]) tNil)) [some (.ref r), some (.int (h : Int)), some (.int (vn : Int)), y3, some v4, some (.ref p5), some (.int (i : Int)), some (.ref p7), y8, y9, y10, none, none] Hc (fun d => ∃ rt : List Nat, d = dN rt ∧ RouteOk (vn : Int) rt) := by
          intro y8
          refine er_tupOf (elr_lc (T := fun b => b = true) (N := fun n => 1 ≤ n ∧ n ≤ 3) (C := fun _ i ds => ∃ rt : List Nat, ds = nInts rt ∧ rt.length = i ∧ ∀ v ∈ rt, (v : Int) < (vn : Int)) (B := fun _ _ d => ∃ n : Nat, d = .int (n : Int) ∧ (n : Int) < (vn : Int)) ?_ (fun n hn => by omega) (fun _ => rfl) ?_ (fun n _ => ⟨[], rfl, rfl, fun _ z => by simp at z⟩) (fun _ _ _ _ _ _ => ebr_yes) ?_ ?_ (fun _ _ _ z => nomatch z)) ?_
          · exact EvAR.mono (ear_one (er_one (many := 3) (i := 0) rfl (by decide) (by decide))) fun ds ⟨d, e, n, e2, g1, g2⟩ => ⟨n, by rw [e, e2], g1, g2⟩
          · rintro n i ds ⟨os, rfl, hl, _⟩
            rw [List.length_map]; omega
          · exact fun n i Hx _ _ x => er_taken (many := (vn : Int)) (i := 0) rfl (fun _ _ => ev_var rfl (.int _)) (by omega) (by omega)
          · rintro n i ds d _ _ ⟨os, rfl, hl, ho⟩ ⟨v, rfl, hx⟩
            refine ⟨os ++ [v], by simp [nInts], by simp [hl], fun o hoo => ?_⟩
            rcases List.mem_append.mp hoo with z | z
            · exact ho o z
            · rw [List.mem_singleton.mp z]; exact hx
          · rintro ds ⟨n, hn', os, rfl, hl, ho⟩
            exact ⟨os, rfl, by omega, by omega, ho⟩
        refine s_appR rfl g7 n7 mainRt xc.2 ?_ fun v d Hd xd _ hv ⟨rt, e, hrt⟩ => ?_
        · rw [grt.length, List.length_map]; omega
        · have h7d : Hd p7 = some (.lst us) := xd.keepL n7 g7
          have tl := tupLe_soft (o := .lst (us ++ [v])) h7d (soft_lst us)
          refine kz2 _ _ ⟨_, us ++ [v], rts ++ [rt], rfl, xr_wr hR hp70 (xc.trans xd) h7d (soft_lst us), (upd_ne n57).trans (xd.keepL n5 g5), (gks.ex xd.1).keep tl, (gown.ex xd.1).keep tl, upd_same, ?_, by simp [grl], fun z hz => ?_⟩
          · subst e
            rw [List.map_append]
            exact ((grt.ex xd.1).append (.one hv)).keep tl
          · rcases List.mem_append.mp hz with z' | z'
            · exact gro z z'
            · rw [List.mem_singleton.mp z']; exact hrt
      · rintro m σ' Hc hm ⟨y8, us, rts, rfl, xc, g5, gks, gown, g7, grt, grl, gro⟩
        -- wants
        refine s_setR (er_dyes (h := h) (many := 5) (i := 0) rfl (fun _ _ => ev_var rfl (.int _)) (fun _ _ => ev_int) (by omega) (by decide) (by decide)) xc.2 fun v9 d9 Hd xd hv9 ⟨xs, e9, hxs⟩ => ?_
        subst e9
        have isl7 : IsL Hd (.ref p7) (rts.map dN) := ⟨p7, us, rfl, xd.keepL n7 g7, grt.ex xd.1⟩
        refine s_ifJ (T := fun _ => True) (fun σ' H' => ∃ y3 y10 v9 xs, σ' = [some (.ref r), some (.int (h : Int)), some (.int (vn : Int)), y3, some v4, some (.ref p5), some (.int (i : Int)), some (.ref p7), y8, some v9, y10, none, none] ∧ XR K r sc Hd H' ∧ Is H' v9 (dL xs) ∧ LotOk (h : Int) xs)
          (ebr_eq (EvR.mono (er_taken (many := 2) (i := 0) rfl (fun _ _ => ev_int) (by decide) (by decide)) fun d ⟨n, e, _⟩ => ⟨_, e⟩) fun _ _ => ev_int) xd.2 ?_ ?_ ?_
        · rintro σ' He ⟨y3, y10, v9, xs, rfl, xe, hv9, hxs⟩
          have g5e : He p5 = some (.lst ws) := (xd.trans xe).keepL n5 g5
          have g7e : He p7 = some (.lst us) := (xd.trans xe).keepL n7 g7
          have isl : ∀ {Hx : Hp}, XR K r sc He Hx → IsL Hx (.ref p7) (rts.map dN) := fun x => ⟨p7, us, rfl, x.keepL n7 g7e, (grt.ex (xd.trans xe).1).ex x.1⟩
          refine s_appR (A := fun d => ∃ k : Kind, d = dK k ∧ KindOk (h : Int) (vn : Int) k ∧ k.routes.length ≤ 4) rfl g5e n5 (er_tup (C := fun ds => ∃ k : Kind, ds = [dL k.wants, dL k.bars, dR k.routes] ∧ KindOk (h : Int) (vn : Int) k ∧ k.routes.length ≤ 4) (EvAR.mono (ear_cons (A := fun d => d = dL xs) (er_of (d := dL xs) (fun Hx x => ev_var rfl (hv9.ex x.1)) rfl)
            (ear_cons (er_dyes (h := h) (many := 3) (i := 0) rfl (fun _ _ => ev_var rfl (.int _)) (fun _ _ => ev_int) (by omega) (by decide) (by decide)) (ear_one (A := fun d => d = dR rts) (er_of (d := dR rts) (fun Hx x => ev_tupOf (evv_var rfl (isl x))) rfl)))) ?_) ?_ ?_) xe.2 ?_ fun v d Hf xf _ hv ⟨kd, e, hkd, hk4⟩ => ?_
          · rintro ds ⟨d1, es, rfl, rfl, d2, es2, rfl, ⟨bs, rfl, hbs⟩, d3, rfl, rfl⟩
            exact ⟨⟨xs, bs, rts⟩, rfl, ⟨hxs, hbs, by show 1 ≤ rts.length; omega, by show rts.length ≤ 8; omega, gro⟩, by show rts.length ≤ 4; omega⟩
          · rintro ds ⟨kd, rfl, _⟩
            exact (by show 3 ≤ 100000; decide)
          · rintro ds ⟨kd, rfl, h1, h2⟩
            exact ⟨kd, rfl, h1, h2⟩
          · have := (gks.ex (xd.trans xe).1).length
            rw [List.length_map] at this
            omega
          · subst e
            have g5f : Hf p5 = some (.lst ws) := xf.keepL n5 g5e
            have tl := tupLe_soft (o := .lst (ws ++ [v])) g5f (soft_lst ws)
            have xall := (xc.trans xd).trans (xe.trans xf)
            refine kz _ _ ⟨_, _, _, _, _, _, ws ++ [v], ks ++ [kd], rfl, xr_wr hR hp50 xall g5f (soft_lst ws), upd_same, ?_, by simp [hkl], fun z hz => ?_, (gown.ex ((xd.trans xe).trans xf).1).keep tl⟩
            · rw [List.map_append]
              exact ((gks.ex ((xd.trans xe).trans xf).1).append (.one hv)).keep tl
            · rcases List.mem_append.mp hz with z' | z'
              · exact hko z z'
              · rw [List.mem_singleton.mp z']; exact ⟨hkd, hk4⟩
        · intro kj He xe
          have own_e : Is He v4 (dS own) := gown.ex (xd.trans xe).1
          obtain ⟨rt0, hrt0⟩ : ∃ rt0, rts[0]? = some rt0 := ⟨_, List.getElem?_eq_getElem (by omega)⟩
          have ok0 := gro rt0 (List.mem_of_getElem? hrt0)
          refine s_setL (el_lst ea_nil z0) fun p10 ws10 Hf xf hp10 h10 hw10 => ?_
          have e10 := hw10.nil_inv
          subst e10
          have isl7f : IsL Hf (.ref p7) (rts.map dN) := ⟨p7, us, rfl, xf.keep _ _ ((xd.trans xe).keepL n7 g7) (fun _ z => by cases z) (fun z => z), (grt.ex (xd.trans xe).1).ex xf⟩
          refine s_forT none1 (ds := nInts rt0) (fun l σ' H' => ∃ y3 v10 os, σ' = [some (.ref r), some (.int (h : Int)), some (.int (vn : Int)), y3, some v4, some (.ref p5), some (.int (i : Int)), some (.ref p7), y8, some v9, some v10, none, none] ∧ IsL H' v10 (os.map PyData.int) ∧ os.length ≤ 5 * l) (ev_ixV (i := 0) (evv_var rfl isl7f) ev_int (at_nat (i := 0) (by rw [List.getElem?_map, hrt0]; rfl))) (fun Hg xg => ⟨y3, .ref p10, [], rfl, ⟨p10, [], rfl, xg.keep _ _ h10 (fun _ z => by cases z) (fun z => z), .nil⟩, Nat.zero_le _⟩) ?_ ?_
          · rintro l d v σ' Hg Z3 hd xg ⟨y3, v10, os, rfl, hos, hol⟩ hv kz3
            rw [List.getElem?_map] at hd
            obtain ⟨vt, hvt, rfl⟩ := Option.map_eq_some_iff.mp hd
            have hvm := ok0.2.2 vt (List.mem_of_getElem? hvt)
            have hvo : vt < own.length := by omega
            have hll : l < rt0.length := (List.getElem?_eq_some_iff.mp hvt).1
            have lo := (owno _ (getD_mem (d := []) hvo)).len (show ((h : Nat) : Int) ≤ 5 by omega)
            have hl6 := ok0.2.1
            refine s_setL (el_catL (evv_var rfl hos) (EvL.toV (el_listT (ev_ixn (ds := own.map dL) (i := vt) (d := dL (own.getD vt [])) (ev_var rfl ((own_e.ex xf).ex xg)) (ev_var rfl hv) (dL_at hvo)))) ?_) fun p us' Hh xh _ hp hus => kz3 _ Hh xh ⟨_, _, os ++ own.getD vt [], rfl, ⟨p, us', rfl, hp, by rw [List.map_append]; exact hus⟩, ?_⟩
            · rw [List.length_map, List.length_map]
              omega
            · rw [List.length_append]
              omega
          · rintro σ' Hg xg ⟨y3, v10, os, rfl, hos, hol⟩
            have xeg : XR K r sc He Hg := (XR.of xe.2 xf).then xg
            have hv9g := (hv9.ex xe.1).ex xeg.1
            have hl5 := hxs.len (show ((h : Nat) : Int) ≤ 5 by omega)
            dsimp only
            have mainW : Ev (tCB (rTupOf K) (tCons (tLc (iTup K (tVar 9)) (gName 12) (tB (tOp (rIn K false) (tVar 12) (tVar 10))) (tVar 12) [12]) tNil)) [some (.ref r), some (.int (h : Int)), some (.int (vn : Int)), y3, some v4, some (.ref p5), some (.int (i : Int)), some (.ref p7), y8, some v9, some v10, none, none] Hg (dL (xs.filter fun x => decide (x ∈ os))) := by
              refine ev_is (ev_tupOf (EvL.toV (el_lcT (fun d => decide (pInt d ∈ os)) (fun d => d) (ev_var rfl hv9g) (by rw [List.length_map]; omega) (fun _ => rfl) (fun l d v Hh hd xh hv => ?_) fun l d v Hh hd xh hv _ => ev_var rfl hv))) ?_
              · obtain ⟨y, hy, rfl⟩ := List.mem_map.mp (List.mem_of_getElem? hd)
                exact eb_B (ev_inV (ev_var rfl hv) (evv_var rfl (hos.ex xh)))
              · rw [List.map_id', List.filter_map]
                rfl
            refine s_set mainW fun v Hh xh hv => kj _ _ ⟨_, _, v, _, rfl, xe.trans (xeg.then xh), hv, ?_⟩
            exact ⟨fun x hx => hxs.1 x (List.mem_filter.mp hx).1, hxs.2.1.filter _, Nat.le_trans (List.length_filter_le _ _) hxs.2.2⟩
        · intro kj He xe
          exact kj _ _ ⟨_, _, v9, xs, rfl, xe, hv9.ex xe.1, hxs⟩
    · rintro n σ' Ha hn ⟨y3, y6, y7, y8, y9, y10, ws, ks, rfl, xa, hk5, hks, hkl, hko, hown⟩
      dsimp only
      have isl : IsL Ha (.ref p5) (ks.map dK) := ⟨p5, ws, rfl, hk5, hks⟩
      refine s_ret (d := dW ⟨h, own, ks⟩) (ev_tup (ea_cons (ev_var rfl (.int _)) (ea_cons (ev_var rfl hown) (ea_one (ev_tupOf (evv_var rfl isl))))) (by show 3 ≤ 100000; decide)) fun v Hb xb hv => q v ⟨h, own, ks⟩ Hb (xa.then xb) hv ?_
      have hc : (own.length : Int) = (vn : Int) := by omega
      refine ⟨⟨by show (1 : Int) ≤ h; omega, by show (h : Int) ≤ 5; omega, by show 1 ≤ own.length; omega, by show own.length ≤ 5; omega, owno, by show 1 ≤ ks.length; omega, by show ks.length ≤ 4; omega, fun k hk => ?_⟩, fun k hk => ?_, by show ks.length ≤ 3; omega⟩
      · show KindOk (h : Int) (own.length : Int) k
        rw [hc]
        exact (hko k hk).1
      · exact (hko _ (getD_mem (d := ⟨[], [], []⟩) hk)).2
end
end Dw
set_option Elab.async false
set_option linter.all false
set_option maxRecDepth 100000
set_option maxHeartbeats 4000000
namespace Dw
open PySem PySem.Spec PyProof.Rows L2 Gx
/-- items that are lists of ints, none of them the list at t itself -/
def LL (H : Hp) (t : Addr) (us : List V) (st : List (List Int)) : Prop := us.length = st.length ∧ ∀ (i : Nat) v l, us[i]? = some v → st[i]? = some l → v ≠ .ref t ∧ IsL H v (l.map .int)
section
variable {H H' : Hp} {t : Addr} {us : List V} {st : List (List Int)}
theorem LL.ex {R : Addr → Prop} (x : ExB R H H') (hR : ∀ b, R b → b = t) (h : LL H t us st) : LL H' t us st := ⟨h.1, fun i v l e1 e2 => by
  obtain ⟨n, p, vs, rfl, hp, hv⟩ := h.2 i v l e1 e2
  exact ⟨n, p, vs, rfl, x.keep _ _ hp (fun _ z => by cases z) (fun z => n (by rw [hR p z])), hv.ex x⟩⟩
theorem LL.get (h : LL H t us st) {i : Nat} {l : List Int} (e : st[i]? = some l) : ∃ v, us[i]? = some v ∧ v ≠ .ref t ∧ IsL H v (l.map .int) := by
  have hi : i < us.length := by rw [h.1]; exact (List.getElem?_eq_some_iff.mp e).1
  exact ⟨us[i], List.getElem?_eq_getElem hi, h.2 i _ l (List.getElem?_eq_getElem hi) e⟩
theorem LL.nil : LL H t [] [] := ⟨rfl, fun i v l e => by simp at e⟩
theorem LL.snoc {v : V} {l : List Int} (h : LL H t us st) (n : v ≠ .ref t) (hv : IsL H v (l.map .int)) : LL H t (us ++ [v]) (st ++ [l]) := ⟨by simp [h.1], fun i v' l' e1 e2 => by
  by_cases hi : i < us.length
  · rw [List.getElem?_append_left hi] at e1
    rw [List.getElem?_append_left (by rw [← h.1]; exact hi)] at e2
    exact h.2 i v' l' e1 e2
  · rw [List.getElem?_append_right (by omega)] at e1
    rw [List.getElem?_append_right (by rw [← h.1]; omega)] at e2
    have e0 : i - us.length = 0 := by
      have := (List.getElem?_eq_some_iff.mp e1).1
      simp at this
      omega
    rw [e0] at e1
    rw [← h.1, e0] at e2
    have e1 := Option.some.inj e1
    have e2 := Option.some.inj e2
    subst e1 e2
    exact ⟨n, hv⟩⟩
theorem LL.set {v : V} {l : List Int} {i : Nat} (h : LL H t us st) (n : v ≠ .ref t) (hv : IsL H v (l.map .int)) : LL H t (us.set i v) (st.set i l) := ⟨by simp [h.1], fun j v' l' e1 e2 => by
  rw [List.getElem?_set] at e1 e2
  by_cases e : i = j
  · rw [if_pos e] at e1 e2
    split at e1
    · split at e2
      · have e1 := Option.some.inj e1
        have e2 := Option.some.inj e2
        subst e1 e2
        exact ⟨n, hv⟩
      · cases e2
    · cases e1
  · rw [if_neg e] at e1 e2
    exact h.2 j v' l' e1 e2⟩
end
section
variable {K : PySem.W.Frag} {σ : L2.St} {H H' : Hp} {te tl tb : TE} {D : Ends}
def EvLL (te : TE) (σ : L2.St) (H : Hp) (st : List (List Int)) : Prop := ∀ H1, Ex H H1 → ∀ Q : VK, (∀ t us H2, Ex H1 H2 → H1 t = none → H2 t = some (.lst us) → LL H2 t us st → Q (.ref t) H2) → te σ H1 Q
/-- [list(l) for l in t] -/
theorem ell_lc {j : Nat} {vs : List Nat} {st : List (List Int)} (h : Ev tl σ H (dS st)) (hz : st.length ≤ 1000) (hw : ∀ x, wipe ((wipe σ vs).set j (some x)) vs = wipe σ vs)
    (he : ∀ (i : Nat) l v H1, st[i]? = some l → Ex H H1 → Is H1 v (dL l) → EvL te ((wipe σ vs).set j (some v)) H1 (l.map .int)) : EvLL (tLc (iTup K tl) (gName j) tYes te vs) σ H st := fun H1 x Q q => h H1 x _ fun v H2 x2 hv => by
  obtain ⟨a, ws, rfl, ha, hws⟩ := Is.tup_inv hv
  have hl := hws.length
  rw [List.length_map] at hl
  refine ⟨a, rfl, ⟨ws, SqT.of ha⟩, fun t ht => lc_tup (xs := ws) (fun i H' => Ex H2 H' ∧ ∃ us, H' t = some (.lst us) ∧ LL H' t us (st.take i)) ⟨.new ht, [], upd_same, .nil⟩ (fun i H' _ c => SqT.of (c.1.tup _ _ ha)) (fun i z H' hz' ⟨c1, us, c2, c3⟩ => ?_) fun H' ⟨c1, us, c2, c3⟩ => ?_⟩
  · obtain ⟨d, hd, hzd⟩ := hws.got hz'
    rw [List.getElem?_map] at hd
    obtain ⟨l, hl', rfl⟩ := Option.map_eq_some_iff.mp hd
    refine ⟨hw z, ?_⟩
    dsimp only [tYes]
    rw [if_pos rfl]
    refine he i l z H' hl' ((x.trans x2).trans c1) (hzd.ex c1) H' (.refl H') _ fun p vs' H4 x4 hp0 hp hvs => ?_
    have c2' : H4 t = some (.lst us) := x4.keep _ _ c2 (fun _ z => by cases z) fun z => z
    have npt : p ≠ t := fun e => by rw [e] at hp0; rw [hp0] at c2; cases c2
    have tl' := tupLe_soft (o := .lst (us ++ [.ref p])) c2' (soft_lst us)
    refine ⟨us, c2', ?_, ExB.mut (c1.trans x4) ht c2' (soft_lst us), us ++ [.ref p], upd_same, ?_⟩
    · have := c3.1
      rw [this, List.length_take]
      exact szl (by omega)
    · rw [take_snoc hl']
      refine LL.snoc (LL.ex (R := fun b => b = t) (.write rfl c2' (soft_lst us)) (fun b z => z) (c3.ex x4 fun _ z => z.elim)) (fun z => npt (by injection z)) ⟨p, vs', rfl, (upd_ne npt).trans hp, hvs.keep tl'⟩
  · rw [hl, List.take_length] at c3
    exact q t us H' (x2.trans c1) (x2.back t ht) c2 c3
/-- ls, l = .., [] -/
theorem s_parLL {i j : Nat} {st : List (List Int)} (h : EvLL te σ H st) (k : ∀ t us p H1, Ex H H1 → H t = none → H1 t = some (.lst us) → LL H1 t us st → p ≠ t → H1 p = some (.lst []) → D.nx ((σ.set i (some (.ref t))).set j (some (.ref p))) H1) :
    tPar i j (tCons te (tCons (tLst tNil) tNil)) D σ H := h H (.refl H) _ fun t us H1 x1 ht0 ht hLL => ⟨Nat.zero_le _, fun p hp => by
  have xp : Ex H1 (upd H1 p (.lst [])) := .new hp
  have npt : p ≠ t := fun e => by rw [e] at hp; rw [hp] at ht; cases ht
  exact ⟨_, _, rfl, k t us p _ (x1.trans xp) ht0 (xp.keep _ _ ht (fun _ z => by cases z) fun z => z) (hLL.ex xp fun _ z => z.elim) npt upd_same⟩⟩
/-- [tuple(l) for l in ls] -/
theorem el_lcTups {j i : Nat} {vs : List Nat} {st : List (List Int)} {t : Addr} {us : List V} (hv : σ[i]? = some (some (.ref t))) (ht : H t = some (.lst us)) (hL : LL H t us st) (hz : st.length ≤ 1000) (hw : ∀ x, wipe ((wipe σ vs).set j (some x)) vs = wipe σ vs)
    (he : ∀ (i : Nat) l v H1, st[i]? = some l → Ex H H1 → IsL H1 v (l.map .int) → Ev te ((wipe σ vs).set j (some v)) H1 (dL l)) : EvL (tLc (iList K (tVar i)) (gName j) tYes te vs) σ H (st.map dL) := fun H1 x Q q => by
  have keepT : ∀ {Ha Hb : Hp}, Ex Ha Hb → Ha t = some (.lst us) → Hb t = some (.lst us) := fun x e => x.keep _ _ e (fun _ z => by cases z) fun z => z
  refine ⟨.ref t, hv, t, rfl, ⟨us, SqL.of (keepT x ht)⟩, fun D hD => lc_list (xs := us) (fun i H' => Ex H1 H' ∧ ∃ ws, H' D = some (.lst ws) ∧ IsA H' ws ((st.take i).map dL)) ⟨.new hD, [], upd_same, .nil⟩ (fun i H' _ c => SqL.of (keepT c.1 (keepT x ht))) (fun i z H' hz' ⟨c1, ws, c2, c3⟩ => ?_) fun H' ⟨c1, ws, c2, c3⟩ => ?_⟩
  · have hi : i < st.length := by rw [← hL.1]; exact (List.getElem?_eq_some_iff.mp hz').1
    obtain ⟨l, hl'⟩ : ∃ l, st[i]? = some l := ⟨_, List.getElem?_eq_getElem hi⟩
    obtain ⟨_, hzl⟩ := hL.2 i z l hz' hl'
    refine ⟨hw z, ?_⟩
    dsimp only [tYes]
    rw [if_pos rfl]
    refine he i l z H' hl' (x.trans c1) (hzl.ex (x.trans c1)) H' (.refl H') _ fun y H4 x4 hy => ?_
    have c2' : H4 D = some (.lst ws) := x4.keep _ _ c2 (fun _ z => by cases z) fun z => z
    refine ⟨ws, c2', ?_, ExB.mut (c1.trans x4) hD c2' (soft_lst ws), ws ++ [y], upd_same, ?_⟩
    · have := c3.length
      rw [this, List.length_map, List.length_take]
      exact szl (by omega)
    · rw [take_snoc hl', List.map_append]
      exact ((c3.ex x4).append (.one hy)).keep (tupLe_soft c2' (soft_lst ws))
  · rw [hL.1, List.take_length] at c3
    exact q D ws H' c1 hD c2 c3
/-- ls[i], a list of lists -/
theorem ev_ixLL {i n : Nat} {t : Addr} {us : List V} {st : List (List Int)} {l : List Int} (hv : σ[i]? = some (some (.ref t))) (ht : H t = some (.lst us)) (hL : LL H t us st) (hb : Ev tb σ H (.int (n : Int))) (hn : st[n]? = some l) : EvV (tOp (rIxL K) (tVar i) tb) σ H (l.map .int) := fun H1 x Q q =>
  ⟨.ref t, hv, hb H1 x _ fun u H2 x2 hu => by
    have e := hu.int_inv
    subst e
    obtain ⟨v, hv', _, hvl⟩ := hL.get hn
    exact ⟨t, us, (n : Int), v, rfl, rfl, SqL.of ((x.trans x2).keep _ _ ht (fun _ z => by cases z) fun z => z), at_nat hv', q v H2 x2 (hvl.ex (x.trans x2))⟩⟩
end
section
variable {P : Program} {w : World} {K : PySem.W.Frag} {mg : Str → Option Value} {base : Heap}
theorem sc_pass : FnScope ["_law_stand", "_law_route", "_law_traces", "_law_carried", "_law_vat", "_law_lot"] ["_law_stand", "_law_route"] (defScope sPass) := ⟨rfl, rfl, rfl, by decide +kernel, rfl, by decide +kernel, by decide +kernel⟩
def fPass : List PyData → PyData → Prop := fun ds d => ∃ (wk : Wk) (st : List (List Int)) (r : List Nat), ds = [dS st, dN r] ∧ WkOk wk ∧ StOk wk st ∧ (∀ v ∈ r, v < wk.vats.length) ∧ d = .tuple [dS (bhd st r).1, dL (bhd st r).2]
theorem ok_pass {f : Addr} {fd : FuncData} {k : Nat} (F : Fun K "_law_pass" "_law_pass" sPass f fd) (m1 : mg "tuple" = none) (m2 : mg "list" = none) (m3 : mg "sorted" = none) (m4 : mg "set" = none) :
    FnOk P w K mg base CX0 (k + 1) f fd ["_law_stand", "_law_route"] (spF [] fPass) := by
  refine F.ok sc_pass (fun vs H Q E h => ?_) (fun cdv A outer s H vs Q E hr h => ?_)
  · obtain ⟨ds, d, hvs, ⟨_, _, _, rfl, _⟩, _⟩ := h
    exact hvs.length
  · obtain ⟨ds, d, hvs, ⟨wk, st, r, rfl, W, hst, hrt, rfl⟩, hT, q⟩ := h
    obtain ⟨v1, v2, rfl, h1, h2⟩ := hvs.inv2
    refine ⟨_, pss_cons (ps_par (i := 2) (j := 3) (by rfl) sc_pass.nd rfl rfl (by decide) rfl rfl (pa_cons (pe_lc (own := [("_law_lot", 5)]) (te := tCB (rListOf K) (tCons (tVar 5) tNil)) rfl sc_pass.nd (pi_tup (pv 0)) (blkOk_by (N := ["_law_stand", "_law_route", "_law_traces", "_law_carried", "_law_vat", "_law_lot"]) (sc := defScope sPass) (by decide +kernel))
        (fun _ _ _ _ _ => pg_name (i := 5) sc_pass.nd rfl (.inl rfl)) (fun _ _ _ _ _ => pts_nil) (fun _ _ _ _ _ => pe_callTy (r := rListOf K) call_list_of (by rfl) m2 (by decide +kernel) (pa_cons (pv 5) pa_nil))) (pa_cons (pe_lst pa_nil) pa_nil)) (by rfl))
      (pss_cons (ps_for PassesOwn.never rfl (pi_tup (pv 1)) (pg_name (i := 4) sc_pass.nd rfl (Or.inl rfl))
        (pss_cons (ps_set (i := 3) sc_pass.nd rfl (Or.inl rfl) (pe_callB (cr_sortedSet rfl) (by rfl) m3 (by decide +kernel) (pa_cons (pe_callTy (cr_setS rfl) (by rfl) m4 (by decide +kernel) (pa_cons (pe_op op_cat (pv 3) (pe_ix ix_list (pv 2) (pv 4) (fun _ _ => rfl))) pa_nil)) pa_nil)))
        (pss_one (ps_asg (pe_callTy (r := rListOf K) call_list_of (by rfl) m2 (by decide +kernel) (pa_cons (pv 3) pa_nil)) (pg_sub (pv 2) (pv 4) set_list)))))
      (pss_one (ps_ret (pe_tup (pa_cons (pe_callTy (r := rTupOf K) call_tuple_of (by rfl) m1 (by decide +kernel) (pa_cons (pe_lc (own := [("_law_lot", 5)]) (te := tCB (rTupOf K) (tCons (tVar 5) tNil)) rfl sc_pass.nd (pi_list (pv 2)) (blkOk_by (N := ["_law_stand", "_law_route", "_law_traces", "_law_carried", "_law_vat", "_law_lot"]) (sc := defScope sPass) (by decide +kernel))
        (fun _ _ _ _ _ => pg_name (i := 5) sc_pass.nd rfl (.inl rfl)) (fun _ _ _ _ _ => pts_nil) (fun _ _ _ _ _ => pe_callTy (r := rTupOf K) call_tuple_of (by rfl) m1 (by decide +kernel) (pa_cons (pv 5) pa_nil))) pa_nil)) (pa_cons (pe_callTy (r := rTupOf K) call_tuple_of (by rfl) m1 (by decide +kernel) (pa_cons (pv 3) pa_nil)) pa_nil)))))), ?_⟩
    have hd5 := W.d2
    have hsl : st.length ≤ 1000 := by
      have := W.v2
      rw [hst.1]; omega
    refine s_parLL (ell_lc (ev_var rfl h1) hsl (fun _ => rfl) (fun i l v H1 _ x hv => el_listT (ev_var rfl hv))) fun t us p H1 x2 ht0 ht hLL npt hp => ?_
    refine s_forT (fun b => b = t) (ds := nInts r) (fun i σ H' => ∃ vc y us, σ = [some v1, some v2, some (.ref t), some vc, y, none] ∧ H' t = some (.lst us) ∧ LL H' t us (bhd st (r.take i)).1 ∧ vc ≠ .ref t ∧ IsL H' vc ((bhd st (r.take i)).2.map .int)) (ev_var rfl (h2.ex x2)) (fun H2 y2 => ⟨.ref p, none, us, rfl, ?_, ?_, ?_, ?_⟩) ?_ ?_
    · exact y2.keep _ _ ht (fun _ z => by cases z) fun z => z
    · exact hLL.ex y2 fun _ z => z.elim
    · exact fun z => npt (by injection z)
    · exact ⟨p, [], rfl, y2.keep _ _ hp (fun _ z => by cases z) (fun z => z), .nil⟩
    · rintro i d v σ' H' Z hd x ⟨vc, y, us, rfl, hus, hL, hne, hc⟩ hv kz
      rw [List.getElem?_map] at hd
      obtain ⟨vt, hvt, rfl⟩ := Option.map_eq_some_iff.mp hd
      have ez := hv.int_inv
      subst ez
      have okI := bhd_ok hd5 hst (r := r.take i) fun v hv => hrt v (List.mem_of_mem_take hv)
      have hvlt : vt < (bhd st (r.take i)).1.length := by
        rw [okI.1.1]
        exact hrt vt (List.mem_of_getElem? hvt)
      have okV := okI.1.2 _ (getD_mem (d := []) hvlt)
      have l1 := okI.2.len hd5
      have l2 := okV.len hd5
      have hget : (bhd st (r.take i)).1[vt]? = some ((bhd st (r.take i)).1.getD vt []) := by
        rw [List.getD_eq_getElem?_getD, List.getElem?_eq_getElem hvlt]
        rfl
      refine s_setL (el_sorted (es_setV (ns := (bhd st (r.take i)).2 ++ (bhd st (r.take i)).1.getD vt []) ?_ ?_) ?_) fun p3 ws H3 x3 hp30 hp3 hws => ?_
      · rw [List.map_append]
        exact (el_catL (evv_var rfl hc) (ev_ixLL rfl hus hL (ev_var rfl (.int _)) hget) (by rw [List.length_map, List.length_map]; omega)).toV
      · rw [List.length_append]; omega
      · rw [List.length_append]; omega
      · have hus3 : H3 t = some (.lst us) := x3.keep _ _ hus (fun _ z => by cases z) fun z => z
        have n3 : p3 ≠ t := fun e => by rw [e] at hp30; rw [hp30] at hus; cases hus
        have il3 : IsL H3 (.ref p3) ((srt ((bhd st (r.take i)).2 ++ (bhd st (r.take i)).1.getD vt [])).map .int) := ⟨p3, ws, rfl, hp3, hws⟩
        refine el_listV (evv_var rfl il3) H3 (.refl H3) _ fun p4 ws4 H4 x4 hp40 hp4 hws4 => ?_
        have hus4 : H4 t = some (.lst us) := x4.keep _ _ hus3 (fun _ z => by cases z) fun z => z
        have n4 : p4 ≠ t := fun e => by rw [e] at hp40; rw [hp40] at hus3; cases hus3
        have tl := tupLe_soft (o := .lst (us.set vt (.ref p4))) hus4 (soft_lst us)
        have xw : ExB (fun b => b = t) H4 (upd H4 t (.lst (us.set vt (.ref p4)))) := .write rfl hus4 (soft_lst us)
        have hul : us.length = (bhd st (r.take i)).1.length := hL.1
        refine ⟨.ref t, rfl, .int (vt : Int), rfl, t, us, (vt : Int), vt, rfl, rfl, hus4, ?_, ?_⟩
        · unfold ixN
          rw [if_pos (by omega), if_pos (by omega)]
          simp
        · refine kz _ _ ((ExB.up (x3.trans x4)).trans xw) ⟨.ref p3, _, us.set vt (.ref p4), rfl, upd_same, ?_, fun z => n3 (by injection z), ?_⟩
          · rw [bhd_take hvt]
            refine LL.set (LL.ex xw (fun b z => z) (hL.ex (x3.trans x4) fun _ z => z.elim)) (fun z => n4 (by injection z)) ⟨p4, ws4, rfl, (upd_ne n4).trans hp4, hws4.keep tl⟩
          · rw [bhd_take hvt]
            exact ⟨p3, ws, rfl, (upd_ne n3).trans (x4.keep _ _ hp3 (fun _ z => by cases z) fun z => z), (hws.ex x4).keep tl⟩
    · rintro σ' H' x ⟨vc, y, us, rfl, hus, hL, hne, hc⟩
      have e : r.take (nInts r).length = r := List.take_of_length_le (by rw [List.length_map]; exact Nat.le_refl _)
      rw [e] at hL hc
      have okE := bhd_ok hd5 hst hrt
      have xH : Ex H H' := ex_over x2 x fun b z => by rw [z]; exact ht0
      dsimp only
      refine s_ret (ev_tup (ea_cons (ev_tupOf (EvL.toV (el_lcTups rfl hus hL (by rw [okE.1.1]; have := W.v2; omega) (fun _ => rfl) fun i l v H2 _ x2 hv => ev_tupOf (evv_var rfl hv)))) (ea_one (ev_tupOf (evv_var rfl hc)))) (by show 2 ≤ 100000; decide)) fun v H2 x3 hv => q v H2 (xH.trans x3) hv
end
end Dw
set_option Elab.async false
set_option linter.all false
set_option maxRecDepth 100000
set_option maxHeartbeats 4000000
namespace Dw
open PySem PySem.Spec PyProof.Rows L2 Gx
/-! ### equality of data -/
theorem lay_ints : ∀ ns : List Int, PyData.canLayAll0 (ns.map .int) = true
  | [] => rfl
  | n :: ns => by rw [List.map_cons, PyData.canLayAll0, lay_ints ns]; rfl
theorem dep_ints : ∀ ns : List Int, PyData.depthAll (ns.map .int) = 0
  | [] => rfl
  | n :: ns => by rw [List.map_cons, PyData.depthAll, dep_ints ns]; rfl
theorem shaped_ints (ns : List Int) : SeqAt.shaped (.list (ns.map .int)) = true := by
  unfold SeqAt.shaped
  rw [PyData.canLay0, lay_ints, PyData.depth, dep_ints]
  rfl
theorem shaped_dL (ns : List Int) : SeqAt.shaped (dL ns) = true := by
  unfold SeqAt.shaped dL
  rw [PyData.canLay0, lay_ints, PyData.depth, dep_ints]
  rfl
theorem dN_dL (p : List Nat) : dN p = dL (p.map fun n : Nat => (n : Int)) := by simp [dN, dL]
theorem shaped_dN (p : List Nat) : SeqAt.shaped (dN p) = true := by rw [dN_dL]; exact shaped_dL _
theorem lay_dNs : ∀ ps : List (List Nat), PyData.canLayAll0 (ps.map dN) = true
  | [] => rfl
  | p :: ps => by
    rw [List.map_cons, PyData.canLayAll0, lay_dNs ps, Bool.and_true]
    exact SeqAt.canLay_of_shaped (shaped_dN p)
theorem dep_dNs : ∀ ps : List (List Nat), PyData.depthAll (ps.map dN) ≤ 1
  | [] => Nat.zero_le _
  | p :: ps => by
    rw [List.map_cons, PyData.depthAll, dN_dL]
    unfold dL
    rw [PyData.depth, dep_ints]
    have := dep_dNs ps
    omega
theorem shaped_dNs (ps : List (List Nat)) : SeqAt.shaped (.list (ps.map dN)) = true := by
  unfold SeqAt.shaped
  rw [PyData.canLay0, lay_dNs, PyData.depth, Bool.true_and, decide_eq_true_iff]
  have := dep_dNs ps
  omega
theorem eqv_ints : ∀ a b : List Nat, PyData.eqvAll (nInts a) (nInts b) = decide (a = b)
  | [], [] => rfl
  | [], _ :: _ => rfl
  | _ :: _, [] => rfl
  | x :: a, y :: b => by
    show (PyData.eqv (.int (x : Int)) (.int (y : Int)) && PyData.eqvAll (nInts a) (nInts b)) = _
    rw [eqv_ints a b, PyData.eqv]
    by_cases h : x = y
    · subst h
      simp
    · have : ((x : Int) == (y : Int)) = false := by simpa using fun z => h (by omega)
      rw [this]
      simp [h]
theorem eqv_dN (a b : List Nat) : PyData.eqv (dN a) (dN b) = decide (a = b) := by
  show PyData.eqv (.tuple (nInts a)) (.tuple (nInts b)) = _
  rw [PyData.eqv, eqv_ints]
theorem eqv_nilL (ds : List PyData) : PyData.eqv (.list ds) (.list []) = ds.isEmpty := by
  rw [PyData.eqv]
  cases ds <;> rfl
theorem eqv_nilT (ds : List PyData) : PyData.eqv (.tuple ds) (.tuple []) = ds.isEmpty := by
  rw [PyData.eqv]
  cases ds <;> rfl
theorem any_dNs (ps : List (List Nat)) (p : List Nat) : ((ps.map dN).any fun z => PyData.eqv z (dN p)) = decide (p ∈ ps) := by
  rw [List.any_map]
  apply Bool.eq_iff_iff.mpr
  rw [List.any_eq_true, decide_eq_true_iff]
  refine ⟨fun ⟨x, hx, e⟩ => ?_, fun h => ⟨p, h, ?_⟩⟩
  · have e' : PyData.eqv (dN x) (dN p) = true := e
    rw [eqv_dN, decide_eq_true_iff] at e'
    rw [← e']; exact hx
  · show PyData.eqv (dN p) (dN p) = true
    rw [eqv_dN]; simp
section
variable {K : PySem.W.Frag} {σ : L2.St} {H : Hp} {ta tb tl : TE} {d e : PyData} {ds es : List PyData}
theorem IsL.dp {v : V} (h : IsL H v ds) : Dp K H v (.list ds) := by
  obtain ⟨p, vs, rfl, hp, hv⟩ := h
  exact .lst (SqL.of hp) (IsA.dp ds hv)
theorem ev_eqV (ha : EvV ta σ H ds) (hb : EvV tb σ H es) (sd : SeqAt.shaped (.list ds) = true) (se : SeqAt.shaped (.list es) = true) : Ev (tOp (rEqD K) ta tb) σ H (.bool (PyData.eqv (.list ds) (.list es))) := fun H1 x Q q =>
  ha H1 x _ fun v H2 x2 hv => hb H2 (x.trans x2) _ fun u H3 x3 hu => ⟨_, _, (hv.ex x3).dp, hu.dp, sd, se, q _ H3 (x2.trans x3) (.bl _)⟩
theorem ev_neV (ha : EvV ta σ H ds) (hb : EvV tb σ H es) (sd : SeqAt.shaped (.list ds) = true) (se : SeqAt.shaped (.list es) = true) : Ev (tOp (rNeD K) ta tb) σ H (.bool (!PyData.eqv (.list ds) (.list es))) := fun H1 x Q q =>
  ha H1 x _ fun v H2 x2 hv => hb H2 (x.trans x2) _ fun u H3 x3 hu => ⟨_, _, (hv.ex x3).dp, hu.dp, sd, se, q _ H3 (x2.trans x3) (.bl _)⟩
theorem ev_eqD (ha : Ev ta σ H d) (hb : Ev tb σ H e) (sd : SeqAt.shaped d = true) (se : SeqAt.shaped e = true) : Ev (tOp (rEqD K) ta tb) σ H (.bool (PyData.eqv d e)) := fun H1 x Q q =>
  ha H1 x _ fun v H2 x2 hv => hb H2 (x.trans x2) _ fun u H3 x3 hu => ⟨_, _, Is.dp _ (hv.ex x3), Is.dp _ hu, sd, se, q _ H3 (x2.trans x3) (.bl _)⟩
theorem ev_neD (ha : Ev ta σ H d) (hb : Ev tb σ H e) (sd : SeqAt.shaped d = true) (se : SeqAt.shaped e = true) : Ev (tOp (rNeD K) ta tb) σ H (.bool (!PyData.eqv d e)) := fun H1 x Q q =>
  ha H1 x _ fun v H2 x2 hv => hb H2 (x.trans x2) _ fun u H3 x3 hu => ⟨_, _, Is.dp _ (hv.ex x3), Is.dp _ hu, sd, se, q _ H3 (x2.trans x3) (.bl _)⟩
theorem ev_inD (ha : Ev ta σ H d) (hb : EvV tl σ H ds) (sd : SeqAt.shaped d = true) (se : SeqAt.shaped (.list ds) = true) : Ev (tOp (rInD K) ta tl) σ H (.bool (ds.any fun z => PyData.eqv z d)) := fun H1 x Q q =>
  ha H1 x _ fun v H2 x2 hv => hb H2 (x.trans x2) _ fun u H3 x3 hu => ⟨_, _, Is.dp _ (hv.ex x3), hu.dp, sd, se, q _ H3 (x2.trans x3) (.bl _)⟩
theorem ev_notInD (ha : Ev ta σ H d) (hb : EvV tl σ H ds) (sd : SeqAt.shaped d = true) (se : SeqAt.shaped (.list ds) = true) : Ev (tOp (rNotInD K) ta tl) σ H (.bool (!ds.any fun z => PyData.eqv z d)) := fun H1 x Q q =>
  ha H1 x _ fun v H2 x2 hv => hb H2 (x.trans x2) _ fun u H3 x3 hu => ⟨_, _, Is.dp _ (hv.ex x3), hu.dp, sd, se, q _ H3 (x2.trans x3) (.bl _)⟩
/-- x not in l, l a list of ints -/
theorem ev_notInV {tx tl : TE} {x : Int} {ns : List Int} (ha : Ev tx σ H (.int x)) (hb : EvV tl σ H (ns.map .int)) : Ev (tOp (rIn K true) tx tl) σ H (.bool (!decide (x ∈ ns))) := fun H1 y Q q =>
  ha H1 y _ fun v H2 x2 hv => hb H2 (y.trans x2) _ fun w H3 x3 hw => by
    have e := hv.int_inv
    subst e
    obtain ⟨p, vs, rfl, hp, hvs⟩ := hw
    have e := hvs.ints
    subst e
    refine ⟨p, _, rfl, .inl (SqL.of hp), rfl, flat_ints ns, q _ H3 (x2.trans x3) ?_⟩
    rw [inV_ints]
    exact .bl _
end
section
variable {P : Program} {w : World} {K : PySem.W.Frag} {mg : Str → Option Value} {base : Heap}
/-! ### _law_good -/
theorem sc_good : FnScope ["_law_works_here", "_law_stand", "_law_kind", "_law_number", "_law_wants", "_law_bars", "_law_routes", "_law_owns", "_law_vat", "_law_carried", "_law_dye"] ["_law_works_here", "_law_stand", "_law_kind", "_law_number"] (defScope sGood) := ⟨rfl, rfl, rfl, by decide +kernel, rfl, by decide +kernel, by decide +kernel⟩
def fGood : List PyData → PyData → Prop := fun ds d => ∃ (wk : Wk) (st : List (List Int)) (k n : Nat), ds = [dW wk, dS st, .int (k : Int), .int (n : Int)] ∧ WkOk wk ∧ StOk wk st ∧ At wk k n ∧ d = .bool (dyedM wk st k n).2
theorem ok_good {f fp : Addr} {fd fdp : FuncData} {k kn : Nat} (F : Fun K "_law_good" "_law_good" sGood f fd) (hk : kn ≤ k) (m2 : mg "list" = none)
    (gp : mg "_law_pass" = some (.ref fp)) (kpp : PySem.W.keepIn K (.ref fp) = true) (bp : Binds K fdp ["_law_stand", "_law_route"] []) (GP : FnOk P w K mg base CX0 kn fp fdp ["_law_stand", "_law_route"] (spF [] fPass)) :
    FnOk P w K mg base CX0 (k + 1) f fd ["_law_works_here", "_law_stand", "_law_kind", "_law_number"] (spF [] fGood) := by
  refine F.ok sc_good (fun vs H Q E h => ?_) (fun cdv A outer s H vs Q E hr h => ?_)
  · obtain ⟨ds, d, hvs, ⟨_, _, _, _, rfl, _⟩, _⟩ := h
    exact hvs.length
  · obtain ⟨ds, d, hvs, ⟨wk, st, kd, n, rfl, W, hst, hat, rfl⟩, hT, q⟩ := h
    obtain ⟨v1, v2, v3, v4, rfl, h1, h2, h3, h4⟩ := hvs.inv4
    refine ⟨_, pss_cons (ps_asg (pe_ix ix_tup (pe_ix ix_tup (pv 0) pe_int (fun _ _ => rfl)) (pv 2) (fun _ _ => rfl)) (pg_tup rfl (pgs_cons (pg_name (i := 4) sc_good.nd rfl (.inl rfl)) (pgs_cons (pg_name (i := 5) sc_good.nd rfl (.inr rfl)) (pgs_cons (pg_name (i := 6) sc_good.nd rfl (.inl rfl)) pgs_nil)))))
      (pss_cons (ps_set (i := 7) sc_good.nd rfl (Or.inr rfl) (pe_lst pa_nil))
      (pss_cons (ps_for PassesOwn.never rfl (pi_tup (pe_ix ix_tup (pv 6) (pv 3) (fun _ _ => rfl))) (pg_name (i := 8) sc_good.nd rfl (Or.inl rfl))
        (pss_one (ps_set (i := 7) sc_good.nd rfl (Or.inr rfl) (pe_op op_cat (pv 7) (pe_callTy (r := rListOf K) call_list_of (by rfl) m2 (by decide +kernel) (pa_cons (pe_ix ix_tup (pe_ix ix_tup (pv 0) pe_int (fun _ _ => rfl)) (pv 8) (fun _ _ => rfl)) pa_nil))))))
      (pss_cons (ps_set (i := 9) sc_good.nd rfl (Or.inl rfl) (pe_ix ix_tup (pe_call GP (hr.mono hk) (by rfl) gp kpp bp .nil pass0 (pa_cons (pv 1) (pa_cons (pe_ix ix_tup (pv 6) (pv 3) (fun _ _ => rfl)) pa_nil))) pe_int (fun _ _ => rfl)))
      (pss_one (ps_ret (pe_cmpR (op_eqD hr.units) (pe_op op_cat
        (pe_lc (own := [("_law_dye", 10)]) (te := tVar 10) (tt := tB (tOp (rIn K true) (tVar 10) (tVar 7))) rfl sc_good.nd (pi_tup (pv 4)) (blkOk_by (N := ["_law_works_here", "_law_stand", "_law_kind", "_law_number", "_law_wants", "_law_bars", "_law_routes", "_law_owns", "_law_vat", "_law_carried", "_law_dye"]) (sc := defScope sGood) (by decide +kernel))
          (fun _ _ _ _ _ => pg_name (i := 10) sc_good.nd rfl (.inl rfl)) (fun _ _ _ _ _ => pts_one (pt_cmpR op_notIn_seq (pv 10) (pv 7) (by rfl))) (fun _ _ _ _ _ => pv 10))
        (pe_lc (own := [("_law_dye", 10)]) (te := tVar 10) (tt := tB (tOp (rIn K false) (tVar 10) (tVar 5))) rfl sc_good.nd (pi_tup (pv 9)) (blkOk_by (N := ["_law_works_here", "_law_stand", "_law_kind", "_law_number", "_law_wants", "_law_bars", "_law_routes", "_law_owns", "_law_vat", "_law_carried", "_law_dye"]) (sc := defScope sGood) (by decide +kernel))
          (fun _ _ _ _ _ => pg_name (i := 10) sc_good.nd rfl (.inl rfl)) (fun _ _ _ _ _ => pts_one (pt_cmpR op_in_seq (pv 10) (pv 5) (by rfl))) (fun _ _ _ _ _ => pv 10))) (pe_lst pa_nil) (by rfl))))))), ?_⟩
    have z0 : ([] : List PyData).length ≤ 100000 := Nat.zero_le _
    have hd5 := W.d2
    refine s_unp3 (ev_kind (ev_var rfl h1) (ev_var rfl h3) hat.1) fun v4' v5 v6 H1 x1 hw hb hrt => ?_
    refine s_setL (el_lst ea_nil z0) fun p7 ws7 H2 x2 _ hp7 hw7 => ?_
    have e7 := hw7.nil_inv
    subst e7
    have y2 := x1.trans x2
    have hroute : ∀ {Ha : Hp} {y7 y8 y9 : Option V}, Ex H2 Ha → Ev (tOp (rIxT K) (tVar 6) (tVar 3)) [some v1, some v2, some v3, some v4, some v4', some v5, some v6, y7, y8, y9, none] Ha (dN (wk.route kd n)) := fun x => ev_ixn (ds := (wk.kind kd).routes.map dN) (i := n) (ev_var rfl ((hrt.ex x2).ex x)) (ev_var rfl (h4.ex (y2.trans x))) (by
      rw [List.getElem?_map, List.getElem?_eq_getElem hat.2]
      unfold Wk.route
      rw [List.getD_eq_getElem?_getD, List.getElem?_eq_getElem hat.2]
      rfl)
    have rok := W.route hat
    refine s_forT none1 (ds := nInts (wk.route kd n)) (fun i σ' H' => ∃ v7 y8, σ' = [some v1, some v2, some v3, some v4, some v4', some v5, some v6, some v7, y8, none, none] ∧ IsL H' v7 ((((wk.route kd n).take i).flatMap fun v => wk.vats.getD v []).map PyData.int) ∧ (((wk.route kd n).take i).flatMap fun v => wk.vats.getD v []).length ≤ 5 * i) (hroute (.refl H2)) (fun Ha xa => ⟨.ref p7, none, rfl, ⟨p7, [], rfl, xa.keep _ _ hp7 (fun _ z => by cases z) (fun z => z), .nil⟩, Nat.zero_le _⟩) ?_ ?_
    · rintro i d v σ' Ha Z hd xa ⟨v7, y8, rfl, ho, hol⟩ hv kz
      rw [List.getElem?_map] at hd
      obtain ⟨vt, hvt, rfl⟩ := Option.map_eq_some_iff.mp hd
      have hvlt := W.vat hat vt (List.mem_of_getElem? hvt)
      have hil : i < (wk.route kd n).length := (List.getElem?_eq_some_iff.mp hvt).1
      have lo := (W.vs _ (getD_mem (d := []) hvlt)).len hd5
      have hr6 := rok.2.1
      refine s_setL (el_catL (evv_var rfl ho) (EvL.toV (el_listT (ev_vat (ev_var rfl (h1.ex (y2.trans xa))) (ev_var rfl hv) hvlt))) ?_) fun p us Hb xb _ hp hus => kz _ Hb xb ⟨.ref p, _, rfl, ⟨p, us, rfl, hp, ?_⟩, ?_⟩
      · rw [List.length_map, List.length_map]; omega
      · rw [take_snoc hvt, List.flatMap_append, List.map_append]
        simpa using hus
      · rw [take_snoc hvt, List.flatMap_append, List.length_append]
        simp only [List.flatMap_cons, List.flatMap_nil, List.append_nil]
        omega
    · rintro σ' Ha xa ⟨v7, y8, rfl, ho, hol⟩
      have e : (wk.route kd n).take (nInts (wk.route kd n)).length = wk.route kd n := List.take_of_length_le (by rw [List.length_map]; exact Nat.le_refl _)
      rw [e] at ho
      dsimp only
      have ya := y2.trans xa
      refine s_set (d := dL (bhd st (wk.route kd n)).2) (ev_ixn (i := 1) (ev_call (T := []) (ea_cons (ev_var rfl (h2.ex ya)) (ea_one (hroute xa))) ⟨wk, st, wk.route kd n, rfl, W, hst, W.vat hat, rfl⟩ (fun _ z => nomatch z)) ev_int rfl) fun v9 Hb xb hcar => ?_
      have okB := bhd_ok hd5 hst (W.vat hat)
      have lw := (W.kind hat.1).1.len hd5
      have lc := okB.2.len hd5
      have mA : EvL (tLc (iTup K (tVar 4)) (gName 10) (tB (tOp (rIn K true) (tVar 10) (tVar 7))) (tVar 10) [10]) [some v1, some v2, some v3, some v4, some v4', some v5, some v6, some v7, y8, some v9, none] Hb (((wk.kind kd).wants.filter fun d => !decide (d ∈ (wk.route kd n).flatMap fun v => wk.vats.getD v [])).map .int) := fun Hx x Q q => by
        have k := el_lcT (K := K) (σ := [some v1, some v2, some v3, some v4, some v4', some v5, some v6, some v7, y8, some v9, none]) (H := Hb) (tl := tVar 4) (te := tVar 10) (j := 10) (vs := [10]) (tt := tB (tOp (rIn K true) (tVar 10) (tVar 7))) (fun d => !decide (pInt d ∈ (wk.route kd n).flatMap fun v => wk.vats.getD v [])) (fun d => d) (ev_var rfl (((hw.ex x2).ex xa).ex xb)) (by rw [List.length_map]; omega) (fun _ => rfl) (fun l d v Hh hd xh hv => by
          obtain ⟨y, hy, rfl⟩ := List.mem_map.mp (List.mem_of_getElem? hd)
          exact eb_B (ev_notInV (ev_var rfl hv) (evv_var rfl ((ho.ex xb).ex xh)))) (fun l d v Hh hd xh hv _ => ev_var rfl hv)
        rw [List.map_id', List.filter_map] at k
        exact k Hx x Q q
      have mB : EvL (tLc (iTup K (tVar 9)) (gName 10) (tB (tOp (rIn K false) (tVar 10) (tVar 5))) (tVar 10) [10]) [some v1, some v2, some v3, some v4, some v4', some v5, some v6, some v7, y8, some v9, none] Hb (((bhd st (wk.route kd n)).2.filter fun d => decide (d ∈ (wk.kind kd).bars)).map .int) := fun Hx x Q q => by
        have k := el_lcT (K := K) (σ := [some v1, some v2, some v3, some v4, some v4', some v5, some v6, some v7, y8, some v9, none]) (H := Hb) (tl := tVar 9) (te := tVar 10) (j := 10) (vs := [10]) (tt := tB (tOp (rIn K false) (tVar 10) (tVar 5))) (fun d => decide (pInt d ∈ (wk.kind kd).bars)) (fun d => d) (ev_var rfl hcar) (by rw [List.length_map]; omega) (fun _ => rfl) (fun l d v Hh hd xh hv => by
          obtain ⟨y, hy, rfl⟩ := List.mem_map.mp (List.mem_of_getElem? hd)
          exact eb_B (ev_in (ev_var rfl hv) (ev_var rfl ((((hb.ex x2).ex xa).ex xb).ex xh)))) (fun l d v Hh hd xh hv _ => ev_var rfl hv)
        rw [List.map_id', List.filter_map] at k
        exact k Hx x Q q
      have sA := List.length_filter_le (fun d => !decide (d ∈ (wk.route kd n).flatMap fun v => wk.vats.getD v [])) (wk.kind kd).wants
      have sB := List.length_filter_le (fun d => decide (d ∈ (wk.kind kd).bars)) (bhd st (wk.route kd n)).2
      refine s_ret (ev_is (ev_eqV (EvL.toV (el_catL mA.toV mB.toV (by rw [List.length_map, List.length_map]; omega))) (EvL.toV (el_lst ea_nil z0)) (by rw [← List.map_append]; exact shaped_ints _) rfl) ?_) fun v Hc xc hv => q v Hc ((ya.trans xb).trans xc) hv
      rw [eqv_nilL]
      congr 1
      rw [← List.map_append]
      apply Bool.eq_iff_iff.mpr
      rw [List.isEmpty_map, List.isEmpty_iff, List.append_eq_nil_iff, List.filter_eq_nil_iff, List.filter_eq_nil_iff]
      show _ ↔ (hasWants wk (wk.kind kd) (wk.route kd n) && isClean (wk.kind kd) (bhd st (wk.route kd n)).2) = true
      unfold hasWants isClean
      rw [Bool.and_eq_true, List.all_eq_true, Bool.not_eq_true', List.any_eq_false]
      refine and_congr (forall₂_congr fun d _ => ?_) (forall₂_congr fun d _ => Iff.rfl)
      simp [List.any_eq_true]
end
end Dw
set_option Elab.async false
set_option linter.all false
set_option maxRecDepth 100000
set_option maxHeartbeats 4000000
namespace Dw
open PySem PySem.Spec PyProof.Rows L2 Gx
theorem s_par {σ : L2.St} {H : Hp} {D : Ends} {t1 t2 : TE} {d1 d2 : PyData} {i j : Nat} (h1 : Ev t1 σ H d1) (h2 : Ev t2 σ H d2) (k : ∀ v1 v2 H1, Ex H H1 → Is H1 v1 d1 → Is H1 v2 d2 → D.nx ((σ.set i (some v1)).set j (some v2)) H1) : tPar i j (tCons t1 (tCons t2 tNil)) D σ H :=
  h1 H (.refl H) _ fun v1 H1 x1 hv1 => h2 H1 x1 _ fun v2 H2 x2 hv2 => ⟨v1, v2, rfl, k v1 v2 H2 (x1.trans x2) (hv1.ex x2) hv2⟩
section
variable {P : Program} {w : World} {K : PySem.W.Frag} {mg : Str → Option Value} {base : Heap}
theorem sc_wrong : FnScope ["_law_works_here", "_law_row", "_law_routes", "_law_stand", "_law_found", "_law_kind", "_law_number"] ["_law_works_here", "_law_row", "_law_routes"] (defScope sWrong) := ⟨rfl, rfl, rfl, by decide +kernel, rfl, by decide +kernel, by decide +kernel⟩
def fWrong : List PyData → List PyData → PyData → Prop := fun ds es d => ∃ (wk : Wk) (row rt : List Nat), ds = [dW wk, dN row] ∧ es = nInts rt ∧ WkOk wk ∧ (∀ p ∈ row.zip rt, At wk p.1 p.2) ∧ d = .int (wrongM wk wk.vats (row.zip rt) : Int)
theorem ok_wrong {f fg fp : Addr} {fd fdg fdp : FuncData} {k kn : Nat} (F : Fun K "_law_wrong" "_law_wrong" sWrong f fd) (hk : kn ≤ k) (m1 : mg "zip" = none) (m2 : mg "int" = none)
    (gg : mg "_law_good" = some (.ref fg)) (kpg : PySem.W.keepIn K (.ref fg) = true) (bg : Binds K fdg ["_law_works_here", "_law_stand", "_law_kind", "_law_number"] []) (GG : FnOk P w K mg base CX0 kn fg fdg ["_law_works_here", "_law_stand", "_law_kind", "_law_number"] (spF [] fGood))
    (gp : mg "_law_pass" = some (.ref fp)) (kpp : PySem.W.keepIn K (.ref fp) = true) (bp : Binds K fdp ["_law_stand", "_law_route"] []) (GP : FnOk P w K mg base CX0 kn fp fdp ["_law_stand", "_law_route"] (spF [] fPass)) :
    FnOk P w K mg base CX0 (k + 1) f fd ["_law_works_here", "_law_row", "_law_routes"] (spQ [] fWrong) := by
  refine F.ok sc_wrong (fun vs H Q E h => ?_) (fun cdv A outer s H vs Q E hr h => ?_)
  · obtain ⟨ds, es, d, us, u, rfl, hu, _, ⟨_, _, _, rfl, _⟩, _⟩ := h
    obtain ⟨v1, v2, rfl, _⟩ := hu.inv2
    rfl
  · obtain ⟨ds, es, d, us, u, rfl, hu, h3, ⟨wk, row, rt, rfl, rfl, W, hat, rfl⟩, hT, q⟩ := h
    obtain ⟨v1, v2, rfl, h1, h2⟩ := hu.inv2
    refine ⟨_, pss_cons (ps_par (i := 3) (j := 4) (by rfl) sc_wrong.nd rfl rfl (by decide) rfl rfl (pa_cons (pe_ix ix_tup (pv 0) pe_int (fun _ _ => rfl)) (pa_cons pe_int pa_nil)) (by rfl))
      (pss_cons (ps_for PassesOwn.never rfl (pi_zipM (by rfl) m1 (pa_cons (pv 1) (pa_cons (pv 2) pa_nil))) (pg_tup rfl (pgs_cons (pg_name (i := 5) sc_wrong.nd rfl (.inl rfl)) (pgs_cons (pg_name (i := 6) sc_wrong.nd rfl (.inl rfl)) pgs_nil)))
        (pss_cons (ps_set (i := 4) sc_wrong.nd rfl (Or.inl rfl) (pe_op op_add (pv 4) (pe_callTy (r := rInt1) call_int1 (by rfl) m2 (by decide +kernel) (pa_cons (pe_not (pe_call GG (hr.mono hk) (by rfl) gg kpg bg .nil pass0 (pa_cons (pv 0) (pa_cons (pv 3) (pa_cons (pv 5) (pa_cons (pv 6) pa_nil)))))) pa_nil))))
        (pss_one (ps_set (i := 3) sc_wrong.nd rfl (Or.inl rfl) (pe_ix ix_tup (pe_call GP (hr.mono hk) (by rfl) gp kpp bp .nil pass0 (pa_cons (pv 3) (pa_cons (pe_ix ix_tup (pe_ix ix_tup (pe_ix ix_tup (pe_ix ix_tup (pv 0) pe_int (fun _ _ => rfl)) (pv 5) (fun _ _ => rfl)) pe_int (fun _ _ => rfl)) (pv 6) (fun _ _ => rfl)) pa_nil))) pe_int (fun _ _ => rfl))))))
      (pss_one (ps_ret (pv 4)))), ?_⟩
    refine s_par (ev_ixn (i := 1) (ev_var rfl h1) ev_int rfl) (ev_int (i := 0)) fun v4 v5 H1 x1 h4 h5 => ?_
    refine s_forZ (fun i σ H' => ∃ v vf y5 y6, σ = [some v1, some v2, some u, some v, some vf, y5, y6] ∧ Is H' vf (.int (wrongM wk wk.vats ((row.zip rt).take i) : Int)) ∧ Is H' v (dS (afterM wk wk.vats ((row.zip rt).take i)))) (ev_var rfl (h2.ex x1)) (evq_var rfl (h3.ex x1)) (fun H2 x2 => ⟨v4, v5, none, none, rfl, h5.ex x2, h4.ex x2⟩) ?_ ?_
    · rintro i d e v u' N σ' H' Z hd he x ⟨vs', vf, y5, y6, rfl, hw, hs⟩ hN hv hu' kz
      rw [List.getElem?_map] at hd he
      obtain ⟨a, ha, rfl⟩ := Option.map_eq_some_iff.mp hd
      obtain ⟨b, hb, rfl⟩ := Option.map_eq_some_iff.mp he
      have hz : (row.zip rt)[i]? = some (a, b) := List.getElem?_zip_eq_some.mpr ⟨ha, hb⟩
      have hAt : At wk a b := hat _ (List.mem_of_getElem? hz)
      have hok : StOk wk (afterM wk wk.vats ((row.zip rt).take i)) := afterM_ok W (stOk0 W) fun p hp => hat p (List.mem_of_mem_take hp)
      have xn : Ex H' (upd H' N (.tup [v, u'])) := .new hN
      have y := x1.trans (x.trans xn)
      refine g_two upd_same ?_
      refine s_set (ev_add (ev_var rfl (hw.ex xn)) (ev_int1b (ev_notV (ev_call (T := []) (ea_cons (ev_var rfl (h1.ex y)) (ea_cons (ev_var rfl (hs.ex xn)) (ea_cons (ev_var rfl (hv.ex xn)) (ea_one (ev_var rfl (hu'.ex xn)))))) ⟨wk, _, a, b, rfl, W, hok, hAt, rfl⟩ (fun _ z => nomatch z))))) fun w1 H2 x2 k1 => ?_
      have xn2 := xn.trans x2
      refine s_set (d := dS (bhd (afterM wk wk.vats ((row.zip rt).take i)) (wk.route a b)).1) (ev_ixn (i := 0) (ev_call (T := []) (ea_cons (ev_var rfl (hs.ex xn2)) (ea_one (ev_route (ev_var rfl (h1.ex (y.trans x2))) (ev_var rfl (hv.ex xn2)) hAt.1 (ev_var rfl (hu'.ex xn2)) hAt.2))) ⟨wk, _, wk.route a b, rfl, W, hok, W.vat hAt, rfl⟩ (fun _ z => nomatch z)) ev_int rfl) fun w2 H3 x3 k2 => ?_
      refine kz _ H3 (x2.trans x3) ⟨w2, w1, _, _, rfl, ?_, ?_⟩
      · rw [take_snoc hz, wrongM_app, wrongM_one]
        have e : ((wrongM wk wk.vats ((row.zip rt).take i) + (if (dyedM wk (afterM wk wk.vats ((row.zip rt).take i)) a b).2 = true then 0 else 1) : Nat) : Int) = (wrongM wk wk.vats ((row.zip rt).take i) : Int) + (if (!(dyedM wk (afterM wk wk.vats ((row.zip rt).take i)) a b).2) = true then 1 else 0) := by
          cases (dyedM wk (afterM wk wk.vats ((row.zip rt).take i)) a b).2 <;> simp
        rw [e]
        exact k1.ex x3
      · rw [take_snoc hz, afterM_app]
        exact k2
    · rintro σ' H' x ⟨v, vf, y5, y6, rfl, hw, _⟩
      rw [List.length_map, List.length_map] at hw
      rw [List.take_of_length_le (by rw [List.length_zip]; exact Nat.le_refl _)] at hw
      dsimp only
      exact s_ret (ev_var rfl hw) fun v' H4 x4 hv' => q v' H4 ((x1.trans x).trans x4) hv'
end
end Dw
set_option Elab.async false
set_option linter.all false
set_option maxRecDepth 100000
set_option maxHeartbeats 4000000
namespace Dw
open PySem PySem.Spec PyProof.Rows L2 Gx
section
variable {K : PySem.W.Frag} {σ : L2.St} {H : Hp} {ta tb : TE} {d : PyData}
/-- isinstance(e, (T, U)) -/
theorem ev_isi2 {T U : String} {a b : Bool} (h : Ev ta σ H d) (k1 : kitB (tyD d) T = some a) (k2 : kitB (tyD d) U = some b) : Ev (tCB (rIsiT K) (tCons ta (tCons (tTup (tCons (tC (.ty T)) (tCons (tC (.ty U)) tNil))) tNil))) σ H (.bool (a || b)) := fun H1 x _ q =>
  h H1 x _ fun v H2 x2 hv => ⟨by show 2 ≤ sizeLine; decide, fun p hp => ⟨v, p, [.ty T, .ty U], _, [.type T, .type U], a || b, rfl, upd_same, .cons (.ty T) (.cons (.ty U) .nil), (hv.ex (R := none1) (.new hp)).ty, by
    refine kitAny_cons (kit_ty k1) (fun e => ?_) (fun e => by rw [e]; rfl)
    rw [e, Bool.false_or]
    refine kitAny_cons (kit_ty k2) (fun e => ?_) fun e => e
    rw [e]
    rfl, q _ _ (x2.trans (.new hp)) (.bl _)⟩⟩
theorem ev_eqB {a b : Bool} (ha : Ev ta σ H (.bool a)) (hb : Ev tb σ H (.bool b)) : Ev (tOp rEq ta tb) σ H (.bool (decide (a = b))) := fun H1 x Q q =>
  ha H1 x _ fun v H2 x2 hv => hb H2 (x.trans x2) _ fun w H3 x3 hw => by
    have e1 := hv.bool_inv
    have e2 := hw.bool_inv
    subst e1 e2
    refine ⟨rfl, q _ H3 (x2.trans x3) ?_⟩
    have e : decide (V.bl a = V.bl b) = decide (a = b) := by cases a <;> cases b <;> decide
    rw [e]
    exact .bl _
theorem ev_neB {a b : Bool} (ha : Ev ta σ H (.bool a)) (hb : Ev tb σ H (.bool b)) : Ev (tOp rNe ta tb) σ H (.bool (!decide (a = b))) := fun H1 x Q q =>
  ha H1 x _ fun v H2 x2 hv => hb H2 (x.trans x2) _ fun w H3 x3 hw => by
    have e1 := hv.bool_inv
    have e2 := hw.bool_inv
    subst e1 e2
    refine ⟨rfl, q _ H3 (x2.trans x3) ?_⟩
    have e : decide (V.bl a = V.bl b) = decide (a = b) := by cases a <;> cases b <;> decide
    rw [e]
    exact .bl _
theorem ev_isNd {i : Nat} {v : V} (hv : σ[i]? = some (some v)) (h : Is H v d) : Ev (tIsN (tVar i)) σ H (.bool (match d with | .none => true | _ => false)) := ev_is (ev_isN hv) (by cases h <;> rfl)
end
inductive Plain : PyData → Prop
  | non : Plain .none
  | bl (b : Bool) : Plain (.bool b)
  | int (i : Int) : Plain (.int i)
def fAlike0 : List PyData → PyData → Prop := fun ds d => ∃ e, ds = [e, e] ∧ Plain e ∧ d = .bool true
def fAlike : List PyData → PyData → Prop := fun ds d => ∃ e, ds = [e, e] ∧ (Plain e ∨ ∃ p, e = dN p ∧ p.length ≤ 1000) ∧ d = .bool true
section
variable {P : Program} {w : World} {K : PySem.W.Frag} {mg : Str → Option Value} {base : Heap}
theorem sc_alike : FnScope ["_law_found", "_law_due", "_law_k"] ["_law_found", "_law_due"] (defScope sAlike) := ⟨rfl, rfl, rfl, by decide +kernel, rfl, by decide +kernel, by decide +kernel⟩
theorem ok_alike0 {f : Addr} {fd : FuncData} {k : Nat} (F : Fun K "_law_alike" "_law_alike" sAlike f fd) (m1 : mg "isinstance" = none) (m2 : mg "tuple" = none) (m3 : mg "list" = none) (m4 : mg "str" = none) (m5 : mg "int" = none) (m6 : mg "bool" = none) :
    FnOk P w K mg base CX0 (k + 1) f fd ["_law_found", "_law_due"] (spF [] fAlike0) := by
  refine F.ok sc_alike (fun vs H Q E h => ?_) (fun cdv A outer s H vs Q E hr h => ?_)
  · obtain ⟨ds, d, hvs, ⟨_, rfl, _⟩, _⟩ := h
    exact hvs.length
  · obtain ⟨ds, d, hvs, ⟨e, rfl, pe, rfl⟩, hT, q⟩ := h
    obtain ⟨v1, v2, rfl, h1, h2⟩ := hvs.inv2
    refine ⟨_, pss_cons (ps_if (pt_val (pe_callB call_isiT (by rfl) m1 (by decide +kernel) (pa_cons (pv 1) (pa_cons (pe_tup (pa_cons (pe_bltn (v := .ty "tuple") (u := .type "tuple") (by rfl) m2 (by decide +kernel) rfl) (pa_cons (pe_bltn (v := .ty "list") (u := .type "list") (by rfl) m3 (by decide +kernel) rfl) pa_nil))) pa_nil)))) pss_never pss_nil)
      (pss_cons (ps_if (PW.pt (pw_or (pt_cmp (pc_isN (pv 1))) (pw_or1 (pt_val (pe_callB call_isi (by rfl) m1 (by decide +kernel) (pa_cons (pv 1) (pa_cons (pe_bltn (v := .ty "str") (u := .type "str") (by rfl) m4 (by decide +kernel) rfl) pa_nil)))))))
        (pss_one (ps_ret (pe_and (pe_cmpR (op_eqD hr.units) (pv 0) (pv 1) (nomark _)) (pe_one (pe_cmpR op_eq (pe_callB call_isi (by rfl) m1 (by decide +kernel) (pa_cons (pv 0) (pa_cons (pe_bltn (v := .ty "str") (u := .type "str") (by rfl) m4 (by decide +kernel) rfl) pa_nil))) (pe_callB call_isi (by rfl) m1 (by decide +kernel) (pa_cons (pv 1) (pa_cons (pe_bltn (v := .ty "str") (u := .type "str") (by rfl) m4 (by decide +kernel) rfl) pa_nil))) (nomark _)))))) pss_nil)
      (pss_one (ps_ret (pe_and (pe_callB call_isi (by rfl) m1 (by decide +kernel) (pa_cons (pv 0) (pa_cons (pe_bltn (v := .ty "int") (u := .type "int") (by rfl) m5 (by decide +kernel) rfl) pa_nil)))
        (pe_and (pe_cmpR op_eq (pe_callB call_isi (by rfl) m1 (by decide +kernel) (pa_cons (pv 0) (pa_cons (pe_bltn (v := .ty "bool") (u := .type "bool") (by rfl) m6 (by decide +kernel) rfl) pa_nil))) (pe_callB call_isi (by rfl) m1 (by decide +kernel) (pa_cons (pv 1) (pa_cons (pe_bltn (v := .ty "bool") (u := .type "bool") (by rfl) m6 (by decide +kernel) rfl) pa_nil))) (nomark _))
        (pe_one (pe_cmpR (op_eqD hr.units) (pv 0) (pv 1) (nomark _)))))))), ?_⟩
    cases pe with
    | non =>
      refine s_if (b := false) (eb_is (eb_B (ev_isi2 (ev_var rfl h2) ki_NoneType_tuple ki_NoneType_list)) rfl) (fun z => nomatch z) fun _ H1 x1 => ?_
      refine s_if (b := true) (eb_is (eb_or (a := true) (b := false) (eb_B (ev_isNd rfl (h2.ex x1))) fun z => nomatch z) rfl) (fun _ H2 x2 => ?_) fun z => nomatch z
      have y := x1.trans x2
      exact s_ret (ev_is (ev_andV (ev_eqD (ev_var rfl (h1.ex y)) (ev_var rfl (h2.ex y)) rfl rfl) fun _ => ev_eqB (ev_isi (ev_var rfl (h1.ex y)) ki_NoneType_str) (ev_isi (ev_var rfl (h2.ex y)) ki_NoneType_str)) rfl) fun v H3 x3 hv => q v H3 (y.trans x3) hv
    | bl b =>
      refine s_if (b := false) (eb_is (eb_B (ev_isi2 (ev_var rfl h2) ki_bool_tuple ki_bool_list)) rfl) (fun z => nomatch z) fun _ H1 x1 => ?_
      refine s_if (b := false) (eb_is (eb_or (eb_B (ev_isNd rfl (h2.ex x1))) fun _ => eb_B (ev_isi (ev_var rfl (h2.ex x1)) ki_bool_str)) rfl) (fun z => nomatch z) fun _ H2 x2 => ?_
      have y := x1.trans x2
      refine s_ret (ev_is (ev_andV (ev_isi (ev_var rfl (h1.ex y)) ki_bool_int) fun _ => ev_andV (ev_eqB (ev_isi (ev_var rfl (h1.ex y)) ki_bool_bool) (ev_isi (ev_var rfl (h2.ex y)) ki_bool_bool)) fun _ => ev_eqD (ev_var rfl (h1.ex y)) (ev_var rfl (h2.ex y)) rfl rfl) ?_) fun v H3 x3 hv => q v H3 (y.trans x3) hv
      cases b <;> rfl
    | int i =>
      refine s_if (b := false) (eb_is (eb_B (ev_isi2 (ev_var rfl h2) ki_int_tuple ki_int_list)) rfl) (fun z => nomatch z) fun _ H1 x1 => ?_
      refine s_if (b := false) (eb_is (eb_or (eb_B (ev_isNd rfl (h2.ex x1))) fun _ => eb_B (ev_isi (ev_var rfl (h2.ex x1)) ki_int_str)) rfl) (fun z => nomatch z) fun _ H2 x2 => ?_
      have y := x1.trans x2
      refine s_ret (ev_is (ev_andV (ev_isi (ev_var rfl (h1.ex y)) ki_int_int) fun _ => ev_andV (ev_eqB (ev_isi (ev_var rfl (h1.ex y)) ki_int_bool) (ev_isi (ev_var rfl (h2.ex y)) ki_int_bool)) fun _ => ev_eqD (ev_var rfl (h1.ex y)) (ev_var rfl (h2.ex y)) rfl rfl) ?_) fun v H3 x3 hv => q v H3 (y.trans x3) hv
      rw [PyData.eqv]
      simp
def fAlikeT : List PyData → PyData → Prop := fun ds d => ∃ p : List Nat, ds = [dN p, dN p] ∧ p.length ≤ 1000 ∧ d = .bool true
theorem fnOk_or {f : Addr} {fd : FuncData} {k : Nat} {ps : List Str} {s1 s2 sp : Sp} (F1 : FnOk P w K mg base CX0 k f fd ps s1) (F2 : FnOk P w K mg base CX0 k f fd ps s2) (h : ∀ vs H Q E, sp vs H Q E → s1 vs H Q E ∨ s2 vs H Q E) : FnOk P w K mg base CX0 k f fd ps sp :=
  ⟨fun vs H Q E q => (h vs H Q E q).elim (F1.len vs H Q E) (F2.len vs H Q E), fun A outer s H args us vs Q E hr he hb hv hs => (h vs H Q E hs).elim (F1.run A outer s H args us vs Q E hr he hb hv) (F2.run A outer s H args us vs Q E hr he hb hv)⟩
theorem ok_alikeT {f : Addr} {fd : FuncData} {k kn : Nat} (F : Fun K "_law_alike" "_law_alike" sAlike f fd) (hk : kn ≤ k) (m1 : mg "isinstance" = none) (m2 : mg "tuple" = none) (m3 : mg "list" = none) (m7 : mg "len" = none) (m8 : mg "range" = none)
    (ga : mg "_law_alike" = some (.ref f)) (kpa : PySem.W.keepIn K (.ref f) = true) (ba : Binds K fd ["_law_found", "_law_due"] []) (GA : FnOk P w K mg base CX0 kn f fd ["_law_found", "_law_due"] (spF [] fAlike0)) :
    FnOk P w K mg base CX0 (k + 1) f fd ["_law_found", "_law_due"] (spF [] fAlikeT) := by
  refine F.ok sc_alike (fun vs H Q E h => ?_) (fun cdv A outer s H vs Q E hr h => ?_)
  · obtain ⟨ds, d, hvs, ⟨_, rfl, _⟩, _⟩ := h
    exact hvs.length
  · obtain ⟨ds, d, hvs, ⟨p, rfl, hp, rfl⟩, hT, q⟩ := h
    obtain ⟨v1, v2, rfl, h1, h2⟩ := hvs.inv2
    refine ⟨_, pss_cons (ps_if (pt_val (pe_callB call_isiT (by rfl) m1 (by decide +kernel) (pa_cons (pv 1) (pa_cons (pe_tup (pa_cons (pe_bltn (v := .ty "tuple") (u := .type "tuple") (by rfl) m2 (by decide +kernel) rfl) (pa_cons (pe_bltn (v := .ty "list") (u := .type "list") (by rfl) m3 (by decide +kernel) rfl) pa_nil))) pa_nil))))
        (pss_cons (ps_if (PW.pt (pw_or (pt_not (pt_val (pe_callB call_isiT (by rfl) m1 (by decide +kernel) (pa_cons (pv 0) (pa_cons (pe_tup (pa_cons (pe_bltn (v := .ty "tuple") (u := .type "tuple") (by rfl) m2 (by decide +kernel) rfl) (pa_cons (pe_bltn (v := .ty "list") (u := .type "list") (by rfl) m3 (by decide +kernel) rfl) pa_nil))) pa_nil)))))
            (pw_or1 (pt_cmpR op_ne (pe_callB call_isi (by rfl) m1 (by decide +kernel) (pa_cons (pv 0) (pa_cons (pe_bltn (v := .ty "list") (u := .type "list") (by rfl) m3 (by decide +kernel) rfl) pa_nil))) (pe_callB call_isi (by rfl) m1 (by decide +kernel) (pa_cons (pv 1) (pa_cons (pe_bltn (v := .ty "list") (u := .type "list") (by rfl) m3 (by decide +kernel) rfl) pa_nil))) (nomark _))))) pss_never pss_nil)
        (pss_cons (ps_if (pt_cmpR op_ne (pe_callB (r := rLn K) call_len_seq (by rfl) m7 PySem.boot_len (pa_cons (pv 0) pa_nil)) (pe_callB (r := rLn K) call_len_seq (by rfl) m7 PySem.boot_len (pa_cons (pv 1) pa_nil)) (nomark _)) pss_never pss_nil)
        (pss_one (ps_ret (pe_cmpR (op_eqD hr.units) (pe_lc (own := [("_law_k", 2)]) (te := tVar 2) (tt := tNot (tB (tCall (spF [] fAlike0) [] E0 (tCons (tOp (rIxT K) (tVar 0) (tVar 2)) (tCons (tOp (rIxT K) (tVar 1) (tVar 2)) tNil))))) rfl sc_alike.nd (pi_range1 (by rfl) m8 (pa_cons (pe_callB (r := rLn K) call_len_seq (by rfl) m7 PySem.boot_len (pa_cons (pv 1) pa_nil)) pa_nil)) (blkOk_by (N := ["_law_found", "_law_due", "_law_k"]) (sc := defScope sAlike) (by decide +kernel))
          (fun _ _ _ _ _ => pg_name (i := 2) sc_alike.nd rfl (.inl rfl)) (fun _ _ _ _ _ => pts_one (pt_not (pt_val (pe_call GA (hr.mono hk) (by rfl) ga kpa ba .nil pass0 (pa_cons (pe_ix ix_tup (pv 0) (pv 2) (fun _ _ => rfl)) (pa_cons (pe_ix ix_tup (pv 1) (pv 2) (fun _ _ => rfl)) pa_nil)))))) (fun _ _ _ _ _ => pv 2)) (pe_lst pa_nil) (nomark _)))))) pss_nil) pss_never, ?_⟩
    have hlen : (nInts p).length = p.length := List.length_map ..
    have z0 : ([] : List PyData).length ≤ 100000 := Nat.zero_le _
    refine s_if (b := true) (eb_is (eb_B (ev_isi2 (ev_var rfl h2) ki_tuple_tuple ki_tuple_list)) rfl) (fun _ H1 x1 => ?_) fun z => nomatch z
    refine s_if (b := false) (eb_is (eb_or (eb_not (eb_B (ev_isi2 (ev_var rfl (h1.ex x1)) ki_tuple_tuple ki_tuple_list))) fun _ => eb_test (ev_neB (ev_isi (ev_var rfl (h1.ex x1)) ki_tuple_list) (ev_isi (ev_var rfl (h2.ex x1)) ki_tuple_list))) rfl) (fun z => nomatch z) fun _ H2 x2 => ?_
    have y2 := x1.trans x2
    refine s_if (b := false) (eb_is (eb_test (ev_neI (ev_len (ev_var rfl (h1.ex y2))) (ev_len (ev_var rfl (h2.ex y2))))) (by rw [decide_eq_true rfl]; rfl)) (fun z => nomatch z) fun _ H3 x3 => ?_
    have y3 := y2.trans x3
    have mainL : EvL (tLc (iRng1 (tCons (tCB (rLn K) (tCons (tVar 1) tNil)) tNil)) (gName 2) (tNot (tB (tCall (spF [] fAlike0) [] E0 (tCons (tOp (rIxT K) (tVar 0) (tVar 2)) (tCons (tOp (rIxT K) (tVar 1) (tVar 2)) tNil))))) (tVar 2) [2]) [some v1, some v2, none] H3 [] := fun Hx x Q q => by
      have k := el_lcR (σ := [some v1, some v2, none]) (H := H3) (te := tVar 2) (j := 2) (n := p.length) (vs := [2]) (tt := tNot (tB (tCall (spF [] fAlike0) [] E0 (tCons (tOp (rIxT K) (tVar 0) (tVar 2)) (tCons (tOp (rIxT K) (tVar 1) (tVar 2)) tNil))))) (ta := tCons (tCB (rLn K) (tCons (tVar 1) tNil)) tNil) (fun _ => false) (fun d => d) (ea_one (ev_is (ev_len (ev_var rfl (h2.ex y3))) (by rw [hlen]))) (by omega) (fun _ => rfl) (fun i Hy hi xy => by
        have hat : (nInts p)[i]? = some (.int ((p.getD i 0 : Nat) : Int)) := by
          rw [List.getElem?_map, List.getElem?_eq_getElem hi, List.getD_eq_getElem?_getD, List.getElem?_eq_getElem hi]
          rfl
        exact eb_is (eb_not (eb_B (ev_call (T := []) (ea_cons (ev_ixn (ev_var rfl (h1.ex (y3.trans xy))) (ev_var rfl (.int _)) hat) (ea_one (ev_ixn (ev_var rfl (h2.ex (y3.trans xy))) (ev_var rfl (.int _)) hat))) ⟨_, rfl, .int _, rfl⟩ (fun _ z => nomatch z)))) rfl) (fun i Hy hi xy z => nomatch z)
      rw [show (rangeD p.length).filter (fun _ => false) = [] from List.filter_eq_nil_iff.mpr fun _ _ => Bool.false_ne_true] at k
      exact k Hx x Q q
    exact s_ret (ev_is (ev_eqV (EvL.toV mainL) (EvL.toV (el_lst ea_nil z0)) rfl rfl) rfl) fun v H4 x4 hv => q v H4 (y3.trans x4) hv
theorem alike_all {f : Addr} {fd : FuncData} {k : Nat} (F1 : FnOk P w K mg base CX0 k f fd ["_law_found", "_law_due"] (spF [] fAlike0)) (F2 : FnOk P w K mg base CX0 k f fd ["_law_found", "_law_due"] (spF [] fAlikeT)) :
    FnOk P w K mg base CX0 k f fd ["_law_found", "_law_due"] (spF [] fAlike) := by
  refine fnOk_or F1 F2 fun vs H Q E h => ?_
  obtain ⟨ds, d, hvs, ⟨e, rfl, he, rfl⟩, hT, q⟩ := h
  rcases he with he | ⟨p, rfl, hp⟩
  · exact .inl ⟨_, _, hvs, ⟨e, rfl, he, rfl⟩, hT, q⟩
  · exact .inr ⟨_, _, hvs, ⟨p, rfl, hp, rfl⟩, hT, q⟩
end
end Dw
set_option Elab.async false
set_option linter.all false
set_option maxRecDepth 100000
set_option maxHeartbeats 4000000
namespace Dw
open PySem PySem.Spec PyProof.Rows L2 Gx
/-- the things of the i-th step, of k of its numbers -/
theorem range_dN (p : List Nat) (n : Nat) : (((rangeD n).filter fun _ => true).map fun d => PyData.tuple (nInts p ++ [d])) = ((List.range n).map fun j => p ++ [j]).map dN := by
  rw [lc_true]
  unfold rangeD
  rw [List.map_map, List.map_map]
  refine List.map_congr_left fun j _ => ?_
  simp [dN]
section
variable {P : Program} {w : World} {K : PySem.W.Frag} {mg : Str → Option Value} {base : Heap}
theorem g_kind {σ : L2.St} {H : Hp} {v : V} {kd : Kind} {i j l : Nat} {Z : L2.St → Hp → Prop} (h : Is H v (dK kd)) (k : ∀ v1 v2 v3, Is H v1 (dL kd.wants) → Is H v2 (dL kd.bars) → Is H v3 (dR kd.routes) → Z (((σ.set i (some v1)).set j (some v2)).set l (some v3)) H) : gTup K 3 (gCons (gName i) (gCons (gName j) (gCons (gName l) gNil))) v σ H Z := by
  obtain ⟨a, ws, rfl, ha, hws⟩ := Is.tup_inv h
  obtain ⟨v1, v2, v3, rfl, h1, h2, h3⟩ := hws.inv3
  exact ⟨a, _, rfl, SqT.of ha, rfl, v1, _, rfl, v2, _, rfl, v3, _, rfl, rfl, k v1 v2 v3 h1 h2 h3⟩
theorem sc_plans : FnScope ["_law_works_here", "_law_found", "_law_wants", "_law_bars", "_law_routes", "_law_longer", "_law_plan", "_law_number"] ["_law_works_here"] (defScope sPlans) := ⟨rfl, rfl, rfl, by decide +kernel, rfl, by decide +kernel, by decide +kernel⟩
theorem ok_plans {f : Addr} {fd : FuncData} {k : Nat} (F : Fun K "_law_plans" "_law_plans" sPlans f fd) (m1 : mg "range" = none) (m2 : mg "len" = none) :
    FnOk P w K mg base CX0 (k + 1) f fd ["_law_works_here"] (spL [] fAllPlans) := by
  refine F.ok sc_plans (fun vs H Q E h => ?_) (fun cdv A outer s H vs Q E hr h => ?_)
  · obtain ⟨ds, d, hvs, ⟨_, rfl, _, rfl⟩, _⟩ := h
    exact hvs.length
  · obtain ⟨ds, d, hvs, ⟨wk, rfl, W, rfl⟩, hT, q⟩ := h
    obtain ⟨v1, rfl, h1⟩ := hvs.inv1
    refine ⟨_, pss_cons (ps_set (i := 1) sc_plans.nd rfl (Or.inl rfl) (pe_lst (pa_cons (pe_tup pa_nil) pa_nil)))
      (pss_cons (ps_for PassesOwn.never rfl (pi_tup (pe_ix ix_tup (pv 0) pe_int (fun _ _ => rfl))) (pg_tup rfl (pgs_cons (pg_name (i := 2) sc_plans.nd rfl (.inl rfl)) (pgs_cons (pg_name (i := 3) sc_plans.nd rfl (.inl rfl)) (pgs_cons (pg_name (i := 4) sc_plans.nd rfl (.inl rfl)) pgs_nil))))
        (pss_cons (ps_set (i := 5) sc_plans.nd rfl (Or.inl rfl) (pe_lst pa_nil))
        (pss_cons (ps_for PassesOwn.never rfl (pi_list (pv 1)) (pg_name (i := 6) sc_plans.nd rfl (Or.inr rfl))
          (pss_one (ps_set (i := 5) sc_plans.nd rfl (Or.inl rfl) (pe_op op_cat (pv 5) (pe_lc (own := [("_law_number", 7)]) (te := tOp (rCatA K) (tVar 6) (tTup (tCons (tVar 7) tNil))) rfl sc_plans.nd (pi_range1 (by rfl) m1 (pa_cons (pe_callB (r := rLn K) call_len_seq (by rfl) m2 PySem.boot_len (pa_cons (pv 4) pa_nil)) pa_nil)) (blkOk_by (N := ["_law_works_here", "_law_found", "_law_wants", "_law_bars", "_law_routes", "_law_longer", "_law_plan", "_law_number"]) (sc := defScope sPlans) (by decide +kernel))
            (fun _ _ _ _ _ => pg_name (i := 7) sc_plans.nd rfl (.inl rfl)) (fun _ _ _ _ _ => pts_nil) (fun _ _ _ _ _ => pe_op op_catA (pv 6) (pe_tup (pa_cons (pv 7) pa_nil))))))))
        (pss_one (ps_set (i := 1) sc_plans.nd rfl (Or.inl rfl) (pv 5))))))
      (pss_one (ps_ret (pv 1)))), ?_⟩
    have z0 : ([] : List PyData).length ≤ 100000 := Nat.zero_le _
    refine s_setL (el_lst (ea_one (ev_tup ea_nil z0)) (by show 1 ≤ 100000; decide)) fun p vs H1 x1 _ hp hvs => ?_
    refine s_forT none1 (ds := wk.kinds.map dK) (fun i σ H' => ∃ v y2 y3 y4 y5 y6, σ = [some v1, some v, y2, y3, y4, y5, y6, none] ∧ IsL H' v ((plansM (wk.lens.take i)).map dN)) (ev_ixn (i := 2) (ev_var rfl (h1.ex x1)) ev_int rfl) (fun H2 x2 => ⟨.ref p, none, none, none, none, none, rfl, p, vs, rfl, x2.keep _ _ hp (fun _ z => by cases z) (fun z => z), hvs.ex x2⟩) ?_ ?_
    · rintro i d v σ' H' Z hd x ⟨vf, y2, y3, y4, y5, y6, rfl, hvf⟩ hv kz
      rw [List.getElem?_map] at hd
      obtain ⟨kd, hkd, rfl⟩ := Option.map_eq_some_iff.mp hd
      have hlen : wk.lens[i]? = some kd.routes.length := by
        unfold Wk.lens
        rw [List.getElem?_map, hkd]
        rfl
      have a1 := plansM_small W i
      have a2 := W.len8 (List.mem_of_getElem? hlen)
      refine g_kind hv fun u1 u2 u3 _ _ hu3 => ?_
      refine s_setL (el_lst ea_nil z0) fun p5 ws5 H2 x2 _ hp5 hw5 => ?_
      have e5 := hw5.nil_inv
      subst e5
      refine s_forV none1 (ds := (plansM (wk.lens.take i)).map dN) (v := vf) (te := tVar 1) (fun l σ H' => ∃ v5 y6, σ = [some v1, some vf, some u1, some u2, some u3, some v5, y6, none] ∧ IsL H' v5 ((((plansM (wk.lens.take i)).take l).flatMap fun q => (List.range kd.routes.length).map fun j => q ++ [j]).map dN)) (hvf.ex x2) (fun _ _ z => z) (fun Q q => ⟨vf, rfl, q⟩) ⟨.ref p5, y6, rfl, p5, [], rfl, hp5, .nil⟩ ?_ ?_
      · rintro l d v σ' Ha Z2 hd xa ⟨v5, y6, rfl, h5⟩ hv6 kz2
        rw [List.getElem?_map] at hd
        obtain ⟨pl, hpl, rfl⟩ := Option.map_eq_some_iff.mp hd
        have hlong := plansM_long (List.mem_of_getElem? hpl)
        have k2 := W.k2
        have hpl6 : pl.length ≤ 100 := by
          rw [hlong, List.length_take]
          unfold Wk.lens
          rw [List.length_map]
          omega
        have hl' : l < (plansM (wk.lens.take i)).length := (List.getElem?_eq_some_iff.mp hpl).1
        have flen : ((plansM (wk.lens.take i)).take l).length ≤ 4096 := by rw [List.length_take]; omega
        have fl2 : (((plansM (wk.lens.take i)).take l).flatMap fun q => (List.range kd.routes.length).map fun j => q ++ [j]).length ≤ 4096 * 8 := by
          rw [List.length_flatMap]
          simp only [List.length_map, List.length_range]
          rw [sum_const]
          exact Nat.mul_le_mul flen a2
        have mainC : EvL (tLc (iRng1 (tCons (tCB (rLn K) (tCons (tVar 4) tNil)) tNil)) (gName 7) tYes (tOp (rCatA K) (tVar 6) (tTup (tCons (tVar 7) tNil))) [7]) [some v1, some vf, some u1, some u2, some u3, some v5, some v, none] Ha (((List.range kd.routes.length).map fun j => pl ++ [j]).map dN) := fun Hx xx Q q => by
          have kk := el_lcR (σ := [some v1, some vf, some u1, some u2, some u3, some v5, some v, none]) (H := Ha) (te := tOp (rCatA K) (tVar 6) (tTup (tCons (tVar 7) tNil))) (j := 7) (n := kd.routes.length) (vs := [7]) (tt := tYes) (ta := tCons (tCB (rLn K) (tCons (tVar 4) tNil)) tNil) (fun _ => true) (fun d => .tuple (nInts pl ++ [d])) (ea_one (ev_is (ev_len (ev_var rfl ((hu3.ex x2).ex xa))) (by rw [List.length_map]))) (by omega) (fun _ => rfl) (fun j Hy hj xy => eb_yes rfl) (fun j Hy hj xy _ => ev_cat (ev_var rfl (hv6.ex xy)) (ev_tup (ea_one (ev_var rfl (.int _))) (by show 1 ≤ 100000; decide)) (by rw [List.length_map]; show pl.length + 1 ≤ 100000; omega))
          rw [range_dN] at kk
          exact kk Hx xx Q q
        refine s_setL (el_catL (evv_var rfl h5) mainC.toV ?_) fun p us Hb xb _ hp hus => kz2 _ Hb xb ⟨.ref p, _, rfl, p, us, rfl, hp, ?_⟩
        · rw [List.length_map, List.length_map, List.length_map, List.length_range]
          omega
        · rw [take_snoc hpl, List.flatMap_append, List.map_append]
          simpa using hus
      · rintro σ' Ha xa ⟨v5, y6, rfl, h5⟩
        rw [List.length_map, List.take_length] at h5
        refine ⟨v5, rfl, kz _ Ha (x2.trans xa) ⟨v5, _, _, _, _, _, rfl, ?_⟩⟩
        rw [take_snoc hlen, plansM_snoc]
        exact h5
    · rintro σ' H' x ⟨v2, y2, y3, y4, y5, y6, rfl, hv2⟩
      refine ⟨v2, rfl, q v2 H' (x1.trans x) ?_⟩
      rw [List.length_map, show wk.kinds.length = wk.lens.length by simp [Wk.lens], List.take_length] at hv2
      exact hv2
/-! ### _law_pick -/
def spPk (K : PySem.W.Frag) : Sp := fun vs H Q _ => ∃ (r sc p : Addr) (ws : List V), vs = [.ref r, .ref p] ∧ RowAt K H r sc ∧ H p = some (.lst ws) ∧ p ≠ r ∧ 0 < ws.length ∧ ws.length ≤ 1000000 ∧ ∀ (i : Nat) v H', XR K r sc H H' → ws[i]? = some v → Q v H'
theorem sc_pick : FnScope ["_law_row", "_law_things"] ["_law_row", "_law_things"] (defScope sPick) := ⟨rfl, rfl, rfl, by decide +kernel, rfl, by decide +kernel, by decide +kernel⟩
theorem ok_pick {f ft : Addr} {fd fdt : FuncData} {k kn : Nat} (F : Fun K "_law_pick" "_law_pick" sPick f fd) (hk : kn ≤ k) (m1 : mg "len" = none)
    (gt : mg "_law_taken" = some (.ref ft)) (kpt : PySem.W.keepIn K (.ref ft) = true) (bt : Binds K fdt ["_law_row", "_law_many"] []) (GT : FnOk P w K mg base CX0 kn ft fdt ["_law_row", "_law_many"] (spTk K)) :
    FnOk P w K mg base CX0 (k + 1) f fd ["_law_row", "_law_things"] (spPk K) := by
  refine F.ok sc_pick (fun vs H Q E h => ?_) (fun cdv A outer s H vs Q E hr h => ?_)
  · obtain ⟨_, _, _, _, rfl, _⟩ := h
    rfl
  · obtain ⟨r, sc, p, ws, rfl, hR, hp, hpr, h0, h1, q⟩ := h
    refine ⟨_, pss_one (ps_ret (pe_ix ix_list (pv 1) (pe_call GT (hr.mono hk) (by rfl) gt kpt bt .nil pass0 (pa_cons (pv 0) (pa_cons (pe_callB (r := rLn K) call_len_seq (by rfl) m1 PySem.boot_len (pa_cons (pv 1) pa_nil)) pa_nil))) (fun _ _ => rfl))), ?_⟩
    refine ⟨.ref p, rfl, er_taken (K := K) (E := E0) (many := (ws.length : Int)) (i := 0) (σ := [some (.ref r), some (.ref p)]) (tm := tCB (rLn K) (tCons (tVar 1) tNil)) rfl (fun H1 x => ev_lenL rfl (x.keepL hpr hp)) (by omega) (by omega) H (.refl hR) _ fun v d H1 x hv ⟨n, e, hn⟩ => ?_⟩
    subst e
    have ev := hv.int_inv
    subst ev
    have hn' : n < ws.length := by omega
    exact ⟨p, ws, (n : Int), ws[n], rfl, rfl, SqL.of (x.keepL hpr hp), at_nat (List.getElem?_eq_getElem hn'), q n _ H1 x (List.getElem?_eq_getElem hn')⟩
end
end Dw
set_option Elab.async false
set_option linter.all false
set_option maxRecDepth 100000
set_option maxHeartbeats 4000000
/-! (x,) * n, n any number from 0 on -/
namespace Dw
open PySem PySem.Spec PyProof.Rows L2 Gx
theorem mul_one (l : Addr) (x : Value) (n : Nat) (dd : Option Addr) (sl : Array (Option Value)) (u : Tok) :
    Meets (Builtin.«tuple.__mul__» ⟨[.ref l, .int 1 u], []⟩) (fun _ R s => s.heap.get? l = some { cls := .type "tuple", dict := dd, data := .seq #[x] n, slots := sl } ∧ R (.ok (.ret (Value.ref l))) s) :=
  .of_wp fun prog w A R s h => by
    obtain ⟨hp, g, d, tk, os⟩ := s
    obtain ⟨hl, h⟩ := h
    have f1 := AutoSeq1.idx_int
    wp_walk using wpAny_loadPart' hl
    repeat (first
      | (refine wpAny_ite_false (by decide) ?_; wp_walk using wpAny_loadPart' hl)
      | (refine wpAny_ite_true (by decide) ?_; wp_walk using wpAny_loadPart' hl))
    exact ⟨_, rfl, h⟩
theorem mul_none (l : Addr) (x : Value) (n : Nat) (dd : Option Addr) (sl : Array (Option Value)) (u : Tok) :
    Meets (Builtin.«tuple.__mul__» ⟨[.ref l, .int 0 u], []⟩) (fun _ R s => s.heap.get? l = some { cls := .type "tuple", dict := dd, data := .seq #[x] n, slots := sl } ∧ R (.ok (.ret (Value.ref s.heap.objs.size))) { s with heap := s.heap.push { cls := Value.type "tuple", data := Data.seq #[] }, toks := s.toks }) :=
  .of_wp fun prog w A R s h => by
    obtain ⟨hp, g, d, tk, os⟩ := s
    obtain ⟨hl, h⟩ := h
    have f1 := AutoSeq1.idx_int
    wp_walk using wpAny_loadPart' hl
    repeat (first
      | (refine wpAny_ite_false (by decide) ?_; wp_walk using wpAny_loadPart' hl)
      | (refine wpAny_ite_true (by decide) ?_; wp_walk using wpAny_loadPart' hl))
    exact ⟨_, rfl, h⟩
def rRepA (K : PySem.W.Frag) : R2 := fun x y H Q => ∃ (l : Addr) (k : Nat) (v : V), x = .ref l ∧ y = .int (k : Int) ∧ SqT K H l [v] ∧ k ≤ 1000 ∧ (k = 1 → Q (.ref l) H) ∧ ∀ p, H p = none → k ≠ 1 → Q (.ref p) (upd H p (.tup (List.replicate k v)))
theorem op_repA {X : Cx} : OpR X (binaryOp .Mult) (rRepA X.K) := by
  intro pins s σ H x y v u Q I rx ry h
  obtain ⟨l, k, z, rfl, rfl, hT, hk, q1, q2⟩ := h
  match k, hk, ry, q1, q2 with
  | 0, _, ry, _, q2 =>
    cases rx
    obtain ⟨t, rfl⟩ := ry
    obtain ⟨its, r, ⟨⟨cls, dd, data, sl⟩, ho, hc, n, hd⟩, hs⟩ := I.tuple hT
    simp only at hc hd
    subst hc hd
    obtain ⟨a, rfl, ra⟩ := r.one
    refine wpAny_binaryOp_repeat_ref (T := "tuple") (U := "int") (by decide) ⟨_, ho, rfl⟩ (fun s' => typeIs_int s' _ t) noFill_tuple_mul F.fills_int_mul F.slot_int_rmul repeat_tuple F.slot_int_index.lookup
      (call_meets F.slot_int_rmul (typeIs_int s _ t) F.entry_int_rmul (F.args_int_rmul_2 _ _) (int_rmul_tuple _ t l _ n dd sl)
        ⟨ho, rfl, ⟨_, ho, rfl⟩, call_meets F.slot_tuple_mul ⟨_, ho, rfl⟩ F.entry_tuple_mul (F.args_tuple_mul_2 _ _) (mul_none l a n dd sl t) ⟨ho, ?_⟩⟩)
    refine ⟨.ref s.heap.objs.size, _, I.laid (t' := s.toks) (o := .tup []) (fun b ob q => Heap.get?_push_of_some _ q) (Nat.le_refl _) ?_, rfl, q2 _ (I.hok.fresh (Nat.le_refl _)) (by decide)⟩
    exact ⟨Nat.zero_le _, [], .nil, IsTup.new _ _⟩
  | 1, _, ry, q1, _ =>
    cases rx
    obtain ⟨t, rfl⟩ := ry
    obtain ⟨its, r, ⟨⟨cls, dd, data, sl⟩, ho, hc, n, hd⟩, hs⟩ := I.tuple hT
    simp only at hc hd
    subst hc hd
    obtain ⟨a, rfl, ra⟩ := r.one
    refine wpAny_binaryOp_repeat_ref (T := "tuple") (U := "int") (by decide) ⟨_, ho, rfl⟩ (fun s' => typeIs_int s' _ t) noFill_tuple_mul F.fills_int_mul F.slot_int_rmul repeat_tuple F.slot_int_index.lookup
      (call_meets F.slot_int_rmul (typeIs_int s _ t) F.entry_int_rmul (F.args_int_rmul_2 _ _) (int_rmul_tuple _ t l _ n dd sl)
        ⟨ho, rfl, ⟨_, ho, rfl⟩, call_meets F.slot_tuple_mul ⟨_, ho, rfl⟩ F.entry_tuple_mul (F.args_tuple_mul_2 _ _) (mul_one l a n dd sl t) ⟨ho, ?_⟩⟩)
    exact ⟨.ref l, H, I, rfl, q1 rfl⟩
  | m + 2, hk, ry, _, q2 =>
    refine op_repT pins s σ H (.ref l) (.int ((m + 2 : Nat) : Int)) v u Q I rx ry ⟨l, _, [z], rfl, rfl, hT, by simp, by omega, by omega, by show 1 ≤ 1000; decide, fun p hp => ?_⟩
    have e : (List.replicate (((m + 2 : Nat) : Int).toNat) [z]).flatten = List.replicate (m + 2) z := by
      rw [Int.toNat_natCast]
      exact List.flatten_replicate_singleton
    rw [e]
    exact q2 p hp (by omega)
theorem ev_repA {K : PySem.W.Frag} {σ : L2.St} {H : Hp} {ta tb : TE} {d : PyData} {k : Nat} (ha : Ev ta σ H (.tuple [d])) (hb : Ev tb σ H (.int (k : Int))) (hk : k ≤ 1000) : Ev (tOp (rRepA K) ta tb) σ H (.tuple (List.replicate k d)) := fun H1 x Q q =>
  ha H1 x _ fun v H2 x2 hv => hb H2 (x.trans x2) _ fun u H3 x3 hu => by
    obtain ⟨a, ws, rfl, ha, hws⟩ := hv.tup_inv
    obtain ⟨z, rfl, hz⟩ := hws.inv1
    have e := hu.int_inv
    subst e
    have x23 := x2.trans x3
    have hz3 := hz.ex x3
    have rep : ∀ (n : Nat) {Hy : Hp}, Is Hy z d → IsA Hy (List.replicate n z) (List.replicate n d) := by
      intro n Hy h
      induction n with
      | zero => exact .nil
      | succ n ih => rw [List.replicate_succ, List.replicate_succ]; exact .cons h ih
    refine ⟨a, k, z, rfl, rfl, SqT.of (x3.tup _ _ ha), hk, fun e => ?_, fun p hp _ => q _ _ (x23.trans (.new hp)) (.tup upd_same (rep k (hz3.ex (R := none1) (.new hp))))⟩
    subst e
    exact q _ H3 x23 (.tup (x3.tup _ _ ha) (.one hz3))
end Dw
set_option Elab.async false
set_option linter.all false
set_option maxRecDepth 100000
set_option maxHeartbeats 4000000
namespace Dw
open PySem PySem.Spec PyProof.Rows L2 Gx
/-! ### the mathematics of the law -/
def lensOf (wk : Wk) (row : List Nat) : List Nat := row.map fun k => (wk.kind k).routes.length
def everyM (wk : Wk) (row : List Nat) : List (List Nat) := plansM (lensOf wk row)
def wr (wk : Wk) (row rt : List Nat) : Nat := wrongM wk wk.vats (row.zip rt)
theorem mem_zip_swap {α β : Type} {a : α} {b : β} : ∀ {l : List α} {m : List β}, (a, b) ∈ l.zip m → (b, a) ∈ m.zip l
  | [], _, h => by simp at h
  | _ :: _, [], h => by simp at h
  | x :: l, y :: m, h => by
    rw [List.zip_cons_cons] at h ⊢
    rcases List.mem_cons.mp h with e | h
    · injection e with e1 e2
      subst e1 e2
      exact List.mem_cons_self ..
    · exact List.mem_cons_of_mem _ (mem_zip_swap h)
theorem mem_every {wk : Wk} {row rt : List Nat} (hr : ∀ k ∈ row, k < wk.kinds.length) : rt ∈ everyM wk row ↔ Seq wk row rt := by
  unfold everyM lensOf
  rw [mem_plansM]
  unfold Under Seq
  rw [List.length_map, List.zip_map_right]
  refine and_congr_right fun hl => ⟨fun h p hp => ?_, fun h q hq => ?_⟩
  · have hp' := mem_zip_swap (show (p.1, p.2) ∈ row.zip rt from hp)
    refine ⟨hr _ (List.of_mem_zip hp).1, ?_⟩
    exact h (p.2, (wk.kind p.1).routes.length) (List.mem_map.mpr ⟨(p.2, p.1), hp', rfl⟩)
  · obtain ⟨⟨x, k⟩, hx, rfl⟩ := List.mem_map.mp hq
    exact (h (k, x) (mem_zip_swap hx)).2
theorem lens_le {wk : Wk} (F : Few wk) {row : List Nat} (hr : ∀ k ∈ row, k < wk.kinds.length) : ∀ n ∈ lensOf wk row, n ≤ 4 := fun n hn => by
  obtain ⟨k, hk, rfl⟩ := List.mem_map.mp hn
  exact F k (hr k hk)
theorem every_small {wk : Wk} (F : Few wk) {row : List Nat} (hr : RowS wk row) (i : Nat) : (plansM ((lensOf wk row).take i)).length ≤ 32768 := by
  refine Nat.le_trans (plansM_len fun n hn => Nat.le_trans (lens_le F hr.2 n (List.mem_of_mem_take hn)) (by decide)) (Nat.le_trans (Nat.pow_le_pow_right (show 8 > 0 by decide) (show _ ≤ 5 from ?_)) (by decide))
  have := hr.1
  unfold lensOf
  rw [List.length_take, List.length_map]
  omega
theorem seq0 {wk : Wk} (W : WkOk wk) {row : List Nat} (hr : ∀ k ∈ row, k < wk.kinds.length) : Seq wk row (row.map fun _ => 0) := by
  refine ⟨by simp, fun p hp => ?_⟩
  rw [zip_map_self] at hp
  obtain ⟨k, hk, rfl⟩ := List.mem_map.mp hp
  exact ⟨hr k hk, (W.kind (hr k hk)).2.2.1⟩
theorem exists_least : ∀ {l : List Nat}, l ≠ [] → ∃ j ∈ l, ∀ i ∈ l, j ≤ i
  | [], h => absurd rfl h
  | [x], _ => ⟨x, by simp, fun i hi => by rw [List.mem_singleton.mp hi]; exact Nat.le_refl _⟩
  | x :: y :: r, _ => by
    obtain ⟨j, hj, hl⟩ := exists_least (l := y :: r) (by simp)
    by_cases h : x ≤ j
    · refine ⟨x, by simp, fun i hi => ?_⟩
      rcases List.mem_cons.mp hi with e | hi
      · rw [e]; exact Nat.le_refl _
      · exact Nat.le_trans h (hl i hi)
    · refine ⟨j, List.mem_cons_of_mem _ hj, fun i hi => ?_⟩
      rcases List.mem_cons.mp hi with e | hi
      · omega
      · exact hl i hi
/-- the least number of wrong cloths -/
structure LeastIs (wk : Wk) (row : List Nat) (j : Nat) : Prop where
  m1 : j ∈ (leasts wk row).map (·.2)
  m2 : ∀ i ∈ (leasts wk row).map (·.2), j ≤ i
  at' : ∃ rt, Seq wk row rt ∧ wr wk row rt = j
  le : ∀ rt, Seq wk row rt → j ≤ wr wk row rt
theorem least_is {wk : Wk} (W : WkOk wk) {row : List Nat} (hr : ∀ k ∈ row, k < wk.kinds.length) : ∃ j, LeastIs wk row j := by
  obtain ⟨v, hv, _⟩ := leasts_full (wk := wk) row _ (seq0 W hr)
  have hne : (leasts wk row).map (·.2) ≠ [] := fun e => by
    have := valD_some hv
    rw [List.map_eq_nil_iff.mp e] at this
    simp at this
  obtain ⟨j, hj, hl⟩ := exists_least hne
  obtain ⟨x, hx, ex⟩ := List.mem_map.mp hj
  obtain ⟨rt, i1, i2, _⟩ := leasts_sound row hr x hx
  refine ⟨j, hj, hl, ⟨rt, i1, by unfold wr; rw [i2, ex]⟩, fun rt hs => ?_⟩
  obtain ⟨u, hu, hul⟩ := leasts_full row rt hs
  exact Nat.le_trans (hl u (List.mem_map.mpr ⟨_, valD_some hu, rfl⟩)) hul
theorem routes_none {wk : Wk} {row : List Nat} {j : Nat} (hr : ∀ k ∈ row, k < wk.kinds.length) (h : LeastIs wk row j) : (routesM wk row).isNone = decide (0 < j) := by
  have e1 : (routesM wk row).isNone = (ways wk row).isEmpty := by
    unfold routesM
    cases ways wk row <;> rfl
  rw [e1]
  apply Bool.eq_iff_iff.mpr
  rw [List.isEmpty_iff, ways_nil hr, decide_eq_true_iff]
  constructor
  · intro hn
    obtain ⟨rt, hs, e⟩ := h.at'
    have := hn rt hs
    unfold wr at e
    omega
  · intro hj rt hs h0
    have := h.le rt hs
    unfold wr at this
    omega
theorem routes_some {wk : Wk} {row rt : List Nat} (hr : ∀ k ∈ row, k < wk.kinds.length) (h : routesM wk row = some rt) : Seq wk row rt ∧ wr wk row rt = 0 := by
  unfold routesM at h
  cases e : ways wk row with
  | nil => rw [e] at h; cases h
  | cons x r =>
    rw [e] at h
    have h := Option.some.inj h
    obtain ⟨i1, i2, _⟩ := ways_sound row hr x (by rw [e]; simp)
    subst h
    exact ⟨i1, i2⟩
def pvOf : Option (List Nat) → PV
  | none => .non
  | some rt => .tup rt
theorem shows_found {wk : Wk} {row : List Nat} (hr : ∀ k ∈ row, k < wk.kinds.length) : showsM wk row (pvOf (routesM wk row)) = true := by
  cases e : routesM wk row with
  | none =>
    show (ways wk row).isEmpty = true
    unfold routesM at e
    cases h : ways wk row with
    | nil => rfl
    | cons x r => rw [h] at e; cases e
  | some rt =>
    obtain ⟨i1, i2⟩ := routes_some hr e
    show (seqB wk row rt && decide (wrongM wk wk.vats (row.zip rt) = 0)) = true
    rw [(seqB_iff hr).mpr i1]
    unfold wr at i2
    rw [i2]
    rfl
def fine0 (wk : Wk) (row : List Nat) : PV → Bool
  | .tup rt => decide (rt ∈ everyM wk row) && decide (wr wk row rt = 0)
  | _ => false
/-- what the law finds of a value -/
def fineM (wk : Wk) (row : List Nat) (j : Nat) : PV → Bool
  | .non => decide (0 < j)
  | .tup rt => decide (rt ∈ everyM wk row) && decide (wr wk row rt = 0)
  | _ => false
theorem fine_is {wk : Wk} {row : List Nat} {j : Nat} (hr : ∀ k ∈ row, k < wk.kinds.length) (h : LeastIs wk row j) (pv : PV) : fineM wk row j pv = showsM wk row pv := by
  cases pv with
  | non =>
    have := routes_none hr h
    have e1 : (routesM wk row).isNone = (ways wk row).isEmpty := by
      unfold routesM
      cases ways wk row <;> rfl
    show decide (0 < j) = (ways wk row).isEmpty
    rw [← this, e1]
  | tup rt =>
    show (decide (rt ∈ everyM wk row) && decide (wr wk row rt = 0)) = (seqB wk row rt && decide (wrongM wk wk.vats (row.zip rt) = 0))
    have e : decide (rt ∈ everyM wk row) = seqB wk row rt := by
      apply Bool.eq_iff_iff.mpr
      rw [decide_eq_true_iff, mem_every hr, seqB_iff hr]
    rw [e]
    rfl
  | lst rt => rfl
  | dic => rfl
theorem head_filter {α : Type} {p : α → Bool} : ∀ {l : List α}, (l.filter p).head? = l.find? p
  | [] => rfl
  | x :: r => by
    rw [List.filter_cons, List.find?_cons]
    cases p x with
    | true => rfl
    | false => exact head_filter
def natsOf : PyData → List Nat
  | .tuple xs => xs.map fun d => (pInt d).toNat
  | _ => []
theorem natsOf_dN (p : List Nat) : natsOf (dN p) = p := by
  show (p.map fun n : Nat => PyData.int (n : Int)).map (fun d => (pInt d).toNat) = p
  rw [List.map_map]
  exact (List.map_congr_left fun x _ => by simp [pInt]).trans (List.map_id p)
/-! ### what evaluates -/
section
variable {K : PySem.W.Frag} {σ : L2.St} {H H' : Hp} {te ta tb tl : TE} {D : Ends} {d : PyData}
theorem ev_minL {ns : List Int} {j : Int} (h : EvV te σ H (ns.map .int)) (hm : j ∈ ns) (hl : ∀ i ∈ ns, j ≤ i) : Ev (tCB (rMin K) (tCons te tNil)) σ H (.int j) := fun H1 x Q q => h H1 x _ fun v H2 x2 hv => by
  obtain ⟨p, vs, rfl, hp, hvs⟩ := hv
  have e := hvs.ints
  subst e
  refine ⟨p, ns, rfl, SqL.of hp, List.length_pos_of_mem hm, fun i hi hil => ?_⟩
  have e : i = j := Int.le_antisymm (hil j hm) (hl i hi)
  subst e
  exact q _ H2 x2 (.int _)
theorem ev_notB {a b : Bool} (ha : Ev ta σ H (.bool a)) (hb : Ev tb σ H (.bool b)) : Ev (tOp rNotB ta tb) σ H (.bool (!decide (a = b))) := fun H1 x Q q =>
  ha H1 x _ fun v H2 x2 hv => hb H2 (x.trans x2) _ fun w H3 x3 hw => ⟨a, b, hv.bool_inv, hw.bool_inv, q _ H3 (x2.trans x3) (.bl _)⟩
theorem ev_notNd {i : Nat} {v : V} (hv : σ[i]? = some (some v)) : Ev (L2.tNotN (tVar i)) σ H (.bool (!decide (v = .non))) := fun H1 x _ q => ⟨v, hv, q _ H1 (.refl H1) (.bl _)⟩
/-- a value of the kinds that the law tries -/
def EvP (te : TE) (σ : L2.St) (H : Hp) (p : PV) : Prop := ∀ H1, Ex H H1 → ∀ Q : VK, (∀ v H2, Ex H1 H2 → IsP H2 v p → Q v H2) → te σ H1 Q
theorem evp_var {i : Nat} {v : V} {p : PV} (h : σ[i]? = some (some v)) (hv : IsP H v p) : EvP (tVar i) σ H p := fun H1 x _ q => ⟨v, h, q v H1 (.refl H1) (hv.ex x)⟩
theorem evp_T {rt : List Nat} (h : Ev te σ H (dN rt)) : EvP te σ H (.tup rt) := fun H1 x Q q => h H1 x Q fun v H2 x2 hv => q v H2 x2 hv
theorem evp_non : EvP (tC .non) σ H .non := fun H1 _ _ q => q _ H1 (.refl H1) rfl
theorem evp_L {rt : List Nat} (h : EvV te σ H (nInts rt)) : EvP te σ H (.lst rt) := fun H1 x Q q => h H1 x Q fun v H2 x2 hv => q v H2 x2 hv
theorem evp_D : EvP tDNewK σ H .dic := fun H1 _ _ q p hp => q _ _ (.new hp) ⟨p, rfl, upd_same⟩
inductive IsPs (H : Hp) : List V → List PV → Prop
  | nil : IsPs H [] []
  | cons {v : V} {vs : List V} {p : PV} {ps : List PV} : IsP H v p → IsPs H vs ps → IsPs H (v :: vs) (p :: ps)
theorem IsPs.ex (x : Ex H H') : ∀ {vs : List V} {ps : List PV}, IsPs H vs ps → IsPs H' vs ps
  | _, _, .nil => .nil
  | _, _, .cons h r => .cons (h.ex x) (IsPs.ex x r)
theorem IsPs.len : ∀ {vs : List V} {ps : List PV}, IsPs H vs ps → vs.length = ps.length
  | _, _, .nil => rfl
  | _, _, .cons _ r => congrArg (· + 1) (IsPs.len r)
theorem IsPs.app : ∀ {vs ws : List V} {ps qs : List PV}, IsPs H vs ps → IsPs H ws qs → IsPs H (vs ++ ws) (ps ++ qs)
  | _, _, _, _, .nil, s => s
  | _, _, _, _, .cons h r, s => .cons h (IsPs.app r s)
theorem IsPs.get : ∀ {vs : List V} {ps : List PV} {i : Nat} {v : V}, IsPs H vs ps → vs[i]? = some v → ∃ p, IsP H v p
  | _, _, _, _, .nil, e => by simp at e
  | _, _, 0, _, .cons h _, e => by
    have e := Option.some.inj e
    subst e
    exact ⟨_, h⟩
  | _, _, i + 1, _, .cons _ r, e => IsPs.get (i := i) r e
def EvPA (t : TA) (σ : L2.St) (H : Hp) (ps : List PV) : Prop := ∀ H1, Ex H H1 → ∀ Q : List V → Hp → Prop, (∀ vs H2, Ex H1 H2 → IsPs H2 vs ps → Q vs H2) → t σ H1 Q
theorem epa_nil : EvPA tNil σ H [] := fun H1 _ _ q => q [] H1 (.refl H1) .nil
theorem epa_cons {p : PV} {ps : List PV} {tr : TA} (h : EvP te σ H p) (r : EvPA tr σ H ps) : EvPA (tCons te tr) σ H (p :: ps) := fun H1 x Q q =>
  h H1 x _ fun v H2 x2 hv => r H2 (x.trans x2) _ fun vs H3 x3 hvs => q (v :: vs) H3 (x2.trans x3) (.cons (hv.ex x3) hvs)
/-- a list of such -/
def EvPL (te : TE) (σ : L2.St) (H : Hp) (ps : List PV) : Prop := ∀ H1, Ex H H1 → ∀ Q : VK, (∀ p vs H2, Ex H1 H2 → H2 p = some (.lst vs) → H1 p = none → IsPs H2 vs ps → Q (.ref p) H2) → te σ H1 Q
theorem epl_lst {t : TA} {ps : List PV} (h : EvPA t σ H ps) (hl : ps.length ≤ 1000) : EvPL (tLst t) σ H ps := fun H1 x Q q => h H1 x _ fun vs H2 x2 hvs => ⟨by rw [hvs.len]; exact sz (by omega), fun p hp => q p vs _ (x2.trans (.new hp)) upd_same (x2.back p hp) (hvs.ex (.new hp))⟩
theorem s_setPL {ps : List PV} {i : Nat} (h : EvPL te σ H ps) (k : ∀ p vs H1, Ex H H1 → H p = none → H1 p = some (.lst vs) → IsPs H1 vs ps → D.nx (σ.set i (some (.ref p))) H1) : tAsg te (gName i) D σ H := h H (.refl H) _ fun p vs H1 x hp hp0 hps => k p vs H1 x hp0 hp hps
/-- [x] * 4 + l -/
theorem epl_four {p : PV} {ps : List PV} {i j : Nat} {v : V} {pl : Addr} {ws : List V} (hv : σ[i]? = some (some v)) (hp : IsP H v p) (hj : σ[j]? = some (some (.ref pl))) (hw : H pl = some (.lst ws)) (hps : IsPs H ws ps) (hl : ps.length ≤ 1000) :
    EvPL (tOp rCat (tOp rRep (tLst (tCons (tVar i) tNil)) (tC (.int 4))) (tVar j)) σ H ([p, p, p, p] ++ ps) := fun H1 x Q q => by
  refine ⟨v, hv, by show 1 ≤ sizeLine; decide, fun a ha => ⟨a, 4, [v], rfl, rfl, upd_same, by decide, by decide, by show 1 * 4 ≤ sizeLine; decide, fun b hb => ?_⟩⟩
  have xa : Ex H1 (upd H1 a (.lst [v])) := .new ha
  have xb : Ex (upd H1 a (.lst [v])) (upd (upd H1 a (.lst [v])) b (.lst (List.replicate (4 : Int).toNat [v]).flatten)) := .new hb
  have xab := xa.trans xb
  have hw2 := xab.keep _ _ (x.keep _ _ hw (fun _ z => by cases z) fun z => z) (fun _ z => by cases z) fun z => z
  refine ⟨.ref pl, hj, b, pl, _, ws, rfl, rfl, upd_same, hw2, ?_, fun c hc => ?_⟩
  · have := hps.len
    show 4 + ws.length ≤ sizeLine
    rw [this]
    exact sz (by omega)
  · have xc : Ex _ (upd (upd (upd H1 a (.lst [v])) b (.lst (List.replicate (4 : Int).toNat [v]).flatten)) c (.lst ((List.replicate (4 : Int).toNat [v]).flatten ++ ws))) := .new hc
    have xx := xab.trans xc
    have hv4 := (hp.ex x).ex xx
    exact q c _ _ xx upd_same (xab.back c hc) (IsPs.app (.cons hv4 (.cons hv4 (.cons hv4 (.cons hv4 .nil)))) ((hps.ex x).ex xx))
/-- data arguments, the last such a value -/
def EvAP (t : TA) (σ : L2.St) (H : Hp) (ds : List PyData) (p : PV) : Prop := ∀ H1, Ex H H1 → ∀ Q : List V → Hp → Prop, (∀ us u H2, Ex H1 H2 → IsA H2 us ds → IsP H2 u p → Q (us ++ [u]) H2) → t σ H1 Q
theorem eap_one {p : PV} (h : EvP te σ H p) : EvAP (tCons te tNil) σ H [] p := fun H1 x Q q => h H1 x _ fun v H2 x2 hv => q [] v H2 x2 .nil hv
theorem eap_cons {ds : List PyData} {p : PV} {tr : TA} (h : Ev te σ H d) (r : EvAP tr σ H ds p) : EvAP (tCons te tr) σ H (d :: ds) p := fun H1 x Q q =>
  h H1 x _ fun v H2 x2 hv => r H2 (x.trans x2) _ fun us u H3 x3 hu hq => q (v :: us) u H3 (x2.trans x3) (.cons (hv.ex x3) hu) hq
theorem ev_callP {T : List Addr} {f : List PyData → PV → PyData → Prop} {E : XK} {ds : List PyData} {p : PV} {t : TA} (h : EvAP t σ H ds p) (hf : f ds p d) (hT : ∀ P ∈ T, TabD 1 H P) : Ev (tCall (spP T f) [] E t) σ H d := fun H1 x Q q =>
  h H1 x _ fun us u H2 x2 hu hq => ⟨ds, p, d, us, u, by rw [List.append_nil], hu, hq, hf, fun P hP => x2.tab _ _ (x.tab _ _ (hT P hP)), fun v H' x3 hv => q v H' (x2.trans x3) hv⟩
/-- both ways of an if lead to one state -/
theorem s_ifE {t : TT} {tu tw : TS} {b : Bool} (M : L2.St → Hp → Prop) (h : EvB t σ H b) (k : ∀ σ' H', M σ' H' → D.nx σ' H') (h1 : b = true → (∀ σ' H', M σ' H' → D.nx σ' H') → ∀ H1, Ex H H1 → tu D σ H1) (h2 : b = false → (∀ σ' H', M σ' H' → D.nx σ' H') → ∀ H1, Ex H H1 → tw D σ H1) :
    tIfS t tu tw D σ H := s_if h (fun e => h1 e k) (fun e => h2 e k)
theorem IsP.non_iff {v : V} : ∀ {p : PV}, IsP H v p → decide (v = .non) = (match p with | .non => true | _ => false)
  | .non, h => by rw [show v = .non from h]; rfl
  | .tup rt, h => by
    obtain ⟨a, _, e, _⟩ := Is.tup_inv h
    rw [e]; exact decide_eq_false fun z => nomatch z
  | .lst rt, ⟨a, _, e, _⟩ => by rw [e]; exact decide_eq_false fun z => nomatch z
  | .dic, ⟨a, e, _⟩ => by rw [e]; exact decide_eq_false fun z => nomatch z
theorem row_neI {r sc : Addr} {v : V} {ns : List Int} (h : RowAt K H r sc) (hL : IsL H v (ns.map .int)) : v ≠ .ref r := fun e => by
  obtain ⟨_, a, b, c, g, _⟩ := h
  obtain ⟨p, vs, ev, hp, hvs⟩ := hL
  rw [ev] at e
  injection e with e
  subst e
  rw [g] at hp
  have e2 := hvs.ints
  cases hp
  cases ns with
  | nil => simp at e2
  | cons n r => simp at e2
theorem row_neN {r sc : Addr} {v : V} {rt : List Nat} (h : RowAt K H r sc) (hL : IsL H v (nInts rt)) : v ≠ .ref r := by
  have e : nInts rt = (rt.map fun n : Nat => (n : Int)).map PyData.int := by simp [nInts]
  rw [e] at hL
  exact row_neI h hL
theorem row_neT {r sc : Addr} {v : V} {ps : List (List Nat)} (h : RowAt K H r sc) (hL : IsL H v (ps.map dN)) : v ≠ .ref r := fun e => by
  obtain ⟨_, a, b, c, g, _⟩ := h
  obtain ⟨p, vs, ev, hp, hvs⟩ := hL
  rw [ev] at e
  injection e with e
  subst e
  rw [g] at hp
  cases hp
  obtain ⟨d, hd, hz⟩ := hvs.got (i := 1) rfl
  rw [List.getElem?_map] at hd
  obtain ⟨q, _, rfl⟩ := Option.map_eq_some_iff.mp hd
  obtain ⟨x, _, ex, _⟩ := Is.tup_inv hz
  cases ex
theorem isL_xr {r sc : Addr} {v : V} {ds : List PyData} (x : XR K r sc H H') (n : v ≠ .ref r) (h : IsL H v ds) : IsL H' v ds := by
  obtain ⟨p, vs, rfl, hp, hv⟩ := h
  exact ⟨p, vs, rfl, x.1.keep _ _ hp (fun _ z => by cases z) (fun z => n (by rw [z])), hv.ex x.1⟩
theorem isP_xr {r sc : Addr} {v : V} (hR : RowAt K H r sc) (x : XR K r sc H H') : ∀ {p : PV}, IsP H v p → IsP H' v p
  | .non, h => h
  | .tup rt, h => Is.ex x.1 h
  | .lst rt, h => isL_xr x (row_neN hR h) h
  | .dic, ⟨a, e, h⟩ => ⟨a, e, x.1.keep _ _ h (fun _ z => by cases z) fun z => by
      obtain ⟨_, a', b, c, g, _⟩ := hR
      rw [z, g] at h
      cases h⟩
/-- the row is laid -/
theorem s_rowList {a : Addr} {ns : List Int} (hv : σ[0]? = some (some (.ref a))) (hS : SqL K H a (ns.map V.int)) (kk : ∀ r H', Ex H H' → H r = none → RowAt K H' r a → D.nx (σ.set 1 (some (.ref r))) H') :
    tAsg (tLst (tCons (tVar 0) (tCons (tC (.int 0)) (tCons (tC (.int 2011)) (tCons (tC (.int 0)) tNil))))) (gName 1) D σ H := ⟨.ref a, hv, by show 4 ≤ sizeLine; decide, fun r hr => kk r _ (.new hr) hr ⟨ns, 0, 2011, 0, upd_same, sqL_ex (R := none1) (.new hr) (fun z => z) hS, by
  rcases hS with (h | ⟨o, h⟩) | h
  · exact .inl (ne_of_none h hr)
  · exact .inl (ne_of_none h hr)
  · exact .inr (.inr h), by decide, by decide⟩⟩
theorem s_works {r sc : Addr} {E : XK} (hv : σ[1]? = some (some (.ref r))) (hR : RowAt K H r sc) (kk : ∀ v wk H', XR K r sc H H' → Is H' v (dW wk) → WkL wk → D.nx (σ.set 2 (some v)) H') : tAsg (tCall (spWk K) [] E (tCons (tVar 1) tNil)) (gName 2) D σ H :=
  ⟨.ref r, hv, r, sc, rfl, hR, kk⟩
theorem s_pickV {r sc p : Addr} {E : XK} {j l : Nat} {ws : List V} (hv : σ[1]? = some (some (.ref r))) (hj : σ[j]? = some (some (.ref p))) (hR : RowAt K H r sc) (hp : H p = some (.lst ws)) (hn : p ≠ r) (h0 : 0 < ws.length) (h1 : ws.length ≤ 1000000) (kk : ∀ (i : Nat) v H', XR K r sc H H' → ws[i]? = some v → D.nx (σ.set l (some v)) H') :
    tAsg (tCall (spPk K) [] E (tCons (tVar 1) (tCons (tVar j) tNil))) (gName l) D σ H := ⟨.ref r, hv, .ref p, hj, r, sc, p, ws, rfl, hR, hp, hn, h0, h1, kk⟩
theorem s_pickP {r sc : Addr} {E : XK} {l : Nat} {ps : List PV} (hv : σ[1]? = some (some (.ref r))) (hR : RowAt K H r sc) (h : EvPL te σ H ps) (h0 : 0 < ps.length) (h1 : ps.length ≤ 1000000) (kk : ∀ v q H', XR K r sc H H' → IsP H' v q → D.nx (σ.set l (some v)) H') :
    tAsg (tCall (spPk K) [] E (tCons (tVar 1) (tCons te tNil))) (gName l) D σ H := ⟨.ref r, hv, h H (.refl H) _ fun p vs H2 x2 hp hp0 hps => by
  have hR2 := hR.ex0 x2
  refine ⟨r, sc, p, vs, rfl, hR2, hp, hR.ne hp0, by rw [hps.len]; exact h0, by rw [hps.len]; exact h1, fun i v H' x hi => ?_⟩
  obtain ⟨q, hq⟩ := hps.get hi
  exact kk v q H' ((XR.of hR x2).trans x) (isP_xr hR2 x hq)⟩
theorem optD_non {o : Option (List Nat)} {v : V} (h : Is H v (optD o)) : decide (v = .non) = o.isNone := by
  cases o with
  | none =>
    have e : v = .non := Is.none_inv h
    rw [e]; rfl
  | some p =>
    obtain ⟨a, _, e, _⟩ := Is.tup_inv (show Is H v (.tuple (nInts p)) from h)
    rw [e]; exact decide_eq_false fun z => nomatch z
theorem optD_P {o : Option (List Nat)} {v : V} (h : Is H v (optD o)) : IsP H v (pvOf o) := by
  cases o with
  | none => exact Is.none_inv h
  | some p => exact h
end
end Dw
set_option Elab.async false
set_option linter.all false
set_option maxRecDepth 100000
set_option maxHeartbeats 4000000
namespace Dw
open PySem PySem.Spec PyProof.Rows L2 Gx
abbrev NL : List Str := ["_law_script", "_law_row", "_law_works_here", "_law_kinds", "_law_every", "_law_kind", "_law_longer", "_law_one", "_law_counts", "_law_found", "_law_due", "_law_turn", "_law_odd", "_law_value", "_law_fine", "_law_order", "_law_number", "_law_plan"]
theorem sc_law : FnScope ["_law_script", "_law_row", "_law_works_here", "_law_kinds", "_law_every", "_law_kind", "_law_longer", "_law_one", "_law_counts", "_law_found", "_law_due", "_law_turn", "_law_odd", "_law_value", "_law_fine", "_law_order", "_law_number", "_law_plan"] ["_law_script"] (defScope sLaw) := ⟨rfl, rfl, rfl, by decide +kernel, rfl, by decide +kernel, by decide +kernel⟩
/-- the scope of the comprehension of plans, as it is entered -/
def dueScope : Scope := { kind := .function, names := [((".0" : Str), .local), (("_law_plan" : Str), .cell), (("_law_wrong" : Str), .globalImplicit), (("_law_kinds" : Str), .cell), (("_law_works_here" : Str), .cell)], isGenerator := false, isCoroutine := false }
/-- a def that the law calls -/
structure Cal (P : Program) (w : World) (K : PySem.W.Frag) (mg : Str → Option Value) (base : Heap) (kn : Nat) (x : Str) (ps : List Str) (sp : Sp) : Prop where
  ex : ∃ f fd, mg x = some (.ref f) ∧ PySem.W.keepIn K (.ref f) = true ∧ Binds K fd ps [] ∧ FnOk P w K mg base CX0 kn f fd ps sp
def spLaw (K : PySem.W.Frag) (T : List Addr) : Sp := fun vs H Q _ => ∃ (a : Addr) (ns : List Int), vs = [.ref a] ∧ SqL K H a (ns.map V.int) ∧ (∀ P ∈ T, TabD 1 H P) ∧ ∀ H', Q (.bl true) H'
section
variable {P : Program} {w : World} {K : PySem.W.Frag} {mg : Str → Option Value} {base : Heap}
theorem ok_law {f Pt Pn Pk Pl Pr Po Pw Pc : Addr} {fd : FuncData} {k kn : Nat} (F : Fun K "law" "law" sLaw f fd) (hk : kn ≤ k)
    (m1 : mg "tuple" = none) (m2 : mg "range" = none) (m3 : mg "len" = none) (m4 : mg "min" = none) (m5 : mg "list" = none) (m6 : mg "isinstance" = none)
    (cT : Cal P w K mg base kn "_law_taken" ["_law_row", "_law_many"] (spTk K)) (cK : Cal P w K mg base kn "_law_works" ["_law_row"] (spWk K)) (cA : Cal P w K mg base kn "_law_alike" ["_law_found", "_law_due"] (spF [] fAlike))
    (cL : Cal P w K mg base kn "least_wrong" ["works", "row"] (spF [Pn, Pk, Pl, Pr, Po, Pw, Pc] fLeast)) (cR : Cal P w K mg base kn "routes_for" ["works", "row"] (spF [Pn, Pk, Pl, Pr, Po, Pw, Pc] fRoutes))
    (cS : Cal P w K mg base kn "shows_routes" ["works", "row", "value"] (spP [Pn, Pk, Pl, Pr, Po, Pw, Pc, Pt] fShows)) (cW : Cal P w K mg base kn "_law_wrong" ["_law_works_here", "_law_row", "_law_routes"] (spQ [] fWrong))
    (cP : Cal P w K mg base kn "_law_plans" ["_law_works_here"] (spL [] fAllPlans)) (cF : Cal P w K mg base kn "plan_for" ["works", "row"] (spF [Pn, Pk, Pl, Pr, Po, Pw, Pc] fPlanFor)) (cC : Cal P w K mg base kn "_law_pick" ["_law_row", "_law_things"] (spPk K)) :
    FnOk P w K mg base CX0 (k + 1) f fd ["_law_script"] (spLaw K [Pn, Pk, Pl, Pr, Po, Pw, Pc, Pt]) := by
  obtain ⟨fT, fdT, gT, kT, bT, GT⟩ := cT.ex
  obtain ⟨fK, fdK, gK, kK, bK, GK⟩ := cK.ex
  obtain ⟨fA, fdA, gA, kA, bA, GA⟩ := cA.ex
  obtain ⟨fL, fdL, gL, kL, bL, GL⟩ := cL.ex
  obtain ⟨fR, fdR, gR, kR, bR, GR⟩ := cR.ex
  obtain ⟨fS, fdS, gS, kS, bS, GS⟩ := cS.ex
  obtain ⟨fW, fdW, gW, kW, bW, GW⟩ := cW.ex
  obtain ⟨fP, fdP, gP, kP, bP, GP⟩ := cP.ex
  obtain ⟨fF, fdF, gF, kF, bF, GF⟩ := cF.ex
  obtain ⟨fC, fdC, gC, kC, bC, GC⟩ := cC.ex
  refine F.ok sc_law (fun vs H Q E h => ?_) (fun cdv A outer s H vs Q E hr h => ?_)
  · obtain ⟨_, _, rfl, _⟩ := h
    rfl
  · obtain ⟨a, ns, rfl, hS, hT, q⟩ := h
    have hrk := hr.mono hk
    have hu := hr.units
    have hu65 : (A.deeper (envOfC "law" (defScope sLaw) s.heap.objs.size f cdv)).units + 65 < cLine := by have := hr.un; omega
    refine ⟨_, pss_cons (ps_set (i := 1) sc_law.nd rfl (Or.inr rfl) (pe_lst (pa_cons (pv 0) (pa_cons pe_int (pa_cons pe_int (pa_cons pe_int pa_nil))))))
      (pss_cons (ps_set (i := 2) sc_law.nd rfl (Or.inr rfl) (pe_call GK hrk (by rfl) gK kK bK .nil pass0 (pa_cons (pv 1) pa_nil)))
      (pss_cons (ps_set (i := 3) sc_law.nd rfl (Or.inr rfl) (pe_callTy (r := rTupOf K) call_tuple_of (by rfl) m1 (by decide +kernel) (pa_cons (pe_lc (own := [("_law_order", 15)]) (te := tCall (spTk K) [] E0 (tCons (tVar 1) (tCons (tCB (rLn K) (tCons (tOp (rIxT K) (tVar 2) (tC (.int 2))) tNil)) tNil))) rfl sc_law.nd (pi_range1 (by rfl) m2 (pa_cons (pe_call GT hrk (by rfl) gT kT bT .nil pass0 (pa_cons (pv 1) (pa_cons pe_int pa_nil))) pa_nil)) (blkOk_by (N := NL) (sc := defScope sLaw) (by decide +kernel))
        (fun _ _ _ _ _ => pg_name (i := 15) sc_law.nd rfl (.inl rfl)) (fun _ _ _ _ _ => pts_nil) (fun _ _ _ _ _ => pe_call GT hrk (by rfl) gT kT bT .nil pass0 (pa_cons (pv 1) (pa_cons (pe_callB (r := rLn K) call_len_seq (by rfl) m3 PySem.boot_len (pa_cons (pe_ix ix_tup (pv 2) pe_int (fun _ _ => rfl)) pa_nil)) pa_nil)))) pa_nil)))
      (pss_cons (ps_set (i := 4) sc_law.nd rfl (Or.inl rfl) (pe_lst (pa_cons (pe_tup pa_nil) pa_nil)))
      (pss_cons (ps_for PassesOwn.never rfl (pi_tup (pv 3)) (pg_name (i := 5) sc_law.nd rfl (Or.inl rfl))
        (pss_cons (ps_set (i := 6) sc_law.nd rfl (Or.inl rfl) (pe_lst pa_nil))
        (pss_cons (ps_for PassesOwn.never rfl (pi_list (pv 4)) (pg_name (i := 7) sc_law.nd rfl (Or.inr rfl))
          (pss_one (ps_set (i := 6) sc_law.nd rfl (Or.inl rfl) (pe_op op_cat (pv 6) (pe_lc (own := [("_law_number", 16)]) (te := tOp (rCatA K) (tVar 7) (tTup (tCons (tVar 16) tNil))) rfl sc_law.nd (pi_range1 (by rfl) m2 (pa_cons (pe_callB (r := rLn K) call_len_seq (by rfl) m3 PySem.boot_len (pa_cons (pe_ix ix_tup (pe_ix ix_tup (pe_ix ix_tup (pv 2) pe_int (fun _ _ => rfl)) (pv 5) (fun _ _ => rfl)) pe_int (fun _ _ => rfl)) pa_nil)) pa_nil)) (blkOk_by (N := NL) (sc := defScope sLaw) (by decide +kernel))
            (fun _ _ _ _ _ => pg_name (i := 16) sc_law.nd rfl (.inl rfl)) (fun _ _ _ _ _ => pts_nil) (fun _ _ _ _ _ => pe_op op_catA (pv 7) (pe_tup (pa_cons (pv 16) pa_nil))))))))
        (pss_one (ps_set (i := 4) sc_law.nd rfl (Or.inl rfl) (pv 6))))))
      (pss_cons (ps_setLc (i := 8) (own := [("_law_one", 7)]) (te := tCall (spQ [] fWrong) [] E0 (tCons (tVar 2) (tCons (tVar 3) (tCons (tVar 7) tNil)))) rfl sc_law.nd rfl rfl (sw_true rfl rfl rfl (by decide +kernel)) (pi_list (pv 4)) (blkOk_by (N := NL) (sc := defScope sLaw) (by decide +kernel))
        (fun _ _ _ _ _ => pg_name (i := 7) sc_law.nd rfl (.inl rfl)) (fun _ _ _ _ _ => pts_nil) (fun _ _ _ _ _ => pe_call GW hrk (by rfl) gW kW bW .nil pass0 (pa_cons (pv 2) (pa_cons (pv 3) (pa_cons (pv 7) pa_nil)))))
      (pss_cons (ps_if (pt_not (pt_val (pe_call GA hrk (by rfl) gA kA bA .nil pass0 (pa_cons (pe_call GL hrk (by rfl) gL kL bL .nil pass0 (pa_cons (pv 2) (pa_cons (pv 3) pa_nil))) (pa_cons (pe_callB (r := rMin K) (cr_min rfl) (by rfl) m4 (by decide +kernel) (pa_cons (pv 8) pa_nil)) pa_nil))))) (pss_one (ps_ret pe_bl)) pss_nil)
      (pss_cons (ps_set (i := 9) sc_law.nd rfl (Or.inl rfl) (pe_call GR hrk (by rfl) gR kR bR .nil pass0 (pa_cons (pv 2) (pa_cons (pv 3) pa_nil))))
      (pss_cons (ps_if (PW.pt (pw_or (pt_cmpR op_ne (pe_cmp (pc_isN (pv 9))) (pe_cmpR op_gt (pe_callB (r := rMin K) (cr_min rfl) (by rfl) m4 (by decide +kernel) (pa_cons (pv 8) pa_nil)) pe_int (nomark _)) (nomark _)) (pw_or1 (pt_cmpR op_notBl (pe_call GS hrk (by rfl) gS kS bS .nil pass0 (pa_cons (pv 2) (pa_cons (pv 3) (pa_cons (pv 9) pa_nil)))) pe_bl (nomark _))))) (pss_one (ps_ret pe_bl)) pss_nil)
      (pss_cons (ps_if (PW.pt (pw_and (pt_cmp (pc_notN (pv 9))) (pw_and1 (PW.pt (pw_or (pt_cmpR (op_notInD hu65) (pv 9) (pv 4) (by rfl)) (pw_or1 (pt_cmpR op_gt (pe_call GW hrk (by rfl) gW kW bW .nil pass0 (pa_cons (pv 2) (pa_cons (pv 3) (pa_cons (pv 9) pa_nil)))) pe_int (nomark _)))))))) (pss_one (ps_ret pe_bl)) pss_nil)
      (pss_cons (ps_setLc (i := 10) (own := [("_law_plan", 17)]) (te := tVar 17) (tt := tTest (tOp rEq (tCall (spQ [] fWrong) [] E0 (tCons (tVar 2) (tCons (tVar 3) (tCons (tLc (iTup K (tVar 3)) (gName 5) tYes (tOp (rIxT K) (tVar 17) (tVar 5)) [5]) tNil)))) (tC (.int 0)))) rfl sc_law.nd rfl rfl (sw_true rfl rfl rfl (by decide +kernel)) (pi_list (pe_call GP hrk (by rfl) gP kP bP .nil pass0 (pa_cons (pv 2) pa_nil))) (blkOk_by (N := NL) (sc := defScope sLaw) (by decide +kernel))
        (fun _ _ _ _ _ => pg_name (i := 17) sc_law.nd rfl (.inr rfl)) (fun _ _ _ _ _ => pts_one (pt_cmpR op_eq (pe_call GW hrk (by rfl) gW kW bW .nil pass0 (pa_cons (pv 2) (pa_cons (pv 3) (pa_cons (pe_lc (own := [("_law_kind", 5)]) (te := tOp (rIxT K) (tVar 17) (tVar 5)) rfl sc_law.nd (pi_tup (pv 3)) (blkOk_by (N := NL) (sc := dueScope) (by decide +kernel))
          (fun _ _ _ _ _ => pg_name (i := 5) sc_law.nd rfl (.inl rfl)) (fun _ _ _ _ _ => pts_nil) (fun _ _ _ _ _ => pe_ix ix_tup (pv 17) (pv 5) (fun _ _ => rfl))) pa_nil)))) pe_int (nomark _))) (fun _ _ _ _ _ => pv 17))
      (pss_cons (ps_if (pt_not (pt_val (pe_call GA hrk (by rfl) gA kA bA .nil pass0 (pa_cons (pe_call GF hrk (by rfl) gF kF bF .nil pass0 (pa_cons (pv 2) (pa_cons (pv 3) pa_nil))) (pa_cons (pe_ifExp (pt_cmpR (op_neD hu) (pv 10) (pe_lst pa_nil) (by rfl)) (pe_ix ix_list (pv 10) pe_int (fun _ _ => rfl)) pe_non) pa_nil))))) (pss_one (ps_ret pe_bl)) pss_nil)
      (pss_cons (ps_for PassesOwn.never rfl (pi_range1 (by rfl) m2 (pa_cons pe_int pa_nil)) (pg_name (i := 11) sc_law.nd rfl (Or.inl rfl))
        (pss_cons (ps_set (i := 7) sc_law.nd rfl (Or.inr rfl) (pe_call GC hrk (by rfl) gC kC bC .nil pass0 (pa_cons (pv 1) (pa_cons (pv 4) pa_nil))))
        (pss_cons (ps_set (i := 12) sc_law.nd rfl (Or.inl rfl) (pe_lst (pa_cons pe_non (pa_cons (pe_callTy (r := rListOf K) call_list_of (by rfl) m5 (by decide +kernel) (pa_cons (pv 7) pa_nil)) (pa_cons (pe_op op_catA (pv 7) (pe_tup (pa_cons pe_int pa_nil)))
          (pa_cons (pe_ifExp (pt_cmpR (op_neD hu) (pv 7) (pe_tup pa_nil) (by rfl)) (pe_slice sl_tupA (pv 7) (po_some pe_int) po_none) (pe_tup (pa_cons pe_int pa_nil))) (pa_cons (pe_op op_repA (pe_tup (pa_cons pe_int pa_nil)) (pe_callB (r := rLn K) call_len_seq (by rfl) m3 PySem.boot_len (pa_cons (pv 7) pa_nil))) (pa_cons pe_dnewK pa_nil))))))))
        (pss_cons (ps_set (i := 13) sc_law.nd rfl (Or.inl rfl) (pe_call GC hrk (by rfl) gC kC bC .nil pass0 (pa_cons (pv 1) (pa_cons (pe_op op_cat (pe_op op_rep (pe_lst (pa_cons (pv 7) pa_nil)) pe_int) (pv 12)) pa_nil))))
        (pss_cons (ps_set (i := 14) sc_law.nd rfl (Or.inl rfl) (pe_and (pe_callB call_isi (by rfl) m6 (by decide +kernel) (pa_cons (pv 13) (pa_cons (pe_bltn (v := .ty "tuple") (u := .type "tuple") (by rfl) m1 (by decide +kernel) rfl) pa_nil)))
          (pe_and (pe_cmpR (op_inD hu65) (pv 13) (pv 4) (by rfl)) (pe_one (pe_cmpR op_eq (pe_call GW hrk (by rfl) gW kW bW .nil pass0 (pa_cons (pv 2) (pa_cons (pv 3) (pa_cons (pv 13) pa_nil)))) pe_int (nomark _))))))
        (pss_cons (ps_if (pt_cmp (pc_isN (pv 13))) (pss_one (ps_set (i := 14) sc_law.nd rfl (Or.inl rfl) (pe_cmpR op_gt (pe_callB (r := rMin K) (cr_min rfl) (by rfl) m4 (by decide +kernel) (pa_cons (pv 8) pa_nil)) pe_int (nomark _)))) pss_nil)
        (pss_one (ps_if (pt_not (pt_val (pe_call GA hrk (by rfl) gA kA bA .nil pass0 (pa_cons (pe_call GS hrk (by rfl) gS kS bS .nil pass0 (pa_cons (pv 2) (pa_cons (pv 3) (pa_cons (pv 13) pa_nil)))) (pa_cons (pv 14) pa_nil))))) (pss_one (ps_ret pe_bl)) pss_nil))))))))
      (pss_one (ps_ret pe_bl)))))))))))))), ?_⟩
    have z0 : ([] : List PyData).length ≤ 100000 := Nat.zero_le _
    refine s_rowList rfl hS fun r H1 x1 hr0 hR1 => ?_
    refine s_works rfl hR1 fun v2 wk H2 x2 hwk ⟨W, Fw, hk3⟩ => ?_
    have W1 := W.k1
    -- the row of kinds
    have mainK : EvR K r a (tCB (rTupOf K) (tCons (tLc (iRng1 (tCons (tCall (spTk K) [] E0 (tCons (tVar 1) (tCons (tC (.int 6)) tNil))) tNil)) (gName 15) tYes (tCall (spTk K) [] E0 (tCons (tVar 1) (tCons (tCB (rLn K) (tCons (tOp (rIxT K) (tVar 2) (tC (.int 2))) tNil)) tNil))) [15]) tNil)) [some (.ref a), some (.ref r), some v2, none, none, none, none, none, none, none, none, none, none, none, none, none, none, none] H2 (fun d => ∃ row : List Nat, d = dN row ∧ RowS wk row) := by
      refine er_tupOf (elr_lc (T := fun b => b = true) (N := fun n => n ≤ 5) (C := fun _ i ds => ∃ rt : List Nat, ds = nInts rt ∧ rt.length = i ∧ ∀ v ∈ rt, v < wk.kinds.length) (B := fun _ _ d => ∃ n : Nat, d = .int (n : Int) ∧ (n : Int) < (wk.kinds.length : Int)) ?_ (fun n hn => by omega) (fun _ => rfl) ?_ (fun n _ => ⟨[], rfl, rfl, fun _ z => by simp at z⟩) (fun _ _ _ _ _ _ => ebr_yes) ?_ ?_ (fun _ _ _ z => nomatch z)) ?_
      · exact EvAR.mono (ear_one (er_taken (many := 6) (i := 1) rfl (fun _ _ => ev_int) (by decide) (by decide))) fun ds ⟨d, e, n, e2, g1⟩ => ⟨n, by rw [e, e2], by omega⟩
      · rintro n i ds ⟨os, rfl, hl, _⟩
        rw [List.length_map]; omega
      · exact fun n i Hx _ _ x => er_taken (many := (wk.kinds.length : Int)) (i := 1) rfl (fun Hy y => ev_is (ev_len (ev_ixn (i := 2) (d := dKs wk.kinds) (ev_var rfl ((hwk.ex x.1).ex y.1)) ev_int rfl)) (by rw [List.length_map])) (by omega) (by have := W.k2; omega)
      · rintro n i ds d _ _ ⟨os, rfl, hl, ho⟩ ⟨v, rfl, hx⟩
        refine ⟨os ++ [v], by simp [nInts], by simp [hl], fun o hoo => ?_⟩
        rcases List.mem_append.mp hoo with z | z
        · exact ho o z
        · rw [List.mem_singleton.mp z]; omega
      · rintro ds ⟨n, hn', os, rfl, hl, ho⟩
        exact ⟨os, rfl, by omega, ho⟩
    refine s_setR mainK x2.2 fun v3 d3 H3 x3 hrow ⟨row, e3, hrs⟩ => ?_
    subst e3
    have hw3 := hwk.ex x3.1
    have hR3 := x3.2
    -- every
    refine s_setL (el_lst (ea_one (ev_tup ea_nil z0)) (by show 1 ≤ 100000; decide)) fun p4 ws4 H4 x4 _ hp4 hws4 => ?_
    refine s_forT none1 (ds := nInts row) (fun i σ H' => ∃ v4 y5 y6 y7, σ = [some (.ref a), some (.ref r), some v2, some v3, some v4, y5, y6, y7, none, none, none, none, none, none, none, none, none, none] ∧ IsL H' v4 ((plansM ((lensOf wk row).take i)).map dN)) (ev_var rfl (hrow.ex x4)) (fun Ha xa => ⟨.ref p4, none, none, none, rfl, p4, ws4, rfl, xa.keep _ _ hp4 (fun _ z => by cases z) (fun z => z), hws4.ex xa⟩) ?_ ?_
    · rintro i d v σ' Ha Z hd xa ⟨v4, y5, y6, y7, rfl, hv4⟩ hv kz
      rw [List.getElem?_map] at hd
      obtain ⟨kd, hkd, rfl⟩ := Option.map_eq_some_iff.mp hd
      have ev := hv.int_inv
      subst ev
      have hkk : kd < wk.kinds.length := hrs.2 kd (List.mem_of_getElem? hkd)
      have r4 := Fw kd hkk
      have hlen : (lensOf wk row)[i]? = some (wk.kind kd).routes.length := by
        unfold lensOf
        rw [List.getElem?_map, hkd]
        rfl
      have hi5 : i < row.length := (List.getElem?_eq_some_iff.mp hkd).1
      have hr5 := hrs.1
      have small : (plansM ((lensOf wk row).take i)).length ≤ 4096 := by
        refine Nat.le_trans (plansM_len fun n hn => Nat.le_trans (lens_le Fw hrs.2 n (List.mem_of_mem_take hn)) (by decide)) (Nat.le_trans (Nat.pow_le_pow_right (show 8 > 0 by decide) (show _ ≤ 4 from ?_)) (by decide))
        rw [List.length_take]
        omega
      refine s_setL (el_lst ea_nil z0) fun p6 ws6 Hb xb _ hp6 hw6 => ?_
      have e6 := hw6.nil_inv
      subst e6
      refine s_forV none1 (ds := (plansM ((lensOf wk row).take i)).map dN) (v := v4) (te := tVar 4) (fun l σ H' => ∃ v6 y7, σ = [some (.ref a), some (.ref r), some v2, some v3, some v4, some (.int (kd : Int)), some v6, y7, none, none, none, none, none, none, none, none, none, none] ∧ IsL H' v6 ((((plansM ((lensOf wk row).take i)).take l).flatMap fun q => (List.range (wk.kind kd).routes.length).map fun j => q ++ [j]).map dN)) (hv4.ex xb) (fun _ _ z => z) (fun Q q => ⟨v4, rfl, q⟩) ⟨.ref p6, y7, rfl, p6, [], rfl, hp6, .nil⟩ ?_ ?_
      · rintro l d v σ' Hc Z2 hd xc ⟨v6, y7, rfl, h6⟩ hv7 kz2
        rw [List.getElem?_map] at hd
        obtain ⟨pl, hpl, rfl⟩ := Option.map_eq_some_iff.mp hd
        have hlong := plansM_long (List.mem_of_getElem? hpl)
        have hpl6 : pl.length ≤ 100 := by
          rw [hlong, List.length_take]
          unfold lensOf
          rw [List.length_map]
          omega
        have flen : ((plansM ((lensOf wk row).take i)).take l).length ≤ 4096 := by rw [List.length_take]; omega
        have fl2 : (((plansM ((lensOf wk row).take i)).take l).flatMap fun q => (List.range (wk.kind kd).routes.length).map fun j => q ++ [j]).length ≤ 4096 * 4 := by
          rw [List.length_flatMap]
          simp only [List.length_map, List.length_range]
          rw [sum_const]
          exact Nat.mul_le_mul flen r4
        have hwc := ((hw3.ex x4).ex xa).ex (xb.trans xc)
        have mainC : EvL (tLc (iRng1 (tCons (tCB (rLn K) (tCons (tOp (rIxT K) (tOp (rIxT K) (tOp (rIxT K) (tVar 2) (tC (.int 2))) (tVar 5)) (tC (.int 2))) tNil)) tNil)) (gName 16) tYes (tOp (rCatA K) (tVar 7) (tTup (tCons (tVar 16) tNil))) [16]) [some (.ref a), some (.ref r), some v2, some v3, some v4, some (.int (kd : Int)), some v6, some v, none, none, none, none, none, none, none, none, none, none] Hc (((List.range (wk.kind kd).routes.length).map fun j => pl ++ [j]).map dN) := fun Hx xx Q q => by
          have kk := el_lcR (σ := [some (.ref a), some (.ref r), some v2, some v3, some v4, some (.int (kd : Int)), some v6, some v, none, none, none, none, none, none, none, none, none, none]) (H := Hc) (te := tOp (rCatA K) (tVar 7) (tTup (tCons (tVar 16) tNil))) (j := 16) (n := (wk.kind kd).routes.length) (vs := [16]) (tt := tYes) (ta := tCons (tCB (rLn K) (tCons (tOp (rIxT K) (tOp (rIxT K) (tOp (rIxT K) (tVar 2) (tC (.int 2))) (tVar 5)) (tC (.int 2))) tNil)) tNil) (fun _ => true) (fun d => .tuple (nInts pl ++ [d])) (ea_one (ev_routesLen rfl hwc rfl hkk)) (by omega) (fun _ => rfl) (fun j Hy hj xy => eb_yes rfl) (fun j Hy hj xy _ => ev_cat (ev_var rfl (hv7.ex xy)) (ev_tup (ea_one (ev_var rfl (.int _))) (by show 1 ≤ 100000; decide)) (by rw [List.length_map]; show pl.length + 1 ≤ 100000; omega))
          rw [range_dN] at kk
          exact kk Hx xx Q q
        refine s_setL (el_catL (evv_var rfl h6) mainC.toV ?_) fun p us Hd xd _ hp hus => kz2 _ Hd xd ⟨.ref p, _, rfl, p, us, rfl, hp, ?_⟩
        · rw [List.length_map, List.length_map, List.length_map, List.length_range]
          omega
        · rw [take_snoc hpl, List.flatMap_append, List.map_append]
          simpa using hus
      · rintro σ' Hc xc ⟨v6, y7, rfl, h6⟩
        rw [List.length_map, List.take_length] at h6
        refine ⟨v6, rfl, kz _ Hc (xb.trans xc) ⟨v6, _, _, _, rfl, ?_⟩⟩
        rw [take_snoc hlen, plansM_snoc]
        exact h6
    rintro σ' H5 x5' ⟨v4, y5, y6, y7, rfl, hev⟩
    have hev : IsL H5 v4 ((everyM wk row).map dN) := by
      rw [List.length_map, show row.length = (lensOf wk row).length by simp [lensOf], List.take_length] at hev
      exact hev
    have x5 := x4.trans x5'
    have hw5 := hw3.ex x5
    have hrow5 := hrow.ex x5
    have hR5 := hR3.ex0 x5
    have evS := fun {rt : List Nat} (h : rt ∈ everyM wk row) => (mem_every hrs.2).mp h
    have elen : (everyM wk row).length ≤ 32768 := by
      have := every_small Fw hrs (lensOf wk row).length
      rw [List.take_length] at this
      exact this
    obtain ⟨j, hj⟩ := least_is W hrs.2
    -- counts
    have mainN : EvL (tLc (iList K (tVar 4)) (gName 7) tYes (tCall (spQ [] fWrong) [] E0 (tCons (tVar 2) (tCons (tVar 3) (tCons (tVar 7) tNil)))) [7]) [some (.ref a), some (.ref r), some v2, some v3, some v4, y5, y6, y7, none, none, none, none, none, none, none, none, none, none] H5 (((everyM wk row).map fun rt => ((wr wk row rt : Nat) : Int)).map .int) := fun Hx xx Q q => by
      have kk := el_lcV (K := K) (σ := [some (.ref a), some (.ref r), some v2, some v3, some v4, y5, y6, y7, none, none, none, none, none, none, none, none, none, none]) (H := H5) (tl := tVar 4) (te := tCall (spQ [] fWrong) [] E0 (tCons (tVar 2) (tCons (tVar 3) (tCons (tVar 7) tNil)))) (j := 7) (vs := [7]) (tt := tYes) (fun _ => true) (fun d => .int (wr wk row (natsOf d) : Int)) (evv_var rfl hev) (by rw [List.length_map]; omega) (fun _ => rfl) (fun i d v Hy hd xy hv => eb_yes rfl) (fun i d v Hy hd xy hv _ => by
        obtain ⟨rt, hrt, rfl⟩ := List.mem_map.mp (List.mem_of_getElem? hd)
        rw [natsOf_dN]
        exact ev_callQ (T := []) (eaq_cons (ev_var rfl (hw5.ex xy)) (eaq_cons (ev_var rfl (hrow5.ex xy)) (eaq_one (Ev.toQ (ev_var rfl hv))))) ⟨wk, row, rt, rfl, rfl, W, (evS hrt).2, rfl⟩ (fun _ z => nomatch z))
      rw [lc_true, List.map_map, show (everyM wk row).map ((fun d => PyData.int (wr wk row (natsOf d) : Int)) ∘ dN) = ((everyM wk row).map fun rt => ((wr wk row rt : Nat) : Int)).map .int from by
        rw [List.map_map]
        exact List.map_congr_left fun rt _ => by simp [natsOf_dN]] at kk
      exact kk Hx xx Q q
    refine s_setL mainN fun p8 ws8 H6 x6 _ hp8 hws8 => ?_
    have hc8 : IsL H6 (.ref p8) (((everyM wk row).map fun rt => ((wr wk row rt : Nat) : Int)).map .int) := ⟨p8, ws8, rfl, hp8, hws8⟩
    have jm : (j : Int) ∈ (everyM wk row).map fun rt => ((wr wk row rt : Nat) : Int) := by
      obtain ⟨rt, hs, e⟩ := hj.at'
      exact List.mem_map.mpr ⟨rt, (mem_every hrs.2).mpr hs, by rw [e]⟩
    have jl : ∀ i ∈ (everyM wk row).map fun rt => ((wr wk row rt : Nat) : Int), (j : Int) ≤ i := fun i hi => by
      obtain ⟨rt, hrt, rfl⟩ := List.mem_map.mp hi
      have := hj.le rt (evS hrt)
      omega
    have xT : ∀ {Hx : Hp}, ExB (fun b => b = r) H3 Hx → ∀ P ∈ [Pn, Pk, Pl, Pr, Po, Pw, Pc, Pt], TabD 1 Hx P := fun x P hP => x.tab _ _ (x3.1.tab _ _ (x2.1.tab _ _ (x1.tab _ _ (hT P hP))))
    have x56 := x5.trans x6
    have t7 : ∀ P ∈ [Pn, Pk, Pl, Pr, Po, Pw, Pc], P ∈ [Pn, Pk, Pl, Pr, Po, Pw, Pc, Pt] := fun P hP => List.mem_append_left [Pt] hP
    -- least_wrong
    refine s_if (b := false) (eb_is (eb_not (eb_B (ev_call (T := []) (ea_cons (ev_call (ea_cons (ev_var rfl (hw5.ex x6)) (ea_one (ev_var rfl (hrow5.ex x6)))) ⟨wk, row, j, rfl, W, Fw, hrs, hj.m1, hj.m2, rfl⟩ fun P hP => xT (.up x56) P (t7 P hP)) (ea_one (ev_minL (evv_var rfl hc8) jm jl))) ⟨_, rfl, .inl (.int _), rfl⟩ (fun _ z => nomatch z)))) rfl) (fun z => nomatch z) fun _ H7 x7 => ?_
    have x57 := x56.trans x7
    -- routes_for
    refine s_set (ev_call (ea_cons (ev_var rfl ((hw5.ex x6).ex x7)) (ea_one (ev_var rfl ((hrow5.ex x6).ex x7)))) ⟨wk, row, rfl, W, Fw, hrs, rfl⟩ fun P hP => xT (.up x57) P (t7 P hP)) fun v9 H8 x8 h9 => ?_
    have x58 := x57.trans x8
    have y8 := (x6.trans x7).trans x8
    have hc8' := (hc8.ex x7).ex x8
    have hpv := optD_P h9
    have hnon := optD_non h9
    have hno := routes_none hrs.2 hj
    refine s_if (b := false) (eb_is (eb_or (eb_test (ev_neB (ev_isN rfl) (ev_gt (ev_minL (evv_var rfl hc8') jm jl) ev_int))) fun _ => eb_test (ev_notB (ev_callP (eap_cons (ev_var rfl (hw5.ex y8)) (eap_cons (ev_var rfl (hrow5.ex y8)) (eap_one (evp_var rfl hpv)))) ⟨wk, row, rfl, W, Fw, hrs, rfl⟩ fun P hP => xT (.up x58) P hP) ev_bl)) ?_) (fun z => nomatch z) fun _ H9 x9 => ?_
    · rw [hnon, hno, shows_found hrs.2]
      have : decide (0 < j) = decide ((0 : Int) < (j : Int)) := decide_eq_decide.mpr (by omega)
      rw [this]
      simp
    have x59 := x58.trans x9
    have y9 := y8.trans x9
    have he9 := hev.ex y9
    refine s_if (b := false) (eb_is (b := false) (eb_and (a := (routesM wk row).isSome) (b := false) (eb_is (eb_B (ev_notNd rfl)) ?_) fun hsome => ?_) ?_) (fun z => nomatch z) fun _ H10 x10 => ?_
    · rw [hnon]
      cases routesM wk row <;> rfl
    · obtain ⟨rt, ert⟩ := Option.isSome_iff_exists.mp hsome
      obtain ⟨hseq, hw0⟩ := routes_some hrs.2 ert
      have h9' : Is H9 v9 (dN rt) := by
        have := h9.ex x9
        rw [ert] at this
        exact this
      refine eb_is (eb_or (eb_B (ev_notInD (ev_var rfl h9') (evv_var rfl he9) (shaped_dN rt) (shaped_dNs _))) fun _ => eb_test (ev_gt (ev_callQ (T := []) (eaq_cons (ev_var rfl (hw5.ex y9)) (eaq_cons (ev_var rfl (hrow5.ex y9)) (eaq_one (Ev.toQ (ev_var rfl h9'))))) ⟨wk, row, rt, rfl, rfl, W, hseq.2, rfl⟩ (fun _ z => nomatch z)) ev_int)) ?_
      rw [any_dNs, decide_eq_true ((mem_every hrs.2).mpr hseq)]
      have e0 : wrongM wk wk.vats (row.zip rt) = 0 := hw0
      rw [e0]
      rfl
    · rw [Bool.and_false]
    have x5a := x59.trans x10
    have y10' := y9.trans x10
    have hwa := hw5.ex y10'
    have hra := hrow5.ex y10'
    -- due
    have plen : (plansM wk.lens).length ≤ 4096 := by
      have := plansM_small W wk.lens.length
      rw [List.take_length] at this
      exact this
    have mainD : EvL (tLc (iList K (tCall (spL [] fAllPlans) [] E0 (tCons (tVar 2) tNil))) (gName 17) (tTest (tOp rEq (tCall (spQ [] fWrong) [] E0 (tCons (tVar 2) (tCons (tVar 3) (tCons (tLc (iTup K (tVar 3)) (gName 5) tYes (tOp (rIxT K) (tVar 17) (tVar 5)) [5]) tNil)))) (tC (.int 0)))) (tVar 17) [17]) [some (.ref a), some (.ref r), some v2, some v3, some v4, y5, y6, y7, some (.ref p8), some v9, none, none, none, none, none, none, none, none] H10 (((plansM wk.lens).filter (fits wk row)).map dN) := fun Hx xx Q q => by
      have kk := el_lcV (K := K) (σ := [some (.ref a), some (.ref r), some v2, some v3, some v4, y5, y6, y7, some (.ref p8), some v9, none, none, none, none, none, none, none, none]) (H := H10) (tl := tCall (spL [] fAllPlans) [] E0 (tCons (tVar 2) tNil)) (te := tVar 17) (j := 17) (vs := [17]) (tt := tTest (tOp rEq (tCall (spQ [] fWrong) [] E0 (tCons (tVar 2) (tCons (tVar 3) (tCons (tLc (iTup K (tVar 3)) (gName 5) tYes (tOp (rIxT K) (tVar 17) (tVar 5)) [5]) tNil)))) (tC (.int 0)))) (fun d => fits wk row (natsOf d)) (fun d => d)
        (evv_call (T := []) (ea_one (ev_var rfl hwa)) ⟨wk, rfl, W, rfl⟩ (fun _ z => nomatch z)) (by rw [List.length_map]; omega) (fun _ => rfl) (fun i d v Hy hd xy hv => by
          obtain ⟨pl, hpl, rfl⟩ := List.mem_map.mp (List.mem_of_getElem? hd)
          rw [natsOf_dN]
          have er : (nInts row).map (fun d => PyData.int ((pl.getD (pInt d).toNat 0 : Nat) : Int)) = nInts (byPlan pl row) := by simp [byPlan, pInt, Function.comp_def]
          have inner : EvL (tLc (iTup K (tVar 3)) (gName 5) tYes (tOp (rIxT K) (tVar 17) (tVar 5)) [5]) ((wipe [some (.ref a), some (.ref r), some v2, some v3, some v4, y5, y6, y7, some (.ref p8), some v9, none, none, none, none, none, none, none, none] [17]).set 17 (some v)) Hy (nInts (byPlan pl row)) := fun Hi xi Qi qi => by
            have ki := el_lcT (K := K) (σ := (wipe [some (.ref a), some (.ref r), some v2, some v3, some v4, y5, y6, y7, some (.ref p8), some v9, none, none, none, none, none, none, none, none] [17]).set 17 (some v)) (H := Hy) (tl := tVar 3) (te := tOp (rIxT K) (tVar 17) (tVar 5)) (j := 5) (vs := [5]) (tt := tYes) (fun _ => true) (fun d => PyData.int ((pl.getD (pInt d).toNat 0 : Nat) : Int)) (ev_var rfl (hra.ex xy)) (by rw [List.length_map]; have := hrs.1; omega) (fun _ => rfl) (fun _ _ _ _ _ _ _ => eb_yes rfl) (fun i2 d2 u Hz hd2 xz hu _ => by
              obtain ⟨kk', hkk', rfl⟩ := List.mem_map.mp (List.mem_of_getElem? hd2)
              have hlt := hrs.2 kk' hkk'
              have hu' := (mem_plansM.mp hpl).1
              have hplt : kk' < pl.length := by rw [hu']; unfold Wk.lens; rw [List.length_map]; exact hlt
              refine ev_ixn (ev_var rfl (hv.ex xz)) (ev_var rfl hu) ?_
              rw [List.getElem?_map, List.getElem?_eq_getElem hplt, show (pInt (PyData.int (kk' : Int))).toNat = kk' by simp [pInt], List.getD_eq_getElem?_getD, List.getElem?_eq_getElem hplt]
              rfl)
            rw [lc_true, er] at ki
            exact ki Hi xi Qi qi
          refine eb_is (eb_test (ev_eqI (ev_callQ (T := []) (eaq_cons (ev_var rfl (hwa.ex xy)) (eaq_cons (ev_var rfl (hra.ex xy)) (eaq_one (EvV.toQ (EvL.toV inner))))) ⟨wk, row, byPlan pl row, rfl, rfl, W, byPlan_at hpl hrs.2, rfl⟩ (fun _ z => nomatch z)) ev_int)) ?_
          unfold fits
          exact decide_eq_decide.mpr (by omega)) (fun i d v Hy hd xy hv _ => ev_var rfl hv)
      rw [List.map_id', List.filter_map, show ((fun d => fits wk row (natsOf d)) ∘ dN) = fits wk row from funext fun p => by simp [natsOf_dN]] at kk
      exact kk Hx xx Q q
    refine s_setL mainD fun p10 ws10 H11 x11 _ hp10 hws10 => ?_
    have hd10 : IsL H11 (.ref p10) (((plansM wk.lens).filter (fits wk row)).map dN) := ⟨p10, ws10, rfl, hp10, hws10⟩
    have hwb := hwa.ex x11
    have hrb := hra.ex x11
    have x5b := x5a.trans x11
    -- plan_for
    have hfd := head_filter (p := fits wk row) (l := plansM wk.lens)
    have plainO : ∀ o : Option (List Nat), (∀ p, o = some p → p.length ≤ 1000) → Plain (optD o) ∨ ∃ p, optD o = dN p ∧ p.length ≤ 1000 := fun o ho => by
      cases o with
      | none => exact .inl .non
      | some p => exact .inr ⟨p, rfl, ho p rfl⟩
    have plO := plainO ((plansM wk.lens).find? (fits wk row)) fun p hp => by
      have hpm := List.mem_of_find?_eq_some hp
      have := (mem_plansM.mp hpm).1
      have k2 := W.k2
      rw [this]
      unfold Wk.lens
      rw [List.length_map]
      omega
    refine s_if (b := false) (eb_is (eb_not (eb_B (ev_call (T := []) (ea_cons (ev_call (ea_cons (ev_var rfl hwb) (ea_one (ev_var rfl hrb))) ⟨wk, row, rfl, W, hrs.row, rfl⟩ fun P hP => xT (.up x5b) P (t7 P hP)) (ea_one (ev_if (d := optD ((plansM wk.lens).find? (fits wk row))) (b := !((plansM wk.lens).filter (fits wk row)).isEmpty) (eb_is (eb_B (ev_neV (evv_var rfl hd10) (EvL.toV (el_lst ea_nil z0)) (shaped_dNs _) rfl)) ?_) (fun hne => ?_) fun hem => ?_))) ⟨_, rfl, plO, rfl⟩ (fun _ z => nomatch z)))) rfl) (fun z => nomatch z) fun _ H12 x12 => ?_
    · rw [eqv_nilL, List.isEmpty_map]
    · cases e : (plansM wk.lens).filter (fits wk row) with
      | nil => rw [e] at hne; cases hne
      | cons p rr =>
        rw [e] at hfd hd10
        rw [← hfd]
        exact ev_ixV (i := 0) (evv_var rfl hd10) ev_int (at_nat (i := 0) rfl)
    · cases e : (plansM wk.lens).filter (fits wk row) with
      | nil =>
        rw [e] at hfd
        rw [← hfd]
        exact ev_non
      | cons p rr => rw [e] at hem; cases hem
    -- five values
    have y12 := (y10'.trans x11).trans x12
    have x5c := x5b.trans x12
    have hR12 : RowAt K H12 r a := hR5.ex0 y12
    have hev12 := hev.ex y12
    have hc12 : IsL H12 (.ref p8) (((everyM wk row).map fun rt => ((wr wk row rt : Nat) : Int)).map .int) := hc8'.ex (((x9.trans x10).trans x11).trans x12)
    have hw12 := hw5.ex y12
    have hrow12 := hrow5.ex y12
    have ne4 := row_neT hR12 hev12
    have ne8 := row_neI hR12 hc12
    have epos : 0 < (everyM wk row).length := List.length_pos_of_mem ((mem_every hrs.2).mpr (seq0 W hrs.2))
    refine s_forX (N := fun n => n = 5) (fun n i σ' H' => ∃ y7 y11 y12 y13 y14, σ' = [some (.ref a), some (.ref r), some v2, some v3, some v4, y5, y6, y7, some (.ref p8), some v9, some (.ref p10), y11, y12, y13, y14, none, none, none] ∧ XR K r a H12 H') (EvAR.mono (ear_one (A := fun d => d = .int 5) (er_of (d := .int 5) (fun _ _ => ev_int) rfl)) fun ds ⟨d, e, e2⟩ => ⟨5, by rw [e, e2]; rfl, rfl⟩) hR12 (fun n hn => by omega) (fun n Hx hn xx => ⟨y7, none, none, none, none, rfl, xx⟩) ?_ ?_
    · rintro n i σ' Ha Z hn hi ⟨y7, y11, y12', y13, y14, rfl, xa⟩ kz
      obtain ⟨q4, w4, e4, hq4, hw4⟩ := isL_xr xa ne4 hev12
      have l4 := hw4.length
      rw [List.length_map] at l4
      have n4 : q4 ≠ r := fun z => ne4 (by rw [e4, z])
      refine s_pickV (p := q4) rfl (by rw [e4]; rfl) xa.2 hq4 n4 (by omega) (by omega) fun i7 v7 Hb xb hi7 => ?_
      obtain ⟨d7, hd7, hv7⟩ := hw4.got hi7
      rw [List.getElem?_map] at hd7
      obtain ⟨rt, hrt, rfl⟩ := Option.map_eq_some_iff.mp hd7
      have hv7 := hv7.ex xb.1
      have rtS := evS (List.mem_of_getElem? hrt)
      have rtl : rt.length ≤ 5 := by rw [rtS.1]; exact hrs.1
      have xab := xa.trans xb
      refine s_setPL (epl_lst (epa_cons evp_non (epa_cons (evp_L (EvL.toV (el_listT (ev_var rfl hv7)))) (epa_cons (evp_T (rt := rt ++ [0]) (ev_is (ev_cat (ev_var rfl hv7) (ev_tup (ea_one (ev_int (i := 0))) (by show 1 ≤ 100000; decide)) ?_) ?_))
        (epa_cons (evp_T (rt := if rt.isEmpty then [0] else rt.drop 1) (ev_if (b := !rt.isEmpty) (eb_is (eb_B (ev_neD (ev_var rfl hv7) (ev_tup ea_nil z0) (shaped_dN rt) rfl)) ?_) (fun hb => ev_is (ev_sl1 (ev_var rfl hv7)) ?_) (fun hb => ev_is (ev_tup (ea_one (ev_int (i := 0))) (by show 1 ≤ 100000; decide)) ?_)))
        (epa_cons (evp_T (rt := List.replicate rt.length 9) (ev_is (ev_repA (ev_tup (ea_one (ev_int (i := 9))) (by show 1 ≤ 100000; decide)) (ev_is (ev_len (ev_var rfl hv7)) (by rw [List.length_map])) (by omega)) ?_)) (epa_cons evp_D epa_nil)))))) (by show 6 ≤ 1000; decide)) fun p12 ws12 Hc xc _ hp12 hps => ?_
      · rw [List.length_map]; show rt.length + 1 ≤ 100000; omega
      · simp [dN]
      · show (!PyData.eqv (.tuple (nInts rt)) (.tuple [])) = _
        rw [eqv_nilT, List.isEmpty_map]
      · have : rt.isEmpty = false := by simpa using hb
        rw [this]
        simp [dN]
      · have : rt.isEmpty = true := by simpa using hb
        rw [this]
        rfl
      · simp [dN]
      have xac := xab.then xc
      have hv7c : IsP Hc v7 (.tup rt) := hv7.ex xc
      refine s_pickP rfl xac.2 (epl_four (p := .tup rt) (i := 7) (j := 12) rfl hv7c rfl hp12 hps (by show 6 ≤ 1000; decide)) (by show 0 < 10; decide) (by show 10 ≤ 1000000; decide) fun v13 pq Hd xd hv13 => ?_
      have xad := xac.trans xd
      have hwd := hw12.ex xad.1
      have hrd := hrow12.ex xad.1
      have hed : IsL Hd v4 ((everyM wk row).map dN) := isL_xr xad ne4 hev12
      have hcd : IsL Hd (.ref p8) (((everyM wk row).map fun rt => ((wr wk row rt : Nat) : Int)).map .int) := isL_xr xad ne8 hc12
      have mainF : Ev (tAndV (tCB (rIsi K) (tCons (tVar 13) (tCons (tC (.ty "tuple")) tNil))) (tAndV (tOp (rInD K) (tVar 13) (tVar 4)) (tOp rEq (tCall (spQ [] fWrong) [] E0 (tCons (tVar 2) (tCons (tVar 3) (tCons (tVar 13) tNil)))) (tC (.int 0))))) [some (.ref a), some (.ref r), some v2, some v3, some v4, y5, y6, some v7, some (.ref p8), some v9, some (.ref p10), some (.int (i : Int)), some (.ref p12), some v13, y14, none, none, none] Hd (.bool (fine0 wk row pq)) := by
        cases pq with
        | tup rt =>
          have ht : Is Hd v13 (dN rt) := hv13
          refine ev_is (ev_andV (ev_isiP (p := .tup rt) rfl hv13 ki_tuple_tuple) fun _ => ev_andV (a := decide (rt ∈ everyM wk row)) (b := decide (wr wk row rt = 0)) (ev_is (ev_inD (ev_var rfl ht) (evv_var rfl hed) (shaped_dN rt) (shaped_dNs _)) (by rw [any_dNs])) fun hm => ?_) ?_
          · have hs := evS (of_decide_eq_true hm)
            refine ev_is (ev_eqI (ev_callQ (T := []) (eaq_cons (ev_var rfl hwd) (eaq_cons (ev_var rfl hrd) (eaq_one (Ev.toQ (ev_var rfl ht))))) ⟨wk, row, rt, rfl, rfl, W, hs.2, rfl⟩ (fun _ z => nomatch z)) ev_int) ?_
            congr 1
            exact decide_eq_decide.mpr (by unfold wr; omega)
          · rw [Bool.true_and]
            rfl
        | non => exact ev_is (ev_andV (a := false) (b := false) (ev_isiP (p := .non) rfl hv13 ki_NoneType_tuple) fun z => nomatch z) rfl
        | lst rt => exact ev_is (ev_andV (a := false) (b := false) (ev_isiP (p := .lst rt) rfl hv13 ki_list_tuple) fun z => nomatch z) rfl
        | dic => exact ev_is (ev_andV (a := false) (b := false) (ev_isiP (p := .dic) rfl hv13 ki_dict_tuple) fun z => nomatch z) rfl
      refine s_set mainF fun v14 He xe h14 => ?_
      refine s_ifE (b := decide (v13 = .non)) (fun σ' H' => ∃ v14, σ' = [some (.ref a), some (.ref r), some v2, some v3, some v4, y5, y6, some v7, some (.ref p8), some v9, some (.ref p10), some (.int (i : Int)), some (.ref p12), some v13, some v14, none, none, none] ∧ Ex Hd H' ∧ Is H' v14 (.bool (fineM wk row j pq))) (eb_B (ev_isN rfl)) ?_ ?_ ?_
      · rintro σ' Hf ⟨v14, rfl, xf, h14⟩
        have xaf := xad.then xf
        refine s_if (b := false) (eb_is (eb_not (eb_B (ev_call (T := []) (ea_cons (ev_callP (eap_cons (ev_var rfl (hwd.ex xf)) (eap_cons (ev_var rfl (hrd.ex xf)) (eap_one (evp_var rfl (hv13.ex xf))))) ⟨wk, row, rfl, W, Fw, hrs, rfl⟩ fun P hP => xT ((ExB.up x5c).trans xaf.1) P hP) (ea_one (ev_is (ev_var rfl h14) (by rw [fine_is hrs.2 hj])))) ⟨_, rfl, .inl (.bl _), rfl⟩ (fun _ z => nomatch z)))) rfl) (fun z => nomatch z) fun _ Hg xg => kz _ Hg ⟨_, _, _, _, _, rfl, xaf.then xg⟩
      · intro hb kj Hf xf
        have epq := hv13.non_iff
        rw [hb] at epq
        cases pq with
        | non =>
          refine s_set (ev_gt (ev_minL (evv_var rfl ((hcd.ex xe).ex xf)) jm jl) ev_int) fun v Hg xg hv => kj _ Hg ⟨v, rfl, (xe.trans xf).trans xg, ?_⟩
          show Is Hg v (.bool (decide (0 < j)))
          have : decide (0 < j) = decide ((0 : Int) < (j : Int)) := decide_eq_decide.mpr (by omega)
          rw [this]
          exact hv
        | tup rt => cases epq
        | lst rt => cases epq
        | dic => cases epq
      · intro hb kj Hf xf
        have epq := hv13.non_iff
        rw [hb] at epq
        refine kj _ Hf ⟨v14, rfl, xe.trans xf, ?_⟩
        cases pq with
        | non => cases epq
        | tup rt => exact h14.ex xf
        | lst rt => exact h14.ex xf
        | dic => exact h14.ex xf
    · rintro n σ' Ha hn ⟨y7, y11, y12', y13, y14, rfl, xa⟩
      dsimp only
      exact s_ret (d := .bool true) ev_bl fun v Hb xb hv => by
        have e := hv.bool_inv
        subst e
        exact q Hb
end
end Dw
set_option Elab.async false
set_option linter.all false
set_option maxRecDepth 100000
set_option maxHeartbeats 4000000
/-! the end: what the top has written, the levels, the walk -/
namespace Dw
open PySem PySem.Spec PyProof.Rows L2 Gx

/-- a def that the top has written -/
structure DIn (K : PySem.W.Frag) (x : Str) (st : Stmt) : Prop where
  ex : ∃ (f : Addr) (fd : FuncData), PySem.W.nsIn K mainGlobals x = some (some (.ref f)) ∧ Fun K x x st f fd
/-- one whose body holds a generator expression: the table of its code object too -/
structure TIn (K : PySem.W.Frag) (h : Heap) (x : Str) (st : Stmt) : Prop where
  ex : ∃ (f c P : Addr) (fd : FuncData), PySem.W.nsIn K mainGlobals x = some (some (.ref f)) ∧ FunC K x x st f fd c ∧ PySem.W.codeHdIn K c P = true ∧ K.lookup P = none ∧ (LamX.OwnTab K f h → h.get? P = some { cls := .none, data := .fields #[] })
theorem dIn_mk {K : PySem.W.Frag} {x : Str} {st : Stmt} {f : Addr} {oc : Value} {od an : Option Addr} {osl : Array (Option Value)} {kV doc pm cd ct : Value} (a : PySem.W.nsIn K mainGlobals x = some (some (.ref f)))
    (l : K.lookup f = some ⟨oc, od, .func (PySem.W.fnOf x x (defArgs st) (defBody st) (defScope st) .none kV doc pm an cd ct), osl⟩) (c : PySem.W.codeIn K cd x = true) (k : PySem.W.keepIn K (.ref f) = true) : DIn K x st := ⟨f, _, a, fun_mk l c k⟩
theorem tIn_mk {K : PySem.W.Frag} {h : Heap} {x : Str} {st : Stmt} {f cA P : Addr} {oc e : Value} {od an dd : Option Addr} {osl sl : Array (Option Value)} {vs : Array Value} {kV doc pm ct : Value} (a : PySem.W.nsIn K mainGlobals x = some (some (.ref f)))
    (l : K.lookup f = some ⟨oc, od, .func (PySem.W.fnOf x x (defArgs st) (defBody st) (defScope st) .none kV doc pm an (.ref cA) ct), osl⟩) (c : PySem.W.codeIn K (.ref cA) x = true) (k : PySem.W.keepIn K (.ref f) = true)
    (lc : K.lookup cA = some ⟨e, dd, .fields vs, sl⟩) (v : vs[11]? = some (.ref P)) (hd : PySem.W.codeHdIn K cA P = true) (lo : K.lookup P = none) : TIn K h x st :=
  ⟨f, cA, P, _, a, funC_mk l c k, hd, lo, fun own => own cA P _ _ e dd vs sl l rfl rfl lc v⟩

theorem all_mk {l : PySem.W.OpenLaw} {w : World} {K : PySem.W.Frag} {h : Heap} {mg : Str → Option Value} {fa : Addr} (X : K.In h) (G : h.Ns mainGlobals mg) (hfa : mg "law" = some (.ref fa))
    (own : ∀ (x : Str) (fx : Addr), x ∈ (["is_route", "is_lot", "is_kind", "need_works", "has_wants", "is_clean", "need_row", "shows_routes"] : List Str) → mg x = some (.ref fx) → LamX.OwnTab K fx h)
    (xn : DIn K "is_number" sIsNumber)
    (xr : TIn K h "is_route" sIsRoute)
    (xl : TIn K h "is_lot" sIsLot)
    (xk : TIn K h "is_kind" sIsKind)
    (xw : TIn K h "need_works" sNeedWorks)
    (xj : DIn K "joined" sJoined)
    (xb : DIn K "behind" sBehind)
    (xh : TIn K h "has_wants" sHasWants)
    (xc : TIn K h "is_clean" sIsClean)
    (xd : DIn K "dyed" sDyed)
    (xa : DIn K "all_plans" sAllPlans)
    (xo : TIn K h "need_row" sNeedRow)
    (xy : DIn K "ways_through" sWaysThrough)
    (xt : DIn K "routes_for" sRoutesFor)
    (xg : DIn K "goes" sGoes)
    (xs : TIn K h "shows_routes" sShowsRoutes)
    (xp : DIn K "plan_for" sPlanFor)
    (xm : DIn K "least_wrong" sLeastWrong)
    (xT : DIn K "_law_taken" sTaken)
    (xY : DIn K "_law_dyes" sDyes)
    (xK : DIn K "_law_works" sWorks)
    (xP : DIn K "_law_pass" sPass)
    (xG : DIn K "_law_good" sGood)
    (xW : DIn K "_law_wrong" sWrong)
    (xA : DIn K "_law_alike" sAlike)
    (xL : DIn K "_law_plans" sPlans)
    (xC : DIn K "_law_pick" sPick)
    (xZ : DIn K "law" sLaw)
    (z_isinstance : PySem.W.nsIn K mainGlobals "isinstance" = some none)
    (z_int : PySem.W.nsIn K mainGlobals "int" = some none)
    (z_bool : PySem.W.nsIn K mainGlobals "bool" = some none)
    (z_tuple : PySem.W.nsIn K mainGlobals "tuple" = some none)
    (z_len : PySem.W.nsIn K mainGlobals "len" = some none)
    (z_all : PySem.W.nsIn K mainGlobals "all" = some none)
    (z_any : PySem.W.nsIn K mainGlobals "any" = some none)
    (z_zip : PySem.W.nsIn K mainGlobals "zip" = some none)
    (z_list : PySem.W.nsIn K mainGlobals "list" = some none)
    (z_sorted : PySem.W.nsIn K mainGlobals "sorted" = some none)
    (z_set : PySem.W.nsIn K mainGlobals "set" = some none)
    (z_range : PySem.W.nsIn K mainGlobals "range" = some none)
    (z_min : PySem.W.nsIn K mainGlobals "min" = some none)
    (z_str : PySem.W.nsIn K mainGlobals "str" = some none)
    {tk0 : Tok} {tk1 : Tok} {tk2 : Tok} {tk3 : Tok} {tk4 : Tok} {tk5 : Tok} {tk6 : Tok}
    (q_MOST_DYES : PySem.W.nsIn K mainGlobals "MOST_DYES" = some (some (.int 5 tk0)))
    (q_MOST_VATS : PySem.W.nsIn K mainGlobals "MOST_VATS" = some (some (.int 5 tk1)))
    (q_MOST_KINDS : PySem.W.nsIn K mainGlobals "MOST_KINDS" = some (some (.int 4 tk2)))
    (q_MOST_ROUTES : PySem.W.nsIn K mainGlobals "MOST_ROUTES" = some (some (.int 8 tk3)))
    (q_MOST_LONG : PySem.W.nsIn K mainGlobals "MOST_LONG" = some (some (.int 6 tk4)))
    (q_MOST_STANDS : PySem.W.nsIn K mainGlobals "MOST_STANDS" = some (some (.int 5000 tk5)))
    (q_MOST_ROW : PySem.W.nsIn K mainGlobals "MOST_ROW" = some (some (.int 30 tk6)))
    : LamX.LawAtS l w K CX0 10 63 "_law_script" mg fa h := by
  obtain ⟨fn, fdn, aan, Fn⟩ := xn.ex
  have gn := PySem.W.mg_of X G aan
  have bbn := Fn.binds (ps := ["value", "low", "high"]) fun _ _ _ _ _ _ us hl => match us, hl with | [_, _, _], _ => rfl
  have kn := Fn.kp
  obtain ⟨fr, cr, Pr, fdr, aar, Fr, hdr, lor, emr⟩ := xr.ex
  have gr := PySem.W.mg_of X G aar
  have emr := emr (own _ _ (by simp) gr)
  have bbr := Fr.fn.binds (ps := ["value", "vats"]) fun _ _ _ _ _ _ us hl => match us, hl with | [_, _], _ => rfl
  have kr := Fr.fn.kp
  obtain ⟨fl, cl, Pl, fdl, aal, Fl, hdl, lol, eml⟩ := xl.ex
  have gl := PySem.W.mg_of X G aal
  have eml := eml (own _ _ (by simp) gl)
  have bbl := Fl.fn.binds (ps := ["value", "many"]) fun _ _ _ _ _ _ us hl => match us, hl with | [_, _], _ => rfl
  have kl := Fl.fn.kp
  obtain ⟨fk, ck, Pk, fdk, aak, Fk, hdk, lok, emk⟩ := xk.ex
  have gk := PySem.W.mg_of X G aak
  have emk := emk (own _ _ (by simp) gk)
  have bbk := Fk.fn.binds (ps := ["value", "dyes", "vats"]) fun _ _ _ _ _ _ us hl => match us, hl with | [_, _, _], _ => rfl
  have kk := Fk.fn.kp
  obtain ⟨fw, cw, Pw, fdw, aaw, Fw, hdw, low, emw⟩ := xw.ex
  have gw := PySem.W.mg_of X G aaw
  have emw := emw (own _ _ (by simp) gw)
  have bbw := Fw.fn.binds (ps := ["value"]) fun _ _ _ _ _ _ us hl => match us, hl with | [_], _ => rfl
  have kw := Fw.fn.kp
  obtain ⟨fj, fdj, aaj, Fj⟩ := xj.ex
  have gj := PySem.W.mg_of X G aaj
  have bbj := Fj.binds (ps := ["one", "other"]) fun _ _ _ _ _ _ us hl => match us, hl with | [_, _], _ => rfl
  have kj := Fj.kp
  obtain ⟨fb, fdb, aab, Fb⟩ := xb.ex
  have gb := PySem.W.mg_of X G aab
  have bbb := Fb.binds (ps := ["stand", "route"]) fun _ _ _ _ _ _ us hl => match us, hl with | [_, _], _ => rfl
  have kb := Fb.kp
  obtain ⟨fh, ch, Ph, fdh, aah, Fh, hdh, loh, emh⟩ := xh.ex
  have gh := PySem.W.mg_of X G aah
  have emh := emh (own _ _ (by simp) gh)
  have bbh := Fh.fn.binds (ps := ["works", "kind", "route"]) fun _ _ _ _ _ _ us hl => match us, hl with | [_, _, _], _ => rfl
  have kh := Fh.fn.kp
  obtain ⟨fc, cc, Pc, fdc, aac, Fc, hdc, loc, emc⟩ := xc.ex
  have gc := PySem.W.mg_of X G aac
  have emc := emc (own _ _ (by simp) gc)
  have bbc := Fc.fn.binds (ps := ["works", "kind", "carried"]) fun _ _ _ _ _ _ us hl => match us, hl with | [_, _, _], _ => rfl
  have kc := Fc.fn.kp
  obtain ⟨fd, fdd, aad, Fd⟩ := xd.ex
  have gd := PySem.W.mg_of X G aad
  have bbd := Fd.binds (ps := ["works", "stand", "kind", "number"]) fun _ _ _ _ _ _ us hl => match us, hl with | [_, _, _, _], _ => rfl
  have kd := Fd.kp
  obtain ⟨fa, fda, aaa, Fa⟩ := xa.ex
  have ga := PySem.W.mg_of X G aaa
  have bba := Fa.binds (ps := ["works"]) fun _ _ _ _ _ _ us hl => match us, hl with | [_], _ => rfl
  have ka := Fa.kp
  obtain ⟨fo, co, Po, fdo, aao, Fo, hdo, loo, emo⟩ := xo.ex
  have go := PySem.W.mg_of X G aao
  have emo := emo (own _ _ (by simp) go)
  have bbo := Fo.fn.binds (ps := ["works", "value"]) fun _ _ _ _ _ _ us hl => match us, hl with | [_, _], _ => rfl
  have ko := Fo.fn.kp
  obtain ⟨fy, fdy, aay, Fy⟩ := xy.ex
  have gy := PySem.W.mg_of X G aay
  have bby := Fy.binds (ps := ["works", "row"]) fun _ _ _ _ _ _ us hl => match us, hl with | [_, _], _ => rfl
  have ky := Fy.kp
  obtain ⟨ft, fdt, aat, Ft⟩ := xt.ex
  have gt := PySem.W.mg_of X G aat
  have bbt := Ft.binds (ps := ["works", "row"]) fun _ _ _ _ _ _ us hl => match us, hl with | [_, _], _ => rfl
  have kt := Ft.kp
  obtain ⟨fg, fdg, aag, Fg⟩ := xg.ex
  have gg := PySem.W.mg_of X G aag
  have bbg := Fg.binds (ps := ["works", "row", "routes"]) fun _ _ _ _ _ _ us hl => match us, hl with | [_, _, _], _ => rfl
  have kg := Fg.kp
  obtain ⟨fs, cs, Ps, fds, aas, Fs, hds, los, ems⟩ := xs.ex
  have gs := PySem.W.mg_of X G aas
  have ems := ems (own _ _ (by simp) gs)
  have bbs := Fs.fn.binds (ps := ["works", "row", "value"]) fun _ _ _ _ _ _ us hl => match us, hl with | [_, _, _], _ => rfl
  have ks := Fs.fn.kp
  obtain ⟨fp, fdp, aap, Fp⟩ := xp.ex
  have gp := PySem.W.mg_of X G aap
  have bbp := Fp.binds (ps := ["works", "row"]) fun _ _ _ _ _ _ us hl => match us, hl with | [_, _], _ => rfl
  have kp := Fp.kp
  obtain ⟨fm, fdm, aam, Fm⟩ := xm.ex
  have gm := PySem.W.mg_of X G aam
  have bbm := Fm.binds (ps := ["works", "row"]) fun _ _ _ _ _ _ us hl => match us, hl with | [_, _], _ => rfl
  have km := Fm.kp
  obtain ⟨fT, fdT, aaT, FT⟩ := xT.ex
  have gT := PySem.W.mg_of X G aaT
  have bbT := FT.binds (ps := ["_law_row", "_law_many"]) fun _ _ _ _ _ _ us hl => match us, hl with | [_, _], _ => rfl
  have kT := FT.kp
  obtain ⟨fY, fdY, aaY, FY⟩ := xY.ex
  have gY := PySem.W.mg_of X G aaY
  have bbY := FY.binds (ps := ["_law_row", "_law_dyes_here", "_law_many"]) fun _ _ _ _ _ _ us hl => match us, hl with | [_, _, _], _ => rfl
  have kY := FY.kp
  obtain ⟨fK, fdK, aaK, FK⟩ := xK.ex
  have gK := PySem.W.mg_of X G aaK
  have bbK := FK.binds (ps := ["_law_row"]) fun _ _ _ _ _ _ us hl => match us, hl with | [_], _ => rfl
  have kK := FK.kp
  obtain ⟨fP, fdP, aaP, FP⟩ := xP.ex
  have gP := PySem.W.mg_of X G aaP
  have bbP := FP.binds (ps := ["_law_stand", "_law_route"]) fun _ _ _ _ _ _ us hl => match us, hl with | [_, _], _ => rfl
  have kP := FP.kp
  obtain ⟨fG, fdG, aaG, FG⟩ := xG.ex
  have gG := PySem.W.mg_of X G aaG
  have bbG := FG.binds (ps := ["_law_works_here", "_law_stand", "_law_kind", "_law_number"]) fun _ _ _ _ _ _ us hl => match us, hl with | [_, _, _, _], _ => rfl
  have kG := FG.kp
  obtain ⟨fW, fdW, aaW, FW⟩ := xW.ex
  have gW := PySem.W.mg_of X G aaW
  have bbW := FW.binds (ps := ["_law_works_here", "_law_row", "_law_routes"]) fun _ _ _ _ _ _ us hl => match us, hl with | [_, _, _], _ => rfl
  have kW := FW.kp
  obtain ⟨fA, fdA, aaA, FA⟩ := xA.ex
  have gA := PySem.W.mg_of X G aaA
  have bbA := FA.binds (ps := ["_law_found", "_law_due"]) fun _ _ _ _ _ _ us hl => match us, hl with | [_, _], _ => rfl
  have kA := FA.kp
  obtain ⟨fL, fdL, aaL, FL⟩ := xL.ex
  have gL := PySem.W.mg_of X G aaL
  have bbL := FL.binds (ps := ["_law_works_here"]) fun _ _ _ _ _ _ us hl => match us, hl with | [_], _ => rfl
  have kL := FL.kp
  obtain ⟨fC, fdC, aaC, FC⟩ := xC.ex
  have gC := PySem.W.mg_of X G aaC
  have bbC := FC.binds (ps := ["_law_row", "_law_things"]) fun _ _ _ _ _ _ us hl => match us, hl with | [_, _], _ => rfl
  have kC := FC.kp
  obtain ⟨fZ, fdZ, aaZ, FZ⟩ := xZ.ex
  have gZ := PySem.W.mg_of X G aaZ
  have bbZ := FZ.binds (ps := ["_law_script"]) fun _ _ _ _ _ _ us hl => match us, hl with | [_], _ => rfl
  have kZ := FZ.kp
  have m_isinstance := PySem.W.mg_none_of X G z_isinstance
  have m_int := PySem.W.mg_none_of X G z_int
  have m_bool := PySem.W.mg_none_of X G z_bool
  have m_tuple := PySem.W.mg_none_of X G z_tuple
  have m_len := PySem.W.mg_none_of X G z_len
  have m_all := PySem.W.mg_none_of X G z_all
  have m_any := PySem.W.mg_none_of X G z_any
  have m_zip := PySem.W.mg_none_of X G z_zip
  have m_list := PySem.W.mg_none_of X G z_list
  have m_sorted := PySem.W.mg_none_of X G z_sorted
  have m_set := PySem.W.mg_none_of X G z_set
  have m_range := PySem.W.mg_none_of X G z_range
  have m_min := PySem.W.mg_none_of X G z_min
  have m_str := PySem.W.mg_none_of X G z_str
  have n_MOST_DYES := PySem.W.mg_of X G q_MOST_DYES
  have n_MOST_VATS := PySem.W.mg_of X G q_MOST_VATS
  have n_MOST_KINDS := PySem.W.mg_of X G q_MOST_KINDS
  have n_MOST_ROUTES := PySem.W.mg_of X G q_MOST_ROUTES
  have n_MOST_LONG := PySem.W.mg_of X G q_MOST_LONG
  have n_MOST_STANDS := PySem.W.mg_of X G q_MOST_STANDS
  have n_MOST_ROW := PySem.W.mg_of X G q_MOST_ROW
  have e := hfa.symm.trans gZ
  cases e
  refine ⟨fdZ, [(cw, Pw), (ck, Pk), (cl, Pl), (cr, Pr), (co, Po), (ch, Ph), (cc, Pc), (cs, Ps)], spLaw K [Pw, Pk, Pl, Pr, Po, Ph, Pc, Ps], (by simp only [List.forall_mem_cons]; exact ⟨emw, emk, eml, emr, emo, emh, emc, ems, fun _ hz => (nomatch hz)⟩), (by simp only [List.forall_mem_cons]; exact ⟨low, lok, lol, lor, loo, loh, loc, los, fun _ hz => (nomatch hz)⟩), (by simp only [List.forall_mem_cons]; exact ⟨PySem.W.codeHd_of_K X hdw, PySem.W.codeHd_of_K X hdk, PySem.W.codeHd_of_K X hdl, PySem.W.codeHd_of_K X hdr, PySem.W.codeHd_of_K X hdo, PySem.W.codeHd_of_K X hdh, PySem.W.codeHd_of_K X hdc, PySem.W.codeHd_of_K X hds, fun _ hz => (nomatch hz)⟩), fun s v => (by obtain ⟨_, _, _, _, _, _, _, _, _, e, _, _⟩ := FZ.ex; rw [e]; exact .of_eq rfl), fun H a ns _ _ hT hS => ⟨a, ns, rfl, hS, ?_, fun H' => rfl⟩, fun base hB nB TBs => ?_⟩
  · intro P hP
    obtain ⟨q, hq, e⟩ := List.mem_map.mp (show P ∈ ([(cw, Pw), (ck, Pk), (cl, Pl), (cr, Pr), (co, Po), (ch, Ph), (cc, Pc), (cs, Ps)] : List (Addr × Addr)).map (·.2) from hP)
    rw [← e]
    exact TabD.nil (hT q hq) 1
  have tw : TB base mg cw Pw := TBs (cw, Pw) (by simp)
  have tk : TB base mg ck Pk := TBs (ck, Pk) (by simp)
  have tl : TB base mg cl Pl := TBs (cl, Pl) (by simp)
  have tr : TB base mg cr Pr := TBs (cr, Pr) (by simp)
  have to_ : TB base mg co Po := TBs (co, Po) (by simp)
  have th : TB base mg ch Ph := TBs (ch, Ph) (by simp)
  have tc : TB base mg cc Pc := TBs (cc, Pc) (by simp)
  have ts : TB base mg cs Ps := TBs (cs, Ps) (by simp)
  have Gn : FnOk l.prog w K mg base CX0 1 _ _ _ _ := ok_is_number Fn m_isinstance m_int m_bool
  have Gr : FnOk l.prog w K mg base CX0 3 _ _ _ _ := ok_is_route (kn := 1) Fr tr (by decide) m_isinstance m_tuple m_len m_all _ n_MOST_LONG gn kn bbn (Gn.mono (k := 1) (by decide))
  have Gl : FnOk l.prog w K mg base CX0 3 _ _ _ _ := ok_is_lot (kn := 1) Fl tl (by decide) m_isinstance m_tuple m_zip m_all gn kn bbn (Gn.mono (k := 1) (by decide))
  have Gk : FnOk l.prog w K mg base CX0 5 _ _ _ _ := ok_is_kind (kn := 3) Fk tk (by decide) m_isinstance m_tuple m_len m_all _ n_MOST_ROUTES gl kl bbl (Gl.mono (k := 3) (by decide)) gr kr bbr (Gr.mono (k := 3) (by decide))
  have Gw : FnOk l.prog w K mg base CX0 7 _ _ _ _ := ok_need_works (kn := 5) Fw tw (by decide) m_isinstance m_tuple m_len m_all _ _ _ n_MOST_DYES n_MOST_VATS n_MOST_KINDS gn kn bbn (Gn.mono (k := 5) (by decide)) gl kl bbl (Gl.mono (k := 5) (by decide)) gk kk bbk (Gk.mono (k := 5) (by decide))
  have Gj : FnOk l.prog w K mg base CX0 1 _ _ _ _ := ok_joined Fj m_tuple m_sorted m_set
  have Gb : FnOk l.prog w K mg base CX0 2 _ _ _ _ := ok_behind (kn := 1) Fb (by decide) m_tuple m_list gj kj bbj (Gj.mono (k := 1) (by decide))
  have Gh : FnOk l.prog w K mg base CX0 3 _ _ _ _ := ok_has_wants Fh th (by decide) m_any m_all
  have Gc : FnOk l.prog w K mg base CX0 2 _ _ _ _ := ok_is_clean Fc tc (by decide) m_any
  have Gd : FnOk l.prog w K mg base CX0 4 _ _ _ _ := ok_dyed (kn := 3) Fd (by decide) gb kb bbb (Gb.mono (k := 3) (by decide)) gh kh bbh (Gh.mono (k := 3) (by decide)) gc kc bbc (Gc.mono (k := 3) (by decide))
  have Ga : FnOk l.prog w K mg base CX0 1 _ _ _ _ := ok_all_plans Fa m_range m_len
  have Go : FnOk l.prog w K mg base CX0 3 _ _ _ _ := ok_need_row (kn := 1) Fo to_ (by decide) m_isinstance m_tuple m_len m_all _ n_MOST_ROW gn kn bbn (Gn.mono (k := 1) (by decide))
  have Gy : FnOk l.prog w K mg base CX0 5 _ _ _ _ := ok_ways (kn := 4) Fy (by decide) m_range m_len _ n_MOST_STANDS gd kd bbd (Gd.mono (k := 4) (by decide))
  have Gt : FnOk l.prog w K mg base CX0 8 _ _ _ _ := ok_routes (kn := 7) Ft (by decide) m_list gw kw bbw (Gw.mono (k := 7) (by decide)) go ko bbo (Go.mono (k := 7) (by decide)) gy ky bby (Gy.mono (k := 7) (by decide))
  have Gg : FnOk l.prog w K mg base CX0 5 _ _ _ _ := ok_goes (kn := 4) Fg (by decide) m_zip gd kd bbd (Gd.mono (k := 4) (by decide))
  have Gs : FnOk l.prog w K mg base CX0 9 _ _ _ _ := ok_shows (kn := 7) Fs ts (by decide) m_isinstance m_tuple m_len m_all m_zip gn kn bbn (Gn.mono (k := 7) (by decide)) gw kw bbw (Gw.mono (k := 7) (by decide)) go ko bbo (Go.mono (k := 7) (by decide)) gy ky bby (Gy.mono (k := 7) (by decide)) gg kg bbg (Gg.mono (k := 7) (by decide))
  have Gp : FnOk l.prog w K mg base CX0 8 _ _ _ _ := ok_plan_for (kn := 7) Fp (by decide) gw kw bbw (Gw.mono (k := 7) (by decide)) go ko bbo (Go.mono (k := 7) (by decide)) ga ka bba (Ga.mono (k := 7) (by decide)) gg kg bbg (Gg.mono (k := 7) (by decide))
  have Gm : FnOk l.prog w K mg base CX0 8 _ _ _ _ := ok_least (kn := 7) Fm (by decide) m_range m_len m_min _ n_MOST_STANDS gw kw bbw (Gw.mono (k := 7) (by decide)) go ko bbo (Go.mono (k := 7) (by decide)) gd kd bbd (Gd.mono (k := 7) (by decide))
  have GT : FnOk l.prog w K mg base CX0 1 _ _ _ _ := ok_taken FT m_int m_len
  have GY : FnOk l.prog w K mg base CX0 2 _ _ _ _ := ok_dyes (kn := 1) FY (by decide) m_tuple m_range gT kT bbT (GT.mono (k := 1) (by decide))
  have GK : FnOk l.prog w K mg base CX0 3 _ _ _ _ := ok_works (kn := 2) FK (by decide) m_tuple m_range m_list gT kT bbT (GT.mono (k := 2) (by decide)) gY kY bbY (GY.mono (k := 2) (by decide))
  have GP : FnOk l.prog w K mg base CX0 1 _ _ _ _ := ok_pass FP m_tuple m_list m_sorted m_set
  have GG : FnOk l.prog w K mg base CX0 2 _ _ _ _ := ok_good (kn := 1) FG (by decide) m_list gP kP bbP (GP.mono (k := 1) (by decide))
  have GW : FnOk l.prog w K mg base CX0 3 _ _ _ _ := ok_wrong (kn := 2) FW (by decide) m_zip m_int gG kG bbG (GG.mono (k := 2) (by decide)) gP kP bbP (GP.mono (k := 2) (by decide))
  have GA0 : FnOk l.prog w K mg base CX0 1 _ _ _ _ := ok_alike0 FA m_isinstance m_tuple m_list m_str m_int m_bool
  have GAT : FnOk l.prog w K mg base CX0 2 _ _ _ _ := ok_alikeT (kn := 1) FA (by decide) m_isinstance m_tuple m_list m_len m_range gA kA bbA GA0
  have GA := alike_all (GA0.mono (k := 2) (by decide)) GAT
  have GL : FnOk l.prog w K mg base CX0 1 _ _ _ _ := ok_plans FL m_range m_len
  have GC : FnOk l.prog w K mg base CX0 2 _ _ _ _ := ok_pick (kn := 1) FC (by decide) m_len gT kT bbT (GT.mono (k := 1) (by decide))
  exact ok_law (kn := 9) (k := 9) FZ (by decide) m_tuple m_range m_len m_min m_list m_isinstance ⟨_, _, gT, kT, bbT, GT.mono (by decide)⟩ ⟨_, _, gK, kK, bbK, GK.mono (by decide)⟩ ⟨_, _, gA, kA, bbA, GA.mono (by decide)⟩ ⟨_, _, gm, km, bbm, Gm.mono (by decide)⟩ ⟨_, _, gt, kt, bbt, Gt.mono (by decide)⟩ ⟨_, _, gs, ks, bbs, Gs.mono (by decide)⟩ ⟨_, _, gW, kW, bbW, GW.mono (by decide)⟩ ⟨_, _, gL, kL, bbL, GL.mono (by decide)⟩ ⟨_, _, gp, kp, bbp, Gp.mono (by decide)⟩ ⟨_, _, gC, kC, bbC, GC.mono (by decide)⟩
/-- the way to the row: EndOwn's, with the table of every def of the text -/
theorem walk {l : PySem.W.OpenLaw} {n k : Nat} {q : Program} {loose : List Str} {XP : (Str → Option Value) → Heap → Prop} {YP : World → Heap → Prop} {d : DefRec} {K : Params → PySem.W.Frag} {CX : World → CXT} {x : Str}
    (hn : l.most = some n) (hn2 : n ≤ sizeLine) (hdf : d.params.defaults = []) (hr : Room k callerA) (hY : ∀ (w : World) (h : Heap), YP w h → (K w.params).In h)
    (F : ∀ (w : World) (mg : Str → Option Value) (fa : Addr) (h : Heap), (K w.params).In h → h.Ns mainGlobals mg → mg d.name = some (.ref fa) →
      (∀ (y : Str) (fx : Addr), ((recsOf q).any fun e => e.name == y) = true → mg y = some (.ref fx) → LamX.OwnTab (K w.params) fx h) → LamX.LawAtS l w (K w.params) (CX w) k n x mg fa h)
    (hCX : ∀ (w : World) (H : Hp) (s : Shared) (e : Value) (s' : Shared), CX w [] H s (fun _ _ _ => False) e s' → False) :
    PySem.W.WalkO q loose XP YP l.row.toRowW d [] (fun f vs => PySem.call f vs) := by
  refine Att.attach_callB hn hdf fun w s₀ s₁ mg mb fa o pm cd doc a vs ns G Y ho hd hcd hmg hobj hints hlen hbits hg => ?_
  have KX := hY w _ Y
  have own : ∀ (y : Str) (fx : Addr), ((recsOf q).any fun e => e.name == y) = true → mg y = some (.ref fx) → LamX.OwnTab (K w.params) fx s₁.heap := fun y fx hrec hy c P o1 fd1 e dd vs1 sl k1 k2 k3 k4 k5 => by
    obtain ⟨dL, hm, hn1⟩ := List.any_eq_true.mp hrec
    have hn2 : dL.name = y := beq_iff_eq.mp hn1
    obtain ⟨a', o', fd', c', P', h1, h2, h3, h4, h5, h6⟩ := G.T.tab dL hm
    rw [hn2, hy] at h1
    cases h1
    have g1 := KX _ _ k1
    rw [g1] at h2
    cases h2
    rw [k2] at h3
    cases h3
    rw [k3] at h4
    cases h4
    obtain ⟨⟨oc, vc, e1, _, e3, e4⟩, hP⟩ := h6
    have g2 := KX _ _ k4
    rw [g2] at e1
    cases e1
    cases e3
    rw [k5] at e4
    cases e4
    exact hP
  obtain ⟨fd, cs, sp, hT, nT, C, hb, hsp, hF⟩ := F w mg fa _ KX G.T.g hmg own
  exact LamX.law_callTs KX G.T.g G.T.b G.T.builtins G.T.nolimit hg hT nT C G.T.bmain hobj hints (Nat.le_trans hlen hn2) hr hF hb (fun H hH hS => hsp H a ns hlen hbits hH hS) fun H e s' => hCX w H s₁ e s'
end Dw
open PySem PySem.W PyProof.Rows
set_option Elab.async false
set_option linter.all false
set_option maxRecDepth 100000 in
set_option maxHeartbeats 0 in
theorem PySem.Challenge.cw_dyeworks_k11_whole_rows_holds : PySem.Challenge.rw_dyeworks_k11_whole_rows.Holds := by
  w_on; o_law; k_head; (case hw => w_witness2)
  k_fill
  refine Dw.walk (l := PySem.Challenge.rw_dyeworks_k11_whole_rows) (n := 63) (k := 10) (x := "_law_script") (CX := fun _ => L2.CX0) rfl (by decide) rfl ⟨rfl, by decide, by decide⟩ (fun w h Y => PySem.W.kIn_of Y) ?F (fun _ _ _ _ _ z => z)
  case F =>
    intro w mg fa h KX G hmg own
    refine' Dw.all_mk KX G hmg ?own ?xn ?xr ?xl ?xk ?xw ?xj ?xb ?xh ?xc ?xd ?xa ?xo ?xy ?xt ?xg ?xs ?xp ?xm ?xT ?xY ?xK ?xP ?xG ?xW ?xA ?xL ?xC ?xZ ?z_isinstance ?z_int ?z_bool ?z_tuple ?z_len ?z_all ?z_any ?z_zip ?z_list ?z_sorted ?z_set ?z_range ?z_min ?z_str ?q_MOST_DYES ?q_MOST_VATS ?q_MOST_KINDS ?q_MOST_ROUTES ?q_MOST_LONG ?q_MOST_STANDS ?q_MOST_ROW
    case own =>
      intro x fx hx hy
      refine own x fx ?_ hy
      clear own hy
      revert x
      simp only [List.forall_mem_cons]
      exact ⟨by decide +kernel, by decide +kernel, by decide +kernel, by decide +kernel, by decide +kernel, by decide +kernel, by decide +kernel, by decide +kernel, fun _ hz => (nomatch hz)⟩
    (case xn => (refine' Dw.dIn_mk ?a ?l ?c ?k); (case a => k_is); (case l => k_is); (case c => k_is); (case k => k_is))
    (case xr => (refine' Dw.tIn_mk ?a ?l ?c ?k ?lc ?v ?hd ?lo); (case a => k_is); (case l => k_is); (case c => k_is); (case k => k_is); (case lc => k_is); (case v => rfl); (case hd => kernel_rfl); (case lo => kernel_rfl))
    (case xl => (refine' Dw.tIn_mk ?a ?l ?c ?k ?lc ?v ?hd ?lo); (case a => k_is); (case l => k_is); (case c => k_is); (case k => k_is); (case lc => k_is); (case v => rfl); (case hd => kernel_rfl); (case lo => kernel_rfl))
    (case xk => (refine' Dw.tIn_mk ?a ?l ?c ?k ?lc ?v ?hd ?lo); (case a => k_is); (case l => k_is); (case c => k_is); (case k => k_is); (case lc => k_is); (case v => rfl); (case hd => kernel_rfl); (case lo => kernel_rfl))
    (case xw => (refine' Dw.tIn_mk ?a ?l ?c ?k ?lc ?v ?hd ?lo); (case a => k_is); (case l => k_is); (case c => k_is); (case k => k_is); (case lc => k_is); (case v => rfl); (case hd => kernel_rfl); (case lo => kernel_rfl))
    (case xj => (refine' Dw.dIn_mk ?a ?l ?c ?k); (case a => k_is); (case l => k_is); (case c => k_is); (case k => k_is))
    (case xb => (refine' Dw.dIn_mk ?a ?l ?c ?k); (case a => k_is); (case l => k_is); (case c => k_is); (case k => k_is))
    (case xh => (refine' Dw.tIn_mk ?a ?l ?c ?k ?lc ?v ?hd ?lo); (case a => k_is); (case l => k_is); (case c => k_is); (case k => k_is); (case lc => k_is); (case v => rfl); (case hd => kernel_rfl); (case lo => kernel_rfl))
    (case xc => (refine' Dw.tIn_mk ?a ?l ?c ?k ?lc ?v ?hd ?lo); (case a => k_is); (case l => k_is); (case c => k_is); (case k => k_is); (case lc => k_is); (case v => rfl); (case hd => kernel_rfl); (case lo => kernel_rfl))
    (case xd => (refine' Dw.dIn_mk ?a ?l ?c ?k); (case a => k_is); (case l => k_is); (case c => k_is); (case k => k_is))
    (case xa => (refine' Dw.dIn_mk ?a ?l ?c ?k); (case a => k_is); (case l => k_is); (case c => k_is); (case k => k_is))
    (case xo => (refine' Dw.tIn_mk ?a ?l ?c ?k ?lc ?v ?hd ?lo); (case a => k_is); (case l => k_is); (case c => k_is); (case k => k_is); (case lc => k_is); (case v => rfl); (case hd => kernel_rfl); (case lo => kernel_rfl))
    (case xy => (refine' Dw.dIn_mk ?a ?l ?c ?k); (case a => k_is); (case l => k_is); (case c => k_is); (case k => k_is))
    (case xt => (refine' Dw.dIn_mk ?a ?l ?c ?k); (case a => k_is); (case l => k_is); (case c => k_is); (case k => k_is))
    (case xg => (refine' Dw.dIn_mk ?a ?l ?c ?k); (case a => k_is); (case l => k_is); (case c => k_is); (case k => k_is))
    (case xs => (refine' Dw.tIn_mk ?a ?l ?c ?k ?lc ?v ?hd ?lo); (case a => k_is); (case l => k_is); (case c => k_is); (case k => k_is); (case lc => k_is); (case v => rfl); (case hd => kernel_rfl); (case lo => kernel_rfl))
    (case xp => (refine' Dw.dIn_mk ?a ?l ?c ?k); (case a => k_is); (case l => k_is); (case c => k_is); (case k => k_is))
    (case xm => (refine' Dw.dIn_mk ?a ?l ?c ?k); (case a => k_is); (case l => k_is); (case c => k_is); (case k => k_is))
    (case xT => (refine' Dw.dIn_mk ?a ?l ?c ?k); (case a => k_is); (case l => k_is); (case c => k_is); (case k => k_is))
    (case xY => (refine' Dw.dIn_mk ?a ?l ?c ?k); (case a => k_is); (case l => k_is); (case c => k_is); (case k => k_is))
    (case xK => (refine' Dw.dIn_mk ?a ?l ?c ?k); (case a => k_is); (case l => k_is); (case c => k_is); (case k => k_is))
    (case xP => (refine' Dw.dIn_mk ?a ?l ?c ?k); (case a => k_is); (case l => k_is); (case c => k_is); (case k => k_is))
    (case xG => (refine' Dw.dIn_mk ?a ?l ?c ?k); (case a => k_is); (case l => k_is); (case c => k_is); (case k => k_is))
    (case xW => (refine' Dw.dIn_mk ?a ?l ?c ?k); (case a => k_is); (case l => k_is); (case c => k_is); (case k => k_is))
    (case xA => (refine' Dw.dIn_mk ?a ?l ?c ?k); (case a => k_is); (case l => k_is); (case c => k_is); (case k => k_is))
    (case xL => (refine' Dw.dIn_mk ?a ?l ?c ?k); (case a => k_is); (case l => k_is); (case c => k_is); (case k => k_is))
    (case xC => (refine' Dw.dIn_mk ?a ?l ?c ?k); (case a => k_is); (case l => k_is); (case c => k_is); (case k => k_is))
    (case xZ => (refine' Dw.dIn_mk ?a ?l ?c ?k); (case a => k_is); (case l => k_is); (case c => k_is); (case k => k_is))
    (case z_isinstance => k_is)
    (case z_int => k_is)
    (case z_bool => k_is)
    (case z_tuple => k_is)
    (case z_len => k_is)
    (case z_all => k_is)
    (case z_any => k_is)
    (case z_zip => k_is)
    (case z_list => k_is)
    (case z_sorted => k_is)
    (case z_set => k_is)
    (case z_range => k_is)
    (case z_min => k_is)
    (case z_str => k_is)
    (case q_MOST_DYES => k_is)
    (case q_MOST_VATS => k_is)
    (case q_MOST_KINDS => k_is)
    (case q_MOST_ROUTES => k_is)
    (case q_MOST_LONG => k_is)
    (case q_MOST_STANDS => k_is)
    (case q_MOST_ROW => k_is)
#print axioms PySem.Challenge.cw_dyeworks_k11_whole_rows_holds
