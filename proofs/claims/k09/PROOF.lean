import PyProof.Rows.All
import Wide.All
import OpenK.AllK
import Wide.FinOn
import HandS.ForMost
import HandS.ForExc
import HandS.Lambda
import HandS.GenList
import HandS.AnyAll
import KE.SortData
import KE.LtData
import PyProof.TupleOfGen
import HandS.TupAny
import HandS.Style
import HandS.Wide
import KE.DataCmp
import KE.DataMinMax
import HandS.TupMul
import HandS.Deep
import HandS.TupLen
import HandS.WordsDict
import HandS.WordsExc
import HandS.HeadHook4
import HandS.Defaults
import HandS.Zip
import KE.KStateDown
import HandS.Base
import HandS.Call
import HandS.Ends
import HandS.More
import HandS.Words
import HandS.Head0
import HandS.Head1
import HandS.Head2
import HandS.HeadEnd
import HandS.HeadHook1
import HandS.HeadHook2
import HandS.HeadHook3
import HandS.HeadWalk
import PySem.Challenge.RW_woodstack_k09_stairs_between_floors
section
set_option Elab.async false
set_option linter.all false
set_option maxRecDepth 100000
set_option maxHeartbeats 4100000
/-! generator expressions over the hand layer -/
namespace Gx
open PySem PySem.Spec PyProof.Rows L2 GenW

/-! ### making the frame -/
abbrev gEnv (scope : Scope) (cl : List (Str × Addr)) (C : Addr) (code : Value) (bi : Addr) (env : Env) : Env :=
  ⟨scope, C, env.globals, cl, env.qual ++ "<genexpr>.", none, code, some C, bi⟩

abbrev fr0 : Obj := { cls := .type "frame", data := .dict #[] }
theorem newEnv_gen {M : Model} {A : Around} {E : Value → Shared → Prop} {s : Shared} {scope : Scope} {globals : Addr} {closure : List (Str × Addr)} {qual : Str} {code it : Value} {builtins : Addr} {Q : Env → Shared → Prop}
    (hk : scope.kind = .function) (h0 : scope.names.lookup (".0" : Str) = some NameKind.local)
    (h : ∀ h', h'.Ns s.heap.objs.size (fun y => if y = (".0" : Str) then some it else none) → Heap.SameBut s.heap.objs.size (pushCells (s.heap.push fr0) scope.names) h' →
      Q ⟨scope, s.heap.objs.size, globals, cellsFrom (s.heap.objs.size + 1) scope.names closure, qual, none, code, some s.heap.objs.size, builtins⟩ { s with heap := h', toks := s.toks + 1 }) :
    wpAny M A (newFunctionEnv scope globals closure [(".0", it)] qual none code none builtins) Q E s := by
  have hsz : (s.heap.push fr0).objs.size = s.heap.objs.size + 1 := Heap.size_push ..
  have empty : (pushCells (s.heap.push fr0) scope.names).Ns s.heap.objs.size (fun _ => none) := (Heap.Ns.new s.heap (.type "frame")).keeps (pushCells_keeps _ _)
  unfold newFunctionEnv
  simp only [Option.isSome_none, Bool.false_eq_true, if_false, List.forIn_cons, List.forIn_nil]
  apply wpAny_bind
  apply wpAny_alloc
  apply wpAny_bind
  apply wpAny_layCells _ (fun n k c => by cases hkc : k == NameKind.cell <;> simp [hkc]) scope.names closure
  show wpAny _ _ _ _ _ { s with heap := pushCells (s.heap.push fr0) scope.names, toks := _ }
  simp only [hsz]
  apply wpAny_bind
  apply wpAny_bind
  apply wpAny_bind
  refine wpAny_storeName_local (m := fun _ => none) h0 empty (fun h' hn' hs' => ?_) (by rw [show (Env.scope _).kind = _ from hk]; rfl)
  exact wpAny_pure (wpAny_pure (wpAny_pure (h h' hn' hs')))

/-- the context of the generator's code -/
abbrev gCx (X : Cx) (A : Around) (s : Shared) (H : Hp) (cenv : Env) (fp : List Addr) (pn : List (Addr × Obj)) : Cx :=
  { X with A := A, s_0 := s, H_0 := H, env := cenv, outer := X.stack, stack := cenv :: X.stack, ex := fp, fn := fun x => cenv.scope.names.lookup x == some .cell, calm := true, pn := pn, xe := fun _ _ => False }

/-! ### the frame's cells: how they stand to those around -/
structure Laid (names : List (Str × NameKind)) (old new : List (Str × Addr)) (n : Nat) (hp : Heap) : Prop where
  mine : ∀ y, names.lookup y = some .cell → ∃ c, new.lookup y = some c
  theirs : ∀ y, names.lookup y = some .free → ∃ c, new.lookup y = some c ∧ old.lookup y = some c
  src : ∀ y c, new.lookup y = some c → ((y, NameKind.free) ∈ names ∧ old.lookup y = some c ∧ c < n) ∨ ((y, NameKind.cell) ∈ names ∧ n < c ∧ hp.IsCell c none)
  one : ∀ y z c, new.lookup y = some c → new.lookup z = some c → y = z

/-- what a closure list holds: the old cells of the free names -/
theorem clo_of {old : List (Str × Addr)} {names : List (Str × NameKind)} {n : Nat} (hold : ∀ y, (y, NameKind.free) ∈ names → ∃ c, old.lookup y = some c ∧ c < n) (y : Str) (c : Addr) (hm : (y, c) ∈ cloFrom old names []) :
    (y, NameKind.free) ∈ names ∧ old.lookup y = some c ∧ c < n := by
  obtain hm | ⟨hy, hc⟩ := cloFrom_mem hm
  · exact absurd hm List.not_mem_nil
  · obtain ⟨c', hl, hlt⟩ := hold y hy
    rw [hl, Option.getD_some] at hc
    subst hc
    exact ⟨hy, hl, hlt⟩

theorem laid_of {old : List (Str × Addr)} {names : List (Str × NameKind)} {hb hp : Heap} {n : Nat} (hn : hb.objs.size = n + 1) (huq : ∀ p ∈ names, names.lookup p.1 = some p.2)
    (hold : ∀ y, (y, NameKind.free) ∈ names → ∃ c, old.lookup y = some c ∧ c < n) (hinj : ∀ y z c, old.lookup y = some c → old.lookup z = some c → y = z)
    (hcell : ∀ c, n < c → (pushCells hb names).IsCell c none → hp.IsCell c none) : Laid names old (cellsFrom (n + 1) names (cloFrom old names [])) n hp := by
  have from_ : ∀ y c, (cellsFrom hb.objs.size names (cloFrom old names [])).lookup y = some c → ((y, NameKind.free) ∈ names ∧ old.lookup y = some c ∧ c < n) ∨ ((y, NameKind.cell) ∈ names ∧ n < c ∧ hp.IsCell c none) := fun y c hl =>
    match cells_mem (mem_of_lookup hl) with
    | .inl hm => .inl (clo_of hold y c hm)
    | .inr ⟨hy, hc, hx⟩ => have hc : n < c := by rw [hn] at hc; exact hc
      .inr ⟨hy, hc, hcell c hc hx⟩
  rw [← hn]
  refine ⟨fun y hy => ?_, fun y hy => ?_, from_, fun y z c hy hz => ?_⟩
  · obtain ⟨c, hc⟩ := cells_has (n := hb.objs.size) (acc := cloFrom old names []) (mem_of_lookup hy)
    exact mem_lookup hc
  · obtain ⟨c, hc⟩ := mem_lookup (cells_acc (n := hb.objs.size) (names := names) (cloFrom_has (cells := old) (acc := []) (mem_of_lookup hy)))
    obtain ⟨_, ho, _⟩ | ⟨hbad, _⟩ := from_ y c hc
    · exact ⟨c, hc, ho⟩
    · exact nomatch (huq _ hbad).symm.trans hy
  · have lo : ∀ p ∈ cloFrom old names [], p.2 < hb.objs.size := fun p hp => by rw [hn]; exact Nat.lt_succ_of_lt (clo_of hold p.1 p.2 hp).2.2
    exact cells_inj lo (fun u v d hu hv => hinj u v d (clo_of hold u d hu).2.1 (clo_of hold v d hv).2.1) (mem_of_lookup hy) (mem_of_lookup hz)

section
variable {X : Cx} {σ : L2.St} {H : Hp} {s : Shared} {pins : List (Addr × Obj)}

/-- free names of the generator are cells around -/
theorem free_around (I : Inv X pins σ H s) {scope : Scope} {own : List (Str × Nat)} (ok : BlkOk X.N X.env.scope scope own) (y : Str) (hy : (y, NameKind.free) ∈ scope.names) :
    ∃ c, X.env.cells.lookup y = some c ∧ c < s.heap.objs.size := by
  obtain ⟨c, hc⟩ := I.ok.has y (ok.free (y, .free) hy rfl)
  obtain ⟨w, hw⟩ := I.cell y c hc
  exact ⟨c, hc, hw.lt⟩

/-- a name that the generator sees and that keeps its value is a free one -/
theorem seen_free {scope : Scope} {own : List (Str × Nat)} (ok : BlkOk X.N X.env.scope scope own) (hN : X.N.Nodup) {i : Nat} {y : Str} (hi : X.N[i]? = some y) (hne : i ∉ own.map (·.2)) (hv : Vis scope y) :
    scope.names.lookup y = some .free := by
  have notMine : ∀ k, (k = NameKind.local ∨ k = NameKind.cell) → scope.names.lookup y ≠ some k := fun k hk hl =>
    match ok.own (y, k) (mem_of_lookup hl) hk with
    | .inl hin => by
      obtain ⟨⟨y', j⟩, hp, hyy⟩ := List.mem_map.mp hin
      cases (show y' = y from hyy)
      exact hne (List.mem_map.mpr ⟨(y, j), hp, nodup_ix hN (ok.ix _ hp) hi⟩)
    | .inr hout => hout (List.mem_of_getElem? hi)
  obtain hv | hv | hv := hv
  · exact absurd hv (notMine _ (.inl rfl))
  · exact absurd hv (notMine _ (.inr rfl))
  · exact hv

/-- the generator's context at the beginning; h': the frame, its cells, the generator itself were laid -/
theorem gen_start {A : Around} {scope : Scope} {own : List (Str × Nat)} {fp : List Addr} {cenv : Env} {code it : Value} {h' h2 : Heap} {gs : Array GenState} {tk : Nat} {pn : List (Addr × Obj)}
    (I : Inv X pins σ H s) (ok : BlkOk X.N X.env.scope scope own) (hN : X.N.Nodup) (hfp : ∀ b ∈ fp, FpOk X pins H b ∧ b < s.heap.objs.size)
    (hcenv : cenv = gEnv scope (cellsFrom (s.heap.objs.size + 1) scope.names (cloFrom X.env.cells scope.names [])) s.heap.objs.size code builtinsNs X.env)
    (hA : A.handled = none) (hAf : A.frames = some (cenv :: X.stack))
    (hns : h'.Ns s.heap.objs.size (fun y => if y = (".0" : Str) then some it else none)) (_hdot : (".0" : Str) ∉ X.N)
    (hsb : Heap.SameBut s.heap.objs.size (pushCells (s.heap.push { cls := .type "frame", data := .dict #[] }) scope.names) h')
    (k2 : ∀ b o, h'.get? b = some o → h2.get? b = some o) (hb2 : AllBare gs)
    (hpn : ∀ p ∈ pn, h2.get? p.1 = some p.2 ∧ h'.objs.size ≤ p.1 ∧ ∀ v, p.2.data ≠ .cell v) :
    Inv (gCx X A s H cenv fp pn) [] (wipe σ (own.map (·.2))) H { s with heap := h2, gens := gs, toks := tk } := by
  subst hcenv
  have keep : ∀ b o, s.heap.get? b = some o → h2.get? b = some o := fun b o hb => by
    have hlt := Heap.lt_size hb
    refine k2 b o (Eq.trans (hsb.2 b (Nat.ne_of_lt hlt)) ?_)
    exact pushCells_keeps scope.names _ b o (Heap.get?_push_of_some _ hb)
  have L : Laid scope.names X.env.cells (cellsFrom (s.heap.objs.size + 1) scope.names (cloFrom X.env.cells scope.names [])) s.heap.objs.size h2 :=
    laid_of (hb := s.heap.push { cls := .type "frame", data := .dict #[] }) (Heap.size_push ..) ok.uniq (free_around I ok) I.ok.inj fun c hc ⟨o, ho, hd⟩ =>
      ⟨o, k2 c o (Eq.trans (hsb.2 c (Nat.ne_of_gt hc)) ho), hd⟩
  generalize cellsFrom (s.heap.objs.size + 1) scope.names (cloFrom X.env.cells scope.names []) = ncl at L hAf ⊢
  have hbs := Nat.le_trans I.ok.bsz I.sz
  have hsz : s.heap.objs.size < h'.objs.size := hns.lt
  refine { ok := { mod := I.ok.mod, kind := ok.kind, glob := I.ok.glob, blt := rfl, above := Nat.le_refl s.heap.objs.size, inj := L.one, has := fun y hy => hy.elim (L.mine y) fun hf => (L.theirs y hf).imp fun _ q => q.1, cab := ?cab, hd := fun _ => hA, frames := hAf, stk := .inr ⟨rfl, rfl⟩, exf := ?exf, bs := I.bs, bsz := hbs, noex := ?noex, exfs := ?exfs, funs := I.stack, frf := I.stkFree }, os := rfl, bare := hb2, base := Un.kept keep, loc := ⟨_, hns.keeps k2, ?loc⟩, cell := ?cell, free := I.hok.fresh (Nat.le_refl _), freeC := ?freeC, pin := ?pin, hok := I.hok.kept keep, len := (wipe_length σ _).trans I.len }
  case cab =>
    intro y c hy hc
    have hy : scope.names.lookup y = some NameKind.cell := eq_of_beq hy
    obtain ⟨hf, _⟩ | ⟨_, hlt, _⟩ := L.src y c hc
    · exact nomatch (ok.uniq _ hf).symm.trans hy
    · exact Nat.le_of_lt hlt
  case exf =>
    intro b hb
    obtain ⟨F, hlt⟩ := hfp b hb
    refine ⟨Nat.ne_of_lt hlt, fun y c hc hcb => ?_⟩
    subst hcb
    obtain ⟨_, ho, _⟩ | ⟨_, hgt, _⟩ := L.src y c hc
    · exact F.2.2.2.2.1 y c ho rfl
    · exact Nat.lt_asymm hlt hgt
  case noex =>
    intro b o hb hin
    obtain ⟨F, _⟩ := hfp b hin
    have hlt := Heap.lt_size hb
    obtain hx | hx := F.2.2.2.1
    · exact I.ok.noex b o hb hx
    · exact Nat.not_le_of_lt hlt (Nat.le_trans I.ok.bsz hx)
  case exfs =>
    intro b hb hin
    obtain ⟨F, _⟩ := hfp b hb
    cases List.mem_cons.mp (I.stkSub b hin) with
    | inl e => exact F.2.1 e
    | inr e => exact F.2.2.1 e
  case loc =>
    intro i y av hi hσ hv
    obtain ⟨hσ, hne⟩ := wipe_some hσ
    have hf := seen_free ok hN hi hne hv
    have around := ok.free (y, .free) (mem_of_lookup hf) rfl
    obtain ⟨m, _, hm⟩ := I.loc
    obtain ⟨u, hu, hlook⟩ := hm i y av hi hσ (around.elim (fun q => .inr (.inl q)) fun q => .inr (.inr q))
    obtain ⟨c, hn, ho⟩ := L.theirs y hf
    refine ⟨u, hu, .inr ⟨.inr hf, ?_⟩⟩
    obtain ⟨hloc, _⟩ | ⟨_, d, hd, hcell⟩ := hlook
    · have hloc : X.env.scope.names.lookup y = some NameKind.local := hloc
      exact (around.elim (fun q => nomatch hloc.symm.trans q) fun q => nomatch hloc.symm.trans q)
    · cases ho.symm.trans hd
      exact ⟨c, hn, hcell.keeps keep⟩
  case cell =>
    intro y c hc
    obtain ⟨_, ho, _⟩ | ⟨_, _, hx⟩ := L.src y c hc
    · exact (I.cell y c ho).imp fun _ q => q.keeps keep
    · exact ⟨none, hx⟩
  case freeC =>
    intro y c hc
    obtain ⟨_, ho, _⟩ | ⟨_, hgt, _⟩ := L.src y c hc
    · exact I.freeC y c ho
    · exact I.hok.fresh (Nat.le_of_lt hgt)
  case pin =>
    intro p hp
    have hp : p ∈ pn := (List.append_nil pn) ▸ hp
    obtain ⟨hget, hle, hdata⟩ := hpn p hp
    have hgt : s.heap.objs.size < p.1 := Nat.lt_of_lt_of_le hsz hle
    refine ⟨hget, I.hok.fresh (Nat.le_of_lt hgt), Nat.ne_of_gt hgt, fun hin => ?_, hdata⟩
    cases List.mem_cons.mp (I.stkSub _ hin) with
    | inl e => exact Nat.lt_asymm hgt (e ▸ I.lt)
    | inr e => exact I.nofs (Nat.le_of_lt hgt) e
end
end Gx
end

section
set_option Elab.async false
set_option linter.all false
set_option maxRecDepth 100000
set_option maxHeartbeats 4100000
namespace Gx
open PySem PySem.Spec PyProof.Rows L2 GenW

/-! ### the code objects' tables -/
def CodeGO (c P : Addr) : HO := .ext fun h => PySem.W.CodeHd h c P
def TabN : Nat → Hp → Addr → Prop
  | 0, H, P => ∃ ps : Array Value, H P = some (.tbl ps) ∧ TriplesOk ps.toList
  | n + 1, H, P => ∃ ps : Array Value, H P = some (.tbl ps) ∧ TriplesOk ps.toList ∧ ∀ pos cv, codeAmong pos ps.toList = some cv → ∃ c' P', cv = .ref c' ∧ H c' = some (CodeGO c' P') ∧ TabN n H P'
def NotTbl (o : HO) : Prop := ∀ ps, o ≠ .tbl ps
/-- all but tables stay; tables stay good -/
structure TbG (H H' : Hp) : Prop where
  keep : ∀ b o, H b = some o → NotTbl o → H' b = some o
  t0 : ∀ P, TabN 0 H P → TabN 0 H' P
  t1 : ∀ P, TabN 1 H P → TabN 1 H' P
theorem TbG.refl (H : Hp) : TbG H H := ⟨fun _ _ e _ => e, fun _ t => t, fun _ t => t⟩
theorem TbG.trans {H H1 H2 : Hp} (a : TbG H H1) (b : TbG H1 H2) : TbG H H2 := ⟨fun c o e n => b.keep c o (a.keep c o e n) n, fun P t => b.t0 P (a.t0 P t), fun P t => b.t1 P (a.t1 P t)⟩
theorem TabN.ext {H H' : Hp} (k : ∀ b o, H b = some o → H' b = some o) : ∀ {n : Nat} {P : Addr}, TabN n H P → TabN n H' P
  | 0, P, ⟨ps, h1, h2⟩ => ⟨ps, k _ _ h1, h2⟩
  | n + 1, P, ⟨ps, h1, h2, h3⟩ => ⟨ps, k _ _ h1, h2, fun pos cv e => let ⟨c', P', a, b, d⟩ := h3 pos cv e; ⟨c', P', a, k _ _ b, TabN.ext k d⟩⟩
theorem TbG.of {H H' : Hp} (k : ∀ b o, H b = some o → H' b = some o) : TbG H H' := ⟨fun b o e _ => k b o e, fun _ t => t.ext k, fun _ t => t.ext k⟩
theorem codeGO_nt {c P : Addr} : NotTbl (CodeGO c P) := fun ps z => by unfold CodeGO at z; cases z
theorem TabN.zero {H : Hp} {P : Addr} (t : TabN 1 H P) : TabN 0 H P := let ⟨ps, a, b, _⟩ := t; ⟨ps, a, b⟩
/-- a code value whose table is known -/
def CodeV (H : Hp) (cv : Value) : Prop := ∃ c' P', cv = .ref c' ∧ H c' = some (CodeGO c' P') ∧ TabN 0 H P'
theorem CodeV.tg {H H' : Hp} {cv : Value} (x : CodeV H cv) (t : TbG H H') : CodeV H' cv := let ⟨c, P, a, b, d⟩ := x; ⟨c, P, a, t.keep _ _ b codeGO_nt, t.t0 _ d⟩
/-- the running code's own object and table -/
def CodeK (X : Cx) (H : Hp) (c P : Addr) : Prop := PySem.W.CodeHd X.base c P ∨ H c = some (CodeGO c P)
theorem CodeK.hd {X : Cx} {pins : List (Addr × Obj)} {σ : L2.St} {H : Hp} {s : Shared} {c P : Addr} (k : CodeK X H c P) (I : Inv X pins σ H s) : PySem.W.CodeHd s.heap c P := by
  rcases k with k | k
  · exact k.keeps I.bk
  · exact (I.hok _ _ k).1
def BltM (X : Cx) : Prop := ∃ bm ob, X.mg "__builtins__" = some (.ref bm) ∧ bm ≠ builtinsNs ∧ X.base.get? bm = some ob ∧ ob.cls = .type "module" ∧ ob.dict = some builtinsNs ∧ ob.data = .plain
theorem BltM.of {X : Cx} {P : Addr} (h : X.base.BuiltinsAt X.mg P) : BltM X := let ⟨bm, ob, e1, e2, _, _, e5, e6, e7, e8⟩ := h; ⟨bm, ob, e1, e2, e5, e6, e7, e8⟩

section
variable {X : Cx} {σ : L2.St} {H : Hp} {s : Shared} {pins : List (Addr × Obj)}
/-- an object of ours that was not tracked is tracked from now on -/
theorem inv_track {a : Addr} {o : HO} (I : Inv X pins σ H s) (hn : H a = none) (hs : X.s_0.heap.get? a = none) (hL : a ≠ X.env.locals) (hc : ∀ x c, X.env.cells.lookup x = some c → c ≠ a)
    (hp : ∀ p ∈ X.pn ++ pins, p.1 ≠ a) (new : ObjOk X.prog X.w (upd H a o) s.heap a o) : Inv X pins σ (upd H a o) s := by
  have stays : ∀ {b u}, H b = some u → upd H a o b = some u := fun q => (upd_ne (ne_of_none q hn)).trans q
  have ne0 : ∀ b ob, X.s_0.heap.get? b = some ob → b ≠ a := fun b ob e z => by rw [z, hs] at e; cases e
  refine ⟨I.ok, I.os, I.bare, ⟨fun b ob e n hb hx => I.base.keep b ob e n hb hx, fun b ob e n hb hx => I.base.slot b ob e n hb hx, fun b ob e n hx => ?_, fun b ob e hx => I.base.there b ob e hx, fun b xs e => ?_, fun b ob u e => ?_, fun b ps e => ?_⟩, I.loc, I.cell, ?_, fun x c e => ?_, fun p hp' => ?_, fun b u e => ?_, I.len⟩
  · rw [upd_ne (ne0 b ob e)]; exact I.base.free b ob e n hx
  · exact stays (I.base.tups b xs e)
  · exact stays (I.base.frzs b ob u e)
  · exact (I.base.tbls b ps e).imp fun _ => stays
  · rw [upd_ne (Ne.symm hL)]; exact I.free
  · rw [upd_ne (hc x c e)]; exact I.freeC x c e
  · obtain ⟨q1, q2, q3, q4, q5⟩ := I.pin p hp'
    exact ⟨q1, by rw [upd_ne (hp p hp')]; exact q2, q3, q4, q5⟩
  · by_cases hb : b = a
    · cases hb
      cases (upd_same (H := H)).symm.trans e
      exact new
    · rw [upd_ne hb] at e
      exact (I.hok b u e).stay (fun c v _ q => q) (fun c q => by rw [upd_ne (ne_of_none q hn)]; exact q) fun c xs q => by rw [upd_ne (ne_of_none q hn)]; exact q
/-- what lies beyond the heap's old end is nobody's -/
theorem inv_new {a : Addr} {sz : Nat} (I : Inv X pins σ H s) {s' : Shared} (I' : Inv X pins σ H s') (ha : s.heap.objs.size ≤ a) : X.s_0.heap.get? a = none ∧ a ≠ X.env.locals ∧ (∀ x c, X.env.cells.lookup x = some c → c ≠ a) ∧ (∀ p ∈ X.pn ++ pins, p.1 ≠ a) ∧ H a = none := by
  refine ⟨Heap.get?_none_of_le (Nat.le_trans I.sz ha), Nat.ne_of_gt (Nat.lt_of_lt_of_le I.lt ha), fun x c e z => ?_, fun p hp z => ?_, I.hok.fresh ha⟩
  · obtain ⟨_, inCell⟩ := I.cell x c e
    exact absurd (Nat.lt_of_lt_of_le inCell.lt (by rw [z]; exact ha)) (Nat.lt_irrefl _)
  · exact absurd (Nat.lt_of_lt_of_le (Heap.lt_size (I.pin p hp).1) (by rw [z]; exact ha)) (Nat.lt_irrefl _)

/-- the code object of a generator expression -/
theorem gx_code {c P : Addr} {pos : Pos} {q : Str} {scope : Scope} {E : Value → Shared → Prop} {Q : Value → Shared → Prop} (I : Inv X pins σ H s) (hcode : X.env.code = .ref c) (hk : CodeK X H c P) (ht : TabN 0 H P)
    (h : ∀ cv H2 s2, Inv X pins σ H2 s2 → TbG H H2 → (∀ b o, b ≠ P → H b = some o → H2 b = some o) → (TabN 1 H P → CodeV H2 cv) → (∀ b, H b = none → b < s.heap.objs.size → H2 b = none) → (∀ b o, b ≠ P → s.heap.get? b = some o → s2.heap.get? b = some o) → Q cv s2) :
    wpAny (model X.prog X.w) X.A (genexprCode X.env pos q scope) Q E s := by
  obtain ⟨ps, hP, htr⟩ := ht
  have hPs : s.heap.get? P = some { cls := .none, data := .fields ps } := I.hok P _ hP
  have cd := hk.hd I
  cases hf : codeAmong pos ps.toList with
  | some cv =>
    refine wpAny_genexprCode_hit hcode (cd.code hPs htr) hf (h cv H s I (TbG.refl H) (fun _ _ _ e => e) (fun t => ?_) (fun b e _ => e) fun b o _ e => e)
    obtain ⟨ps', e1, e2, e3⟩ := t
    rw [hP] at e1; cases e1
    exact e3 pos cv hf
  | none =>
    refine wpAny_genexprCodeX hcode (cd.code hPs htr) (cd.tab hPs) hf fun c' h' tk hx hge hlt hco' hrec htab' hnew => ?_
    obtain ⟨P', hP'ge, hic, hta⟩ := hnew
    obtain ⟨o1, vs, f1, tf, fl, tg, inF, tx, tt, op, _, _, _, _, _, _, _, hop, hopd, htr2, _⟩ := hco'
    have hPn : h'.get? P = some { cls := .none, data := .fields (ps ++ #[rawInt pos.line, rawInt pos.col, .ref c']) } := htab'.2
    have I1 : Inv X pins σ (upd H P (.tbl (ps ++ #[rawInt pos.line, rawInt pos.col, .ref c']))) { s with heap := h', toks := tk } :=
      GxR.inv_tab (more := #[rawInt pos.line, rawInt pos.col, .ref c']) (g' := s.gens) (d' := s.drawn) I hP (fun b o hb e => hx b o hb e) hPn I.bare
    have hd' : PySem.W.CodeHd h' c' P' := PySem.W.CodeHd.of hic hta
    have nP : ∀ b, s.heap.objs.size ≤ b → b ≠ P := fun b hb z => absurd (Heap.lt_size hPs) (by rw [← z]; exact Nat.not_lt.mpr hb)
    obtain ⟨a1, a2, a3, a4, a5⟩ := inv_new (sz := 0) (a := c') I I hge
    obtain ⟨b1, b2, b3, b4, b5⟩ := inv_new (sz := 0) (a := P') I I hP'ge
    have c5 : (upd H P (.tbl (ps ++ #[rawInt pos.line, rawInt pos.col, .ref c']))) c' = none := by rw [upd_ne (nP c' hge)]; exact a5
    have I2 := inv_track (a := c') (o := CodeGO c' P') I1 c5 a1 a2 a3 a4 ⟨hd', (let ⟨o, _, _, _, _, _, _, _, _, e, _⟩ := hd'; ⟨o, e⟩), fun h1 h2 z k => (let ⟨o, vs, file, tf, flags, tg, inF, text, tt, e, r⟩ := z; ⟨o, vs, file, tf, flags, tg, inF, text, tt, k _ e, r⟩)⟩
    have ncp : P' ≠ c' := Ne.symm (let ⟨_, _, _, _, _, _, _, _, _, _, _, _, _, _, _, _, _, _, ne⟩ := hd'; ne)
    have d5 : (upd (upd H P (.tbl (ps ++ #[rawInt pos.line, rawInt pos.col, .ref c']))) c' (CodeGO c' P')) P' = none := by
      rw [upd_ne ncp, upd_ne (nP P' hP'ge)]; exact b5
    have I3 := inv_track (a := P') (o := .tbl #[]) I2 d5 b1 b2 b3 b4 (show h'.get? P' = some { cls := .none, data := .fields #[] } from hta.2)
    have kp : ∀ b o, H b = some o → b ≠ P → (upd (upd (upd H P (.tbl (ps ++ #[rawInt pos.line, rawInt pos.col, .ref c']))) c' (CodeGO c' P')) P' (.tbl #[])) b = some o := fun b o e nb => by
      rw [upd_ne (ne_of_none e b5), upd_ne (ne_of_none e a5), upd_ne nb]; exact e
    have atP : (upd (upd (upd H P (.tbl (ps ++ #[rawInt pos.line, rawInt pos.col, .ref c']))) c' (CodeGO c' P')) P' (.tbl #[])) P = some (.tbl (ps ++ #[rawInt pos.line, rawInt pos.col, .ref c'])) := by
      rw [upd_ne (ne_of_none hP b5), upd_ne (ne_of_none hP a5), upd_same]
    have eL : (ps ++ #[rawInt pos.line, rawInt pos.col, .ref c']).toList = ps.toList ++ [rawInt pos.line, rawInt pos.col, .ref c'] := Array.toList_append
    have tr2 : TriplesOk (ps ++ #[rawInt pos.line, rawInt pos.col, .ref c']).toList := by rw [eL]; exact PySem.TriplesOk_snoc _ _ _ _ htr
    have t0 : ∀ Q, TabN 0 H Q → TabN 0 (upd (upd (upd H P (.tbl (ps ++ #[rawInt pos.line, rawInt pos.col, .ref c']))) c' (CodeGO c' P')) P' (.tbl #[])) Q := fun Q ⟨qs, q1, q2⟩ => by
      by_cases hQ : Q = P
      · rw [hQ]; exact ⟨_, atP, tr2⟩
      · exact ⟨qs, kp _ _ q1 hQ, q2⟩
    have newV : CodeV (upd (upd (upd H P (.tbl (ps ++ #[rawInt pos.line, rawInt pos.col, .ref c']))) c' (CodeGO c' P')) P' (.tbl #[])) (.ref c') :=
      ⟨c', P', rfl, by rw [upd_ne (Ne.symm ncp), upd_same], ⟨#[], upd_same, True.intro⟩⟩

    refine h (.ref c') _ _ I3 ⟨fun b o e n => kp b o e (fun z => n ps (Option.some.inj (e.symm.trans (by rw [z]; exact hP)))), t0, fun Q ⟨qs, q1, q2, q3⟩ => ?_⟩ (fun b o hb e => kp b o e hb) (fun _ => newV) (fun b e hb => ?_) (fun b o hb e => hx b o hb e)
    · have old : ∀ pos' cv', codeAmong pos' qs.toList = some cv' → CodeV (upd (upd (upd H P (.tbl (ps ++ #[rawInt pos.line, rawInt pos.col, .ref c']))) c' (CodeGO c' P')) P' (.tbl #[])) cv' := fun pos' cv' e => by
        obtain ⟨c2, P2, e1, e2, e3⟩ := q3 pos' cv' e
        exact ⟨c2, P2, e1, kp _ _ e2 (fun z => codeGO_nt ps (Option.some.inj (e2.symm.trans (by rw [z]; exact hP)))), t0 _ e3⟩
      by_cases hQ : Q = P
      · subst hQ
        rw [hP] at q1; cases q1
        refine ⟨_, atP, tr2, fun pos' cv' e => ?_⟩
        rw [eL] at e
        rcases LamX.among_app _ htr e with z | z
        · exact old _ _ z
        · subst z; exact newV
      · exact ⟨qs, kp _ _ q1 hQ, q2, old⟩
    · rw [upd_ne (Nat.ne_of_lt (Nat.lt_of_lt_of_le hb hP'ge)), upd_ne (Nat.ne_of_lt (Nat.lt_of_lt_of_le hb hge)), upd_ne (fun z => by rw [z, hP] at e; cases e)]
      exact e
end
end Gx
end

section
set_option Elab.async false
set_option linter.all false
set_option maxRecDepth 100000
set_option maxHeartbeats 4100000
namespace Gx
open PySem PySem.Spec PyProof.Rows L2 GenW

/-- the consumer has worked: all but its own objects stand -/
structure Slp (SS : List Addr) (s s' : Shared) : Prop where
  os : s'.os = s.os
  bare : AllBare s'.gens
  keep : ∀ b o, b ∉ SS → s.heap.get? b = some o → s'.heap.get? b = some o
  own : ∀ b ∈ SS, ∃ o, s'.heap.get? b = some o ∧ ∀ v, o.data ≠ .cell v
abbrev YP := List V → V → Hp → Prop → Prop
abbrev DP := List V → Hp → Prop
abbrev HP := List V → Heap → Prop
def Same' (SS : List Addr) (h h' : Heap) : Prop := ∀ b ∈ SS, ∀ o, h.get? b = some o → h'.get? b = some o

section
variable (X : Cx) (pins : List (Addr × Obj)) (σ : L2.St) (a : Addr) (SS : List Addr) (Y : YP) (Dn : DP) (Hist : HP) (A : Around)
/-- the generator at a can be asked for its next item; at most n more -/
def GIt : Nat → Shared → Prop
  | 0 => fun s => (∃ g, s.heap.IsGen a g) ∧ (∃ H, Inv X pins σ H s ∧ ∀ b ∈ SS, H b = none) ∧ ∀ (Q : Option Value → Shared → Prop) (E : Value → Shared → Prop),
      (∀ v x H s1 ys, RelV x v → Inv X pins σ H s1 → Same' SS s.heap s1.heap → (∀ b ∈ SS, H b = none) → Hist ys s.heap → Y ys x H (∀ s', s'.gens = s1.gens → Slp SS s1 s' → Hist (ys ++ [x]) s'.heap → False) → Q (some v) s1) →
      (∀ H s1 ys, Inv X pins σ H s1 → Same' SS s.heap s1.heap → (∀ b ∈ SS, H b = none) → Hist ys s.heap → Dn ys H → Q none s1) → wpAny (model X.prog X.w) A (pyNext (.ref a)) Q E s
  | n + 1 => fun s => (∃ g, s.heap.IsGen a g) ∧ (∃ H, Inv X pins σ H s ∧ ∀ b ∈ SS, H b = none) ∧ ∀ (Q : Option Value → Shared → Prop) (E : Value → Shared → Prop),
      (∀ v x H s1 ys, RelV x v → Inv X pins σ H s1 → Same' SS s.heap s1.heap → (∀ b ∈ SS, H b = none) → Hist ys s.heap → Y ys x H (∀ s', s'.gens = s1.gens → Slp SS s1 s' → Hist (ys ++ [x]) s'.heap → GIt n s') → Q (some v) s1) →
      (∀ H s1 ys, Inv X pins σ H s1 → Same' SS s.heap s1.heap → (∀ b ∈ SS, H b = none) → Hist ys s.heap → Dn ys H → Q none s1) → wpAny (model X.prog X.w) A (pyNext (.ref a)) Q E s
end

/-! ### the generator's own run -/
def CpOk (SS : List Addr) (cp : List (Addr × Obj)) (s : Shared) : Prop := cp.map (·.1) = SS ∧ ∀ p ∈ cp, s.heap.get? p.1 = some p.2
def gY (Xg : Cx) (SS : List Addr) (Y : YP) (Hist : HP) : Protocol := fun n s0 v s kap =>
  ∃ ys x H σ1 cp, RelV x v ∧ Inv Xg cp σ1 H s ∧ CpOk SS cp s0 ∧ Hist ys s0.heap ∧ Y ys x H (∀ s', Slp SS s s' → Hist (ys ++ [x]) s'.heap → kap (.send .none) s')
def gF (Xg : Cx) (SS : List Addr) (Dn : DP) (Hist : HP) : Nat → Shared → Shared → Prop := fun n s0 s =>
  ∃ ys H σ1 cp, Inv Xg cp σ1 H s ∧ CpOk SS cp s0 ∧ Hist ys s0.heap ∧ Dn ys H
def gR (Xg : Cx) (SS : List Addr) (Dn : DP) (Hist : HP) : GenEnd := fun n s0 r s => ((r = .ok (.ret .none) ∨ r = .ok .next) ∧ gF Xg SS Dn Hist n s0 s) ∨ ∃ e, r = .error e ∧ (fun (_ : Value) (_ : Shared) => False) e s

section
variable {X : Cx} {pins : List (Addr × Obj)} {σ : L2.St} {H : Hp} {s s' : Shared}
theorem inv_slp {SS : List Addr} (I : Inv X pins σ H s) (hn : ∀ b ∈ SS, H b = none) (hS : ∀ b ∈ SS, X.s_0.heap.objs.size ≤ b ∧ b ≠ X.env.locals ∧ (∀ x c, X.env.cells.lookup x = some c → c ≠ b) ∧ ∀ p ∈ X.pn ++ pins, p.1 ≠ b) (z : Slp SS s s') : Inv X pins σ H s' := by
  have nt : ∀ b u, H b = some u → b ∉ SS := fun b u q hb => by rw [hn b hb] at q; cases q
  have J0 : Inv X pins σ H { s with heap := s'.heap, gens := s'.gens, drawn := s'.drawn, toks := s'.toks } := by
    refine I.step (ch := SS) (fun b hb => ⟨.inr (hS b hb).1, (hS b hb).2⟩) (fun b ob _ _ hc q _ => z.keep b ob hc q) (fun b ob _ _ hc q _ => ⟨ob.slots, z.keep b ob hc q⟩) (fun _ _ _ _ n => n) (fun b ob hc q => ⟨ob, z.keep b ob hc q⟩)
      (fun _ _ q => q) (fun _ _ _ q => q) (fun b ps q => ⟨#[], by rw [q]; simp⟩) (fun m hm => ?_) (fun b u q => ?_) z.bare
    · exact hm.imp fun ob hm => hm.imp fun _ hm => hm.imp fun _ hm => ⟨z.keep _ ob (fun hb => (hS _ hb).2.1 rfl) hm.1, hm.2⟩
    · refine (I.hok b u q).stay (fun c v hc y => z.keep c v ?_ y) (fun _ y => y) fun _ _ y => y
      rcases hc with y | y
      · rw [y]; exact nt b u q
      · exact nt c _ y
  rw [GxR.sh_eta s s' z.os] at J0
  exact J0
/-- the objects of those that were not asleep, as pins -/
theorem slp_pins {SS : List Addr} (z : Slp SS s s') : ∃ cp : List (Addr × Obj), cp.map (·.1) = SS ∧ ∀ p ∈ cp, s'.heap.get? p.1 = some p.2 ∧ (∀ v, p.2.data ≠ .cell v) ∧ p.1 ∈ SS := by
  have pick : ∀ b : Addr, ∃ o : Obj, b ∈ SS → s'.heap.get? b = some o ∧ ∀ v, o.data ≠ .cell v := fun b => by
    by_cases hb : b ∈ SS
    · exact (z.own b hb).imp fun _ q _ => q
    · exact ⟨default, fun h => absurd h hb⟩
  obtain ⟨f, hf⟩ := Classical.axiomOfChoice pick
  refine ⟨SS.map fun b => (b, f b), by simp [Function.comp_def], fun p hp => ?_⟩
  obtain ⟨b, hb, rfl⟩ := List.mem_map.mp hp
  exact ⟨(hf b hb).1, (hf b hb).2, hb⟩
/-- woken again: the consumer's objects are other ones -/
theorem inv_woken {SS : List Addr} {cp ip : List (Addr × Obj)} (I : Inv X (cp ++ ip) σ H s) (hc : cp.map (·.1) = SS) (hS : ∀ b ∈ SS, X.s_0.heap.objs.size ≤ b ∧ b ≠ X.env.locals ∧ (∀ x c, X.env.cells.lookup x = some c → c ≠ b) ∧ ∀ p ∈ X.pn ++ ip, p.1 ≠ b) (z : Slp SS s s') :
    ∃ cp', CpOk SS cp' s' ∧ Inv X (cp' ++ ip) σ H s' := by
  have hn : ∀ b ∈ SS, H b = none ∧ b ≠ X.env.locals ∧ b ∉ X.fs := fun b hb => by
    rw [← hc] at hb
    obtain ⟨p, hp, rfl⟩ := List.mem_map.mp hb
    obtain ⟨_, q2, q3, q4, _⟩ := I.pin p (List.mem_append_right _ (List.mem_append_left _ hp))
    exact ⟨q2, q3, q4⟩
  have I0 : Inv X ip σ H s := I.pins_of fun p hp => I.pin p (List.mem_append_right _ (List.mem_append_right _ hp))
  have J : Inv X ip σ H s' := inv_slp I0 (fun b hb => (hn b hb).1) hS z
  obtain ⟨cp', e1, e2⟩ := slp_pins z
  refine ⟨cp', ⟨e1, fun p hp => (e2 p hp).1⟩, J.pins_of fun p hp => ?_⟩
  obtain hp | hp := List.mem_append.mp hp
  · obtain ⟨q1, q2, q3⟩ := e2 p hp
    obtain ⟨n1, n2, n3⟩ := hn _ q3
    exact ⟨q1, n1, n2, n3, q2⟩
  · exact J.pin _ (List.mem_append.mpr (.inr hp))
end

theorem over_gen {A : Around} {elt : Expr} {gens : List Comprehension} {scope : Scope} {pos : Pos} {it acc : Value} {env : Env} : A.over (.compLoop (.GeneratorExp elt gens scope pos) 0 it acc env) [] = A.deeper env := rfl
/-- what the generator's run is to do, turn by turn -/
def GTurns (J : It) (g : TG) (tt : TT) (te : TE) (vs : List Nat) (σ : L2.St) (Y : YP) (Dn : DP) (W : Nat → Nat → List V → Hp → Prop) : Prop :=
  ∀ i m ys H, W i m ys H → (J.stop i H ∧ Dn ys H) ∨ (J.go i H ∧ ∀ x H', J.yld i H x H' → g x (wipe σ vs) H' fun σ2 H3 => wipe σ2 vs = wipe σ vs ∧ tt σ2 H3 fun b H4 =>
    if b = true then te σ2 H4 fun y H5 => Y ys y H5 (∃ m', m' < m ∧ W (i + 1) m' (ys ++ [y]) H5) else ∃ m', m' < m ∧ W (i + 1) m' ys H4)
/-- a wish that may be weakened -/
def YMono (Y : YP) : Prop := ∀ ys x H K K', (K → K') → Y ys x H K → Y ys x H K'

section
variable {Xg : Cx} {σ : L2.St} {SS : List Addr} {Y : YP} {Dn : DP} {Hist : HP} {A : Around} {elt tg iter : Expr} {ifs : List Expr} {scope : Scope} {pos : Pos} {it : Addr} {fp : List Addr} {tn : Nat → Heap → Prop} {J : It} {g : TG} {tt : TT} {te : TE} {vs : List Nat} {W : Nat → Nat → List V → Hp → Prop}
theorem seg_loop (hxe : Xg.xe = fun _ _ => False) (hA : Xg.A = A.deeper Xg.env) (hex : Xg.ex = fp) (T : Turn Xg.prog Xg.w Xg.K tg J fp it tn) (hcalm : Xg.calm = true) (hco : Xg.env.scope.isCoroutine = false)
    (hg : PG Xg tg g) (ht : PTs Xg ifs tt) (he : PE Xg elt te) (hY : YMono Y) (hW : GTurns J g tt te vs σ Y Dn W)
    (hfp : ∀ b ∈ fp, b ≠ Xg.env.locals ∧ b ∉ Xg.fs ∧ (∀ x c, Xg.env.cells.lookup x = some c → c ≠ b) ∧ (∀ p ∈ Xg.pn, p.1 ≠ b) ∧ b ∉ SS)
    (hS : ∀ b ∈ SS, Xg.s_0.heap.objs.size ≤ b ∧ b ≠ Xg.env.locals ∧ (∀ x c, Xg.env.cells.lookup x = some c → c ≠ b) ∧ (∀ p ∈ Xg.pn, p.1 ≠ b)) :
    ∀ (m n i : Nat) (ys : List V) (s0 s : Shared) (H : Hp) (cp : List (Addr × Obj)), m < n → Inv Xg cp (wipe σ vs) H s → tn i s.heap → (∀ b ∈ fp, H b = none) → CpOk SS cp s0 → Hist ys s0.heap → W i m ys H →
      Seg (model Xg.prog Xg.w) A (gR Xg SS Dn Hist) (gY Xg SS Y Hist) n s0 (.compLoop (.GeneratorExp elt [⟨tg, iter, ifs, 0⟩] scope pos) 0 (.ref it) .none Xg.env)
        ((model Xg.prog Xg.w).den (.compLoop (.GeneratorExp elt [⟨tg, iter, ifs, 0⟩] scope pos) 0 (.ref it) .none Xg.env)) [] s := by
  have hov : A.over (.compLoop (.GeneratorExp elt [⟨tg, iter, ifs, 0⟩] scope pos) 0 (.ref it) .none Xg.env) [] = Xg.A := by rw [over_gen, hA]
  intro m
  refine Nat.strongRecOn m fun m ih => ?_
  · intro n i ys s0 s H cp hmn I st nf hcp hH w
    have stat : ∀ {H' : Hp} {cp' : List (Addr × Obj)}, (∀ b ∈ fp, H' b = none) → cp'.map (·.1) = SS → ∀ b ∈ fp, FpOk Xg cp' H' b := fun {H' cp'} hn hc b hb => by
      obtain ⟨q1, q2, q3, q4, q5⟩ := hfp b hb
      refine ⟨hn b hb, q1, q2, .inl (by rw [hex]; exact hb), q3, fun p hp => ?_⟩
      obtain hp | hp := List.mem_append.mp hp
      · exact q4 p hp
      · exact fun z => q5 (by rw [← hc, ← z]; exact List.mem_map.mpr ⟨p, hp, rfl⟩)
    show Seg _ A _ _ n s0 _ ((compTurn (.GeneratorExp elt [⟨tg, iter, ifs, 0⟩] scope pos) 0 (.ref it) .none Xg.env).onRaise (leaving Xg.env)) [] s
    rw [PySem.compTurn_gen, Sem.onRaise_eq_wrap]
    apply seg_bind_wrap
    apply wpAny_standAt
    rcases hW i m ys H w with ⟨stop, dn⟩ | ⟨go, step⟩
    · refine seg_bind_wrap ?_
      rw [hov]
      refine thnF (T.done Xg rfl rfl rfl hcalm i cp s _ H (fun _ _ => False) I (stat nf hcp.1) st stop) fun r s1 ⟨hr, I1⟩ => ?_
      subst hr
      exact seg_end (.ok .next) (.inl ⟨.inr rfl, ys, H, _, cp, I1, hcp, hH, dn⟩)
    · refine seg_bind_wrap ?_
      rw [hov]
      refine thnF (T.item Xg rfl rfl rfl hcalm i cp s _ H (fun _ _ => False) I (stat nf hcp.1) st go) fun r s1 ⟨u, hr, h1⟩ => ?_
      subst hr
      refine seg_bind_wrap ?_
      rw [hov]
      refine thnF h1 fun _ s2 ⟨x, H2, I2, r2, y2, st2, n2⟩ => ?_
      have I2' := I2.pinned (stat n2 hcp.1) (T.obj _ _ st2)
      refine seg_bind_wrap ?_
      rw [hov]
      have noX : ∀ {α : Type} {t : Sem α} {Q : α → Shared → Prop} {E : Value → Shared → Prop} {s : Shared}, wpAny (model Xg.prog Xg.w) Xg.A t Q Xg.xe s → wpAny (model Xg.prog Xg.w) Xg.A t Q E s := fun h => wpAny_mono h (fun _ _ q => q) fun e s z => by rw [hxe] at z; exact z.elim
      refine noX (thn (hg.run _ s2 _ H2 x u _ I2' r2 (step x H2 y2)) fun _ s3 ⟨σ3, H3, I3, hw3, q3⟩ => ?_)
      refine seg_bind_wrap ?_
      rw [hov]
      refine noX (thn (ht.run _ s3 σ3 H3 _ I3 q3) fun b s4 ⟨H4, I4, q4⟩ => ?_)
      have hl3 : (wipe σ vs).length = σ3.length := by rw [← hw3, wipe_length]
      have hk3 : ∀ (j : Nat) v, (wipe σ vs)[j]? = some (some v) → σ3[j]? = some (some v) := fun j v e => by
        rw [← hw3] at e
        exact (wipe_some e).1
      have fpK : ∀ {σ' : L2.St} {H' : Hp} {s' : Shared} {cp' : List (Addr × Obj)}, Inv Xg (cp' ++ pinsAt fp s2.heap) σ' H' s' → tn (i + 1) s'.heap ∧ ∀ b ∈ fp, H' b = none := fun {σ' H' s' cp'} I' => by
        have pin' : ∀ b ∈ fp, ∀ o, s2.heap.get? b = some o → s'.heap.get? b = some o ∧ H' b = none := fun b hb o e =>
          have ⟨there, free, _⟩ := I'.pin (b, o) (List.mem_append_right _ (List.mem_append_right _ (mem_pinsAt hb e)))
          ⟨there, free⟩
        refine ⟨T.keep _ _ _ st2 fun b hb o e => (pin' b hb o e).1, fun b hb => ?_⟩
        exact (T.obj _ _ st2 b hb).elim fun o q => (pin' b hb o q.1).2
      cases b with
      | false =>
        simp only [Bool.false_eq_true, if_false] at q4 ⊢
        obtain ⟨m', hm, w'⟩ := q4
        obtain ⟨st4, n4⟩ := fpK I4
        exact seg_again rfl (ih m' hm n (i + 1) ys s0 s4 H4 cp (Nat.lt_trans hm hmn) ((I4.unpinned (pins := cp)).weak hl3 hk3) st4 n4 hcp hH w')
      | true =>
        simp only [if_true] at q4 ⊢
        have hy : ∀ v, yieldOut Xg.env v = yieldValue v := fun v => by simp only [yieldOut, hco, Bool.false_eq_true, if_false]
        simp only [hy]
        simp only [Sem.bind_eq_wrap', Sem.wrap_wrap]
        obtain ⟨n, rfl⟩ : ∃ k, n = k + 1 := ⟨n - 1, by omega⟩
        refine seg_wrap ?_
        rw [hov]
        refine noX (thn (he.run _ s4 σ3 H4 _ I4 q4) fun v s5 ⟨y, H5, I5, r5, q5⟩ => ?_)
        refine seg_at (seg_yield rfl rfl rfl ?_)
        have I5c : Inv Xg cp σ3 H5 s5 := I5.pins_of fun p hp => I5.pin p (List.mem_append_right _ (List.mem_append_left _ hp))
        refine ⟨ys, y, H5, σ3, cp, r5, I5c, hcp, hH, hY _ _ _ _ _ (fun ⟨m', hm, w'⟩ s6 z h6 => ?_) q5⟩
        have hq : ∀ b ∈ SS, Xg.s_0.heap.objs.size ≤ b ∧ b ≠ Xg.env.locals ∧ (∀ x c, Xg.env.cells.lookup x = some c → c ≠ b) ∧ ∀ p ∈ Xg.pn ++ pinsAt fp s2.heap, p.1 ≠ b := fun b hb => by
          obtain ⟨q1, q2, q3, q4⟩ := hS b hb
          refine ⟨q1, q2, q3, fun p hp => ?_⟩
          obtain hp | hp := List.mem_append.mp hp
          · exact q4 p hp
          · obtain ⟨hb', _⟩ := of_pinsAt hp
            exact fun z => (hfp _ hb').2.2.2.2 (by rw [z]; exact hb)
        obtain ⟨cp6, hcp6, I6⟩ := inv_woken I5 hcp.1 hq z
        obtain ⟨st6, n6⟩ := fpK I6
        exact seg_again rfl (ih m' hm n (i + 1) (ys ++ [y]) s6 s6 H5 cp6 (by omega) ((I6.unpinned (pins := cp6)).weak hl3 hk3) st6 n6 hcp6 h6 w')
end
end Gx
end

section
set_option Elab.async false
set_option linter.all false
set_option maxRecDepth 100000
set_option maxHeartbeats 4100000
namespace Gx
open PySem PySem.Spec PyProof.Rows L2 GenW


section
variable {X Xg : Cx} {pins : List (Addr × Obj)} {σ : L2.St} {a : Addr} {g : Nat} {go : Obj} {SS : List Addr} {Y : YP} {Dn : DP} {Hist : HP} {A : Around}
theorem git_of (hp : Xg.prog = X.prog) (hw : Xg.w = X.w) (hd : A.handled = none) (hdep : A.depth < recursionLimit) (hY : YMono Y)
    (hback : ∀ σ1 H s1 cp g', Inv Xg cp σ1 H s1 → AllBare g' → Inv X pins σ H { s1 with gens := g' })
    (hpn : (a, go) ∈ Xg.pn) (hgo : ∀ h : Heap, h.get? a = some go → h.IsGen a g) (haS : a ∉ SS)
    (hS : ∀ b ∈ SS, X.s_0.heap.objs.size ≤ b ∧ b ≠ X.env.locals ∧ (∀ x c, X.env.cells.lookup x = some c → c ≠ b) ∧ ∀ p ∈ X.pn ++ pins, p.1 ≠ b) :
    ∀ (n : Nat) (s : Shared) (gs : GenState), s.heap.IsGen a g → (∃ H, Inv X pins σ H s ∧ ∀ b ∈ SS, H b = none) → s.gens[g]? = some gs →
      gs.Goes (model X.prog X.w) A.in1 (gR Xg SS Dn Hist) (gY Xg SS Y Hist) n (.send .none) (s.setGen g .running) → GIt X pins σ a SS Y Dn Hist A n s := by
  have fin : ∀ (n : Nat) (s : Shared) (gs : GenState) (K : Shared → Prop), s.heap.IsGen a g → (∃ H, Inv X pins σ H s ∧ ∀ b ∈ SS, H b = none) → s.gens[g]? = some gs →
      gs.Goes (model X.prog X.w) A.in1 (gR Xg SS Dn Hist) (gY Xg SS Y Hist) n (.send .none) (s.setGen g .running) →
      (∀ (gs' : GenState) (s1 s' : Shared) H, gs'.bare = true → Inv X pins σ H s1 → (∀ b ∈ SS, H b = none) → s1.heap.get? a = some go → s'.gens = s1.gens → s1.gens[g]? = some gs' → Slp SS s1 s' → (match n with | 0 => False | m + 1 => gs'.Goes (model X.prog X.w) A.in1 (gR Xg SS Dn Hist) (gY Xg SS Y Hist) m (.send .none) (s'.setGen g .running)) → K s') →
      (∃ g, s.heap.IsGen a g) ∧ (∃ H, Inv X pins σ H s ∧ ∀ b ∈ SS, H b = none) ∧ ∀ (Q : Option Value → Shared → Prop) (E : Value → Shared → Prop),
        (∀ v x H s1 ys, RelV x v → Inv X pins σ H s1 → Same' SS s.heap s1.heap → (∀ b ∈ SS, H b = none) → Hist ys s.heap → Y ys x H (∀ s', s'.gens = s1.gens → Slp SS s1 s' → Hist (ys ++ [x]) s'.heap → K s') → Q (some v) s1) →
        (∀ H s1 ys, Inv X pins σ H s1 → Same' SS s.heap s1.heap → (∀ b ∈ SS, H b = none) → Hist ys s.heap → Dn ys H → Q none s1) → wpAny (model X.prog X.w) A (pyNext (.ref a)) Q E s := by
    intro n s gs K hg hI hgs hgoes hK
    refine ⟨⟨g, hg⟩, hI, fun Q E hit hdn => ?_⟩
    obtain ⟨H0, I0, _⟩ := hI
    have ⟨hgl, _⟩ := Array.getElem?_eq_some_iff.mp hgs
    have facts : ∀ {cp : List (Addr × Obj)} {σ1 : L2.St} {H : Hp} {s1 : Shared}, Inv Xg cp σ1 H s1 → CpOk SS cp (s.setGen g .running) → Same' SS s.heap s1.heap ∧ (∀ b ∈ SS, H b = none) ∧ s1.heap.get? a = some go := fun {cp σ1 H s1} I1 hc => by
      have at_ : ∀ b ∈ SS, ∃ o, (b, o) ∈ cp := fun b hb => by
        rw [← hc.1] at hb
        obtain ⟨p, hp, rfl⟩ := List.mem_map.mp hb
        exact ⟨p.2, hp⟩
      refine ⟨fun b hb o e => ?_, fun b hb => ?_, (I1.pin (a, go) (List.mem_append_left _ hpn)).1⟩
      · obtain ⟨o', hm⟩ := at_ b hb
        have q1 := hc.2 _ hm
        have q2 := (I1.pin _ (List.mem_append_right _ hm)).1
        have q1' : s.heap.get? b = some o' := q1
        rw [e] at q1'; cases q1'
        exact q2
      · obtain ⟨o', hm⟩ := at_ b hb
        exact (I1.pin _ (List.mem_append_right _ hm)).2.1
    refine wpAny_gsz (n := g + 1) hgl (next_genG (A := A) (F := gF Xg SS Dn Hist) (Er := fun _ _ => False) hd I0.nolimit hdep hg hgs hgoes (fun v s1 gs' hb hv => ?_) (fun s1 hp1 h' hk => ?_) fun e s1 he => he.elim)
    · intro hsz
      obtain ⟨ys, x, H, σ1, cp, rx, I1, hcp, hH, hy⟩ := hv
      obtain ⟨f1, f2, f3⟩ := facts I1 hcp
      have I2 : Inv X pins σ H (s1.setGen g gs') := hback σ1 H s1 cp _ I1 (allBare_setGen I1.bare hb)
      have hsz1 : g < s1.gens.size := by
        have q : (s1.setGen g gs').gens.size = s1.gens.size := setGen_size _ _ _
        have : g + 1 ≤ (s1.setGen g gs').gens.size := hsz
        omega
      refine hit v x H _ ys rx I2 f1 f2 hH (hY _ _ _ _ _ (fun k s' hgens z hh => ?_) hy)
      refine hK gs' (s1.setGen g gs') s' H hb I2 f2 f3 hgens (setGen_at hsz1) z ?_
      have kk := k (s'.setGen g .running) ⟨z.os, allBare_setGen z.bare rfl, z.keep, z.own⟩ hh
      cases n with
      | zero => exact kk
      | succ m => exact kk
    · intro hsz
      obtain ⟨ys, H, σ1, cp, I1, hcp, hH, dn⟩ := hp1
      obtain ⟨f1, f2, f3⟩ := facts I1 hcp
      have I2 : Inv X pins σ H (s1.setGen g .finished) := hback σ1 H s1 cp _ I1 (allBare_setGen I1.bare rfl)
      exact hdn H _ ys (I2.kept (t' := s1.toks) hk) (fun b hb o e => hk _ _ (f1 b hb o e)) f2 hH dn
  intro n
  induction n with
  | zero =>
    intro s gs hg hI hgs hgoes
    exact fin 0 s gs (fun _ => False) hg hI hgs hgoes fun gs' s1 s' H hb I1 hn1 ha hgens hg1 z h => h
  | succ n ih =>
    intro s gs hg hI hgs hgoes
    refine fin (n + 1) s gs (GIt X pins σ a SS Y Dn Hist A n) hg hI hgs hgoes fun gs' s1 s' H hb I1 hn1 ha hgens hg1 z h => ?_
    have ha' : s'.heap.get? a = some go := z.keep a go haS ha
    exact ih s' gs' (hgo _ ha') ⟨H, inv_slp I1 hn1 hS z, hn1⟩ (by rw [hgens]; exact hg1) h
end

section
variable {Xg : Cx} {σ : L2.St} {SS : List Addr} {Y : YP} {Dn : DP} {Hist : HP} {A : Around} {elt tg iter : Expr} {ifs : List Expr} {scope : Scope} {pos : Pos} {it : Addr} {fp : List Addr} {tn : Nat → Heap → Prop} {J : It} {n : Nat} {s0 s : Shared}
theorem seg_start (T : Turn Xg.prog Xg.w Xg.K tg J fp it tn) (st : tn 0 s.heap)
    (loop : Seg (model Xg.prog Xg.w) A (gR Xg SS Dn Hist) (gY Xg SS Y Hist) n s0 (.compLoop (.GeneratorExp elt [⟨tg, iter, ifs, 0⟩] scope pos) 0 (.ref it) .none Xg.env)
        ((model Xg.prog Xg.w).den (.compLoop (.GeneratorExp elt [⟨tg, iter, ifs, 0⟩] scope pos) 0 (.ref it) .none Xg.env)) [] s) :
    Seg (model Xg.prog Xg.w) A (gR Xg SS Dn Hist) (gY Xg SS Y Hist) n s0 (.compStart (.GeneratorExp elt [⟨tg, iter, ifs, 0⟩] scope pos) 0 (.ref it) .none Xg.env)
        ((model Xg.prog Xg.w).den (.compStart (.GeneratorExp elt [⟨tg, iter, ifs, 0⟩] scope pos) 0 (.ref it) .none Xg.env)) [] s := by
  show Seg _ A _ _ _ s0 _ ((compStart (.GeneratorExp elt [⟨tg, iter, ifs, 0⟩] scope pos) 0 (.ref it) .none Xg.env).onRaise (leaving Xg.env)) [] s
  unfold compStart
  rw [Sem.onRaise_eq_wrap]
  show Seg _ A _ _ _ s0 _ ((ask >>= _).wrap _ _ _ _) [] s
  apply seg_bind_wrap
  apply wpAny_askSetting
  split
  · exact seg_again rfl loop
  · first
      | exact seg_bind_wrap (wpAny_rule (seg_bind_wrap (wpAny_standAt (seg_bind_wrap (T.self _ 0 s _ _ st (seg_again rfl loop))))))
      | (refine seg_bind_wrap (wpAny_rule ?_); show Seg _ A _ _ _ s0 _ ((standAt iter.pos >>= _).wrap _ _ _ _) [] s; exact seg_bind_wrap (wpAny_standAt (seg_bind_wrap (T.self _ 0 s _ _ st (seg_again rfl loop)))))
end

/-- a generator expression's value: a generator that has not begun -/
def GxM (X : Cx) (pins : List (Addr × Obj)) (σ : L2.St) (k : Nat) (Y : YP) (Dn : DP) (u : Value) (s : Shared) : Prop :=
  ∃ (a : Addr) (n : Nat), u = .ref a ∧ (∃ g, s.heap.IsGen a g) ∧ (∃ H, Inv X pins σ H s) ∧ ∀ (A : Around) (SS : List Addr) (Hist : HP) (s2 : Shared), Room (k + 2) A → A.frames = some X.stack → (∀ b ∈ SS, s.heap.objs.size ≤ b) →
    Slp SS s s2 → s2.gens = s.gens → Hist [] s2.heap → GIt X pins σ a SS Y Dn Hist A n s2


section
variable {X : Cx} {σ : L2.St} {H : Hp} {s : Shared} {pins : List (Addr × Obj)}
theorem inv_gens {g' : Array GenState} (I : Inv X pins σ H s) (hg : AllBare g') : Inv X pins σ H { s with gens := g' } :=
  I.call' (s' := { s with gens := g' }) (ch := []) rfl (Un.kept fun _ _ e => e) I.hok hg fun b z => by simp at z
theorem inv_kept' {s' : Shared} (I : Inv X pins σ H s) (ho : s'.os = s.os) (k : ∀ b u, s.heap.get? b = some u → s'.heap.get? b = some u) (hg : AllBare s'.gens) : Inv X pins σ H s' :=
  I.call' (ch := []) ho (Un.kept k) (I.hok.kept k) hg fun b z => by simp at z
end

theorem gxm_made {X : Cx} {pins : List (Addr × Obj)} {σ : L2.St} {H3 : Hp} {s3 : Shared} {k m0 : Nat} {elt tg iter : Expr} {ifs : List Expr} {scope : Scope} {own : List (Str × Nat)} {pos : Pos} {g : TG} {tt : TT} {te : TE} {Y : YP} {Dn : DP}
    {it : Addr} {fp : List Addr} {tn : Nat → Heap → Prop} {J : It} {W : Nat → Nat → List V → Hp → Prop} {cenv : Env} {cv : Value} {h' : Heap} {go : Obj} {tk : Nat}
    (I3 : Inv X pins σ H3 s3) (hN : X.N.Nodup) (ok : BlkOk X.N X.env.scope scope own) (hco : scope.isCoroutine = false) (hdot : (".0" : Str) ∉ X.N) (hY : YMono Y)
    (hcenv : cenv = gEnv scope (cellsFrom (s3.heap.objs.size + 1) scope.names (cloFrom X.env.cells scope.names [])) s3.heap.objs.size cv builtinsNs X.env)
    (hg : ∀ (A : Around) (fp : List Addr) (pn : List (Addr × Obj)), Room k A → PG (gCx X A s3 H3 cenv fp pn) tg g)
    (ht : ∀ (A : Around) (fp : List Addr) (pn : List (Addr × Obj)), Room k A → PTs (gCx X A s3 H3 cenv fp pn) ifs tt)
    (he : ∀ (A : Around) (fp : List Addr) (pn : List (Addr × Obj)), Room k A → PE (gCx X A s3 H3 cenv fp pn) elt te)
    (T : Turn X.prog X.w X.K tg J fp it tn) (st3 : tn 0 s3.heap) (f3 : ∀ b ∈ fp, FpOk X pins H3 b) (w0 : W 0 m0 [] H3) (turns : GTurns J g tt te (own.map (·.2)) σ Y Dn W)
    (hns : h'.Ns s3.heap.objs.size (fun y => if y = (".0" : Str) then some (.ref it) else none))
    (hsb : Heap.SameBut s3.heap.objs.size (pushCells (s3.heap.push { cls := .type "frame", data := .dict #[] }) scope.names) h')
    (hgo : ∀ h : Heap, h.get? h'.objs.size = some go → h.IsGen h'.objs.size s3.gens.size) (hgp : (h'.push go).get? h'.objs.size = some go) (hgc : ∀ v, go.data ≠ .cell v) :
    GxM X pins σ k Y Dn (.ref h'.objs.size) { s3 with gens := s3.gens.push (.fresh (.compStart (.GeneratorExp elt [⟨tg, iter, ifs, 0⟩] scope pos) 0 (.ref it) .none cenv)), toks := tk, heap := h'.push go } := by
  have kp0 : ∀ b o, s3.heap.get? b = some o → h'.get? b = some o := fun b o e => (hsb.2 b (Nat.ne_of_lt (Heap.lt_size e))).trans (pushCells_keeps _ _ _ _ (Heap.get?_push_of_some _ e))
  have kp5 : ∀ b o, s3.heap.get? b = some o → (h'.push go).get? b = some o := fun b o e => Heap.get?_push_of_some _ (kp0 b o e)
  have hb5 : AllBare (s3.gens.push (.fresh (.compStart (.GeneratorExp elt [⟨tg, iter, ifs, 0⟩] scope pos) 0 (.ref it) .none cenv))) := AllBare.push I3.bare rfl
  have lt' : s3.heap.objs.size < h'.objs.size := hns.lt
  generalize hs5 : ({ s3 with gens := s3.gens.push (.fresh (.compStart (.GeneratorExp elt [⟨tg, iter, ifs, 0⟩] scope pos) 0 (.ref it) .none cenv)), toks := tk, heap := h'.push go } : Shared) = s5
  have e5h : s5.heap = h'.push go := by rw [← hs5]
  have e5g : s5.gens = s3.gens.push (.fresh (.compStart (.GeneratorExp elt [⟨tg, iter, ifs, 0⟩] scope pos) 0 (.ref it) .none cenv)) := by rw [← hs5]
  have e5o : s5.os = s3.os := by rw [← hs5]
  have I5 : Inv X pins σ H3 s5 := inv_kept' I3 e5o (fun b u e => by rw [e5h]; exact kp5 b u e) (by rw [e5g]; exact hb5)
  have sz5 : s5.heap.objs.size = h'.objs.size + 1 := by rw [e5h, Heap.size_push]
  have hga : s5.heap.get? h'.objs.size = some go := by rw [e5h]; exact hgp
  refine ⟨h'.objs.size, m0 + 1, rfl, ⟨_, hgo _ hga⟩, ⟨H3, I5⟩, fun A SS Hist sx hrA hfrA hSS z hgens hh => ?_⟩
  have hrX : Room k (A.in1.deeper cenv) := hrA.in1.deeper cenv
  have ltfp : ∀ b ∈ fp, b < s3.heap.objs.size := fun b hb => by
    obtain ⟨o, e, _⟩ := T.obj _ _ st3 b hb
    exact Heap.lt_size e
  have I6 : Inv (gCx X (A.in1.deeper cenv) s3 H3 cenv fp [(h'.objs.size, go)]) [] (wipe σ (own.map (·.2))) H3 s5 := by
    rw [← hs5]
    refine gen_start I3 ok hN (fun b hb => ⟨f3 b hb, ltfp b hb⟩) hcenv hrX.hd (Around.frames_deeper hfrA) hns hdot hsb (fun b o e => Heap.get?_push_of_some _ e) hb5 fun p hp => ?_
    rw [List.mem_singleton.mp hp]
    exact ⟨hgp, Nat.le_refl _, hgc⟩
  have ltS : ∀ b u, s5.heap.get? b = some u → b ∉ SS := fun b u e hb => absurd (Nat.lt_of_lt_of_le (Heap.lt_size e) (hSS b hb)) (Nat.lt_irrefl _)
  have kx : ∀ b u, s5.heap.get? b = some u → sx.heap.get? b = some u := fun b u e => z.keep b u (ltS b u e) e
  have I7 := inv_kept' (s' := sx) I6 z.os kx z.bare
  have Ix : Inv X pins σ H3 sx := inv_kept' I5 z.os kx z.bare
  have nS : ∀ b ∈ SS, H3 b = none := fun b hb => I5.hok.fresh (hSS b hb)
  have hSX : ∀ b ∈ SS, X.s_0.heap.objs.size ≤ b ∧ b ≠ X.env.locals ∧ (∀ x c, X.env.cells.lookup x = some c → c ≠ b) ∧ ∀ p ∈ X.pn ++ pins, p.1 ≠ b := fun b hb => by
    obtain ⟨_, q2, q3, q4, _⟩ := inv_new (sz := 0) I5 I5 (hSS b hb)
    exact ⟨Nat.le_trans I5.sz (hSS b hb), q2, q3, q4⟩
  have hSg : ∀ b ∈ SS, s3.heap.objs.size ≤ b ∧ b ≠ cenv.locals ∧ (∀ x c, cenv.cells.lookup x = some c → c ≠ b) ∧ ∀ p ∈ [(h'.objs.size, go)], p.1 ≠ b := fun b hb => by
    obtain ⟨_, q2, q3, q4, _⟩ := inv_new (sz := 0) I6 I6 (hSS b hb)
    exact ⟨Nat.le_trans I6.sz (hSS b hb), q2, q3, fun p hp => q4 p (by simpa using hp)⟩
  obtain ⟨cp, c1, c2⟩ := slp_pins z
  have I8 : Inv (gCx X (A.in1.deeper cenv) s3 H3 cenv fp [(h'.objs.size, go)]) cp (wipe σ (own.map (·.2))) H3 sx := I7.pins_of fun p hp => by
    obtain ⟨q1, q2, q3⟩ := c2 p hp
    obtain ⟨r1, r2, r3, r4⟩ := hSg _ q3
    exact ⟨q1, nS _ q3, r2, I6.nofs (hSS _ q3), q2⟩
  have hsc : cenv.scope = scope := by rw [hcenv]
  have haS : h'.objs.size ∉ SS := ltS _ _ hga
  refine git_of (X := X) (pins := pins) (σ := σ) (SS := SS) (Hist := Hist) (A := A) (Dn := Dn) (a := h'.objs.size) (Xg := gCx X (A.in1.deeper cenv) s3 H3 cenv fp [(h'.objs.size, go)]) (go := go) (g := s3.gens.size) rfl rfl hrA.hd (by have := hrA.dp; omega) hY
    (fun σ1 H s1 cp g' I1 hb => ?_) (List.mem_singleton.mpr rfl) hgo haS hSX (m0 + 1) sx (.fresh (.compStart (.GeneratorExp elt [⟨tg, iter, ifs, 0⟩] scope pos) 0 (.ref it) .none cenv)) (hgo _ (kx _ _ hga)) ⟨H3, Ix, nS⟩ (by rw [hgens, e5g]; exact Array.getElem?_push_size ..) ⟨rfl, ?_⟩
  · exact I3.call' (s' := { s1 with gens := g' }) (ch := fp) I1.os I1.base I1.hok hb fun b hb => ⟨(f3 b hb).2.2.2.1, (f3 b hb).2.1, (f3 b hb).2.2.2.2.1, (f3 b hb).2.2.2.2.2⟩
  · have stx : tn 0 sx.heap := T.keep _ _ _ st3 fun b hb o e => kx b o (by rw [e5h]; exact kp5 b o e)
    refine seg_start (Xg := gCx X (A.in1.deeper cenv) s3 H3 cenv fp [(h'.objs.size, go)]) T stx ?_
    refine seg_loop (Xg := gCx X (A.in1.deeper cenv) s3 H3 cenv fp [(h'.objs.size, go)]) (A := A.in1) (σ := σ) rfl rfl rfl T rfl (by show cenv.scope.isCoroutine = _; rw [hsc]; exact hco) (hg _ _ _ hrX) (ht _ _ _ hrX) (he _ _ _ hrX) hY turns
      (fun b hb => ⟨(I6.ok.exf b hb).1, I6.ok.exfs b hb, fun x c e => (I6.ok.exf b hb).2 x c e, fun p hp => ?_, fun hm => ?_⟩) hSg m0 (m0 + 1) 0 [] _ _ H3 cp (Nat.lt_succ_self _) (inv_gens I8 (allBare_setGen I8.bare rfl)) stx (fun b hb => (f3 b hb).1) ⟨c1, fun p hp => (c2 p hp).1⟩ hh w0
    · cases List.mem_singleton.mp hp
      exact Nat.ne_of_gt (Nat.lt_trans (ltfp b hb) lt')
    · exact absurd (Nat.lt_of_lt_of_le (Nat.lt_trans (ltfp b hb) (by rw [sz5]; exact Nat.lt_succ_of_lt lt')) (hSS b hm)) (Nat.lt_irrefl _)

theorem pgx {X : Cx} {pins : List (Addr × Obj)} {σ : L2.St} {H : Hp} {s : Shared} {c P : Addr} {k : Nat} {elt tg iter : Expr} {ifs : List Expr} {scope : Scope} {own : List (Str × Nat)} {pos : Pos} {wi : TI} {g : TG} {tt : Value → TT} {te : Value → TE} {Y : YP} {Dn : DP}
    (I : Inv X pins σ H s) (hN : X.N.Nodup) (hi : PI X tg iter wi) (ok : BlkOk X.N X.env.scope scope own) (hco : scope.isCoroutine = false) (h0 : scope.names.lookup (".0" : Str) = some NameKind.local) (hdot : (".0" : Str) ∉ X.N)
    (hdep : X.A.depth < recursionLimit) (hcode : X.env.code = .ref c) (hblt : BltM X) (hY : YMono Y)
    (hg : ∀ (A : Around) (s : Shared) (H : Hp) (cenv : Env) (fp : List Addr) (pn : List (Addr × Obj)), Room k A → cenv.scope = scope → PG (gCx X A s H cenv fp pn) tg g)
    (ht : ∀ (A : Around) (s : Shared) (H : Hp) (cenv : Env) (fp : List Addr) (pn : List (Addr × Obj)), Room k A → cenv.scope = scope → PTs (gCx X A s H cenv fp pn) ifs (tt cenv.code))
    (he : ∀ (A : Around) (s : Shared) (H : Hp) (cenv : Env) (fp : List Addr) (pn : List (Addr × Obj)), Room k A → cenv.scope = scope → PE (gCx X A s H cenv fp pn) elt (te cenv.code))
    (hs : ∀ x, genFold iter X.env x = pure x)
    (h : wi σ H fun J H1 => TabN 0 H1 P ∧ CodeK X H1 c P ∧ ∀ cv H2, TbG H1 H2 → (∀ b o, b ≠ P → H1 b = some o → H2 b = some o) → (TabN 1 H1 P → CodeV H2 cv) → ∃ W : Nat → Nat → List V → Hp → Prop, (∃ m, W 0 m [] H2) ∧ GTurns J g (tt cv) (te cv) (own.map (·.2)) σ Y Dn W) :
    wpAny (model X.prog X.w) X.A (eval (.GeneratorExp elt [⟨tg, iter, ifs, 0⟩] scope pos) X.env) (GxM X pins σ k Y Dn) X.xe s := by
  rw [eval_GeneratorExp1 _ _ _ _ _ _ _ hco, closure_ok fun y hy e => I.ok.has y.1 (ok.free y hy e)]
  refine wpAny_bind (thn (hi.run pins s σ H _ I h) fun xv s1 hx => ?_)
  refine (wpAny_bind (wpAny_standAt (wpAny_bind (wpAny_of_eq (hs xv) ?_))))
  refine wpAny_bind (wpAny_holding (thn hx fun itv s2 h2 => ?_))
  obtain ⟨it, fp, tn, J, H2, e, I2, T, st2, f2, tab0, ck, q⟩ := h2
  subst e
  refine wpAny_bind (wpAny_enterFrame I2.nolimit hdep ?_)
  refine (wpAny_bind (wpAny_pure ?_))
  refine wpAny_bind (gx_code I2 hcode ck tab0 fun cv H3 s3 I3 tg3 tx3 hcv hfr3 hk3 => ?_)
  obtain ⟨W, ⟨m0, w0⟩, turns⟩ := q cv H3 tg3 tx3 hcv
  obtain ⟨bm, ob, e1, e2, e3, e4, e5, e6⟩ := hblt
  refine wpAny_bind (wpAny_builtinsFor (m := X.mg) (by rw [I3.ok.glob]; exact I3.mod.glob.keeps I3.bk) e1 e2 (I3.bk _ _ e3) e4 e5 e6 ?_)
  refine wpAny_bind (newEnv_gen ok.kind h0 fun h' hns hsb => ?_)
  delta newGenerator newFields
  refine wpAny_bind (wpAny_newGen ?_)
  refine wpAny_bind (wpAny_mkText (wpAny_bind (wpAny_mkText ?_)))
  refine wpAny_newObj_type (s := _) ?_ (by size_fits)
  have f3 : ∀ b ∈ fp, FpOk X pins H3 b := fun b hb => by
    obtain ⟨⟨q1, q2⟩, o, e, _⟩ := And.intro (f2 b hb) (T.obj _ _ st2 b hb)
    exact ⟨hfr3 b q1 (Heap.lt_size e), q2⟩
  have st3 : tn 0 s3.heap := T.keep _ _ _ st2 fun b hb o e => hk3 b o (fun z => by
    obtain ⟨ps, hP, _⟩ := tab0
    have hb0 := (f2 b hb).1
    rw [z, hP] at hb0
    cases hb0) e
  have hcd : (gEnv scope (cellsFrom (s3.heap.objs.size + 1) scope.names (cloFrom X.env.cells scope.names [])) s3.heap.objs.size cv builtinsNs X.env).code = cv := rfl
  exact gxm_made (s3 := s3) (H3 := H3) (h' := h') (cv := cv) (tt := tt cv) (te := te cv) (cenv := gEnv scope (cellsFrom (s3.heap.objs.size + 1) scope.names (cloFrom X.env.cells scope.names [])) s3.heap.objs.size cv builtinsNs X.env)
    I3 hN ok hco hdot hY rfl (fun A fp pn hr => hg A s3 H3 _ fp pn hr rfl) (fun A fp pn hr => ht A s3 H3 _ fp pn hr rfl) (fun A fp pn hr => he A s3 H3 _ fp pn hr rfl) T st3 f3 w0 turns hns hsb (fun h e => ⟨_, _, _, e, rfl, rfl, rfl⟩) (Heap.get?_push_size _ rfl) (fun v q => by cases q)
end Gx
end

section
set_option Elab.async false
set_option linter.all false
set_option maxRecDepth 100000
set_option maxHeartbeats 4100000
namespace Gx
open PySem PySem.Spec PyProof.Rows L2 GenW

section
variable {X : Cx} {pins : List (Addr × Obj)} {σ : L2.St} {a : Addr} {SS : List Addr} {Y : YP} {Dn : DP} {Hist : HP} {A : Around} {n : Nat} {s : Shared}
/-- both levels at once -/
def GK (X : Cx) (pins : List (Addr × Obj)) (σ : L2.St) (a : Addr) (SS : List Addr) (Y : YP) (Dn : DP) (Hist : HP) (A : Around) : Nat → Shared → Prop
  | 0 => fun _ => False
  | n + 1 => GIt X pins σ a SS Y Dn Hist A n
theorem GIt.open (h : GIt X pins σ a SS Y Dn Hist A n s) : (∃ g, s.heap.IsGen a g) ∧ (∃ H, Inv X pins σ H s ∧ ∀ b ∈ SS, H b = none) ∧ ∀ (Q : Option Value → Shared → Prop) (E : Value → Shared → Prop),
      (∀ v x H s1 ys, RelV x v → Inv X pins σ H s1 → Same' SS s.heap s1.heap → (∀ b ∈ SS, H b = none) → Hist ys s.heap → Y ys x H (∀ s', s'.gens = s1.gens → Slp SS s1 s' → Hist (ys ++ [x]) s'.heap → GK X pins σ a SS Y Dn Hist A n s') → Q (some v) s1) →
      (∀ H s1 ys, Inv X pins σ H s1 → Same' SS s.heap s1.heap → (∀ b ∈ SS, H b = none) → Hist ys s.heap → Dn ys H → Q none s1) → wpAny (model X.prog X.w) A (pyNext (.ref a)) Q E s := by
  cases n with
  | zero => exact h
  | succ n => exact h
theorem slp_refl (h : AllBare s.gens) : Slp [] s s := ⟨rfl, h, fun _ _ _ e => e, fun b hb => absurd hb (by simp)⟩

/-! ### any, all -/
theorem any_loop {R : Result → Shared → Prop}
    (hY : ∀ ys x H K, Y ys x H K → ∃ b, x = V.bl b ∧ (b = true → ∀ s', Inv X pins σ H s' → R (.ok (.ret (.bool true))) s') ∧ (b = false → K))
    (hD : ∀ ys H s', Dn ys H → Inv X pins σ H s' → R (.ok (.ret (.bool false))) s') (n : Nat) : ∀ s : Shared, GIt X pins σ a [] Y Dn (fun _ _ => True) A.in1 n s →
    codeAny (model X.prog X.w) A (.builtin "any.loop" ⟨[.ref a], []⟩) R s := by
  have turn : ∀ (n : Nat) (s : Shared), GIt X pins σ a [] Y Dn (fun _ _ => True) A.in1 n s → (∀ s', GK X pins σ a [] Y Dn (fun _ _ => True) A.in1 n s' → codeAny (model X.prog X.w) A (.builtin "any.loop" ⟨[.ref a], []⟩) R s') →
      codeAny (model X.prog X.w) A (.builtin "any.loop" ⟨[.ref a], []⟩) R s := fun n s g next => by
    (refine codeAny_builtin F.entry_any_loop ?_; rw [Around.under_plainId F.plain_any_loop _])
    have done_ : ∀ H (s1 : Shared) ys, Inv X pins σ H s1 → Dn ys H → _ := fun H s1 ys I1 d => hD ys H s1 d I1
    refine wpAny_bind (g.open.2.2 _ _ (fun v x H s1 ys rv I1 _ _ _ y => ?_) fun H s1 ys I1 _ _ _ d => wpAny_bind (wpAny_rule (wpAny_pure (done_ H s1 ys I1 d))))
    obtain ⟨b, rfl, hstop, hgo⟩ := hY _ _ _ _ y
    cases rv
    refine wpAny_bind (wpAny_holding (wpAny_truthy_bool (wpAny_bind (wpAny_letGo ?_))))
    cases b <;> simp only [if_true, if_false, Bool.false_eq_true]
    all_goals first
      | exact wpAny_bind (wpAny_rule (wpAny_pure (hstop rfl s1 I1)))
      | exact wpAny_pure ⟨plainId_quiet F.plain_any_loop _, next s1 (hgo rfl s1 rfl (slp_refl I1.bare) trivial)⟩
  induction n with
  | zero => exact fun s g => turn 0 s g fun _ k => k.elim
  | succ n ih => exact fun s g => turn (n + 1) s g ih
theorem all_loop {R : Result → Shared → Prop}
    (hY : ∀ ys x H K, Y ys x H K → ∃ b, x = V.bl b ∧ (b = false → ∀ s', Inv X pins σ H s' → R (.ok (.ret (.bool false))) s') ∧ (b = true → K))
    (hD : ∀ ys H s', Dn ys H → Inv X pins σ H s' → R (.ok (.ret (.bool true))) s') (n : Nat) : ∀ s : Shared, GIt X pins σ a [] Y Dn (fun _ _ => True) A.in1 n s →
    codeAny (model X.prog X.w) A (.builtin "all.loop" ⟨[.ref a], []⟩) R s := by
  have turn : ∀ (n : Nat) (s : Shared), GIt X pins σ a [] Y Dn (fun _ _ => True) A.in1 n s → (∀ s', GK X pins σ a [] Y Dn (fun _ _ => True) A.in1 n s' → codeAny (model X.prog X.w) A (.builtin "all.loop" ⟨[.ref a], []⟩) R s') →
      codeAny (model X.prog X.w) A (.builtin "all.loop" ⟨[.ref a], []⟩) R s := fun n s g next => by
    (refine codeAny_builtin F.entry_all_loop ?_; rw [Around.under_plainId F.plain_all_loop _])
    have done_ : ∀ H (s1 : Shared) ys, Inv X pins σ H s1 → Dn ys H → _ := fun H s1 ys I1 d => hD ys H s1 d I1
    refine wpAny_bind (g.open.2.2 _ _ (fun v x H s1 ys rv I1 _ _ _ y => ?_) fun H s1 ys I1 _ _ _ d => wpAny_bind (wpAny_rule (wpAny_pure (done_ H s1 ys I1 d))))
    obtain ⟨b, rfl, hstop, hgo⟩ := hY _ _ _ _ y
    cases rv
    refine wpAny_bind (wpAny_holding (wpAny_truthy_bool (wpAny_bind (wpAny_letGo ?_))))
    cases b <;> simp only [if_true, if_false, Bool.false_eq_true]
    all_goals first
      | exact wpAny_bind (wpAny_rule (wpAny_pure (hstop rfl s1 I1)))
      | exact wpAny_pure ⟨plainId_quiet F.plain_all_loop _, next s1 (hgo rfl s1 rfl (slp_refl I1.bare) trivial)⟩
  induction n with
  | zero => exact fun s g => turn 0 s g fun _ k => k.elim
  | succ n ih => exact fun s g => turn (n + 1) s g ih

/-! ### sum -/
def HSum (S : Addr) : HP := fun ys h => ∃ (ns : List Int) (t : Tok) (c : Nat), ys = ns.map V.int ∧ h.get? S = some (lstObj #[.int ns.sum t] c)
theorem map_int_inj {ns ms : List Int} (h : ns.map V.int = ms.map V.int) : ns = ms :=
  List.map_inj_right (fun _ _ e => V.int.inj e) |>.mp h
theorem slp_upd {S : Addr} {f : Obj → Obj} {acc : Array Value} {c : Nat} {tk : Nat} (hb : AllBare s.gens) (hS : s.heap.get? S = some (lstObj acc c)) (o : Obj) (ho : (s.heap.update S f).get? S = some o) (hc : ∀ v, o.data ≠ .cell v) :
    Slp [S] s { s with heap := s.heap.update S f, toks := tk } :=
  ⟨rfl, hb, fun b ob h e => (Heap.get?_update_other _ _ (fun z : S = b => h (by rw [z]; exact List.mem_singleton.mpr rfl))).trans e, fun b hm => by rw [List.mem_singleton.mp hm]; exact ⟨o, ho, hc⟩⟩

theorem sum_loop {R : Result → Shared → Prop} {S : Addr}
    (hY : ∀ ys x H K, Y ys x H K → ∃ i, x = V.int i ∧ (∀ ns : List Int, ys = ns.map V.int → InLong i ∧ InLong (ns.sum + i)) ∧ K)
    (hD : ∀ (ns : List Int) H s' t, Dn (ns.map V.int) H → Inv X pins σ H s' → R (.ok (.ret (.int ns.sum t))) s') : ∀ (n : Nat) (s : Shared), GIt X pins σ a [S] Y Dn (HSum S) A.in1 n s → (∃ ys, HSum S ys s.heap) →
    codeAny (model X.prog X.w) A (.builtin "sum.loop" ⟨[.ref a, .ref S, rawInt 0, rawInt 0], []⟩) R s := by
  have same : ∀ {ns : List Int} {t : Tok} {c : Nat} {ys : List V} {s : Shared}, s.heap.get? S = some (lstObj #[.int ns.sum t] c) → HSum S ys s.heap → ∃ ms : List Int, ys = ms.map V.int ∧ ms.sum = ns.sum := fun {ns t c ys s} h1 ⟨ms, t', c', e, h2⟩ => by
    rw [h1] at h2
    have h3 : (Value.int ns.sum t) = .int ms.sum t' := by
      have := congrArg Obj.data (Option.some.inj h2)
      simpa using (by injection this : (#[Value.int ns.sum t] : Array Value) = #[.int ms.sum t'])
    injection h3 with h4 _
    exact ⟨ms, e, h4.symm⟩
  have main : ∀ (n : Nat) (s : Shared) (K : Shared → Prop), GIt X pins σ a [S] Y Dn (HSum S) A.in1 n s → (∃ ys, HSum S ys s.heap) → (∀ s', GK X pins σ a [S] Y Dn (HSum S) A.in1 n s' → (∃ ys, HSum S ys s'.heap) → codeAny (model X.prog X.w) A (.builtin "sum.loop" ⟨[.ref a, .ref S, rawInt 0, rawInt 0], []⟩) R s') →
      codeAny (model X.prog X.w) A (.builtin "sum.loop" ⟨[.ref a, .ref S, rawInt 0, rawInt 0], []⟩) R s := by
    intro n s K g ⟨ys0, ns, t, c, e0, hS⟩ next
    (refine codeAny_builtin F.entry_sum_loop ?_; rw [Around.under_plainId F.plain_sum_loop _])
    refine wpAny_bind (m := seqItems? (.ref S)) (wpAny_seqItems hS rfl ?_)
    show wpAny _ A.in1 (tryCatch (pyNext (.ref a)) _ >>= _) _ _ s
    refine wpAny_bind (wpAny_tryCatch (g.open.2.2 _ _ (fun v x H s1 ys rv I1 sm _ hh y => ?_) fun H s1 ys I1 sm _ hh d => ?_))
    · obtain ⟨i, rfl, hf, k⟩ := hY _ _ _ _ y
      obtain ⟨ti, rfl⟩ := rv
      obtain ⟨ms, e1, e2⟩ := same hS hh
      have hS' := sm S (List.mem_singleton.mpr rfl) _ hS
      obtain ⟨⟨f1, f2⟩, f3, f4⟩ := hf ms e1
      rw [e2] at f3 f4
      have hc : ((decide (-(2 ^ 63) ≤ i) && decide (i < 2 ^ 63)) && (decide (-(2 ^ 63) ≤ ns.sum + i) && decide (ns.sum + i < 2 ^ 63))) = true := by
        rw [decide_eq_true f1, decide_eq_true f2, decide_eq_true f3, decide_eq_true f4]
        rfl
      show wpAny _ A.in1 (if (_ : Bool) = true then (mkInt (ns.sum + i) >>= _) else _) _ _ _
      split
      · refine (wpAny_bind (wpAny_mkInt ?_))
        show wpAny _ A.in1 (updateSeq S (fun _ => #[.int (ns.sum + i) s1.toks]) >>= _) _ _ _
        refine wpAny_bind ?_
        refine wpAny_updateSeq hS' rfl (wpAny_pure ⟨plainId_quiet F.plain_sum_loop _, ?_⟩)
        have hS2 := Heap.get?_update_self (Obj.mapSeq (fun _ => (#[.int (ns.sum + i) s1.toks] : Array Value))) hS' rfl
        have hist : HSum S (ys ++ [V.int i]) (s1.heap.update S (Obj.mapSeq (fun _ => (#[.int (ns.sum + i) s1.toks] : Array Value)))) :=
          ⟨ms ++ [i], s1.toks, _, by rw [e1]; simp, by
            have e9 : (ms ++ [i]).sum = ns.sum + i := by rw [List.sum_append, e2]; simp
            rw [e9]; exact hS2⟩
        exact next _ (k _ rfl (slp_upd I1.bare hS' _ hS2 fun v q => by cases q) hist) ⟨_, hist⟩
      · rename_i hne
        exact absurd hc hne
    · obtain ⟨ms, e1, e2⟩ := same hS hh
      subst e1
      rw [← e2]
      exact wpAny_pure (hD ms H s1 t d I1)
  intro n
  induction n with
  | zero => exact fun s g hh => main 0 s (fun _ => True) g hh fun s' k _ => k.elim
  | succ n ih => exact fun s g hh => main (n + 1) s (fun _ => True) g hh fun s' k h' => ih s' k h'

/-! ### list.extend's loop: what a generator hands out is collected -/
def HLst (S : Addr) : HP := fun ys h => ∃ (acc : Array Value) (c : Nat), Vals ys acc.toList ∧ h.get? S = some (lstObj acc c)
theorem ext_loop {R : Result → Shared → Prop} {S : Addr} {res : Value}
    (hY : ∀ ys x H K, Y ys x H K → ys.length < sizeLine ∧ K)
    (hD : ∀ ys H s' acc c, Dn ys H → Inv X pins σ H s' → H S = none → Vals ys acc.toList → s'.heap.get? S = some (lstObj acc c) → R (.ok (.ret res)) s') : ∀ (n : Nat) (s : Shared), GIt X pins σ a [S] Y Dn (HLst S) A.in1 n s → (∃ ys, HLst S ys s.heap) →
    codeAny (model X.prog X.w) A (.builtin "list.extend.loop" ⟨[.ref S, .ref a, res], []⟩) R s := by
  have main : ∀ (n : Nat) (s : Shared), GIt X pins σ a [S] Y Dn (HLst S) A.in1 n s → (∃ ys, HLst S ys s.heap) → (∀ s', GK X pins σ a [S] Y Dn (HLst S) A.in1 n s' → (∃ ys, HLst S ys s'.heap) → codeAny (model X.prog X.w) A (.builtin "list.extend.loop" ⟨[.ref S, .ref a, res], []⟩) R s') →
      codeAny (model X.prog X.w) A (.builtin "list.extend.loop" ⟨[.ref S, .ref a, res], []⟩) R s := by
    intro n s g hh0 next
    (refine codeAny_builtin F.entry_extend_loop ?_; rw [Around.under_plainId F.plain_extend_loop _])
    refine wpAny_bind (g.open.2.2 _ _ (fun v x H s1 ys rv I1 sm _ hh y => ?_) fun H s1 ys I1 sm hn hh d => ?_)
    · obtain ⟨acc, c, r, hS⟩ := hh
      obtain ⟨hlt, k⟩ := hY _ _ _ _ y
      have hS' := sm S (List.mem_singleton.mpr rfl) _ hS
      have hsz : acc.size = ys.length := Array.length_toList.symm.trans r.length.symm
      refine wpAny_bind (m := updateSeq S (·.push v)) ?_
      refine wpAny_updateSeq hS' rfl (wpAny_pure ⟨plainId_quiet F.plain_extend_loop _, ?_⟩) (by rw [hsz]; exact Nat.le_of_lt hlt) (by show (acc.push v).size ≤ sizeLine + 1; rw [Array.size_push]; omega)
      have hS2 := Heap.get?_update_self (Obj.mapSeq (·.push v)) hS' rfl
      have hist : HLst S (ys ++ [x]) (s1.heap.update S (Obj.mapSeq (·.push v))) := ⟨acc.push v, _, by rw [Array.toList_push]; exact r.append (.cons rv .nil), hS2⟩
      exact next _ (k _ rfl (slp_upd (tk := s1.toks) I1.bare hS' _ hS2 fun v q => by cases q) hist) ⟨_, hist⟩
    · obtain ⟨acc, c, r, hS⟩ := hh
      exact wpAny_pure (hD ys H s1 acc c d I1 (hn S (List.mem_singleton.mpr rfl)) r (sm S (List.mem_singleton.mpr rfl) _ hS))
  intro n
  induction n with
  | zero => exact fun s g hh => main 0 s g hh fun s' k _ => k.elim
  | succ n ih => exact fun s g hh => main (n + 1) s g hh fun s' k h' => ih s' k h'
end
end Gx
end

section
set_option Elab.async false
set_option linter.all false
set_option maxRecDepth 100000
set_option maxHeartbeats 4100000
namespace Gx
open PySem PySem.Spec PyProof.Rows L2 GenW

section
variable {X : Cx} {pins : List (Addr × Obj)} {σ : L2.St} {Y : YP} {Dn : DP} {A : Around} {k : Nat} {s : Shared} {u : Value} {E : Value → Shared → Prop}
theorem GxM.any {Q : Value → Shared → Prop} (G : GxM X pins σ k Y Dn u s) (hr : Room (k + 3) A) (hfr : A.frames = some X.stack)
    (hY : ∀ ys x H K, Y ys x H K → ∃ b, x = V.bl b ∧ (b = true → ∀ s', Inv X pins σ H s' → Q (.bool true) s') ∧ (b = false → K))
    (hD : ∀ ys H s', Dn ys H → Inv X pins σ H s' → Q (.bool false) s') : wpAny (model X.prog X.w) A (call (.builtin "any") [u]) Q E s := by
  obtain ⟨a, n, rfl, ⟨g, hg⟩, ⟨_, I0⟩, asked⟩ := G
  have g0 := asked A.in1 [] (fun _ _ => True) s hr.in1 hfr (fun b hb => absurd hb List.not_mem_nil) (slp_refl I0.bare) rfl trivial
  have run := any_loop (A := A) (R := fun r s' => wants Q E r s') hY hD n s g0
  exact call_function_tree F.kind_any F.plain_any F.entry_any (F.args_any1 _) (wpAny_bind (m := oneArg "any" _) (wpAny_pure (wpAny_bind (wpAny_pyIter_gen hg (wpAny_pure ⟨plainId_quiet F.plain_any_loop _, run⟩)))))
theorem GxM.all {Q : Value → Shared → Prop} (G : GxM X pins σ k Y Dn u s) (hr : Room (k + 3) A) (hfr : A.frames = some X.stack)
    (hY : ∀ ys x H K, Y ys x H K → ∃ b, x = V.bl b ∧ (b = false → ∀ s', Inv X pins σ H s' → Q (.bool false) s') ∧ (b = true → K))
    (hD : ∀ ys H s', Dn ys H → Inv X pins σ H s' → Q (.bool true) s') : wpAny (model X.prog X.w) A (call (.builtin "all") [u]) Q E s := by
  obtain ⟨a, n, rfl, ⟨g, hg⟩, ⟨_, I0⟩, asked⟩ := G
  have g0 := asked A.in1 [] (fun _ _ => True) s hr.in1 hfr (fun b hb => absurd hb List.not_mem_nil) (slp_refl I0.bare) rfl trivial
  have run := all_loop (A := A) (R := fun r s' => wants Q E r s') hY hD n s g0
  exact call_function_tree F.kind_all F.plain_all F.entry_all (F.args_all1 _) (wpAny_bind (m := oneArg "all" _) (wpAny_pure (wpAny_bind (wpAny_pyIter_gen hg (wpAny_pure ⟨plainId_quiet F.plain_all_loop _, run⟩)))))

/-- an object just laid: all else sleeps -/
theorem slp_push {o : Obj} {tk : Nat} (hb : AllBare s.gens) (hc : ∀ v, o.data ≠ .cell v) (hp : (s.heap.push o).get? s.heap.objs.size = some o) : Slp [s.heap.objs.size] s { s with heap := s.heap.push o, toks := tk } :=
  ⟨rfl, hb, fun b ob _ e => Heap.get?_push_of_some _ e, fun b hm => by rw [List.mem_singleton.mp hm]; exact ⟨o, hp, hc⟩⟩
theorem one_ge {n : Nat} : ∀ b ∈ [n], n ≤ b := fun b hb => List.mem_singleton.mp hb ▸ Nat.le_refl b

/-- is the start an int? the three questions that `sum` asks -/
theorem not_text {α : Type} {M : Model} {T : String} {m : Sem α} {Q : α → Shared → Prop} {s : Shared} {i : Int} {t : Tok} {r : Bool → Sem α} (hT : isSubtype (.type "int") (.type T) = pure false) (hr : r false = m) (h : wpAny M A m Q E s) :
    wpAny M A (isInstance (.int i t) (.type T) >>= r) Q E s := wpAny_bind (wpAny_isInstance (T := "int") (b := false) (typeIs_int _ _ _) hT (hr ▸ h))

theorem GxM.sum {Q : Value → Shared → Prop} (G : GxM X pins σ k Y Dn u s) (hr : Room (k + 3) A) (hfr : A.frames = some X.stack)
    (hY : ∀ ys x H K, Y ys x H K → ∃ i, x = V.int i ∧ (∀ ns : List Int, ys = ns.map V.int → InLong i ∧ InLong (ns.sum + i)) ∧ K)
    (hD : ∀ (ns : List Int) H s' t, Dn (ns.map V.int) H → Inv X pins σ H s' → Q (.int ns.sum t) s') : wpAny (model X.prog X.w) A (call (.builtin "sum") [u]) Q E s := by
  obtain ⟨a, n, rfl, ⟨g, hg⟩, ⟨_, I0⟩, asked⟩ := G
  have bp : Builtin.Builtins.bindParams "sum" ["start"] 0 { } = pure [none] := rfl
  have hp := Heap.get?_push_size s.heap (o := { cls := .type "list", data := .seq [Value.int 0 s.toks].toArray }) rfl
  have hist : HSum s.heap.objs.size [] (s.heap.push { cls := .type "list", data := .seq [Value.int 0 s.toks].toArray }) := ⟨[], s.toks, _, rfl, hp⟩
  have g0 := asked A.in1 [s.heap.objs.size] (HSum s.heap.objs.size) _ hr.in1 hfr one_ge (slp_push (tk := s.toks + 1) I0.bare (by intro v q; cases q) hp) rfl hist
  have run := sum_loop (A := A) (R := fun r s' => wants Q E r s') hY hD n _ g0 ⟨_, hist⟩
  apply call_function_tree F.kind_sum F.plain_sum F.entry_sum (F.args_sum1 _)
  unfold Builtin.«sum»
  rw [if_neg (by simp)]
  refine wpAny_bind (wpAny_of_eq bp (wpAny_bind (wpAny_pyIter_gen hg (wpAny_bind (wpAny_mkInt (wpAny_bind (wpAny_pure ?_)))))))
  dsimp only
  rw [List.forIn_cons]
  refine wpAny_bind (wpAny_bind (not_text PySem.sub_int_str rfl (wpAny_pure ?_)))
  dsimp only
  rw [List.forIn_cons]
  refine wpAny_bind (not_text PySem.sub_int_bytes rfl (wpAny_pure ?_))
  dsimp only
  rw [List.forIn_cons]
  refine wpAny_bind (not_text PySem.sub_int_bytearray rfl (wpAny_pure ?_))
  dsimp only
  rw [List.forIn_nil]
  exact wpAny_pure (wpAny_bind (wpAny_newObj_type (wpAny_pure ⟨plainId_quiet F.plain_sum_loop _, run⟩) (by show 1 ≤ sizeLine; decide)))

/-! ### what a generator hands out is collected -/
abbrev l0 : Obj := { cls := .type "list", data := .seq ([] : List Value).toArray }
/-- a list that was touched: one place more, and given back -/
abbrev touched (h : Heap) (S : Addr) : Heap := (h.update S (Obj.mapSeq (·.push Value.none))).update S (Obj.mapSeq (·.pop))
theorem touched_else {h : Heap} {S b : Addr} (hb : b ≠ S) : (touched h S).get? b = h.get? b :=
  Eq.trans (Heap.get?_update_other _ _ hb.symm) (Heap.get?_update_other _ _ hb.symm)
theorem touched_at {h : Heap} {S : Addr} (hS : h.get? S = some l0) : ∃ c, (touched h S).get? S = some (lstObj #[] c) :=
  ⟨_, Heap.get?_update_self (Obj.mapSeq (·.pop)) (Heap.get?_update_self (Obj.mapSeq (·.push Value.none)) hS rfl) rfl⟩
theorem touch_ok {M : Model} {Q : Unit → Shared → Prop} {S : Addr} (hS : s.heap.get? S = some l0) (h : Q () { s with heap := touched s.heap S }) : wpAny M A (Builtin.List.listTouch (.ref S)) Q E s :=
  wpAny_bind (m := updateSeq S (·.push .none)) (wpAny_updateSeq hS rfl (wpAny_updateSeq (Heap.get?_update_self _ hS rfl) rfl h))

/-- a fresh list is extended by a generator: what is left is the loop -/
theorem extend_gen {a S : Addr} {g : Nat} {R : Fin → Shared → Prop} (hg : s.heap.IsGen a g) (ne : S ≠ a) (hS : s.heap.get? S = some l0)
    (h : R (.again (.builtin "list.extend.loop" ⟨[.ref S, .ref a, .ref S], []⟩)) { s with heap := touched s.heap S }) : wpAny (model X.prog X.w) A (Builtin.List.listExtendWith (.ref S) (.ref a) (.ref S)) R E s := by
  have other : (Builtin.List.listSameRef (.ref S) (.ref a) || (Value.type "generator" == Value.type "list" || Value.type "generator" == Value.type "tuple")) = false := by simp [Builtin.List.listSameRef, ne]
  have ty := hg.typeIs
  delta Builtin.List.listExtendWith Builtin.List.listLengthHint
  refine wpAny_bind (wpAny_typeOf ty ?_)
  simp only [Bool.or_assoc, other, if_false, Bool.false_eq_true]
  refine wpAny_bind (wpAny_pyIter_gen hg (wpAny_bind (wpAny_holding (wpAny_bind (wpAny_specialOf ty F.gen_no_len ?_)))))
  refine wpAny_bind (m := specialOf (Value.ref a) (Str.ofString "__length_hint__")) (wpAny_specialOf ty F.gen_no_hint (wpAny_pure ?_))
  exact wpAny_bind (m := rule "list.extend.makes-room") (wpAny_rule (wpAny_bind (touch_ok hS (wpAny_pure h))))

theorem GxM.collect {Q : List Value → Shared → Prop} (G : GxM X pins σ k Y Dn u s) (hr : Room (k + 3) A) (hfr : A.frames = some X.stack)
    (hY : ∀ ys x H K, Y ys x H K → ys.length < sizeLine ∧ K)
    (hD : ∀ ys H s' us, Dn ys H → Inv X pins σ H s' → Vals ys us → Q us s') : wpAny (model X.prog X.w) A (collect u) Q E s := by
  obtain ⟨a, n, rfl, ⟨g, hg⟩, ⟨_, I0⟩, asked⟩ := G
  have hp : (s.heap.push l0).get? s.heap.objs.size = some l0 := Heap.get?_push_size _ rfl
  have old : ∀ b o, s.heap.get? b = some o → (s.heap.push l0).get? b = some o := fun b o e => Heap.get?_push_of_some _ e
  have ne : s.heap.objs.size ≠ a := fun e => let ⟨_, _, _, ho, _⟩ := hg
    Nat.lt_irrefl _ (e ▸ Heap.lt_size ho)
  obtain ⟨c, hS⟩ := touched_at hp
  have hist : HLst s.heap.objs.size [] (touched (s.heap.push l0) s.heap.objs.size) := ⟨#[], c, .nil, hS⟩
  have slp : Slp [s.heap.objs.size] s { s with heap := touched (s.heap.push l0) s.heap.objs.size } := by
    refine ⟨rfl, I0.bare, fun b o hb e => ?_, fun b hb => ?_⟩
    · exact (touched_else fun z => hb (List.mem_singleton.mpr z)).trans (old b o e)
    · cases List.mem_singleton.mp hb
      exact ⟨_, hS, fun v q => by cases q⟩
  have g0 := asked A.in1 [s.heap.objs.size] (HLst s.heap.objs.size) _ hr.in1 hfr one_ge slp rfl hist
  have run : ∀ R : Result → Shared → Prop, (∀ us c s', s'.heap.get? s.heap.objs.size = some (lstObj us c) → Q us.toList s' → R (.ok (.ret (.ref s.heap.objs.size))) s') → codeAny (model X.prog X.w) A (.builtin "list.extend.loop" ⟨[.ref s.heap.objs.size, .ref a, .ref s.heap.objs.size], []⟩) R { s with heap := touched (s.heap.push l0) s.heap.objs.size } :=
    fun R hR => ext_loop hY (fun ys H s' us c d I' _ r e => hR us c s' e (hD ys H s' _ d I' r)) n _ g0 ⟨_, hist⟩
  unfold PySem.collect
  refine (wpAny_bind (wpAny_runValue ?_))
  (refine codeAny_builtin F.entry_proto_collect ?_; rw [Around.under_plainId F.plain_proto_collect _])
  refine wpAny_bind (m := newList []) (wpAny_newObj_type (wpAny_pure ⟨plainId_quiet F.plain_list_iadd _, ?_⟩))
  (refine codeAny_builtin F.entry_list_iadd ?_; rw [Around.under_plainId F.plain_list_iadd _])
  refine extend_gen (X := X) (s := { s with heap := s.heap.push l0 }) (hg.keeps old) ne hp ⟨plainId_quiet F.plain_extend_loop _, run _ fun us c s' e q => ?_⟩
  exact wpAny_bind (m := load s.heap.objs.size) (wpAny_load e (wpAny_pure q))

/-- the type of what a generator expression gives -/
theorem GxM.type_ (G : GxM X pins σ k Y Dn u s) : ∃ a, u = .ref a ∧ s.TypeIs (.ref a) "generator" :=
  let ⟨a, _, e, ⟨_, hg⟩, _⟩ := G
  ⟨a, e, hg.typeIs⟩

theorem code_tuple_gx {T : Value → Shared → Prop} (G : GxM X pins σ k Y Dn u s) (hr : Room (k + 4) A) (hfr : A.frames = some X.stack) (hY : ∀ ys x H K, Y ys x H K → ys.length < sizeLine ∧ K)
    (h : ∀ ys H s' us, Dn ys H → Inv X pins σ H s' → Vals ys us → T (.ref s'.heap.objs.size) { s' with heap := s'.heap.push { cls := .type "tuple", data := .seq us.toArray } }) (hn : ∀ ys H, Dn ys H → ys.length ≤ sizeLine) :
    codeAny (model X.prog X.w) A (.call (.builtin "tuple.__new__") ⟨[.type "tuple", u], []⟩) (wants T E) s := by
  obtain ⟨a, rfl, ty⟩ := G.type_
  have got : ∀ {Q : List Value → Shared → Prop} {E : Value → Shared → Prop}, (∀ ys H s' us, Dn ys H → Inv X pins σ H s' → Vals ys us → Q us s') → wpAny (model X.prog X.w) A.in1 (PySem.collect (.ref a)) Q E s := fun q => G.collect hr.in1 hfr hY q
  have self := sub_tuple_self
  have noInit := init_tuple_lookup
  have here := madeHere_tuple
  apply codeAny_of_tree
  refine wpAny_bind (m := checkBuiltinCall "tuple.__new__" ⟨[.type "tuple", .ref a], []⟩) (wpAny_of_eq (F.newCall_tuple_1 _) (wpAny_pure ⟨plainId_quiet F.plain_tuple_new _, ?_⟩))
  (refine codeAny_builtin F.entry_tuple_new ?_; rw [Around.under_plainId F.plain_tuple_new _])
  wp_walk using wpAny_typeOf ty, got
  intro ys H s' us d I' r
  have hsz : us.toArray.size ≤ sizeLine := by rw [List.size_toArray, ← r.length]; exact hn ys H d
  show wpAny _ _ (Builtin.Tuple.tupleExact us.toArray >>= fun v => ret v) _ _ _
  exact wpAny_bind (wpAny_newObj_type (wpAny_pure (h ys H s' us d I' r)) hsz)

theorem GxM.tuple {Q : Value → Shared → Prop} (G : GxM X pins σ k Y Dn u s) (hr : Room (k + 5) A) (hfr : A.frames = some X.stack)
    (hY : ∀ ys x H K, Y ys x H K → ys.length < sizeLine ∧ K)
    (hD : ∀ ys H s' p, Dn ys H → H p = none → Inv X pins σ (upd H p (.tup ys)) s' → Q (.ref p) s') (hn : ∀ ys H, Dn ys H → ys.length ≤ sizeLine) : wpAny (model X.prog X.w) A (call (.type "tuple") [u]) Q E s := by
  obtain ⟨a, rfl, _⟩ := G.type_
  have made : codeAny (model X.prog X.w) A.in1 (.call (.builtin "tuple.__new__") ⟨[.type "tuple", .ref a], []⟩) (wants (fun obj s₁ => s₁.TypeIs obj "tuple" ∧ Q obj s₁) E) s := by
    refine code_tuple_gx G hr.in1 hfr hY (fun ys H s' us d I' r => ?_) hn
    refine ⟨⟨_, Heap.get?_push_size _ rfl, rfl⟩, hD ys H _ _ d (I'.hok.fresh (Nat.le_refl _)) ?_⟩
    exact I'.laid (t' := s'.toks) (fun b o e => Heap.get?_push_of_some _ e) (Nat.le_refl _) ⟨hn _ _ d, us, r, IsTup.new s'.heap _⟩
  refine callType_codes F.called_tuple (F.typeCall_tuple_1 _) F.entry_object_init made fun obj s₁ ⟨ty, q⟩ => ⟨ty, F.args_object_init_2 obj _, ?_⟩
  exact object_init_meets F.called_tuple.init.lookup F.called_tuple.made (by decide) X.prog X.w A.in1 _ s₁ ⟨ty, rfl, q⟩
end
end Gx
end

section
set_option Elab.async false
set_option linter.all false
set_option maxRecDepth 100000
set_option maxHeartbeats 4100000
/-! plain data, and what a reading computes over it -/
namespace Iv
open PySem PySem.Spec PyProof.Rows L2 Gx

/-- data that nothing writes to any more -/
inductive P where
  | non | bl (b : Bool) | int (i : Int) | str (x : Str) | tup (xs : List P) | lst (xs : List P) | scr (xs : List P) | dct (kvs : List (P × P)) | obj (c : Nat) (fs : List (Str × P)) | lam (i : Nat)
/-- a value: data, or the n-th cell of the store -/
inductive D where
  | p (x : P) | ref (n : Nat)
inductive Cell where
  | lst (ds : List D) | dK (kvs : List (Key × D)) | dT (kvs : List (List Key × D)) | obj (c : Nat) (fs : List (Str × D))
abbrev Store := List Cell
abbrev Env := List (Option D)

def kP : Key → P
  | .inl i => .int i
  | .inr x => .str x

/-- a lambda: its code's name, its text, what it holds -/
structure LamD where
  q : Str
  params : Arguments
  body : Expr
  scope : Scope
  cl : List (Str × Addr)
/-- a lambda's function object at f, its code at c -/
def LamO (d : LamD) (c f : Addr) : HO := .ext fun h => ∃ pm ctv, h.get? f = some (PySem.W.kla_obj "<lambda>" d.q d.params d.body d.scope d.cl pm c ctv)
/-- what all contexts of a law share -/
structure GL where
  K : PySem.W.Frag
  CT : Nat → Addr
  T : List Addr
  L : List (Addr × Str) := []
  lm : List LamD := []
  ex : List Addr := []
/-- with other lists under way -/
def GL.wx (g : GL) (e : List Addr) : GL := { g with ex := e }
/-- what is not data: lists under way, cells -/
def GL.x (g : GL) (ι : List Addr) : List Addr := g.ex ++ ι
theorem GL.in1 {g : GL} {ι : List Addr} {a : Addr} (h : a ∈ ι) : a ∈ g.x ι := List.mem_append_right _ h
theorem GL.in2 {g : GL} {ι : List Addr} {a : Addr} (h : a ∈ g.ex) : a ∈ g.x ι := List.mem_append_left _ h

mutual
inductive Rp (g : GL) (F : Hp) : V → P → Prop
  | non : Rp g F .non .non
  | bl (b : Bool) : Rp g F (.bl b) (.bl b)
  | int (i : Int) : Rp g F (.int i) (.int i)
  | str (x : Str) : Rp g F (.str x) (.str x)
  | tup {a : Addr} {vs : List V} {xs : List P} : SqT g.K F a vs → Rps g F vs xs → Rp g F (.ref a) (.tup xs)
  | lst {a : Addr} {vs : List V} {xs : List P} : F a = some (.lst vs) → Rps g F vs xs → Rp g F (.ref a) (.lst xs)
  | scr {a : Addr} {vs : List V} {xs : List P} : SqL g.K F a vs → Rps g F vs xs → Rp g F (.ref a) (.scr xs)
  | dK {a : Addr} {kvs : List (Key × V)} {ps : List (P × P)} : F a = some (.dK kvs) → RpK g F kvs ps → Rp g F (.ref a) (.dct ps)
  | dT {a : Addr} {kvs : List (List Key × V)} {ps : List (P × P)} : F a = some (.dT kvs) → RpT g F kvs ps → Rp g F (.ref a) (.dct ps)
  | obj {a dx : Addr} {c : Nat} {fs : List (Str × V)} {ps : List (Str × P)} : F a = some (.ins (g.CT c) dx fs) → RpF g F fs ps → Rp g F (.ref a) (.obj c ps)
  | lam {f c : Addr} {i : Nat} {d : LamD} : g.lm[i]? = some d → F f = some (LamO d c f) → F c = some (LamX.CodeO c d.q) → Rp g F (.ref f) (.lam i)
inductive Rps (g : GL) (F : Hp) : List V → List P → Prop
  | nil : Rps g F [] []
  | cons {v : V} {x : P} {vs : List V} {xs : List P} : Rp g F v x → Rps g F vs xs → Rps g F (v :: vs) (x :: xs)
inductive RpK (g : GL) (F : Hp) : List (Key × V) → List (P × P) → Prop
  | nil : RpK g F [] []
  | cons {k : Key} {v : V} {x : P} {vs : List (Key × V)} {xs : List (P × P)} : Rp g F v x → RpK g F vs xs → RpK g F ((k, v) :: vs) ((kP k, x) :: xs)
inductive RpT (g : GL) (F : Hp) : List (List Key × V) → List (P × P) → Prop
  | nil : RpT g F [] []
  | cons {k : List Key} {v : V} {x : P} {vs : List (List Key × V)} {xs : List (P × P)} : Rp g F v x → RpT g F vs xs → RpT g F ((k, v) :: vs) ((P.tup (k.map kP), x) :: xs)
inductive RpF (g : GL) (F : Hp) : List (Str × V) → List (Str × P) → Prop
  | nil : RpF g F [] []
  | cons {n : Str} {v : V} {x : P} {vs : List (Str × V)} {xs : List (Str × P)} : Rp g F v x → RpF g F vs xs → RpF g F ((n, v) :: vs) ((n, x) :: xs)
end

/-- F' has all that F has -/
def Sub (F F' : Hp) : Prop := ∀ b o, F b = some o → F' b = some o
theorem Sub.refl (F : Hp) : Sub F F := fun _ _ e => e
theorem Sub.trans {F F1 F2 : Hp} (a : Sub F F1) (b : Sub F1 F2) : Sub F F2 := fun c o e => b c o (a c o e)
theorem Sub.sqT {K : PySem.W.Frag} {F F' : Hp} {a : Addr} {xs : List V} (s : Sub F F') (h : SqT K F a xs) : SqT K F' a xs := by
  obtain (h | ⟨o, h⟩) | h := h
  · exact .inl (.inl (s _ _ h))
  · exact .inl (.inr ⟨o, s _ _ h⟩)
  · exact .inr h
theorem Sub.sqL {K : PySem.W.Frag} {F F' : Hp} {a : Addr} {xs : List V} (s : Sub F F') (h : SqL K F a xs) : SqL K F' a xs := by
  obtain (h | ⟨o, h⟩) | h := h
  · exact .inl (.inl (s _ _ h))
  · exact .inl (.inr ⟨o, s _ _ h⟩)
  · exact .inr h
mutual
theorem Rp.sub {g : GL} {F F' : Hp} (s : Sub F F') : ∀ {v : V} {x : P}, Rp g F v x → Rp g F' v x
  | _, _, .non => .non
  | _, _, .bl b => .bl b
  | _, _, .int i => .int i
  | _, _, .str x => .str x
  | _, _, .tup h r => .tup (s.sqT h) (Rps.sub s r)
  | _, _, .lst h r => .lst (s _ _ h) (Rps.sub s r)
  | _, _, .scr h r => .scr (s.sqL h) (Rps.sub s r)
  | _, _, .dK h r => .dK (s _ _ h) (RpK.sub s r)
  | _, _, .dT h r => .dT (s _ _ h) (RpT.sub s r)
  | _, _, .obj h r => .obj (s _ _ h) (RpF.sub s r)
  | _, _, .lam h a b => .lam h (s _ _ a) (s _ _ b)
theorem Rps.sub {g : GL} {F F' : Hp} (s : Sub F F') : ∀ {v : List V} {x : List P}, Rps g F v x → Rps g F' v x
  | _, _, .nil => .nil
  | _, _, .cons r t => .cons (Rp.sub s r) (Rps.sub s t)
theorem RpK.sub {g : GL} {F F' : Hp} (s : Sub F F') : ∀ {v : List (Key × V)} {x : List (P × P)}, RpK g F v x → RpK g F' v x
  | _, _, .nil => .nil
  | _, _, .cons r t => .cons (Rp.sub s r) (RpK.sub s t)
theorem RpT.sub {g : GL} {F F' : Hp} (s : Sub F F') : ∀ {v : List (List Key × V)} {x : List (P × P)}, RpT g F v x → RpT g F' v x
  | _, _, .nil => .nil
  | _, _, .cons r t => .cons (Rp.sub s r) (RpT.sub s t)
theorem RpF.sub {g : GL} {F F' : Hp} (s : Sub F F') : ∀ {v : List (Str × V)} {x : List (Str × P)}, RpF g F v x → RpF g F' v x
  | _, _, .nil => .nil
  | _, _, .cons r t => .cons (Rp.sub s r) (RpF.sub s t)
end

mutual
theorem Rp.wx {g : GL} {F : Hp} (e : List Addr) : ∀ {v : V} {x : P}, Rp g F v x → Rp (g.wx e) F v x
  | _, _, .non => .non
  | _, _, .bl b => .bl b
  | _, _, .int i => .int i
  | _, _, .str x => .str x
  | _, _, .tup h r => .tup h (Rps.wx e r)
  | _, _, .lst h r => .lst h (Rps.wx e r)
  | _, _, .scr h r => .scr h (Rps.wx e r)
  | _, _, .dK h r => .dK h (RpK.wx e r)
  | _, _, .dT h r => .dT h (RpT.wx e r)
  | _, _, .obj h r => .obj h (RpF.wx e r)
  | _, _, .lam h a b => .lam h a b
theorem Rps.wx {g : GL} {F : Hp} (e : List Addr) : ∀ {v : List V} {x : List P}, Rps g F v x → Rps (g.wx e) F v x
  | _, _, .nil => .nil
  | _, _, .cons r t => .cons (Rp.wx e r) (Rps.wx e t)
theorem RpK.wx {g : GL} {F : Hp} (e : List Addr) : ∀ {v : List (Key × V)} {x : List (P × P)}, RpK g F v x → RpK (g.wx e) F v x
  | _, _, .nil => .nil
  | _, _, .cons r t => .cons (Rp.wx e r) (RpK.wx e t)
theorem RpT.wx {g : GL} {F : Hp} (e : List Addr) : ∀ {v : List (List Key × V)} {x : List (P × P)}, RpT g F v x → RpT (g.wx e) F v x
  | _, _, .nil => .nil
  | _, _, .cons r t => .cons (Rp.wx e r) (RpT.wx e t)
theorem RpF.wx {g : GL} {F : Hp} (e : List Addr) : ∀ {v : List (Str × V)} {x : List (Str × P)}, RpF g F v x → RpF (g.wx e) F v x
  | _, _, .nil => .nil
  | _, _, .cons r t => .cons (Rp.wx e r) (RpF.wx e t)
end

/-- what of the heap stands for good: neither cells nor tables; a locked thing is what is locked -/
def strip : HO → Option HO
  | .tbl _ => none
  | .frz o (.lst xs) => some (.frz o (.lst xs))
  | .frz _ (.dK kvs) => some (.dK kvs)
  | .frz _ (.dT kvs) => some (.dT kvs)
  | .frz _ _ => none
  | o => some o
def Fz (H : Hp) (ι : List Addr) : Hp := fun b => if b ∈ ι then none else (H b).bind strip
theorem Fz.at {H : Hp} {ι : List Addr} {b : Addr} {o : HO} (h : Fz H ι b = some o) : b ∉ ι ∧ ∃ u, H b = some u ∧ strip u = some o := by
  unfold Fz at h
  by_cases hb : b ∈ ι
  · exact nomatch (if_pos hb).symm.trans h
  · rw [if_neg hb] at h
    cases e : H b with
    | none => exact nomatch (e ▸ h : (none : Option HO).bind strip = some o)
    | some u => rw [e] at h; exact ⟨hb, u, rfl, h⟩
theorem Fz.mk {H : Hp} {ι : List Addr} {b : Addr} {o u : HO} (hb : b ∉ ι) (e : H b = some u) (s : strip u = some o) : Fz H ι b = some o := by
  unfold Fz
  rw [if_neg hb, e]
  exact s
theorem Fz.lst {H : Hp} {ι : List Addr} {b : Addr} {xs : List V} (h : Fz H ι b = some (.lst xs)) : H b = some (.lst xs) := by
  obtain ⟨_, u, e, s⟩ := Fz.at h
  cases u with
  | lst ys => cases s; exact e
  | frz o w =>
    cases w with
    | _ => cases s
  | _ => cases s
theorem Fz.frzL {H : Hp} {ι : List Addr} {b : Addr} {o : Obj} {xs : List V} (h : Fz H ι b = some (.frz o (.lst xs))) : H b = some (.frz o (.lst xs)) := by
  obtain ⟨_, u, e, s⟩ := Fz.at h
  cases u with
  | frz o w =>
    cases w with
    | lst ys => cases s; exact e
    | _ => cases s
  | _ => cases s
theorem Fz.tup {H : Hp} {ι : List Addr} {b : Addr} {xs : List V} (h : Fz H ι b = some (.tup xs)) : H b = some (.tup xs) := by
  obtain ⟨_, u, e, s⟩ := Fz.at h
  cases u with
  | tup ys => cases s; exact e
  | frz o w =>
    cases w with
    | _ => cases s
  | _ => cases s
theorem Fz.ins {H : Hp} {ι : List Addr} {b C dx : Addr} {fs : List (Str × V)} (h : Fz H ι b = some (.ins C dx fs)) : H b = some (.ins C dx fs) := by
  obtain ⟨_, u, e, s⟩ := Fz.at h
  cases u with
  | ins _ _ _ => cases s; exact e
  | frz o w =>
    cases w with
    | _ => cases s
  | _ => cases s
theorem Fz.frzT {H : Hp} {ι : List Addr} {b : Addr} {o : Obj} {xs : List V} (h : Fz H ι b = some (.frz o (.tup xs))) : False := by
  obtain ⟨_, u, e, s⟩ := Fz.at h
  cases u with
  | frz o w => cases w <;> cases s
  | _ => cases s
theorem sqL_of_fz {K : PySem.W.Frag} {H : Hp} {ι : List Addr} {a : Addr} {xs : List V} (h : SqL K (Fz H ι) a xs) : SqL K H a xs := by
  obtain (h | ⟨o, h⟩) | h := h
  · exact .inl (.inl (Fz.lst h))
  · exact .inl (.inr ⟨o, Fz.frzL h⟩)
  · exact .inr h
theorem sqT_of_fz {K : PySem.W.Frag} {H : Hp} {ι : List Addr} {a : Addr} {xs : List V} (h : SqT K (Fz H ι) a xs) : SqT K H a xs := by
  obtain (h | ⟨o, h⟩) | h := h
  · exact .inl (.inl (Fz.tup h))
  · exact (Fz.frzT h).elim
  · exact .inr h

/-! ### values, cells, the store -/
inductive RD (g : GL) (F : Hp) (ι : List Addr) : V → D → Prop
  | p {v : V} {x : P} : Rp g F v x → RD g F ι v (.p x)
  | ref {n : Nat} {a : Addr} : ι[n]? = some a → RD g F ι (.ref a) (.ref n)
abbrev RDs (g : GL) (F : Hp) (ι : List Addr) : List V → List D → Prop := Paired (RD g F ι)
def Le (ι ι' : List Addr) : Prop := ∃ ν, ι' = ι ++ ν
theorem Le.refl (ι : List Addr) : Le ι ι := ⟨[], by simp⟩
theorem Le.trans {a b c : List Addr} : Le a b → Le b c → Le a c
  | ⟨x, e⟩, ⟨y, f⟩ => ⟨x ++ y, by rw [f, e, List.append_assoc]⟩
theorem Le.get {a b : List Addr} {n : Nat} {x : Addr} (l : Le a b) (h : a[n]? = some x) : b[n]? = some x := by
  obtain ⟨ν, rfl⟩ := l
  rw [List.getElem?_append_left (List.getElem?_eq_some_iff.mp h).1]; exact h
theorem RD.sub {g : GL} {F F' : Hp} {ι ι' : List Addr} (s : Sub F F') (l : Le ι ι') {v : V} {d : D} (h : RD g F ι v d) : RD g F' ι' v d := by
  cases h with
  | p h => exact .p (h.sub s)
  | ref h => exact .ref (l.get h)
theorem RDs.sub {g : GL} {F F' : Hp} {ι ι' : List Addr} (s : Sub F F') (l : Le ι ι') {vs : List V} {ds : List D} (h : RDs g F ι vs ds) : RDs g F' ι' vs ds := Paired.mapP h fun _ _ r => r.sub s l
theorem RD.wx {g : GL} {F : Hp} {ι : List Addr} (e : List Addr) {v : V} {d : D} (h : RD g F ι v d) : RD (g.wx e) F ι v d := by
  cases h with
  | p h => exact .p (h.wx e)
  | ref h => exact .ref h
theorem RDs.wx {g : GL} {F : Hp} {ι : List Addr} (e : List Addr) {vs : List V} {ds : List D} (h : RDs g F ι vs ds) : RDs (g.wx e) F ι vs ds := Paired.mapP h fun _ _ r => r.wx e
inductive RC (g : GL) (F : Hp) (ι : List Addr) : HO → Cell → Prop
  | lst {vs : List V} {ds : List D} : RDs g F ι vs ds → RC g F ι (.lst vs) (.lst ds)
  | dK {kvs : List (Key × V)} {ds : List (Key × D)} : Paired (fun (a : Key × V) (b : Key × D) => a.1 = b.1 ∧ RD g F ι a.2 b.2) kvs ds → RC g F ι (.dK kvs) (.dK ds)
  | dT {kvs : List (List Key × V)} {ds : List (List Key × D)} : Paired (fun (a : List Key × V) (b : List Key × D) => a.1 = b.1 ∧ RD g F ι a.2 b.2) kvs ds → RC g F ι (.dT kvs) (.dT ds)
  | obj {dx : Addr} {c : Nat} {fs : List (Str × V)} {ds : List (Str × D)} : Paired (fun (a : Str × V) (b : Str × D) => a.1 = b.1 ∧ RD g F ι a.2 b.2) fs ds → RC g F ι (.ins (g.CT c) dx fs) (.obj c ds)
theorem RC.sub {g : GL} {F F' : Hp} {ι ι' : List Addr} (s : Sub F F') (l : Le ι ι') {o : HO} {c : Cell} (h : RC g F ι o c) : RC g F' ι' o c := by
  cases h with
  | lst h => exact .lst (RDs.sub s l h)
  | dK h => exact .dK (Paired.mapP h fun _ _ r => ⟨r.1, r.2.sub s l⟩)
  | dT h => exact .dT (Paired.mapP h fun _ _ r => ⟨r.1, r.2.sub s l⟩)
  | obj h => exact .obj (Paired.mapP h fun _ _ r => ⟨r.1, r.2.sub s l⟩)
theorem RC.wx {g : GL} {F : Hp} {ι : List Addr} (e : List Addr) {o : HO} {c : Cell} (h : RC g F ι o c) : RC (g.wx e) F ι o c := by
  cases h with
  | lst h => exact .lst (RDs.wx e h)
  | dK h => exact .dK (Paired.mapP h fun _ _ r => ⟨r.1, r.2.wx e⟩)
  | dT h => exact .dT (Paired.mapP h fun _ _ r => ⟨r.1, r.2.wx e⟩)
  | obj h => exact .obj (Paired.mapP h fun _ _ r => ⟨r.1, r.2.wx e⟩)
/-- the tables of code objects -/
structure Tbs (g : GL) (H : Hp) : Prop where
  t : ∀ P ∈ g.T, TabN 1 H P
  l : LamX.Tabs g.L H
  d : ∀ p ∈ g.L, p.1 ∉ g.T
theorem Tbs.ext {g : GL} {H H' : Hp} (x : Tbs g H) (k : ∀ b o, H b = some o → H' b = some o) : Tbs g H' := ⟨fun P hP => (x.t P hP).ext k, x.l.ext k, x.d⟩
theorem Tbs.wx {g : GL} {H : Hp} (e : List Addr) (x : Tbs g H) : Tbs (g.wx e) H := ⟨x.t, x.l, x.d⟩
theorem Tbs.but {g : GL} {H H' : Hp} {a : Addr} (x : Tbs g H) (k : ∀ b o, b ≠ a → H b = some o → H' b = some o) (hT : ∀ ps, H a ≠ some (.tbl ps)) (hX : ∀ c P, H a ≠ some (CodeGO c P)) (hL : ∀ c q, H a ≠ some (LamX.CodeO c q)) : Tbs g H' := by
  refine ⟨fun P hP => ?_, fun p hp => ?_, x.d⟩
  · obtain ⟨ps, e1, e2, e3⟩ := x.t P hP
    refine ⟨ps, k _ _ (fun z => hT ps (by rw [← z]; exact e1)) e1, e2, fun pos cv hc => ?_⟩
    obtain ⟨c', P', f1, f2, qs, f3, f4⟩ := e3 pos cv hc
    exact ⟨c', P', f1, k _ _ (fun z => hX _ _ (by rw [← z]; exact f2)) f2, qs, k _ _ (fun z => hT qs (by rw [← z]; exact f3)) f3, f4⟩
  · obtain ⟨ps, e1, e2, e3⟩ := x.l p hp
    refine ⟨ps, k _ _ (fun z => hT ps (by rw [← z]; exact e1)) e1, e2, fun pos cv hc => ?_⟩
    obtain ⟨c, f1, f2⟩ := e3 pos cv hc
    exact ⟨c, f1, k _ _ (fun z => hL _ _ (by rw [← z]; exact f2)) f2⟩
/-- a def's own table has grown -/
theorem Tbs.tg {g : GL} {H H' : Hp} {P : Addr} (x : Tbs g H) (t : TbG H H') (k : ∀ b o, b ≠ P → H b = some o → H' b = some o) (hP : P ∈ g.T) : Tbs g H' := by
  refine ⟨fun Q hQ => t.t1 Q (x.t Q hQ), fun p hp => ?_, x.d⟩
  obtain ⟨ps, e1, e2, e3⟩ := x.l p hp
  refine ⟨ps, k _ _ (fun z => x.d p hp (z ▸ hP)) e1, e2, fun pos cv hc => ?_⟩
  obtain ⟨c, f1, f2⟩ := e3 pos cv hc
  exact ⟨c, f1, t.keep _ _ f2 LamX.codeO_ne⟩
/-- the table of lambdas has grown -/
theorem Tbs.lm {g : GL} {H H' : Hp} {P : Addr} {q : Str} (x : Tbs g H) (k : ∀ b o, b ≠ P → H b = some o → H' b = some o) (hP : (P, q) ∈ g.L) (tb : LamX.Tabs g.L H') : Tbs g H' := by
  obtain ⟨ps0, e0, _, _⟩ := x.l _ hP
  refine ⟨fun Q hQ => ?_, tb, x.d⟩
  obtain ⟨ps, e1, e2, e3⟩ := x.t Q hQ
  have nQ : ∀ {b : Addr}, b ∈ g.T → b ≠ P := fun hb z => x.d _ hP (z ▸ hb)
  refine ⟨ps, k _ _ (nQ hQ) e1, e2, fun pos cv hc => ?_⟩
  obtain ⟨c', P', f1, f2, qs, f3, f4⟩ := e3 pos cv hc
  refine ⟨c', P', f1, k _ _ (fun z => ?_) f2, ?_⟩
  · rw [z, e0] at f2
    unfold CodeGO at f2
    cases f2
  · by_cases z : P' = P
    · rw [z]
      obtain ⟨ps1, u1, u2, _⟩ := tb _ hP
      exact ⟨ps1, u1, u2⟩
    · exact ⟨qs, k _ _ z f3, f4⟩
/-- the store stands in the heap -/
structure Good (g : GL) (ι : List Addr) (st : Store) (H : Hp) : Prop where
  nd : ι.Nodup
  cells : Paired (fun a c => ∃ o, H a = some o ∧ RC g (Fz H (g.x ι)) ι o c) ι st
  tabs : Tbs g H
  exs : ∀ b ∈ g.ex, ∃ xs, H b = some (.lst xs)
  dis : ∀ b ∈ g.ex, b ∉ ι
theorem Good.len {g : GL} {ι : List Addr} {st : Store} {H : Hp} (h : Good g ι st H) : ι.length = st.length := Paired.length h.cells
/-- the heap has grown -/
structure Ext (g : GL) (H : Hp) (ι : List Addr) (H' : Hp) (ι' : List Addr) : Prop where
  le : Le ι ι'
  keep : Sub (Fz H (g.x ι)) (Fz H' (g.x ι'))
  same : ∀ b ∈ g.ex, H' b = H b
theorem Ext.refl {g : GL} (H : Hp) (ι : List Addr) : Ext g H ι H ι := ⟨.refl ι, .refl _, fun _ _ => rfl⟩
theorem Ext.trans {g : GL} {H H1 H2 : Hp} {ι ι1 ι2 : List Addr} (a : Ext g H ι H1 ι1) (b : Ext g H1 ι1 H2 ι2) : Ext g H ι H2 ι2 := ⟨a.le.trans b.le, a.keep.trans b.keep, fun c h => (b.same c h).trans (a.same c h)⟩
theorem RD.ext {g : GL} {H H' : Hp} {ι ι' : List Addr} (x : Ext g H ι H' ι') {v : V} {d : D} (h : RD g (Fz H (g.x ι)) ι v d) : RD g (Fz H' (g.x ι')) ι' v d := h.sub x.keep x.le
/-- the slots -/
def RE (g : GL) (F : Hp) (ι : List Addr) (σ : L2.St) (δ : Env) : Prop := σ.length = δ.length ∧ ∀ (i : Nat) (d : D), δ[i]? = some (some d) → ∃ v, σ[i]? = some (some v) ∧ RD g F ι v d
theorem RE.ext {g : GL} {H H' : Hp} {ι ι' : List Addr} (x : Ext g H ι H' ι') {σ : L2.St} {δ : Env} (h : RE g (Fz H (g.x ι)) ι σ δ) : RE g (Fz H' (g.x ι')) ι' σ δ :=
  ⟨h.1, fun i d e => let ⟨v, a, b⟩ := h.2 i d e; ⟨v, a, b.ext x⟩⟩
theorem RE.set {g : GL} {F : Hp} {ι : List Addr} {σ : L2.St} {δ : Env} {v : V} {d : D} (h : RE g F ι σ δ) (i : Nat) (r : RD g F ι v d) : RE g F ι (σ.set i (some v)) (δ.set i (some d)) := by
  refine ⟨by simpa using h.1, fun j e hj => ?_⟩
  by_cases hij : i = j
  · subst hij
    by_cases hl : i < δ.length
    · rw [List.getElem?_set_self hl] at hj
      cases hj
      exact ⟨v, List.getElem?_set_self (by rw [h.1]; exact hl), r⟩
    · rw [List.getElem?_eq_none (by simpa using hl)] at hj; cases hj
  · rw [List.getElem?_set_ne hij] at hj
    obtain ⟨w, a, b⟩ := h.2 j e hj
    exact ⟨w, by rw [List.getElem?_set_ne hij]; exact a, b⟩

/-! ### what is computed -/
inductive Res (α : Type) where
  | ok (a : α) (st : Store) | exc (c : Nat) (st : Store) | bad
def Res.bnd {α β : Type} (r : Res α) (f : α → Store → Res β) : Res β := match r with
  | .ok a st => f a st
  | .exc c st => .exc c st
  | .bad => .bad
abbrev Ev (α : Type) := Env → Store → Res α
inductive SR where
  | nx (δ : Env) (st : Store) | rt (d : D) (st : Store) | bk (δ : Env) (st : Store) | ct (δ : Env) (st : Store) | exc (c : Nat) (st : Store) | bad
abbrev Sv := Env → Store → SR

/-- behind it: the new store stands; the wish about exceptions -/
def PostX (g : GL) (H : Hp) (ι : List Addr) (c : Nat) (st : Store) (E : XK) : Prop := ∀ H' ι', Good g ι' st H' → Ext g H ι H' ι' → E (.ref (g.CT c)) none H'
def Post (g : GL) (H : Hp) (ι : List Addr) (E : XK) (r : Res D) (Q : VK) : Prop := match r with
  | .ok d st => ∀ v H' ι', Good g ι' st H' → Ext g H ι H' ι' → RD g (Fz H' (g.x ι')) ι' v d → Q v H'
  | .exc c st => PostX g H ι c st E
  | .bad => False
def PostB (g : GL) (H : Hp) (ι : List Addr) (E : XK) (r : Res Bool) (Q : Bool → Hp → Prop) : Prop := match r with
  | .ok b st => ∀ H' ι', Good g ι' st H' → Ext g H ι H' ι' → Q b H'
  | .exc c st => PostX g H ι c st E
  | .bad => False
def PostA (g : GL) (H : Hp) (ι : List Addr) (E : XK) (r : Res (List D)) (Q : List V → Hp → Prop) : Prop := match r with
  | .ok ds st => ∀ vs H' ι', Good g ι' st H' → Ext g H ι H' ι' → RDs g (Fz H' (g.x ι')) ι' vs ds → Q vs H'
  | .exc c st => PostX g H ι c st E
  | .bad => False
def PostS (g : GL) (H : Hp) (ι : List Addr) (E : XK) (r : SR) (D : Ends) : Prop := match r with
  | .nx δ st => ∀ σ H' ι', Good g ι' st H' → Ext g H ι H' ι' → RE g (Fz H' (g.x ι')) ι' σ δ → D.nx σ H'
  | .bk δ st => ∀ σ H' ι', Good g ι' st H' → Ext g H ι H' ι' → RE g (Fz H' (g.x ι')) ι' σ δ → D.bk σ H'
  | .ct δ st => ∀ σ H' ι', Good g ι' st H' → Ext g H ι H' ι' → RE g (Fz H' (g.x ι')) ι' σ δ → D.ct σ H'
  | .rt d st => ∀ v H' ι', Good g ι' st H' → Ext g H ι H' ι' → RD g (Fz H' (g.x ι')) ι' v d → D.rt v H'
  | .exc c st => PostX g H ι c st E
  | .bad => False
/-- where one stands -/
structure At (g : GL) (H : Hp) (ι : List Addr) (st : Store) (σ : L2.St) (δ : Env) : Prop where
  good : Good g ι st H
  env : RE g (Fz H (g.x ι)) ι σ δ
def SemE (g : GL) (E : XK) (f : Ev D) : TE := fun σ H Q => ∃ ex ι st δ, At (g.wx ex) H ι st σ δ ∧ Post (g.wx ex) H ι E (f δ st) Q
def SemB (g : GL) (E : XK) (f : Ev Bool) : TT := fun σ H Q => ∃ ex ι st δ, At (g.wx ex) H ι st σ δ ∧ PostB (g.wx ex) H ι E (f δ st) Q
def SemA (g : GL) (E : XK) (f : Ev (List D)) : TA := fun σ H Q => ∃ ex ι st δ, At (g.wx ex) H ι st σ δ ∧ PostA (g.wx ex) H ι E (f δ st) Q
def SemS (g : GL) (E : XK) (f : Sv) : TS := fun D σ H => ∃ ex ι st δ, At (g.wx ex) H ι st σ δ ∧ PostS (g.wx ex) H ι E (f δ st) D

theorem pe_mono {X : Cx} {e : Expr} {t t' : TE} (h : PE X e t) (k : ∀ σ H Q, t' σ H Q → t σ H Q) : PE X e t' := ⟨fun pins s σ H Q I q => h.run pins s σ H Q I (k σ H Q q)⟩
theorem pt_mono {X : Cx} {e : Expr} {t t' : TT} (h : PT X e t) (k : ∀ σ H Q, t' σ H Q → t σ H Q) : PT X e t' := ⟨fun pins s σ H Q I q => h.run pins s σ H Q I (k σ H Q q)⟩
theorem pa_mono {X : Cx} {e : List Expr} {t t' : TA} (h : PA X e t) (k : ∀ σ H Q, t' σ H Q → t σ H Q) : PA X e t' := ⟨fun pos pins s σ H Q I q => h.run pos pins s σ H Q I (k σ H Q q)⟩
theorem ps_mono {X : Cx} {e : Stmt} {t t' : TS} (h : PS X e t) (k : ∀ D σ H, t' D σ H → t D σ H) : PS X e t' := ⟨fun pins s σ H D I q => h.run pins s σ H D I (k D σ H q)⟩
theorem pss_mono {X : Cx} {e : List Stmt} {t t' : TS} (h : PSs X e t) (k : ∀ D σ H, t' D σ H → t D σ H) : PSs X e t' := ⟨fun pins s σ H D I q => h.run pins s σ H D I (k D σ H q)⟩

/-! ### binding -/
theorem PostX.ext {g : GL} {H H1 : Hp} {ι ι1 : List Addr} {c : Nat} {st : Store} {E : XK} (x : Ext g H ι H1 ι1) (h : PostX g H ι c st E) : PostX g H1 ι1 c st E := fun H' ι' a b => h H' ι' a (x.trans b)
theorem Post.ext {g : GL} {H H1 : Hp} {ι ι1 : List Addr} {r : Res D} {E : XK} {Q : VK} (x : Ext g H ι H1 ι1) (h : Post g H ι E r Q) : Post g H1 ι1 E r Q := by
  cases r with
  | ok d st => exact fun v H' ι' a b c => h v H' ι' a (x.trans b) c
  | exc c st => exact PostX.ext x h
  | bad => exact h
theorem PostB.ext {g : GL} {H H1 : Hp} {ι ι1 : List Addr} {r : Res Bool} {E : XK} {Q : Bool → Hp → Prop} (x : Ext g H ι H1 ι1) (h : PostB g H ι E r Q) : PostB g H1 ι1 E r Q := by
  cases r with
  | ok d st => exact fun H' ι' a b => h H' ι' a (x.trans b)
  | exc c st => exact PostX.ext x h
  | bad => exact h
theorem PostA.ext {g : GL} {H H1 : Hp} {ι ι1 : List Addr} {r : Res (List D)} {E : XK} {Q : List V → Hp → Prop} (x : Ext g H ι H1 ι1) (h : PostA g H ι E r Q) : PostA g H1 ι1 E r Q := by
  cases r with
  | ok d st => exact fun v H' ι' a b c => h v H' ι' a (x.trans b) c
  | exc c st => exact PostX.ext x h
  | bad => exact h
theorem PostS.ext {g : GL} {H H1 : Hp} {ι ι1 : List Addr} {r : SR} {E : XK} {D : Ends} (x : Ext g H ι H1 ι1) (h : PostS g H ι E r D) : PostS g H1 ι1 E r D := by
  cases r with
  | nx δ st => exact fun v H' ι' a b c => h v H' ι' a (x.trans b) c
  | bk δ st => exact fun v H' ι' a b c => h v H' ι' a (x.trans b) c
  | ct δ st => exact fun v H' ι' a b c => h v H' ι' a (x.trans b) c
  | rt d st => exact fun v H' ι' a b c => h v H' ι' a (x.trans b) c
  | exc c st => exact PostX.ext x h
  | bad => exact h
theorem At.ext {g : GL} {H H' : Hp} {ι ι' : List Addr} {st st' : Store} {σ : L2.St} {δ : Env} (a : At g H ι st σ δ) (x : Ext g H ι H' ι') (gd : Good g ι' st' H') : At g H' ι' st' σ δ := ⟨gd, a.env.ext x⟩
/-- an expression's reading, then what follows with its value -/
theorem semE_bnd {g : GL} {ex : List Addr} {E : XK} {f : Ev D} {H : Hp} {ι : List Addr} {st : Store} {σ : L2.St} {δ : Env} {Q : VK} (a : At (g.wx ex) H ι st σ δ)
    (h : match f δ st with
      | .ok d st1 => ∀ v H1 ι1, At (g.wx ex) H1 ι1 st1 σ δ → Ext (g.wx ex) H ι H1 ι1 → RD (g.wx ex) (Fz H1 ((g.wx ex).x ι1)) ι1 v d → Q v H1
      | .exc c st1 => PostX (g.wx ex) H ι c st1 E
      | .bad => False) : SemE g E f σ H Q := by
  refine ⟨ex, ι, st, δ, a, ?_⟩
  cases e : f δ st with
  | ok d st1 => rw [e] at h; exact fun v H1 ι1 gd x r => h v H1 ι1 (a.ext x gd) x r
  | exc c st1 => rw [e] at h; exact h
  | bad => rw [e] at h; exact h
theorem semB_bnd {g : GL} {ex : List Addr} {E : XK} {f : Ev Bool} {H : Hp} {ι : List Addr} {st : Store} {σ : L2.St} {δ : Env} {Q : Bool → Hp → Prop} (a : At (g.wx ex) H ι st σ δ)
    (h : match f δ st with
      | .ok d st1 => ∀ H1 ι1, At (g.wx ex) H1 ι1 st1 σ δ → Ext (g.wx ex) H ι H1 ι1 → Q d H1
      | .exc c st1 => PostX (g.wx ex) H ι c st1 E
      | .bad => False) : SemB g E f σ H Q := by
  refine ⟨ex, ι, st, δ, a, ?_⟩
  cases e : f δ st with
  | ok d st1 => rw [e] at h; exact fun H1 ι1 gd x => h H1 ι1 (a.ext x gd) x
  | exc c st1 => rw [e] at h; exact h
  | bad => rw [e] at h; exact h
theorem semA_bnd {g : GL} {ex : List Addr} {E : XK} {f : Ev (List D)} {H : Hp} {ι : List Addr} {st : Store} {σ : L2.St} {δ : Env} {Q : List V → Hp → Prop} (a : At (g.wx ex) H ι st σ δ)
    (h : match f δ st with
      | .ok d st1 => ∀ v H1 ι1, At (g.wx ex) H1 ι1 st1 σ δ → Ext (g.wx ex) H ι H1 ι1 → RDs (g.wx ex) (Fz H1 ((g.wx ex).x ι1)) ι1 v d → Q v H1
      | .exc c st1 => PostX (g.wx ex) H ι c st1 E
      | .bad => False) : SemA g E f σ H Q := by
  refine ⟨ex, ι, st, δ, a, ?_⟩
  cases e : f δ st with
  | ok d st1 => rw [e] at h; exact fun v H1 ι1 gd x r => h v H1 ι1 (a.ext x gd) x r
  | exc c st1 => rw [e] at h; exact h
  | bad => rw [e] at h; exact h
end Iv
end

section
set_option Elab.async false
set_option linter.all false
set_option maxRecDepth 100000
set_option maxHeartbeats 4100000
namespace Iv
open PySem PySem.Spec PyProof.Rows L2 Gx

section
variable {g : GL} {ι : List Addr} {st : Store} {H : Hp} {p : Addr} {o : HO}
theorem pd_mem {α β : Type} {R : α → β → Prop} : ∀ {xs : List α} {ys : List β} {x : α}, Paired R xs ys → x ∈ xs → ∃ y, R x y
  | _, _, _, .nil, h => by simp at h
  | _, _, _, .cons r t, h => by
    cases h with
    | head => exact ⟨_, r⟩
    | tail _ h => exact pd_mem t h
theorem pd_get {α β : Type} {R : α → β → Prop} : ∀ {xs : List α} {ys : List β} {i : Nat} {x : α}, Paired R xs ys → xs[i]? = some x → ∃ y, ys[i]? = some y ∧ R x y
  | _, _, _, _, .nil, h => by simp at h
  | _, _, 0, _, .cons r t, h => by simp at h; subst h; exact ⟨_, rfl, r⟩
  | _, _, i + 1, _, .cons r t, h => by
    obtain ⟨y, a, b⟩ := pd_get (i := i) t (by simpa using h)
    exact ⟨y, by simpa using a, b⟩
theorem pd_get' {α β : Type} {R : α → β → Prop} : ∀ {xs : List α} {ys : List β} {i : Nat} {y : β}, Paired R xs ys → ys[i]? = some y → ∃ x, xs[i]? = some x ∧ R x y
  | _, _, _, _, .nil, h => by simp at h
  | _, _, 0, _, .cons r t, h => by simp at h; subst h; exact ⟨_, rfl, r⟩
  | _, _, i + 1, _, .cons r t, h => by
    obtain ⟨y, a, b⟩ := pd_get' (i := i) t (by simpa using h)
    exact ⟨y, by simpa using a, b⟩
theorem pd_imp {α β : Type} {R R' : α → β → Prop} : ∀ {xs : List α} {ys : List β}, Paired R xs ys → (∀ x y, x ∈ xs → R x y → R' x y) → Paired R' xs ys
  | _, _, .nil, _ => .nil
  | _, _, .cons r t, h => .cons (h _ _ List.mem_cons_self r) (pd_imp t fun x y m q => h x y (List.mem_cons_of_mem _ m) q)
theorem pd_app {α β : Type} {R : α → β → Prop} : ∀ {xs xs' : List α} {ys ys' : List β}, Paired R xs ys → Paired R xs' ys' → Paired R (xs ++ xs') (ys ++ ys')
  | _, _, _, _, .nil, q => q
  | _, _, _, _, .cons r t, q => .cons r (pd_app t q)
theorem pd_set {α β : Type} {R : α → β → Prop} : ∀ {xs : List α} {ys : List β} (i : Nat) {x : α} {y : β}, Paired R xs ys → R x y → Paired R (xs.set i x) (ys.set i y)
  | _, _, _, _, _, .nil, _ => .nil
  | _, _, 0, _, _, .cons _ t, q => .cons q t
  | _, _, i + 1, _, _, .cons r t, q => .cons r (pd_set i t q)

theorem Good.in (G : Good g ι st H) {a : Addr} (h : a ∈ ι) : ∃ u, H a = some u := by
  obtain ⟨c, u, e, _⟩ := pd_mem G.cells h
  exact ⟨u, e⟩
theorem Good.out (G : Good g ι st H) {a : Addr} (h : H a = none) : a ∉ g.x ι := fun m => by
  rcases List.mem_append.mp m with m | m
  · obtain ⟨u, e⟩ := G.exs a m
    rw [h] at e; cases e
  · obtain ⟨u, e⟩ := G.in m
    rw [h] at e; cases e
theorem Good.cell (G : Good g ι st H) {n : Nat} {c : Cell} (h : st[n]? = some c) : ∃ a u, ι[n]? = some a ∧ H a = some u ∧ RC g (Fz H (g.x ι)) ι u c := by
  obtain ⟨a, e, u, h1, h2⟩ := pd_get' G.cells h
  exact ⟨a, u, e, h1, h2⟩
theorem Good.cell' (G : Good g ι st H) {n : Nat} {a : Addr} (h : ι[n]? = some a) : ∃ c u, st[n]? = some c ∧ H a = some u ∧ RC g (Fz H (g.x ι)) ι u c := by
  obtain ⟨c, e, u, h1, h2⟩ := pd_get G.cells h
  exact ⟨c, u, e, h1, h2⟩
/-- a new thing, frozen -/
theorem good_new (G : Good g ι st H) (hp : H p = none) : Good g ι st (upd H p o) ∧ Ext g H ι (upd H p o) ι := by
  have ke : ∀ b u, H b = some u → upd H p o b = some u := fun b u e => by rw [upd_ne (ne_of_none e hp)]; exact e
  have sub : Sub (Fz H (g.x ι)) (Fz (upd H p o) (g.x ι)) := fun b u e => by
    obtain ⟨h1, w, h2, h3⟩ := Fz.at e
    exact Fz.mk h1 (ke _ _ h2) h3
  exact ⟨⟨G.nd, pd_imp G.cells fun a c _ ⟨u, e, r⟩ => ⟨u, ke _ _ e, r.sub sub (.refl ι)⟩, G.tabs.ext ke, fun b hb => let ⟨o, e⟩ := G.exs b hb; ⟨o, ke _ _ e⟩, G.dis⟩, ⟨.refl ι, sub, fun b hb => upd_ne (fun z => G.out hp (z ▸ GL.in2 hb))⟩⟩
theorem fz_new (G : Good g ι st H) (hp : H p = none) {u : HO} (s : strip o = some u) : Fz (upd H p o) (g.x ι) p = some u := Fz.mk (G.out hp) upd_same s
/-- a new cell -/
theorem good_cell {c : Cell} (G : Good g ι st H) (hp : H p = none) (r : RC g (Fz H (g.x ι)) ι o c) : Good g (ι ++ [p]) (st ++ [c]) (upd H p o) ∧ Ext g H ι (upd H p o) (ι ++ [p]) := by
  have ke : ∀ b u, H b = some u → upd H p o b = some u := fun b u e => by rw [upd_ne (ne_of_none e hp)]; exact e
  have le : Le ι (ι ++ [p]) := ⟨[p], rfl⟩
  have sub : Sub (Fz H (g.x ι)) (Fz (upd H p o) (g.x (ι ++ [p]))) := fun b u e => by
    obtain ⟨h1, w, h2, h3⟩ := Fz.at e
    refine Fz.mk (fun m => ?_) (ke _ _ h2) h3
    rcases List.mem_append.mp m with m | m
    · exact h1 (GL.in2 m)
    · rcases List.mem_append.mp m with m | m
      · exact h1 (GL.in1 m)
      · rw [List.mem_singleton.mp m, hp] at h2; cases h2
  refine ⟨⟨?_, pd_app (pd_imp G.cells fun a c _ ⟨u, e, r⟩ => ⟨u, ke _ _ e, r.sub sub le⟩) (.cons ⟨o, upd_same, r.sub sub le⟩ .nil), G.tabs.ext ke, fun b hb => let ⟨o, e⟩ := G.exs b hb; ⟨o, ke _ _ e⟩, fun b hb m => (List.mem_append.mp m).elim (G.dis b hb) fun z => G.out hp (List.mem_singleton.mp z ▸ GL.in2 hb)⟩, ⟨le, sub, fun b hb => upd_ne (fun z => G.out hp (z ▸ GL.in2 hb))⟩⟩
  rw [List.nodup_append]
  refine ⟨G.nd, by simp, fun a ha b hb => ?_⟩
  rw [List.mem_singleton.mp hb]
  intro z
  exact G.out hp (GL.in1 (z ▸ ha))
/-- a cell is written -/
theorem good_write {n : Nat} {a : Addr} {c : Cell} {u : HO} (G : Good g ι st H) (hn : ι[n]? = some a) (r : RC g (Fz H (g.x ι)) ι u c) (hT : ∀ ps, H a ≠ some (.tbl ps)) (hX : ∀ c P, H a ≠ some (CodeGO c P)) (hL : ∀ c q, H a ≠ some (LamX.CodeO c q)) :
    Good g ι (st.set n c) (upd H a u) ∧ Ext g H ι (upd H a u) ι := by
  have hm : a ∈ ι := List.mem_of_getElem? hn
  have sub : Sub (Fz H (g.x ι)) (Fz (upd H a u) (g.x ι)) := fun b w e => by
    obtain ⟨h1, v, h2, h3⟩ := Fz.at e
    exact Fz.mk h1 (by rw [upd_ne (fun z => h1 (GL.in1 (by rw [z]; exact hm)))]; exact h2) h3
  refine ⟨⟨G.nd, ?_, G.tabs.but (fun b o h e => by rw [upd_ne h]; exact e) hT hX hL, fun b hb => ?_, G.dis⟩, ⟨.refl ι, sub, fun b hb => upd_ne (fun z => G.dis b hb (z ▸ hm))⟩⟩
  · have key : Paired (fun (b : Addr) (d : Cell) => ∃ o, upd H a u b = some o ∧ RC g (Fz (upd H a u) (g.x ι)) ι o d) (ι.set n a) (st.set n c) := by
      have base : ∀ (l : List Addr) (t : Store) (m : Nat), l.Nodup → Paired (fun a c => ∃ o, H a = some o ∧ RC g (Fz H (g.x ι)) ι o c) l t → (l[m]? = some a) → Paired (fun (b : Addr) (d : Cell) => ∃ o, upd H a u b = some o ∧ RC g (Fz (upd H a u) (g.x ι)) ι o d) (l.set m a) (t.set m c) := by
        intro l
        induction l with
        | nil => intro t m _ q e; simp at e
        | cons b l ih =>
          intro t m nd q e
          cases q with
          | cons q1 q2 =>
            rw [List.nodup_cons] at nd
            cases m with
            | zero =>
              simp at e
              subst e
              refine .cons ⟨u, upd_same, r.sub sub (.refl ι)⟩ (pd_imp q2 fun x d hx ⟨o, h1, h2⟩ => ⟨o, by rw [upd_ne (fun z => nd.1 (by rw [← z]; exact hx))]; exact h1, h2.sub sub (.refl ι)⟩)
            | succ m =>
              have e' : l[m]? = some a := by simpa using e
              obtain ⟨o, h1, h2⟩ := q1
              refine .cons ⟨o, by rw [upd_ne (fun z => nd.1 (by rw [z]; exact List.mem_of_getElem? e'))]; exact h1, h2.sub sub (.refl ι)⟩ (ih _ m nd.2 q2 e')
      exact base ι st n G.nd G.cells hn
    have e : ι.set n a = ι := by
      apply List.ext_getElem?
      intro i
      by_cases h : n = i
      · subst h
        have hl := (List.getElem?_eq_some_iff.mp hn).1
        rw [List.getElem?_set_self hl, hn]
      · rw [List.getElem?_set_ne h]
    rw [e] at key
    exact key
  · obtain ⟨o, e⟩ := G.exs b hb
    by_cases h : b = a
    · exact absurd hm (h ▸ G.dis b hb)
    · exact ⟨o, by rw [upd_ne h]; exact e⟩
end

/-! ### expressions -/
section
variable {X : Cx} {g : GL} {E : XK} {e a b c : Expr} {pos : Pos}
def vK (x : P) : Ev D := fun _ st => .ok (.p x) st
def vV (i : Nat) : Ev D := fun δ st => match δ[i]? with
  | some (some d) => .ok d st
  | _ => .bad
theorem se_var {i : Nat} {x : Str} (hN : X.N[i]? = some x) (hv : Vis X.env.scope x) (hd : (x == ("__debug__" : Str)) = false := by decide) (hcd : (x == ("__classdict__" : Str)) = false := by decide) : PE X (.Name x pos) (SemE g E (vV i)) := by
  refine pe_mono (pe_var hN hv hd hcd) fun σ H Q ⟨ex, ι, st, δ, at_, h⟩ => ?_
  unfold vV at h
  cases e : δ[i]? with
  | none => rw [e] at h; exact h.elim
  | some o =>
    cases o with
    | none => rw [e] at h; exact h.elim
    | some d =>
      rw [e] at h
      obtain ⟨v, h1, h2⟩ := at_.env.2 i d e
      exact ⟨v, h1, h v H ι at_.good (.refl _ _) h2⟩
theorem se_const {v : V} {x : P} (h : PE X e (tC v)) (r : ∀ g F, Rp g F v x) : PE X e (SemE g E (vK x)) :=
  pe_mono h fun σ H Q ⟨ex, ι, st, δ, at_, h⟩ => h v H ι at_.good (.refl _ _) (.p (r _ _))
theorem se_int {i j} : PE X (.Constant (.int i) j pos) (SemE g E (vK (.int i))) := se_const pe_int fun _ _ => .int i
theorem se_bl {b j} : PE X (.Constant (.bool b) j pos) (SemE g E (vK (.bl b))) := se_const pe_bl fun _ _ => .bl b
theorem se_non {j} : PE X (.Constant .none j pos) (SemE g E (vK .non)) := se_const pe_non fun _ _ => .non
theorem se_str {x j} : PE X (.Constant (.str x) j pos) (SemE g E (vK (.str x))) := se_const pe_str fun _ _ => .str x

/-- two expressions, then what f makes of their values -/
def v2 (f : D → D → Store → Res D) (fa fb : Ev D) : Ev D := fun δ st => (fa δ st).bnd fun x s1 => (fb δ s1).bnd fun y s2 => f x y s2
/-- f tells what the rule r asks -/
def OpSem (g : GL) (r : R2) (f : D → D → Store → Res D) : Prop := ∀ {ex : List Addr} {H : Hp} {ι : List Addr} {st : Store} {x y : V} {dx dy : D} {E : XK} {Q : VK},
  Good (g.wx ex) ι st H → RD (g.wx ex) (Fz H ((g.wx ex).x ι)) ι x dx → RD (g.wx ex) (Fz H ((g.wx ex).x ι)) ι y dy → Post (g.wx ex) H ι E (f dx dy st) Q → r x y H Q
theorem tOp_of {r : R2} {f : D → D → Store → Res D} {fa fb : Ev D} (hs : OpSem g r f) : ∀ σ H Q, SemE g E (v2 f fa fb) σ H Q → tOp r (SemE g E fa) (SemE g E fb) σ H Q := by
  rintro σ H Q ⟨ex, ι, st, δ, at_, h⟩
  refine semE_bnd at_ ?_
  unfold v2 at h
  cases ea : fa δ st with
  | bad => rw [ea] at h; exact h
  | exc c s1 => rw [ea] at h; exact h
  | ok x s1 =>
    rw [ea] at h
    intro v H1 ι1 at1 x1 r1
    refine semE_bnd at1 ?_
    have h := Post.ext x1 h
    simp only [Res.bnd] at h
    cases eb : fb δ s1 with
    | bad => rw [eb] at h; exact h
    | exc c s2 => rw [eb] at h; exact h
    | ok y s2 =>
      rw [eb] at h
      intro w H2 ι2 at2 x2 r2
      exact hs at2.good (r1.ext x2) r2 (Post.ext x2 h)
theorem se_op {op : Operator} {r : R2} {f : D → D → Store → Res D} {fa fb : Ev D} (ho : OpR X (binaryOp op) r) (hs : OpSem g r f) (ha : PE X a (SemE g E fa)) (hb : PE X b (SemE g E fb)) : PE X (.BinOp a op b pos) (SemE g E (v2 f fa fb)) :=
  pe_mono (pe_op ho ha hb) (tOp_of hs)
theorem se_cmp {op : CmpOp} {r : R2} {f : D → D → Store → Res D} {fa fb : Ev D} (ho : OpR X (compareOp op) r) (hs : OpSem g r f) (ha : PE X a (SemE g E fa)) (hb : PE X b (SemE g E fb)) (hm : behindInMarks op b = false) : PE X (.Compare a [op] [b] pos) (SemE g E (v2 f fa fb)) :=
  pe_mono (pe_cmpR ho ha hb hm) (tOp_of hs)
/-- a value that is a bool, as a test -/
def tstB (f : Ev D) : Ev Bool := fun δ st => (f δ st).bnd fun d s => match d with
  | .p (.bl b) => .ok b s
  | _ => .bad
theorem tTest_of {t : TE} {f : Ev D} (ht : ∀ σ H Q, SemE g E f σ H Q → t σ H Q) : ∀ σ H Q, SemB g E (tstB f) σ H Q → tTest t σ H Q := by
  rintro σ H Q ⟨ex, ι, st, δ, at_, h⟩
  refine ht σ H _ (semE_bnd at_ ?_)
  unfold tstB at h
  cases ea : f δ st with
  | bad => rw [ea] at h; exact h
  | exc c s1 => rw [ea] at h; exact h
  | ok x s1 =>
    rw [ea] at h
    intro v H1 ι1 at1 x1 r1
    simp only [Res.bnd] at h
    cases r1 with
    | ref _ => exact h.elim
    | p r1 =>
      cases r1 with
      | bl b => exact ⟨b, rfl, h H1 ι1 at1.good x1⟩
      | _ => exact h.elim
theorem st_cmp {op : CmpOp} {r : R2} {f : D → D → Store → Res D} {fa fb : Ev D} (ho : OpR X (compareOp op) r) (hs : OpSem g r f) (ha : PE X a (SemE g E fa)) (hb : PE X b (SemE g E fb)) (hm : behindInMarks op b = false) : PT X (.Compare a [op] [b] pos) (SemB g E (tstB (v2 f fa fb))) :=
  pt_mono (pt_cmpR ho ha hb hm) (tTest_of (tOp_of hs))
/-- a < b < c -/
def vCh (f f' : D → D → Store → Res D) (fa fb fc : Ev D) : Ev D := fun δ st => (fa δ st).bnd fun x s1 => (fb δ s1).bnd fun y s2 => (f x y s2).bnd fun z s3 => match z with
  | .p (.bl true) => (fc δ s3).bnd fun w s4 => f' y w s4
  | .p (.bl false) => .ok (.p (.bl false)) s3
  | _ => .bad
theorem tChain_of {r r' : R2} {f f' : D → D → Store → Res D} {fa fb fc : Ev D} (hs : OpSem g r f) (hs' : OpSem g r' f') : ∀ σ H Q, SemE g E (vCh f f' fa fb fc) σ H Q → tChain r r' (SemE g E fa) (SemE g E fb) (SemE g E fc) σ H Q := by
  rintro σ H Q ⟨ex, ι, st, δ, at_, h⟩
  refine semE_bnd at_ ?_
  unfold vCh at h
  cases ea : fa δ st with
  | bad => rw [ea] at h; exact h
  | exc c s1 => rw [ea] at h; exact h
  | ok x s1 =>
    rw [ea] at h
    intro v H1 ι1 at1 x1 r1
    refine semE_bnd at1 ?_
    have h := Post.ext x1 h
    simp only [Res.bnd] at h
    cases eb : fb δ s1 with
    | bad => rw [eb] at h; exact h
    | exc c s2 => rw [eb] at h; exact h
    | ok y s2 =>
      rw [eb] at h
      intro w H2 ι2 at2 x2 r2
      have h := Post.ext x2 h
      simp only [] at h
      refine hs (E := E) at2.good (r1.ext x2) r2 ?_
      cases ez : f x y s2 with
      | bad => rw [ez] at h; exact h
      | exc c s3 => rw [ez] at h; exact h
      | ok z s3 =>
        rw [ez] at h
        intro u H3 ι3 g3 x3 r3
        have h := Post.ext x3 h
        simp only [] at h
        cases r3 with
        | ref _ => exact h.elim
        | p r3 =>
          cases r3 with
          | bl k =>
            refine ⟨k, rfl, ?_⟩
            cases k with
            | false => exact h _ H3 ι3 g3 (.refl _ _) (.p (.bl false))
            | true =>
              rw [if_pos rfl]
              have at3 := at2.ext x3 g3
              refine semE_bnd at3 ?_
              cases ec : fc δ s3 with
              | bad => rw [ec] at h; exact h
              | exc c s3 => rw [ec] at h; exact h
              | ok q s4 =>
                rw [ec] at h
                intro u4 H4 ι4 at4 x4 r4
                exact hs' at4.good ((r2.ext x3).ext x4) r4 (Post.ext x4 h)
          | _ => exact h.elim
theorem se_chain {op op' : CmpOp} {r r' : R2} {f f' : D → D → Store → Res D} {fa fb fc : Ev D} (ho : OpR X (compareOp op) r) (ho' : OpR X (compareOp op') r') (hs : OpSem g r f) (hs' : OpSem g r' f') (ha : PE X a (SemE g E fa)) (hb : PE X b (SemE g E fb)) (hc : PE X c (SemE g E fc))
    (hm : lastMarks [op, op'] [b, c] = false := by with_unfolding_all rfl) : PE X (.Compare a [op, op'] [b, c] pos) (SemE g E (vCh f f' fa fb fc)) := pe_mono (pe_chain ho ho' ha hb hc hm) (tChain_of hs hs')
theorem st_chain {op op' : CmpOp} {r r' : R2} {f f' : D → D → Store → Res D} {fa fb fc : Ev D} (ho : OpR X (compareOp op) r) (ho' : OpR X (compareOp op') r') (hs : OpSem g r f) (hs' : OpSem g r' f') (ha : PE X a (SemE g E fa)) (hb : PE X b (SemE g E fb)) (hc : PE X c (SemE g E fc))
    (hm : lastMarks [op, op'] [b, c] = false := by with_unfolding_all rfl) : PT X (.Compare a [op, op'] [b, c] pos) (SemB g E (tstB (vCh f f' fa fb fc))) := pt_mono (pt_chain ho ho' ha hb hc hm) (tTest_of (tChain_of hs hs'))
theorem st_val {f : Ev D} (h : PE X e (SemE g E f)) (he : ∀ whole, isTrue e X.env whole = (do let v ← whole; standAt e.pos; holding [v] (truthy v)) := by intro _; rfl) : PT X e (SemB g E (tstB f)) := by
  refine pt_mono (pt_val h he) fun σ H Q q => ?_
  exact tTest_of (t := SemE g E f) (fun _ _ _ q => q) σ H Q q
/-! and, or, not -/
def bAnd (f h : Ev Bool) : Ev Bool := fun δ st => (f δ st).bnd fun b s => if b = true then h δ s else .ok false s
def bOr (f h : Ev Bool) : Ev Bool := fun δ st => (f δ st).bnd fun b s => if b = true then .ok true s else h δ s
def bNot (f : Ev Bool) : Ev Bool := fun δ st => (f δ st).bnd fun b s => .ok (!b) s
structure SW (X : Cx) (g : GL) (E : XK) (e : Expr) (f : Ev Bool) : Prop where
  ok : PW X e (SemB g E f)
theorem pw_mono {t t' : TT} (h : PW X e t) (k : ∀ σ H Q, t' σ H Q → t σ H Q) : PW X e t' := ⟨fun w pins s σ H Q I q => h.run w pins s σ H Q I (k σ H Q q)⟩
theorem semB_seq {f : Ev Bool} {k : Bool → Ev Bool} {t : Bool → TT} (ht : ∀ b σ H Q, SemB g E (k b) σ H Q → t b σ H Q) : ∀ σ H Q, SemB g E (fun δ st => (f δ st).bnd fun b s => k b δ s) σ H Q → SemB g E f σ H fun b H1 => t b σ H1 Q := by
  rintro σ H Q ⟨ex, ι, st, δ, at_, h⟩
  refine semB_bnd at_ ?_
  dsimp only at h
  cases ea : f δ st with
  | bad => rw [ea] at h; exact h
  | exc c s1 => rw [ea] at h; exact h
  | ok x s1 =>
    rw [ea] at h
    intro H1 ι1 at1 x1
    exact ht x σ H1 Q ⟨ex, ι1, s1, δ, at1, PostB.ext x1 h⟩
theorem sw_and1 {f : Ev Bool} (h : PT X a (SemB g E f)) : PW X (.BoolOp .And [a] pos) (SemB g E f) := pw_and1 h
theorem sw_or1 {f : Ev Bool} (h : PT X a (SemB g E f)) : PW X (.BoolOp .Or [a] pos) (SemB g E f) := pw_or1 h
theorem sw_and {f h : Ev Bool} {rest : List Expr} (ha : PT X a (SemB g E f)) (hb : PW X (.BoolOp .And (b :: rest) pos) (SemB g E h)) : PW X (.BoolOp .And (a :: b :: rest) pos) (SemB g E (bAnd f h)) := by
  refine pw_mono (pw_and ha hb) fun σ H Q q => ?_
  refine semB_seq (k := fun b δ s => if b = true then h δ s else .ok false s) (t := fun b σ H Q => if b = true then SemB g E h σ H Q else Q false H) (fun b σ H Q q => ?_) σ H Q q
  cases b with
  | true => exact q
  | false => obtain ⟨ex, ι, st, δ, at_, q⟩ := q; exact q H ι at_.good (.refl _ _)
theorem sw_or {f h : Ev Bool} {rest : List Expr} (ha : PT X a (SemB g E f)) (hb : PW X (.BoolOp .Or (b :: rest) pos) (SemB g E h)) : PW X (.BoolOp .Or (a :: b :: rest) pos) (SemB g E (bOr f h)) := by
  refine pw_mono (pw_or ha hb) fun σ H Q q => ?_
  refine semB_seq (k := fun b δ s => if b = true then .ok true s else h δ s) (t := fun b σ H Q => if b = true then Q true H else SemB g E h σ H Q) (fun b σ H Q q => ?_) σ H Q q
  cases b with
  | false => exact q
  | true => obtain ⟨ex, ι, st, δ, at_, q⟩ := q; exact q H ι at_.good (.refl _ _)
theorem st_not {f : Ev Bool} (ha : PT X a (SemB g E f)) : PT X (.UnaryOp .Not a pos) (SemB g E (bNot f)) := by
  refine pt_mono (pt_not ha) fun σ H Q q => ?_
  refine semB_seq (k := fun b δ s => .ok (!b) s) (t := fun b σ H Q => Q (!b) H) (fun b σ H Q q => ?_) σ H Q q
  obtain ⟨ex, ι, st, δ, at_, q⟩ := q; exact q H ι at_.good (.refl _ _)
/-- .. as values -/
def vAnd (f h : Ev D) : Ev D := fun δ st => (f δ st).bnd fun d s => match d with
  | .p (.bl true) => h δ s
  | .p (.bl false) => .ok (.p (.bl false)) s
  | _ => .bad
def vOr (f h : Ev D) : Ev D := fun δ st => (f δ st).bnd fun d s => match d with
  | .p (.bl true) => .ok (.p (.bl true)) s
  | .p (.bl false) => h δ s
  | _ => .bad
def vNot (f : Ev D) : Ev D := fun δ st => (f δ st).bnd fun d s => match d with
  | .p (.bl b) => .ok (.p (.bl (!b))) s
  | _ => .bad
theorem se_one {op} {f : Ev D} (h : PE X a (SemE g E f)) : PE X (.BoolOp op [a] pos) (SemE g E f) := pe_one h
/-- a bool's value, then what follows -/
theorem semE_bool {f : Ev D} {k : D → Ev D} {t : Bool → TE} (hk : ∀ d δ st, (∀ b, d ≠ .p (.bl b)) → k d δ st = .bad) (ht : ∀ b σ H Q, SemE g E (k (.p (.bl b))) σ H Q → t b σ H Q) : ∀ σ H Q, SemE g E (fun δ st => (f δ st).bnd fun d s => k d δ s) σ H Q →
    SemE g E f σ H fun x H1 => ∃ b, x = .bl b ∧ t b σ H1 Q := by
  rintro σ H Q ⟨ex, ι, st, δ, at_, h⟩
  refine semE_bnd at_ ?_
  dsimp only at h
  cases ea : f δ st with
  | bad => rw [ea] at h; exact h
  | exc c s1 => rw [ea] at h; exact h
  | ok x s1 =>
    rw [ea] at h
    intro v H1 ι1 at1 x1 r1
    simp only [Res.bnd] at h
    have no : (∀ b, x ≠ .p (.bl b)) → False := fun z => by rw [hk x δ s1 z] at h; exact h
    cases r1 with
    | ref _ => exact (no fun b z => by cases z).elim
    | p r1 =>
      cases r1 with
      | bl b => exact ⟨b, rfl, ht b σ H1 Q ⟨ex, ι1, s1, δ, at1, Post.ext x1 h⟩⟩
      | _ => exact (no fun b z => by cases z).elim
theorem se_and {f h : Ev D} {rest : List Expr} (ha : PE X a (SemE g E f)) (hb : PE X (.BoolOp .And (b :: rest) pos) (SemE g E h)) : PE X (.BoolOp .And (a :: b :: rest) pos) (SemE g E (vAnd f h)) := by
  refine pe_mono (pe_and ha hb) fun σ H Q q => ?_
  refine semE_bool (k := fun d δ s => match d with | .p (.bl true) => h δ s | .p (.bl false) => .ok (.p (.bl false)) s | _ => .bad) (t := fun b σ H Q => if b = true then SemE g E h σ H Q else Q (.bl false) H) (fun d δ st z => ?_) (fun b σ H Q q => ?_) σ H Q q
  · split
    · exact absurd rfl (z true)
    · exact absurd rfl (z false)
    · rfl
  · cases b with
    | true => exact q
    | false => obtain ⟨ex, ι, st, δ, at_, q⟩ := q; exact q _ H ι at_.good (.refl _ _) (.p (.bl false))
theorem se_or {f h : Ev D} {rest : List Expr} (ha : PE X a (SemE g E f)) (hb : PE X (.BoolOp .Or (b :: rest) pos) (SemE g E h)) : PE X (.BoolOp .Or (a :: b :: rest) pos) (SemE g E (vOr f h)) := by
  refine pe_mono (pe_or ha hb) fun σ H Q q => ?_
  refine semE_bool (k := fun d δ s => match d with | .p (.bl true) => .ok (.p (.bl true)) s | .p (.bl false) => h δ s | _ => .bad) (t := fun b σ H Q => if b = true then Q (.bl true) H else SemE g E h σ H Q) (fun d δ st z => ?_) (fun b σ H Q q => ?_) σ H Q q
  · split
    · exact absurd rfl (z true)
    · exact absurd rfl (z false)
    · rfl
  · cases b with
    | false => exact q
    | true => obtain ⟨ex, ι, st, δ, at_, q⟩ := q; exact q _ H ι at_.good (.refl _ _) (.p (.bl true))
theorem se_not {f : Ev D} (ha : PE X a (SemE g E f)) : PE X (.UnaryOp .Not a pos) (SemE g E (vNot f)) := by
  refine pe_mono (pe_not ha) fun σ H Q q => ?_
  refine semE_bool (k := fun d δ s => match d with | .p (.bl b) => .ok (.p (.bl (!b))) s | _ => .bad) (t := fun b σ H Q => Q (.bl (!b)) H) (fun d δ st z => ?_) (fun b σ H Q q => ?_) σ H Q q
  · split
    · rename_i b; exact absurd rfl (z b)
    · rfl
  · obtain ⟨ex, ι, st, δ, at_, q⟩ := q; exact q _ H ι at_.good (.refl _ _) (.p (.bl _))
/-- a if t else b -/
def vIf (t : Ev Bool) (f h : Ev D) : Ev D := fun δ st => (t δ st).bnd fun b s => if b = true then f δ s else h δ s
theorem se_if {t : Ev Bool} {f h : Ev D} (hc : PT X c (SemB g E t)) (ha : PE X a (SemE g E f)) (hb : PE X b (SemE g E h)) : PE X (.IfExp c a b pos) (SemE g E (vIf t f h)) := by
  refine pe_mono (pe_ifExp hc ha hb) fun σ H Q ⟨ex, ι, st, δ, at_, h⟩ => ?_
  refine semB_bnd at_ ?_
  unfold vIf at h
  cases ea : t δ st with
  | bad => rw [ea] at h; exact h
  | exc c s1 => rw [ea] at h; exact h
  | ok x s1 =>
    rw [ea] at h
    intro H1 ι1 at1 x1
    have h := Post.ext x1 h
    cases x with
    | true => exact ⟨ex, ι1, s1, δ, at1, h⟩
    | false => exact ⟨ex, ι1, s1, δ, at1, h⟩
/-! ### argument lists -/
def aN : Ev (List D) := fun _ st => .ok [] st
def aC (f : Ev D) (r : Ev (List D)) : Ev (List D) := fun δ st => (f δ st).bnd fun d s => (r δ s).bnd fun ds s2 => .ok (d :: ds) s2
theorem sa_nil : PA X [] (SemA g E aN) := pa_mono pa_nil fun σ H Q ⟨ex, ι, st, δ, at_, h⟩ => h [] H ι at_.good (.refl _ _) .nil
theorem sa_cons {es : List Expr} {f : Ev D} {r : Ev (List D)} (ha : PE X e (SemE g E f)) (hr : PA X es (SemA g E r)) (hs : starEach (e :: es) X.env = (false, eval e X.env) :: starEach es X.env := by rfl) : PA X (e :: es) (SemA g E (aC f r)) := by
  refine pa_mono (pa_cons ha hr hs) fun σ H Q ⟨ex, ι, st, δ, at_, h⟩ => ?_
  refine semE_bnd at_ ?_
  unfold aC at h
  cases ea : f δ st with
  | bad => rw [ea] at h; exact h
  | exc c s1 => rw [ea] at h; exact h
  | ok x s1 =>
    rw [ea] at h
    intro v H1 ι1 at1 x1 r1
    refine semA_bnd at1 ?_
    have h := PostA.ext x1 h
    simp only [Res.bnd] at h
    cases eb : r δ s1 with
    | bad => rw [eb] at h; exact h
    | exc c s2 => rw [eb] at h; exact h
    | ok ys s2 =>
      rw [eb] at h
      intro vs H2 ι2 at2 x2 r2
      exact PostA.ext x2 h (v :: vs) H2 ι2 at2.good (.refl _ _) (.cons (r1.ext x2) r2)
end
end Iv
end

section
set_option Elab.async false
set_option linter.all false
set_option maxRecDepth 100000
set_option maxHeartbeats 4100000
namespace Iv
open PySem PySem.Spec PyProof.Rows L2 Gx

/-! ### data -/
mutual
def P.toD : P → PyData
  | .non => .none
  | .bl b => .bool b
  | .int i => .int i
  | .str x => .str x
  | .tup xs => .tuple (P.toDs xs)
  | .lst xs => .list (P.toDs xs)
  | .scr xs => .list (P.toDs xs)
  | .dct _ => .dict []
  | .obj _ _ => .dict []
  | .lam _ => .dict []
def P.toDs : List P → List PyData
  | [] => []
  | x :: xs => x.toD :: P.toDs xs
end
mutual
theorem Rp.dp {g : GL} {H : Hp} {ι : List Addr} : ∀ {v : V} {x : P}, Rp g (Fz H ι) v x → x.toD.canLay0 = true → Dp g.K H v x.toD
  | _, _, .non, _ => .non
  | _, _, .bl b, _ => .bl b
  | _, _, .int i, _ => .int i
  | _, _, .str x, _ => .str x
  | _, _, .tup h r, c => .tup (sqT_of_fz h) (Rps.dp r (by simpa only [P.toD, PyData.canLay0] using c))
  | _, _, .lst h r, c => .lst (.inl (.inl (Fz.lst h))) (Rps.dp r (by simpa only [P.toD, PyData.canLay0] using c))
  | _, _, .scr h r, c => .lst (sqL_of_fz h) (Rps.dp r (by simpa only [P.toD, PyData.canLay0] using c))
  | _, _, .dK _ _, c => by simp only [P.toD, PyData.canLay0] at c; cases c
  | _, _, .dT _ _, c => by simp only [P.toD, PyData.canLay0] at c; cases c
  | _, _, .obj _ _, c => by simp only [P.toD, PyData.canLay0] at c; cases c
  | _, _, .lam _ _ _, c => by simp only [P.toD, PyData.canLay0] at c; cases c
theorem Rps.dp {g : GL} {H : Hp} {ι : List Addr} : ∀ {vs : List V} {xs : List P}, Rps g (Fz H ι) vs xs → PyData.canLayAll0 (P.toDs xs) = true → DpAll g.K H vs (P.toDs xs)
  | _, _, .nil, _ => .nil
  | _, _, .cons r t, c => by
    simp only [P.toDs, PyData.canLayAll0, Bool.and_eq_true] at c
    exact .cons (Rp.dp r c.1) (Rps.dp t c.2)
end

/-- data as it stands -/
def pOf : D → Option P
  | .p x => some x
  | .ref _ => none
def pAll : List D → Option (List P)
  | [] => some []
  | .p x :: ds => (pAll ds).map (x :: ·)
  | .ref _ :: _ => none
def pKs : List (Key × D) → Option (List (P × P))
  | [] => some []
  | (k, .p x) :: ds => (pKs ds).map ((kP k, x) :: ·)
  | (_, .ref _) :: _ => none
def pTs : List (List Key × D) → Option (List (P × P))
  | [] => some []
  | (k, .p x) :: ds => (pTs ds).map ((P.tup (k.map kP), x) :: ·)
  | (_, .ref _) :: _ => none
def pFs : List (Str × D) → Option (List (Str × P))
  | [] => some []
  | (k, .p x) :: ds => (pFs ds).map ((k, x) :: ·)
  | (_, .ref _) :: _ => none
def seeC : Cell → Option P
  | .lst ds => (pAll ds).map .lst
  | .dK ds => (pKs ds).map .dct
  | .dT ds => (pTs ds).map .dct
  | .obj c ds => (pFs ds).map (.obj c)
def see (st : Store) : D → Option P
  | .p x => some x
  | .ref n => match st[n]? with
    | some c => seeC c
    | none => none
section
variable {g : GL} {ι : List Addr} {st : Store} {H F : Hp}
theorem rps_of : ∀ {vs : List V} {ds : List D} {xs : List P}, RDs g F ι vs ds → pAll ds = some xs → Rps g F vs xs
  | _, _, _, .nil, e => by cases e; exact .nil
  | _, _, _, .cons (.p r) t, e => by
    simp only [pAll, Option.map_eq_some_iff] at e
    obtain ⟨ys, e1, rfl⟩ := e
    exact .cons r (rps_of t e1)
  | _, _, _, .cons (.ref _) t, e => by cases e
theorem rpk_of : ∀ {vs : List (Key × V)} {ds : List (Key × D)} {xs : List (P × P)}, Paired (fun (a : Key × V) (b : Key × D) => a.1 = b.1 ∧ RD g F ι a.2 b.2) vs ds → pKs ds = some xs → RpK g F vs xs
  | _, _, _, .nil, e => by cases e; exact .nil
  | (k, v) :: _, (k', d) :: _, _, .cons ⟨e0, r⟩ t, e => by
    cases e0
    cases r with
    | ref _ => cases e
    | p r =>
      simp only [pKs, Option.map_eq_some_iff] at e
      obtain ⟨ys, e1, rfl⟩ := e
      exact .cons r (rpk_of t e1)
theorem rpt_of : ∀ {vs : List (List Key × V)} {ds : List (List Key × D)} {xs : List (P × P)}, Paired (fun (a : List Key × V) (b : List Key × D) => a.1 = b.1 ∧ RD g F ι a.2 b.2) vs ds → pTs ds = some xs → RpT g F vs xs
  | _, _, _, .nil, e => by cases e; exact .nil
  | (k, v) :: _, (k', d) :: _, _, .cons ⟨e0, r⟩ t, e => by
    cases e0
    cases r with
    | ref _ => cases e
    | p r =>
      simp only [pTs, Option.map_eq_some_iff] at e
      obtain ⟨ys, e1, rfl⟩ := e
      exact .cons r (rpt_of t e1)
theorem rpf_of : ∀ {vs : List (Str × V)} {ds : List (Str × D)} {xs : List (Str × P)}, Paired (fun (a : Str × V) (b : Str × D) => a.1 = b.1 ∧ RD g F ι a.2 b.2) vs ds → pFs ds = some xs → RpF g F vs xs
  | _, _, _, .nil, e => by cases e; exact .nil
  | (k, v) :: _, (k', d) :: _, _, .cons ⟨e0, r⟩ t, e => by
    cases e0
    cases r with
    | ref _ => cases e
    | p r =>
      simp only [pFs, Option.map_eq_some_iff] at e
      obtain ⟨ys, e1, rfl⟩ := e
      exact .cons r (rpf_of t e1)
theorem fz_all : Sub (Fz H (g.x ι)) (Fz H []) := fun b o e => by
  obtain ⟨_, u, h1, h2⟩ := Fz.at e
  exact Fz.mk (by simp) h1 h2
theorem RD.see (G : Good g ι st H) {v : V} {d : D} {x : P} (r : RD g (Fz H (g.x ι)) ι v d) (e : see st d = some x) : Rp g (Fz H []) v x := by
  cases r with
  | p r => cases e; exact r.sub fz_all
  | ref h =>
    obtain ⟨c, u, h1, h2, rc⟩ := G.cell' h
    simp only [Iv.see, h1] at e
    cases rc with
    | lst q =>
      simp only [seeC, Option.map_eq_some_iff] at e
      obtain ⟨ys, e1, rfl⟩ := e
      exact .lst (Fz.mk (by simp) h2 rfl) ((rps_of q e1).sub fz_all)
    | dK q =>
      simp only [seeC, Option.map_eq_some_iff] at e
      obtain ⟨ys, e1, rfl⟩ := e
      exact .dK (Fz.mk (by simp) h2 rfl) ((rpk_of q e1).sub fz_all)
    | dT q =>
      simp only [seeC, Option.map_eq_some_iff] at e
      obtain ⟨ys, e1, rfl⟩ := e
      exact .dT (Fz.mk (by simp) h2 rfl) ((rpt_of q e1).sub fz_all)
    | obj q =>
      simp only [seeC, Option.map_eq_some_iff] at e
      obtain ⟨ys, e1, rfl⟩ := e
      exact .obj (Fz.mk (by simp) h2 rfl) ((rpf_of q e1).sub fz_all)
theorem Rps.length {vs : List V} {xs : List P} (h : Rps g F vs xs) : vs.length = xs.length := by
  induction vs generalizing xs with
  | nil => cases h; rfl
  | cons v vs ih =>
    cases h with
    | cons _ t => simp [ih t]
theorem Rps.app : ∀ {vs ws : List V} {xs ys : List P}, Rps g F vs xs → Rps g F ws ys → Rps g F (vs ++ ws) (xs ++ ys)
  | _, _, _, _, .nil, q => q
  | _, _, _, _, .cons r t, q => .cons r (t.app q)
theorem Rps.get : ∀ {vs : List V} {xs : List P} {i : Nat} {v : V}, Rps g F vs xs → vs[i]? = some v → ∃ x, xs[i]? = some x ∧ Rp g F v x
  | _, _, _, _, .nil, h => by simp at h
  | _, _, 0, _, .cons r t, h => by simp at h; subst h; exact ⟨_, rfl, r⟩
  | _, _, i + 1, _, .cons r t, h => by
    obtain ⟨y, a, b⟩ := t.get (i := i) (by simpa using h)
    exact ⟨y, by simpa using a, b⟩
theorem Rps.get' : ∀ {vs : List V} {xs : List P} {i : Nat} {x : P}, Rps g F vs xs → xs[i]? = some x → ∃ v, vs[i]? = some v ∧ Rp g F v x
  | _, _, _, _, .nil, h => by simp at h
  | _, _, 0, _, .cons r t, h => by simp at h; subst h; exact ⟨_, rfl, r⟩
  | _, _, i + 1, _, .cons r t, h => by
    obtain ⟨y, a, b⟩ := t.get' (i := i) (by simpa using h)
    exact ⟨y, by simpa using a, b⟩
theorem Rps.drop {vs : List V} {xs : List P} : ∀ (n : Nat), Rps g F vs xs → Rps g F (vs.drop n) (xs.drop n)
  | 0, h => h
  | n + 1, .nil => .nil
  | n + 1, .cons _ t => t.drop n
theorem Rps.take {vs : List V} {xs : List P} : ∀ (n : Nat), Rps g F vs xs → Rps g F (vs.take n) (xs.take n)
  | 0, h => by simpa using .nil
  | n + 1, .nil => .nil
  | n + 1, .cons r t => .cons r (t.take n)
theorem Rps.rep {vs : List V} {xs : List P} (h : Rps g F vs xs) : ∀ n : Nat, Rps g F (List.replicate n vs).flatten (List.replicate n xs).flatten
  | 0 => .nil
  | n + 1 => by
    simp only [List.replicate_succ, List.flatten_cons]
    exact h.app (h.rep n)
theorem Rps.rev {vs : List V} {xs : List P} (h : Rps g F vs xs) : Rps g F vs.reverse xs.reverse := by
  induction vs generalizing xs with
  | nil => cases h; exact .nil
  | cons v vs ih =>
    cases h with
    | cons r t => simp only [List.reverse_cons]; exact (ih t).app (.cons r .nil)
end

/-! ### what the operators compute -/
theorem OpR.or {X : Cx} {f : Value → Value → Sem Value} {r r' : R2} (h : OpR X f r) (h' : OpR X f r') : OpR X f (fun x y H Q => r x y H Q ∨ r' x y H Q) :=
  fun pins s σ H x y v u Q I rx ry q => q.elim (h pins s σ H x y v u Q I rx ry) (h' pins s σ H x y v u Q I rx ry)
/-- f as a rule -/
def rSem (g : GL) (f : D → D → Store → Res D) : R2 := fun x y H Q => ∃ ex ι st dx dy, Good (g.wx ex) ι st H ∧ RD (g.wx ex) (Fz H ((g.wx ex).x ι)) ι x dx ∧ RD (g.wx ex) (Fz H ((g.wx ex).x ι)) ι y dy ∧ ∃ d st', f dx dy st = .ok d st' ∧ ∀ v H' ι', Good (g.wx ex) ι' st' H' → Ext (g.wx ex) H ι H' ι' → RD (g.wx ex) (Fz H' ((g.wx ex).x ι')) ι' v d → Q v H'
/-- f never raises -/
def NoX (f : D → D → Store → Res D) : Prop := ∀ x y st c s, f x y st ≠ .exc c s
theorem opSem_of {g : GL} {f : D → D → Store → Res D} (n : NoX f) : OpSem g (rSem g f) f := by
  intro ex H ι st x y dx dy E Q G rx ry h
  refine ⟨ex, ι, st, dx, dy, G, rx, ry, ?_⟩
  cases e : f dx dy st with
  | bad => rw [e] at h; exact h.elim
  | exc c s => exact (n _ _ _ _ _ e).elim
  | ok d s => rw [e] at h; exact ⟨d, s, rfl, h⟩
structure CxK (X : Cx) (g : GL) : Prop where
  K : X.K = g.K
  u : X.A.units + 130 < cLine
def smallI (i : Int) : Bool := decide (-18446744073709551616 < i) && decide (i < 18446744073709551616)
def mulOk (i j : Int) : Bool := smallI i || smallI j
theorem cmul {i j : Int} (h : mulOk i j = true) : CMul i j := by
  unfold mulOk smallI at h
  unfold CMul
  simp only [Bool.or_eq_true, Bool.and_eq_true, decide_eq_true_eq] at h
  omega
def szLine : Nat := 1000000
theorem szLine_le : szLine ≤ sizeLine := by decide
def oAdd (x y : D) (st : Store) : Res D := match x, y with
  | .p (.int i), .p (.int j) => .ok (.p (.int (i + j))) st
  | _, _ => match see st x, see st y with
    | some (.str a), some (.str b) => if a.length + b.length ≤ szLine then .ok (.p (.str (a ++ b))) st else .bad
    | some (.tup a), some (.tup b) => if a.length + b.length ≤ szLine then .ok (.p (.tup (a ++ b))) st else .bad
    | some (.lst a), some (.lst b) => if a.length + b.length ≤ szLine then .ok (.p (.lst (a ++ b))) st else .bad
    | _, _ => .bad
def oSub (x y : D) (st : Store) : Res D := match x, y with
  | .p (.int i), .p (.int j) => .ok (.p (.int (i - j))) st
  | _, _ => .bad
def oMul (x y : D) (st : Store) : Res D := match x, y with
  | .p (.int i), .p (.int j) => if mulOk i j = true then .ok (.p (.int (i * j))) st else .bad
  | _, .p (.int k) => match see st x with
    | some (.lst a) => if k < 1000000 ∧ -1000000 < k ∧ a.length * k.toNat ≤ szLine then .ok (.p (.lst (List.replicate k.toNat a).flatten)) st else .bad
    | some (.tup a) => if 2 ≤ k ∧ k ≤ 1000 ∧ a.length ≤ 1000 ∧ a ≠ [] then .ok (.p (.tup (List.replicate k.toNat a).flatten)) st else .bad
    | _ => .bad
  | _, _ => .bad
def oDiv (x y : D) (st : Store) : Res D := match x, y with
  | .p (.int i), .p (.int j) => if 0 < j ∧ j.natAbs.log2 < 9000 then .ok (.p (.int (i / j))) st else .bad
  | _, _ => .bad
def oMod (x y : D) (st : Store) : Res D := match x, y with
  | .p (.int i), .p (.int j) => if 0 < j then .ok (.p (.int (i % j))) st else .bad
  | _, _ => .bad
def oPow (x y : D) (st : Store) : Res D := match x, y with
  | .p (.int i), .p (.int j) => if 0 ≤ j ∧ j ≤ 1000000 ∧ smallI i = true then .ok (.p (.int (i ^ j.toNat))) st else .bad
  | _, _ => .bad
def pEq (x y : P) : Option Bool := match x, y with
  | .int i, .int j => some (decide (i = j))
  | _, _ => if SeqAt.shaped x.toD = true ∧ SeqAt.shaped y.toD = true then some (PyData.eqv x.toD y.toD) else none
def oEq (neg : Bool) (x y : D) (st : Store) : Res D := match see st x, see st y with
  | some a, some b => match pEq a b with
    | some k => .ok (.p (.bl (if neg = true then !k else k))) st
    | none => .bad
  | _, _ => .bad
def oIs (neg : Bool) (x y : D) (st : Store) : Res D := match y with
  | .p .non => match x with
    | .p .non => .ok (.p (.bl (!neg))) st
    | _ => .ok (.p (.bl neg)) st
  | _ => .bad
/-- the order of data: 0 <, 1 <=, 2 >, 3 >= -/
inductive OK where | lt | le | gt | ge
def ordI (k : OK) (i j : Int) : Bool := match k with
  | .lt => decide (i < j) | .le => decide (i ≤ j) | .gt => decide (j < i) | .ge => decide (j ≤ i)
def ordD (k : OK) (x y : PyData) : Bool := match k with
  | .lt => PySem.W.dataLt x y | .le => !PySem.W.dataLt y x | .gt => PySem.W.dataLt y x | .ge => !PySem.W.dataLt x y
def isNon : PyData → Bool
  | .none => true
  | _ => false
def oOrd (k : OK) (x y : D) (st : Store) : Res D := match x, y with
  | .p (.int i), .p (.int j) => .ok (.p (.bl (ordI k i j))) st
  | _, _ => match see st x, see st y with
    | some a, some b => if SeqAt.shaped a.toD = true ∧ SeqAt.shaped b.toD = true ∧ PySem.W.alike a.toD b.toD = true ∧ isNon a.toD = false then .ok (.p (.bl (ordD k a.toD b.toD))) st else .bad
    | _, _ => .bad
end Iv
end

section
set_option Elab.async false
set_option linter.all false
set_option maxRecDepth 100000
set_option maxHeartbeats 4100000
namespace Iv
open PySem PySem.Spec PyProof.Rows L2 Gx
section
variable {X : Cx} {g : GL} {ι : List Addr} {st : Store} {H F : Hp}
theorem noX_add : NoX oAdd := by intro x y st c s e; unfold oAdd at e; repeat' split at e
                                 all_goals cases e
theorem noX_sub : NoX oSub := by intro x y st c s e; unfold oSub at e; repeat' split at e
                                 all_goals cases e
theorem noX_mul : NoX oMul := by intro x y st c s e; unfold oMul at e; repeat' split at e
                                 all_goals cases e
theorem noX_div : NoX oDiv := by intro x y st c s e; unfold oDiv at e; repeat' split at e
                                 all_goals cases e
theorem noX_mod : NoX oMod := by intro x y st c s e; unfold oMod at e; repeat' split at e
                                 all_goals cases e
theorem noX_pow : NoX oPow := by intro x y st c s e; unfold oPow at e; repeat' split at e
                                 all_goals cases e
theorem noX_eq {n} : NoX (oEq n) := by intro x y st c s e; unfold oEq at e; repeat' split at e
                                       all_goals cases e
theorem noX_is {n} : NoX (oIs n) := by intro x y st c s e; unfold oIs at e; repeat' split at e
                                       all_goals cases e
theorem noX_ord {n} : NoX (oOrd n) := by intro x y st c s e; unfold oOrd at e; repeat' split at e
                                         all_goals cases e
theorem RD.intI {x : V} {i : Int} (r : RD g F ι x (.p (.int i))) : x = .int i := by cases r with | p r => cases r; rfl
theorem see_lst (G : Good g ι st H) {v : V} {d : D} {xs : List P} (r : RD g (Fz H (g.x ι)) ι v d) (e : see st d = some (.lst xs)) : ∃ a vs, v = .ref a ∧ H a = some (.lst vs) ∧ Rps g (Fz H (g.x ι)) vs xs := by
  cases r with
  | p r =>
    cases e
    cases r with
    | lst h q => exact ⟨_, _, rfl, Fz.lst h, q⟩
  | ref h =>
    obtain ⟨c, u, h1, h2, rc⟩ := G.cell' h
    simp only [Iv.see, h1] at e
    cases rc with
    | lst q =>
      simp only [seeC, Option.map_eq_some_iff] at e
      obtain ⟨ys, e1, e2⟩ := e
      cases e2
      exact ⟨_, _, rfl, h2, rps_of q e1⟩
    | dK q =>
      simp only [seeC, Option.map_eq_some_iff] at e
      obtain ⟨ys, e1, e2⟩ := e
      cases e2
    | dT q =>
      simp only [seeC, Option.map_eq_some_iff] at e
      obtain ⟨ys, e1, e2⟩ := e
      cases e2
    | obj q =>
      simp only [seeC, Option.map_eq_some_iff] at e
      obtain ⟨ys, e1, e2⟩ := e
      cases e2
theorem see_p (G : Good g ι st H) {v : V} {d : D} {x : P} (r : RD g (Fz H (g.x ι)) ι v d) (e : see st d = some x) (n : match x with | .lst _ | .dct _ | .obj _ _ => False | _ => True) : Rp g (Fz H (g.x ι)) v x := by
  cases r with
  | p r => cases e; exact r
  | ref h =>
    obtain ⟨c, u, h1, h2, rc⟩ := G.cell' h
    simp only [Iv.see, h1] at e
    cases rc with
    | lst q =>
      simp only [seeC, Option.map_eq_some_iff] at e
      obtain ⟨ys, e1, e2⟩ := e
      cases e2
      exact n.elim
    | dK q =>
      simp only [seeC, Option.map_eq_some_iff] at e
      obtain ⟨ys, e1, e2⟩ := e
      cases e2
      exact n.elim
    | dT q =>
      simp only [seeC, Option.map_eq_some_iff] at e
      obtain ⟨ys, e1, e2⟩ := e
      cases e2
      exact n.elim
    | obj q =>
      simp only [seeC, Option.map_eq_some_iff] at e
      obtain ⟨ys, e1, e2⟩ := e
      cases e2
      exact n.elim
theorem see_tup (G : Good g ι st H) {v : V} {d : D} {xs : List P} (r : RD g (Fz H (g.x ι)) ι v d) (e : see st d = some (.tup xs)) : ∃ a vs, v = .ref a ∧ SqT g.K (Fz H (g.x ι)) a vs ∧ Rps g (Fz H (g.x ι)) vs xs := by
  have q := see_p G r e trivial
  cases q with
  | tup h q => exact ⟨_, _, rfl, h, q⟩
theorem see_scr (G : Good g ι st H) {v : V} {d : D} {xs : List P} (r : RD g (Fz H (g.x ι)) ι v d) (e : see st d = some (.scr xs)) : ∃ a vs, v = .ref a ∧ SqL g.K H a vs ∧ Rps g (Fz H (g.x ι)) vs xs := by
  have q := see_p G r e trivial
  cases q with
  | scr h q => exact ⟨_, _, rfl, sqL_of_fz h, q⟩
theorem see_str (G : Good g ι st H) {v : V} {d : D} {x : Str} (r : RD g (Fz H (g.x ι)) ι v d) (e : see st d = some (.str x)) : v = .str x := by
  have q := see_p G r e trivial
  cases q; rfl
theorem see_int (G : Good g ι st H) {v : V} {d : D} {x : Int} (r : RD g (Fz H (g.x ι)) ι v d) (e : see st d = some (.int x)) : v = .int x := by
  have q := see_p G r e trivial
  cases q; rfl
/-- a list's or a tuple's items, as they stand -/
def seeSq (st : Store) (d : D) : Option (List P) := match see st d with
  | some (.lst xs) => some xs
  | some (.tup xs) => some xs
  | some (.scr xs) => some xs
  | _ => none
/-- new data -/
theorem new_data {p : Addr} {o : HO} {Q : VK} {x : P} (G : Good g ι st H) (hp : H p = none) (q : ∀ v H' ι', Good g ι' st H' → Ext g H ι H' ι' → RD g (Fz H' (g.x ι')) ι' v (.p x) → Q v H')
    (s : strip o = some o) (r : ∀ F', Sub (Fz H (g.x ι)) F' → F' p = some o → Rp g F' (.ref p) x) : Q (.ref p) (upd H p o) := by
  obtain ⟨G', x'⟩ := good_new (o := o) G hp
  exact q _ _ ι G' x' (.p (r _ x'.keep (fz_new G hp s)))
theorem or_add (k : CxK X g) : OpR X (binaryOp .Add) (rSem g oAdd) := by
  rintro pins s σ H x y v u Q I rx ry ⟨ex, ι, st, dx, dy, G, r1, r2, d, st', e, q⟩
  have kk : X.K = (g.wx ex).K := k.K
  unfold oAdd at e
  split at e
  · cases e
    obtain rfl := r1.intI
    obtain rfl := r2.intI
    exact op_add pins s σ H _ _ v u Q I rx ry ⟨_, _, rfl, rfl, q _ H ι G (.refl _ _) (.p (.int _))⟩
  · split at e
    · rename_i h1 h2
      split at e
      · cases e
        obtain rfl := see_str G r1 h1
        obtain rfl := see_str G r2 h2
        exact op_add_str pins s σ H _ _ v u Q I rx ry ⟨_, _, rfl, rfl, Nat.le_trans ‹_› szLine_le, q _ H ι G (.refl _ _) (.p (.str _))⟩
      · cases e
    · rename_i h1 h2
      split at e
      · rename_i hl
        cases e
        obtain ⟨a, vs, rfl, ha, qa⟩ := see_tup G r1 h1
        obtain ⟨b, ws, rfl, hb, qb⟩ := see_tup G r2 h2
        refine op_catA pins s σ H _ _ v u Q I rx ry ⟨_, _, vs, ws, rfl, rfl, kk ▸ sqT_of_fz ha, kk ▸ sqT_of_fz hb, Nat.le_trans (by rw [qa.length, qb.length]; exact hl) szLine_le, fun e => ?_, fun _ e => ?_, fun _ _ p hp => ?_⟩
        · subst e; cases qa; exact q _ H ι G (.refl _ _) (.p (.tup hb qb))
        · subst e; cases qb; exact q _ H ι G (.refl _ _) (.p (.tup ha (by rw [List.append_nil]; exact qa)))
        · exact new_data G hp q rfl fun F' s' e => .tup (.inl (.inl e)) ((Rps.sub s' qa).app (Rps.sub s' qb))
      · cases e
    · rename_i h1 h2
      split at e
      · rename_i hl
        cases e
        obtain ⟨a, vs, rfl, ha, qa⟩ := see_lst G r1 h1
        obtain ⟨b, ws, rfl, hb, qb⟩ := see_lst G r2 h2
        refine op_cat pins s σ H _ _ v u Q I rx ry ⟨_, _, vs, ws, rfl, rfl, ha, hb, Nat.le_trans (by rw [qa.length, qb.length]; exact hl) szLine_le, fun p hp => ?_⟩
        exact new_data G hp q rfl fun F' s' e => .lst e ((Rps.sub s' qa).app (Rps.sub s' qb))
      · cases e
    · cases e
theorem or_sub : OpR X (binaryOp .Sub) (rSem g oSub) := by
  rintro pins s σ H x y v u Q I rx ry ⟨ex, ι, st, dx, dy, G, r1, r2, d, st', e, q⟩
  unfold oSub at e
  split at e
  · cases e
    obtain rfl := r1.intI
    obtain rfl := r2.intI
    exact op_sub pins s σ H _ _ v u Q I rx ry ⟨_, _, rfl, rfl, q _ H ι G (.refl _ _) (.p (.int _))⟩
  · cases e
theorem or_mul (k : CxK X g) : OpR X (binaryOp .Mult) (rSem g oMul) := by
  rintro pins s σ H x y v u Q I rx ry ⟨ex, ι, st, dx, dy, G, r1, r2, d, st', e, q⟩
  have kk : X.K = (g.wx ex).K := k.K
  unfold oMul at e
  split at e
  · split at e
    · cases e
      obtain rfl := r1.intI
      obtain rfl := r2.intI
      exact op_mul pins s σ H _ _ v u Q I rx ry ⟨_, _, rfl, rfl, cmul ‹_›, q _ H ι G (.refl _ _) (.p (.int _))⟩
    · cases e
  · obtain rfl := r2.intI
    split at e
    · rename_i h1
      split at e
      · rename_i hl
        cases e
        obtain ⟨a, vs, rfl, ha, qa⟩ := see_lst G r1 h1
        refine op_rep pins s σ H _ _ v u Q I rx ry ⟨_, _, vs, rfl, rfl, ha, by omega, by omega, Nat.le_trans (by rw [qa.length]; exact hl.2.2) szLine_le, fun p hp => ?_⟩
        exact new_data G hp q rfl fun F' s' e => .lst e (Rps.rep (Rps.sub s' qa) _)
      · cases e
    · rename_i h1
      split at e
      · rename_i hl
        cases e
        obtain ⟨a, vs, rfl, ha, qa⟩ := see_tup G r1 h1
        refine op_repT pins s σ H _ _ v u Q I rx ry ⟨_, _, vs, rfl, rfl, kk ▸ sqT_of_fz ha, fun z => ?_, hl.1, hl.2.1, by rw [qa.length]; exact hl.2.2.1, fun p hp => ?_⟩
        · subst z; cases qa; exact hl.2.2.2 rfl
        · exact new_data G hp q rfl fun F' s' e => .tup (.inl (.inl e)) (Rps.rep (Rps.sub s' qa) _)
      · cases e
    · cases e
  · cases e
theorem or_div : OpR X (binaryOp .FloorDiv) (rSem g oDiv) := by
  rintro pins s σ H x y v u Q I rx ry ⟨ex, ι, st, dx, dy, G, r1, r2, d, st', e, q⟩
  unfold oDiv at e
  split at e
  · split at e
    · cases e
      obtain rfl := r1.intI
      obtain rfl := r2.intI
      exact op_fdivW pins s σ H _ _ v u Q I rx ry ⟨_, _, rfl, rfl, ‹_›, q _ H ι G (.refl _ _) (.p (.int _))⟩
    · cases e
  · cases e
theorem or_mod : OpR X (binaryOp .Mod) (rSem g oMod) := by
  rintro pins s σ H x y v u Q I rx ry ⟨ex, ι, st, dx, dy, G, r1, r2, d, st', e, q⟩
  unfold oMod at e
  split at e
  · split at e
    · cases e
      obtain rfl := r1.intI
      obtain rfl := r2.intI
      exact op_mod pins s σ H _ _ v u Q I rx ry ⟨_, _, rfl, rfl, ‹_›, q _ H ι G (.refl _ _) (.p (.int _))⟩
    · cases e
  · cases e
theorem or_pow : OpR X (binaryOp .Pow) (rSem g oPow) := by
  rintro pins s σ H x y v u Q I rx ry ⟨ex, ι, st, dx, dy, G, r1, r2, d, st', e, q⟩
  unfold oPow at e
  split at e
  · split at e
    · rename_i h
      cases e
      obtain rfl := r1.intI
      obtain rfl := r2.intI
      refine op_pow pins s σ H _ _ v u Q I rx ry ⟨_, _, rfl, rfl, ⟨h.1, h.2.1, ?_⟩, q _ H ι G (.refl _ _) (.p (.int _))⟩
      have h := h.2.2
      unfold smallI at h
      rw [Bool.and_eq_true, decide_eq_true_eq, decide_eq_true_eq] at h
      omega
    · cases e
  · cases e
theorem dp_of {v : V} {d : D} {x : P} (G : Good g ι st H) (r : RD g (Fz H (g.x ι)) ι v d) (e : see st d = some x) (s : SeqAt.shaped x.toD = true) : Dp g.K H v x.toD := (r.see G e).dp (SeqAt.canLay_of_shaped s)
theorem pEq_spec {x y : P} {b : Bool} (h : pEq x y = some b) : SeqAt.shaped x.toD = true ∧ SeqAt.shaped y.toD = true ∧ PyData.eqv x.toD y.toD = b := by
  unfold pEq at h
  split at h
  · cases h
    refine ⟨rfl, rfl, ?_⟩
    simp only [P.toD, PyData.eqv]
    rfl
  · split at h
    · rename_i z; cases h; exact ⟨z.1, z.2, rfl⟩
    · cases h
theorem or_eq (k : CxK X g) : OpR X (compareOp .Eq) (rSem g (oEq false)) := by
  rintro pins s σ H x y v u Q I rx ry ⟨ex, ι, st, dx, dy, G, r1, r2, d, st', e, q⟩
  have kk : X.K = (g.wx ex).K := k.K
  unfold oEq at e
  split at e
  · split at e
    · rename_i h3
      obtain ⟨z1, z2, z3⟩ := pEq_spec h3
      cases e
      have hu := k.u
      exact op_eqD (by omega) pins s σ H _ _ v u Q I rx ry ⟨_, _, kk ▸ dp_of G r1 ‹_› z1, kk ▸ dp_of G r2 ‹_› z2, z1, z2, by rw [z3]; exact q _ H ι G (.refl _ _) (.p (.bl _))⟩
    · cases e
  · cases e
theorem or_ne (k : CxK X g) : OpR X (compareOp .NotEq) (rSem g (oEq true)) := by
  rintro pins s σ H x y v u Q I rx ry ⟨ex, ι, st, dx, dy, G, r1, r2, d, st', e, q⟩
  have kk : X.K = (g.wx ex).K := k.K
  unfold oEq at e
  split at e
  · split at e
    · rename_i h3
      obtain ⟨z1, z2, z3⟩ := pEq_spec h3
      cases e
      have hu := k.u
      exact op_neD (by omega) pins s σ H _ _ v u Q I rx ry ⟨_, _, kk ▸ dp_of G r1 ‹_› z1, kk ▸ dp_of G r2 ‹_› z2, z1, z2, by rw [z3]; exact q _ H ι G (.refl _ _) (.p (.bl _))⟩
    · cases e
  · cases e
theorem or_is : OpR X (compareOp .Is) (rSem g (oIs false)) := by
  rintro pins s σ H x y v u Q I rx ry ⟨ex, ι, st, dx, dy, G, r1, r2, d, st', e, q⟩
  unfold oIs at e
  split at e
  · have hy : y = .non := by cases r2 with | p r => cases r; rfl
    refine op_isN pins s σ H _ _ v u Q I rx ry ⟨hy, ?_⟩
    split at e
    · cases e
      have hx : x = .non := by cases r1 with | p r => cases r; rfl
      rw [hx]
      exact q _ H ι G (.refl _ _) (.p (.bl true))
    · rename_i no
      cases e
      have hx : decide (x = .non) = false := decide_eq_false fun z => by
        subst z
        cases r1 with
        | p r => cases r; exact no rfl
      rw [hx]
      exact q _ H ι G (.refl _ _) (.p (.bl false))
  · cases e
theorem or_isnot : OpR X (compareOp .IsNot) (rSem g (oIs true)) := by
  rintro pins s σ H x y v u Q I rx ry ⟨ex, ι, st, dx, dy, G, r1, r2, d, st', e, q⟩
  unfold oIs at e
  split at e
  · have hy : y = .non := by cases r2 with | p r => cases r; rfl
    refine op_notN pins s σ H _ _ v u Q I rx ry ⟨hy, ?_⟩
    split at e
    · cases e
      have hx : x = .non := by cases r1 with | p r => cases r; rfl
      rw [hx]
      exact q _ H ι G (.refl _ _) (.p (.bl false))
    · rename_i no
      cases e
      have hx : decide (x = .non) = false := decide_eq_false fun z => by
        subst z
        cases r1 with
        | p r => cases r; exact no rfl
      rw [hx]
      exact q _ H ι G (.refl _ _) (.p (.bl true))
  · cases e
theorem ord_case {o : OK} {x y : V} {dx dy d : D} {st st' : Store} (G : Good g ι st H) (r1 : RD g (Fz H (g.x ι)) ι x dx) (r2 : RD g (Fz H (g.x ι)) ι y dy) (e : oOrd o dx dy st = .ok d st') :
    st' = st ∧ ∃ b, d = .p (.bl b) ∧ ((∃ i j, x = .int i ∧ y = .int j ∧ b = ordI o i j) ∨ ∃ da db, Dp g.K H x da ∧ Dp g.K H y db ∧ PySem.W.alike da db = true ∧ da ≠ .none ∧ da.depth ≤ 64 ∧ b = ordD o da db) := by
  unfold oOrd at e
  split at e
  · cases e
    exact ⟨rfl, _, rfl, .inl ⟨_, _, r1.intI, r2.intI, rfl⟩⟩
  · split at e
    · split at e
      · rename_i h1 h2 z
        cases e
        refine ⟨rfl, _, rfl, .inr ⟨_, _, dp_of G r1 h1 z.1, dp_of G r2 h2 z.2.1, z.2.2.1, fun w => ?_, SeqAt.depth_of_shaped z.1, rfl⟩⟩
        have z4 := z.2.2.2
        rw [w] at z4; cases z4
      · cases e
    · cases e
theorem or_ord_of {op : CmpOp} {o : OK} (k : CxK X g)
    (h1 : OpR X (compareOp op) (rI0 fun i j => .bl (ordI o i j)))
    (h2 : ∀ {prog : Program} {w : World} {A : Around} {E : Value → Shared → Prop} {s : Shared} {a b : Value} {da db : PyData} {as bs : List Addr} {Q : Value → Shared → Prop}, Reads s.heap a da as → Reads s.heap b db bs → PySem.W.alike da db = true → da ≠ .none → A.units + min da.depth db.depth < cLine → Q (.bool (ordD o da db)) s → wpAny (model prog w) A (compareOp op a b) Q E s) :
    OpR X (compareOp op) (rSem g (oOrd o)) := by
  rintro pins s σ H x y v u Q I rx ry ⟨ex, ι, st, dx, dy, G, r1, r2, d, st', e, q⟩
  obtain ⟨rfl, b, rfl, z⟩ := ord_case G r1 r2 e
  have q := q _ H ι G (.refl _ _) (.p (.bl b))
  rcases z with ⟨i, j, rfl, rfl, rfl⟩ | ⟨da, db, d1, d2, al, nn, dep, rfl⟩
  · exact h1 pins s σ H _ _ v u Q I rx ry ⟨i, j, rfl, rfl, q⟩
  · have kk : X.K = (g.wx ex).K := k.K
    have hu := k.u
    obtain ⟨as, q1⟩ := Dp.reads I da x v (kk ▸ d1) rx
    obtain ⟨bs, q2⟩ := Dp.reads I db y u (kk ▸ d2) ry
    exact h2 q1 q2 al nn (by have := Nat.min_le_left da.depth db.depth; omega) ⟨.bl _, H, I, rfl, q⟩
theorem or_lt (k : CxK X g) : OpR X (compareOp .Lt) (rSem g (oOrd .lt)) := or_ord_of k op_lt PySem.W.lt_data
theorem or_le (k : CxK X g) : OpR X (compareOp .LtE) (rSem g (oOrd .le)) := or_ord_of k op_le PySem.W.le_data
theorem or_gt (k : CxK X g) : OpR X (compareOp .Gt) (rSem g (oOrd .gt)) := or_ord_of k op_gt PySem.W.gt_data
theorem or_ge (k : CxK X g) : OpR X (compareOp .GtE) (rSem g (oOrd .ge)) := or_ord_of k op_ge PySem.W.ge_data
end
end Iv
end

section
set_option Elab.async false
set_option linter.all false
set_option maxRecDepth 100000
set_option maxHeartbeats 4100000
namespace Iv
open PySem PySem.Spec PyProof.Rows L2 Gx

/-! ### displays -/
section
variable {X : Cx} {g : GL} {E : XK} {pos : Pos} {es : List Expr}
def vTup (fa : Ev (List D)) : Ev D := fun δ st => (fa δ st).bnd fun ds s => match pAll ds with
  | some xs => if xs.length ≤ szLine then .ok (.p (.tup xs)) s else .bad
  | none => .bad
def vLst (fa : Ev (List D)) : Ev D := fun δ st => (fa δ st).bnd fun ds s => match pAll ds with
  | some xs => if xs.length ≤ szLine then .ok (.p (.lst xs)) s else .bad
  | none => .bad
/-- a list that one means to write to -/
def vLstM (fa : Ev (List D)) : Ev D := fun δ st => (fa δ st).bnd fun ds s => if ds.length ≤ szLine then .ok (.ref s.length) (s ++ [.lst ds]) else .bad
theorem pAll_len : ∀ {ds : List D} {xs : List P}, pAll ds = some xs → ds.length = xs.length
  | [], _, e => by cases e; rfl
  | .p x :: ds, _, e => by
    simp only [pAll, Option.map_eq_some_iff] at e
    obtain ⟨ys, e1, rfl⟩ := e
    simp [pAll_len e1]
  | .ref _ :: _, _, e => by cases e
theorem se_tup {x1} {fa : Ev (List D)} (h : PA X es (SemA g E fa)) : PE X (.Tuple es x1 pos) (SemE g E (vTup fa)) := by
  refine pe_mono (pe_tup h) fun σ H Q ⟨ex, ι, st, δ, at_, h⟩ => ?_
  refine semA_bnd at_ ?_
  unfold vTup at h
  cases ea : fa δ st with
  | bad => rw [ea] at h; exact h
  | exc c s1 => rw [ea] at h; exact h
  | ok ds s1 =>
    rw [ea] at h
    intro vs H1 ι1 at1 x1 r1
    have h := Post.ext x1 h
    simp only [Res.bnd] at h
    cases ep : pAll ds with
    | none => rw [ep] at h; exact h.elim
    | some xs =>
      rw [ep] at h
      simp only [] at h
      split at h
      · have q := rps_of r1 ep
        refine ⟨Nat.le_trans (by rw [q.length]; assumption) szLine_le, fun p hp => ?_⟩
        exact new_data at1.good hp h rfl fun F' s' e => .tup (.inl (.inl e)) (Rps.sub s' q)
      · exact h.elim
theorem se_lst {fa : Ev (List D)} (h : PA X es (SemA g E fa)) : PE X (.List es pos) (SemE g E (vLst fa)) := by
  refine pe_mono (pe_lst h) fun σ H Q ⟨ex, ι, st, δ, at_, h⟩ => ?_
  refine semA_bnd at_ ?_
  unfold vLst at h
  cases ea : fa δ st with
  | bad => rw [ea] at h; exact h
  | exc c s1 => rw [ea] at h; exact h
  | ok ds s1 =>
    rw [ea] at h
    intro vs H1 ι1 at1 x1 r1
    have h := Post.ext x1 h
    simp only [Res.bnd] at h
    cases ep : pAll ds with
    | none => rw [ep] at h; exact h.elim
    | some xs =>
      rw [ep] at h
      simp only [] at h
      split at h
      · have q := rps_of r1 ep
        refine ⟨Nat.le_trans (by rw [q.length]; assumption) szLine_le, fun p hp => ?_⟩
        exact new_data at1.good hp h rfl fun F' s' e => .lst e (Rps.sub s' q)
      · exact h.elim
theorem Good.next {ι : List Addr} {st : Store} {H : Hp} {p : Addr} (G : Good g ι st H) : (ι ++ [p])[st.length]? = some p := by
  rw [← G.len]; simp
theorem se_lstM {fa : Ev (List D)} (h : PA X es (SemA g E fa)) : PE X (.List es pos) (SemE g E (vLstM fa)) := by
  refine pe_mono (pe_lst h) fun σ H Q ⟨ex, ι, st, δ, at_, h⟩ => ?_
  refine semA_bnd at_ ?_
  unfold vLstM at h
  cases ea : fa δ st with
  | bad => rw [ea] at h; exact h
  | exc c s1 => rw [ea] at h; exact h
  | ok ds s1 =>
    rw [ea] at h
    intro vs H1 ι1 at1 x1 r1
    have h := Post.ext x1 h
    simp only [Res.bnd] at h
    split at h
    · refine ⟨Nat.le_trans (by rw [Paired.length r1]; assumption) szLine_le, fun p hp => ?_⟩
      obtain ⟨G', x'⟩ := good_cell at1.good hp (.lst r1)
      exact h _ _ _ G' x' (.ref at1.good.next)
    · exact h.elim

/-! ### one-place operators -/
abbrev F1 := List D → Store → Res D
def NoX1 (f : F1) : Prop := ∀ ds st c s, f ds st ≠ .exc c s
def rCal (g : GL) (f : F1) : List V → Hp → VK → Prop := fun vs H Q => ∃ ex ι st ds, Good (g.wx ex) ι st H ∧ RDs (g.wx ex) (Fz H ((g.wx ex).x ι)) ι vs ds ∧ ∃ d st', f ds st = .ok d st' ∧ ∀ v H' ι', Good (g.wx ex) ι' st' H' → Ext (g.wx ex) H ι H' ι' → RD (g.wx ex) (Fz H' ((g.wx ex).x ι')) ι' v d → Q v H'
def vCal (f : F1) (fa : Ev (List D)) : Ev D := fun δ st => (fa δ st).bnd fun ds s => f ds s
theorem tCB_of {f : F1} {fa : Ev (List D)} (n : NoX1 f) : ∀ σ H Q, SemE g E (vCal f fa) σ H Q → tCB (rCal g f) (SemA g E fa) σ H Q := by
  rintro σ H Q ⟨ex, ι, st, δ, at_, h⟩
  refine semA_bnd at_ ?_
  unfold vCal at h
  cases ea : fa δ st with
  | bad => rw [ea] at h; exact h
  | exc c s1 => rw [ea] at h; exact h
  | ok ds s1 =>
    rw [ea] at h
    intro vs H1 ι1 at1 x1 r1
    have h := Post.ext x1 h
    simp only [Res.bnd] at h
    refine ⟨ex, ι1, s1, ds, at1.good, r1, ?_⟩
    cases e : f ds s1 with
    | bad => rw [e] at h; exact h.elim
    | exc c s => exact (n _ _ _ _ e).elim
    | ok d s => rw [e] at h; exact ⟨d, s, rfl, h⟩
theorem se_callB {id : String} {x : Str} {e : Expr} {p : Pos} {f : F1} {fa : Ev (List D)} (hc : CallR X (.builtin id) (rCal g f)) (n : NoX1 f) (hg : Gl X x) (hm : X.mg x = none) (hv : bootBuiltins x = some (.builtin id)) (ha : PA X (e :: es) (SemA g E fa)) (hn : x ≠ "__name__" := by decide) (hdb : (x == ("__debug__" : Str)) = false := by decide)
    (he : starEach (e :: es) X.env = (false, eval e X.env) :: starEach es X.env := by rfl) (hpl : (backTo pos (starEach es X.env)).any (·.1) = false := by rfl) : PE X (.Call (.Name x p) (e :: es) [] pos) (SemE g E (vCal f fa)) :=
  pe_mono (pe_callB hc hg hm hv ha hn hdb he hpl) (tCB_of n)
theorem se_callTy {T : String} {x : Str} {e : Expr} {p : Pos} {f : F1} {fa : Ev (List D)} (hc : CallR X (.type T) (rCal g f)) (n : NoX1 f) (hg : Gl X x) (hm : X.mg x = none) (hv : bootBuiltins x = some (.type T)) (ha : PA X (e :: es) (SemA g E fa)) (hn : x ≠ "__name__" := by decide) (hdb : (x == ("__debug__" : Str)) = false := by decide)
    (he : starEach (e :: es) X.env = (false, eval e X.env) :: starEach es X.env := by rfl) (hpl : (backTo pos (starEach es X.env)).any (·.1) = false := by rfl) : PE X (.Call (.Name x p) (e :: es) [] pos) (SemE g E (vCal f fa)) :=
  pe_mono (pe_callTy hc hg hm hv ha hn hdb he hpl) (tCB_of n)
def vU (f : D → Store → Res D) (fa : Ev D) : Ev D := fun δ st => (fa δ st).bnd fun x s1 => f x s1
def oNeg (x : D) (st : Store) : Res D := match x with
  | .p (.int i) => .ok (.p (.int (-i))) st
  | _ => .bad
theorem se_neg {e : Expr} {fa : Ev D} (ha : PE X e (SemE g E fa)) : PE X (.UnaryOp .USub e pos) (SemE g E (vU oNeg fa)) := by
  refine pe_mono (pe_un un_neg ha) fun σ H Q ⟨ex, ι, st, δ, at_, h⟩ => ?_
  refine semE_bnd at_ ?_
  unfold vU at h
  cases ea : fa δ st with
  | bad => rw [ea] at h; exact h
  | exc c s1 => rw [ea] at h; exact h
  | ok x s1 =>
    rw [ea] at h
    intro v H1 ι1 at1 x1 r1
    have h := Post.ext x1 h
    simp only [Res.bnd, oNeg] at h
    split at h
    · obtain rfl := r1.intI
      exact ⟨_, rfl, h _ H1 ι1 at1.good (.refl _ _) (.p (.int _))⟩
    · exact h.elim
end

/-! ### calls of built-ins -/
def isInt : P → Option Int
  | .int i => some i
  | _ => none
def allInt : List P → Option (List Int)
  | [] => some []
  | .int i :: xs => (allInt xs).map (i :: ·)
  | _ :: _ => none
def fLen : F1 := fun ds st => match ds with
  | [d] => match see st d with
    | some (.lst xs) => .ok (.p (.int xs.length)) st
    | some (.tup xs) => .ok (.p (.int xs.length)) st
    | some (.scr xs) => .ok (.p (.int xs.length)) st
    | some (.str x) => if x.length ≤ szLine then .ok (.p (.int x.length)) st else .bad
    | _ => match d with
      | .ref n => match st[n]? with
        | some (.lst ds) => .ok (.p (.int ds.length)) st
        | some (.dK ds) => .ok (.p (.int ds.length)) st
        | some (.dT ds) => .ok (.p (.int ds.length)) st
        | _ => .bad
      | _ => .bad
  | _ => .bad
def fAbs : F1 := fun ds st => match ds with
  | [.p (.int i)] => .ok (.p (.int (if i < 0 then -i else i))) st
  | _ => .bad
def fInt : F1 := fun ds st => match ds with
  | [.p (.int i)] => .ok (.p (.int i)) st
  | [.p (.bl k)] => .ok (.p (.int (if k = true then 1 else 0))) st
  | _ => .bad
/-- a list's or a tuple's items -/
def seqP : P → Option (List P)
  | .lst xs => some xs
  | .tup xs => some xs
  | .scr xs => some xs
  | _ => none
def fList : F1 := fun ds st => match ds with
  | [d] => match see st d with
    | some x => match seqP x with
      | some xs => .ok (.p (.lst xs)) st
      | none => .bad
    | none => .bad
  | _ => .bad
/-- a list that one means to write to -/
def fListM : F1 := fun ds st => match ds with
  | [d] => match see st d with
    | some x => match seqP x with
      | some xs => .ok (.ref st.length) (st ++ [.lst (xs.map .p)])
      | none => .bad
    | none => .bad
  | _ => .bad
def fTup : F1 := fun ds st => match ds with
  | [d] => match see st d with
    | some x => match seqP x with
      | some xs => .ok (.p (.tup xs)) st
      | none => .bad
    | none => .bad
  | _ => .bad
def fSum : F1 := fun ds st => match ds with
  | [d] => match see st d with
    | some (.lst xs) => match allInt xs with
      | some ns => .ok (.p (.int ns.sum)) st
      | none => .bad
    | _ => .bad
  | _ => .bad
/-- the first of the greatest (gt) or of the least -/
def bestP (gt : Bool) (x : P) (xs : List P) : P := xs.foldl (fun a y => if (if gt = true then PySem.W.dataLt a.toD y.toD else PySem.W.dataLt y.toD a.toD) = true then y else a) x
def alikeP (xs : List P) : Bool := xs.all fun x => SeqAt.shaped x.toD && !isNon x.toD && xs.all fun y => PySem.W.alike x.toD y.toD
def fBest (gt : Bool) : F1 := fun ds st => match ds with
  | [.p (.int i), .p (.int j)] => .ok (.p (.int (if gt = true then (if j > i then j else i) else (if j < i then j else i)))) st
  | [d] => match see st d with
    | some x => match seqP x with
      | some (y :: ys) => if alikeP (y :: ys) = true then .ok (.p (bestP gt y ys)) st else .bad
      | _ => .bad
    | none => .bad
  | _ => .bad
/-- xs.index(x) -/
def idxP (x : P) : List P → Nat → Option Nat
  | [], _ => none
  | y :: ys, n => if PyData.eqv y.toD x.toD = true then some n else idxP x ys (n + 1)
end Iv
end

section
set_option Elab.async false
set_option linter.all false
set_option maxRecDepth 100000
set_option maxHeartbeats 4100000
namespace Iv
open PySem PySem.Spec PyProof.Rows L2 Gx
section
variable {X : Cx} {g : GL} {ι : List Addr} {st : Store} {H F : Hp}
theorem nx_len : NoX1 fLen := by intro ds st c s e; unfold fLen at e; repeat' split at e
                                 all_goals cases e
theorem nx_abs : NoX1 fAbs := by intro ds st c s e; unfold fAbs at e; repeat' split at e
                                 all_goals cases e
theorem nx_int : NoX1 fInt := by intro ds st c s e; unfold fInt at e; repeat' split at e
                                 all_goals cases e
theorem nx_list : NoX1 fList := by intro ds st c s e; unfold fList at e; repeat' split at e
                                   all_goals cases e
theorem nx_listM : NoX1 fListM := by intro ds st c s e; unfold fListM at e; repeat' split at e
                                     all_goals cases e
theorem nx_tup : NoX1 fTup := by intro ds st c s e; unfold fTup at e; repeat' split at e
                                 all_goals cases e
theorem nx_sum : NoX1 fSum := by intro ds st c s e; unfold fSum at e; repeat' split at e
                                 all_goals cases e
theorem nx_best {b} : NoX1 (fBest b) := by intro ds st c s e; unfold fBest at e; repeat' split at e
                                           all_goals cases e
/-- a list or a tuple, seen -/
theorem see_seq (G : Good g ι st H) {v : V} {d : D} {x : P} {xs : List P} (r : RD g (Fz H (g.x ι)) ι v d) (e : see st d = some x) (e2 : seqP x = some xs) : ∃ a vs, v = .ref a ∧ Rps g (Fz H (g.x ι)) vs xs ∧ ((SqL g.K H a vs ∧ ((∃ ys, x = .lst ys) ∨ ∃ ys, x = .scr ys)) ∨ (SqT g.K (Fz H (g.x ι)) a vs ∧ x = .tup xs)) := by
  unfold seqP at e2
  split at e2
  · cases e2
    obtain ⟨a, vs, h1, h2, h3⟩ := see_lst G r e
    exact ⟨a, vs, h1, h3, .inl ⟨.inl (.inl h2), .inl ⟨_, rfl⟩⟩⟩
  · cases e2
    obtain ⟨a, vs, h1, h2, h3⟩ := see_tup G r e
    exact ⟨a, vs, h1, h3, .inr ⟨h2, rfl⟩⟩
  · cases e2
    obtain ⟨a, vs, h1, h2, h3⟩ := see_scr G r e
    exact ⟨a, vs, h1, h3, .inl ⟨h2, .inr ⟨_, rfl⟩⟩⟩
  · cases e2
theorem rds_one {vs : List V} {d : D} (r : RDs g F ι vs [d]) : ∃ v, vs = [v] ∧ RD g F ι v d := by
  cases r with
  | cons r t => cases t; exact ⟨_, rfl, r⟩
theorem rds_two {vs : List V} {d e : D} (r : RDs g F ι vs [d, e]) : ∃ v w, vs = [v, w] ∧ RD g F ι v d ∧ RD g F ι w e := by
  cases r with
  | cons r t => cases t with | cons r2 t => cases t; exact ⟨_, _, rfl, r, r2⟩
theorem rc_len (k : CxK X g) : CallR X (.builtin "len") (rCal g fLen) := by
  rintro pins s σ H vs us Q I rv ⟨ex, ι, st, ds, G, r, d, st', e, q⟩
  have kk : X.K = (g.wx ex).K := k.K
  unfold fLen at e
  split at e
  · obtain ⟨v, rfl, rd⟩ := rds_one r
    have seqC : ∀ {a : Addr} {ws : List V} {n : Nat}, v = .ref a → ws.length = n → (SqL g.K H a ws ∨ SqT g.K (Fz H ((g.wx ex).x ι)) a ws) → Res.ok (D.p (P.int n)) st = Res.ok d st' → wpAny (model X.prog X.w) X.A (call (.builtin "len") us) (EP X pins σ Q) X.xe s := by
      intro a ws n ev hn hs e
      cases e
      subst ev hn
      exact call_len_seq pins s σ H _ us Q I rv ⟨a, ws, rfl, hs.elim (fun z => .inl (kk ▸ z)) (fun z => .inr (kk ▸ sqT_of_fz z)), q _ H ι G (.refl _ _) (.p (.int _))⟩
    split at e
    · rename_i h1
      obtain ⟨a, ws, ev, h2, h3⟩ := see_lst G rd h1
      exact seqC ev h3.length (.inl (.inl (.inl h2))) e
    · rename_i h1
      obtain ⟨a, ws, ev, h2, h3⟩ := see_tup G rd h1
      exact seqC ev h3.length (.inr h2) e
    · rename_i h1
      obtain ⟨a, ws, ev, h2, h3⟩ := see_scr G rd h1
      exact seqC ev h3.length (.inl h2) e
    · rename_i h1
      split at e
      · cases e
        obtain rfl := see_str G rd h1
        exact call_len_str pins s σ H _ us Q I rv ⟨_, rfl, Nat.le_trans ‹_› szLine_le, q _ H ι G (.refl _ _) (.p (.int _))⟩
      · cases e
    · split at e
      · rename_i n _ _ _ _
        cases rd with
        | ref hn =>
          obtain ⟨c, u, h1, h2, rc⟩ := G.cell' hn
          rw [h1] at e
          cases rc with
          | lst z => exact seqC rfl (Paired.length z) (.inl (.inl (.inl h2))) e
          | dK z =>
            cases e
            refine call_lenD pins s σ H _ us Q I rv ⟨_, _, rfl, h2, ?_⟩
            rw [Paired.length z]
            exact q _ H ι G (.refl _ _) (.p (.int _))
          | dT z =>
            cases e
            refine call_len_dT pins s σ H _ us Q I rv ⟨_, _, rfl, h2, ?_⟩
            rw [Paired.length z]
            exact q _ H ι G (.refl _ _) (.p (.int _))
          | obj z => cases e
      · cases e
  · cases e
theorem rc_abs : CallR X (.builtin "abs") (rCal g fAbs) := by
  rintro pins s σ H vs us Q I rv ⟨ex, ι, st, ds, G, r, d, st', e, q⟩
  unfold fAbs at e
  split at e
  · cases e
    obtain ⟨v, rfl, rd⟩ := rds_one r
    obtain rfl := rd.intI
    exact call_abs pins s σ H _ us Q I rv ⟨_, rfl, q _ H ι G (.refl _ _) (.p (.int _))⟩
  · cases e
theorem rc_int : CallR X (.type "int") (rCal g fInt) := by
  rintro pins s σ H vs us Q I rv ⟨ex, ι, st, ds, G, r, d, st', e, q⟩
  unfold fInt at e
  split at e
  · cases e
    obtain ⟨v, rfl, rd⟩ := rds_one r
    obtain rfl := rd.intI
    exact call_int1 pins s σ H _ us Q I rv (.inl ⟨_, rfl, q _ H ι G (.refl _ _) (.p (.int _))⟩)
  · cases e
    obtain ⟨v, rfl, rd⟩ := rds_one r
    cases rd with
    | p r => cases r; exact call_int1 pins s σ H _ us Q I rv (.inr ⟨_, rfl, q _ H ι G (.refl _ _) (.p (.int _))⟩)
  · cases e
theorem rc_list (k : CxK X g) : CallR X (.type "list") (rCal g fList) := by
  rintro pins s σ H vs us Q I rv ⟨ex, ι, st, ds, G, r, d, st', e, q⟩
  have kk : X.K = (g.wx ex).K := k.K
  unfold fList at e
  split at e
  · obtain ⟨v, rfl, rd⟩ := rds_one r
    split at e
    · split at e
      · rename_i h1 _ _ h2
        obtain ⟨a, ws, rfl, h3, h4⟩ := see_seq G rd h1 h2
        cases e
        refine call_list_of pins s σ H _ us Q I rv ⟨a, ws, rfl, h4.elim (fun z => .inl (kk ▸ z.1)) (fun z => .inr (kk ▸ sqT_of_fz z.1)), fun p hp => ?_⟩
        exact new_data G hp q rfl fun F' s' e => .lst e (Rps.sub s' h3)
      · cases e
    · cases e
  · cases e
theorem rds_map {vs : List V} {xs : List P} (h : Rps g F vs xs) : RDs g F ι vs (xs.map .p) := by
  induction vs generalizing xs with
  | nil => cases h; exact .nil
  | cons v vs ih => cases h with | cons r t => exact .cons (.p r) (ih t)
theorem rc_listM (k : CxK X g) : CallR X (.type "list") (rCal g fListM) := by
  rintro pins s σ H vs us Q I rv ⟨ex, ι, st, ds, G, r, d, st', e, q⟩
  have kk : X.K = (g.wx ex).K := k.K
  unfold fListM at e
  split at e
  · obtain ⟨v, rfl, rd⟩ := rds_one r
    split at e
    · split at e
      · rename_i h1 _ _ h2
        obtain ⟨a, ws, rfl, h3, h4⟩ := see_seq G rd h1 h2
        cases e
        refine call_list_of pins s σ H _ us Q I rv ⟨a, ws, rfl, h4.elim (fun z => .inl (kk ▸ z.1)) (fun z => .inr (kk ▸ sqT_of_fz z.1)), fun p hp => ?_⟩
        obtain ⟨G', x'⟩ := good_cell G hp (.lst (rds_map h3))
        exact q _ _ _ G' x' (.ref G.next)
      · cases e
    · cases e
  · cases e
theorem rc_tup (k : CxK X g) : CallR X (.type "tuple") (rCal g fTup) := by
  rintro pins s σ H vs us Q I rv ⟨ex, ι, st, ds, G, r, d, st', e, q⟩
  have kk : X.K = (g.wx ex).K := k.K
  unfold fTup at e
  split at e
  · obtain ⟨v, rfl, rd⟩ := rds_one r
    split at e
    · split at e
      · rename_i h1 _ _ h2
        obtain ⟨a, ws, rfl, h3, h4⟩ := see_seq G rd h1 h2
        cases e
        refine call_tuple_of pins s σ H _ us Q I rv ⟨a, ws, rfl, h4.elim (fun z => .inl ⟨kk ▸ z.1, fun p hp => ?_⟩) (fun z => .inr ⟨kk ▸ sqT_of_fz z.1, ?_⟩)⟩
        · exact new_data G hp q rfl fun F' s' e => .tup (.inl (.inl e)) (Rps.sub s' h3)
        · exact q _ H ι G (.refl _ _) (.p (.tup z.1 h3))
      · cases e
    · cases e
  · cases e
theorem ints_of {vs : List V} {xs : List P} {ns : List Int} (h : Rps g F vs xs) (e : allInt xs = some ns) : vs = ns.map V.int := by
  induction vs generalizing xs ns with
  | nil => cases h; cases e; rfl
  | cons v vs ih =>
    cases h with
    | cons r t =>
      cases r with
      | int i =>
        simp only [allInt, Option.map_eq_some_iff] at e
        obtain ⟨ys, e1, rfl⟩ := e
        rw [List.map_cons, ← ih t e1]
      | _ => cases e
theorem rc_sum (hc : X.calm = true) (k : CxK X g) : CallR X (.builtin "sum") (rCal g fSum) := by
  rintro pins s σ H vs us Q I rv ⟨ex, ι, st, ds, G, r, d, st', e, q⟩
  have kk : X.K = (g.wx ex).K := k.K
  unfold fSum at e
  split at e
  · obtain ⟨v, rfl, rd⟩ := rds_one r
    split at e
    · rename_i h1
      split at e
      · rename_i h2
        obtain ⟨a, ws, rfl, h3, h4⟩ := see_lst G rd h1
        cases e
        refine cr_sum hc pins s σ H _ us Q I rv ⟨a, _, rfl, ints_of h4 h2 ▸ .inl (.inl h3), q _ H ι G (.refl _ _) (.p (.int _))⟩
      · cases e
    · cases e
  · cases e
theorem toDs_get (xs : List P) : ∀ i, (P.toDs xs).getD i .none = (xs.getD i .non).toD := by
  induction xs with
  | nil => intro i; rfl
  | cons x xs ih =>
    intro i
    cases i with
    | zero => rfl
    | succ i => simpa [P.toDs] using ih i
theorem toDs_eq (xs : List P) : P.toDs xs = xs.map P.toD := by
  induction xs with
  | nil => rfl
  | cons x xs ih => rw [P.toDs, ih]; rfl
theorem alike_spec {xs : List P} (h : alikeP xs = true) : PyData.canLayAll0 (P.toDs xs) = true ∧ PySem.W.AlikeAll (P.toDs xs) ∧ PyData.depthAll (P.toDs xs) ≤ 64 := by
  unfold alikeP at h
  rw [List.all_eq_true] at h
  have h1 : ∀ x ∈ xs, SeqAt.shaped x.toD = true ∧ isNon x.toD = false ∧ ∀ y ∈ xs, PySem.W.alike x.toD y.toD = true := fun x hx => by
    have := h x hx
    rw [Bool.and_eq_true, Bool.and_eq_true, List.all_eq_true] at this
    exact ⟨this.1.1, by simpa using this.1.2, this.2⟩
  refine ⟨?_, ⟨fun x hx y hy => ?_, fun x hx z => ?_⟩, ?_⟩
  · have : ∀ ys : List P, (∀ x ∈ ys, SeqAt.shaped x.toD = true) → PyData.canLayAll0 (P.toDs ys) = true := by
      intro ys
      induction ys with
      | nil => intro _; rfl
      | cons y ys ih =>
        intro hy
        simp only [P.toDs, PyData.canLayAll0, Bool.and_eq_true]
        exact ⟨SeqAt.canLay_of_shaped (hy y List.mem_cons_self), ih fun x hx => hy x (List.mem_cons_of_mem _ hx)⟩
    exact this xs fun x hx => (h1 x hx).1
  · rw [toDs_eq] at hx hy
    obtain ⟨a, ha, rfl⟩ := List.mem_map.mp hx
    obtain ⟨c, hc, rfl⟩ := List.mem_map.mp hy
    exact (h1 a ha).2.2 c hc
  · rw [toDs_eq] at hx
    obtain ⟨a, ha, rfl⟩ := List.mem_map.mp hx
    have := (h1 a ha).2.1
    rw [z] at this; cases this
  · have : ∀ ys : List P, (∀ x ∈ ys, SeqAt.shaped x.toD = true) → PyData.depthAll (P.toDs ys) ≤ 64 := by
      intro ys
      induction ys with
      | nil => intro _; exact Nat.zero_le _
      | cons y ys ih =>
        intro hy
        simp only [P.toDs, PyData.depthAll]
        have a := SeqAt.depth_of_shaped (hy y List.mem_cons_self)
        have b := ih fun x hx => hy x (List.mem_cons_of_mem _ hx)
        omega
    exact this xs fun x hx => (h1 x hx).1
theorem best_at (gt : Bool) (y : P) (ys : List P) (ds : List PyData) (e : ds = P.toDs (y :: ys)) :
    ∃ i, i = argBest (fun i j => if gt = true then PySem.W.dataLt (ds.getD j .none) (ds.getD i .none) else PySem.W.dataLt (ds.getD i .none) (ds.getD j .none)) ys.length ∧ (y :: ys)[i]? = some (bestP gt y ys) := by
  subst e
  refine ⟨_, rfl, ?_⟩
  obtain ⟨h1, h2⟩ := PySem.W.argBest_fold (fun a b : P => if gt = true then PySem.W.dataLt b.toD a.toD else PySem.W.dataLt a.toD b.toD) P.non y ys ys.length (Nat.le_refl _)
  rw [List.take_length] at h2
  have e : (fun i j => if gt = true then PySem.W.dataLt ((P.toDs (y :: ys)).getD j .none) ((P.toDs (y :: ys)).getD i .none) else PySem.W.dataLt ((P.toDs (y :: ys)).getD i .none) ((P.toDs (y :: ys)).getD j .none)) = fun i j => (fun a b : P => if gt = true then PySem.W.dataLt b.toD a.toD else PySem.W.dataLt a.toD b.toD) ((y :: ys).getD i P.non) ((y :: ys).getD j P.non) := by
    funext i j
    rw [toDs_get, toDs_get]
  rw [e]
  unfold bestP
  rw [← h2, List.getD_eq_getElem?_getD]
  generalize argBest _ ys.length = n at h1 ⊢
  have hn : n < (y :: ys).length := by rw [List.length_cons]; omega
  rw [List.getElem?_eq_getElem hn]
  rfl
/-- an item at a place, as it stands -/
theorem vals_at {vs : List V} {us : List Value} {i : Nat} {u : Value} (r : Vals vs us) (h : us[i]? = some u) : ∃ v, vs[i]? = some v ∧ RelV v u := by
  obtain ⟨v, h1, h2⟩ := pd_get' r h
  exact ⟨v, h1, h2⟩
theorem best_fin {pins : List (Addr × Obj)} {s : Shared} {σ : L2.St} {Q : VK} {its : List Value} {vs : List V} {y : P} {ys : List P} {gt : Bool} (I : Inv X pins σ H s) (rv : Vals vs its) (G : Good g ι st H) (h3 : Rps g (Fz H (g.x ι)) vs (y :: ys))
    (q : ∀ v H' ι', Good g ι' st H' → Ext g H ι H' ι' → RD g (Fz H' (g.x ι')) ι' v (.p (bestP gt y ys)) → Q v H') {h' : Heap} {tk : Nat} (hk : ∀ b o, s.heap.get? b = some o → h'.get? b = some o) {u : Value} {i : Nat} (hb : (y :: ys)[i]? = some (bestP gt y ys)) (hu : its.toArray[i]? = some u) :
    EP X pins σ Q u { s with heap := h', toks := tk } := by
  obtain ⟨v, h1, h2⟩ := vals_at rv (by simpa using hu)
  obtain ⟨x, h5, h6⟩ := h3.get h1
  rw [hb] at h5; cases h5
  exact ⟨v, H, I.kept hk, h2, q v H ι G (.refl _ _) (.p h6)⟩
theorem rc_max (hc : X.calm = true) (k : CxK X g) : CallR X (.builtin "max") (rCal g (fBest true)) := by
  rintro pins s σ H vs us Q I rv ⟨ex, ι, st, ds, G, r, d, st', e, q⟩
  have kk : X.K = (g.wx ex).K := k.K
  have hu := k.u
  unfold fBest at e
  split at e
  · cases e
    obtain ⟨v, w, rfl, r1, r2⟩ := rds_two r
    obtain rfl := r1.intI
    obtain rfl := r2.intI
    exact call_max2 hc pins s σ H _ us Q I rv ⟨_, _, rfl, q _ H ι G (.refl _ _) (.p (.int _))⟩
  · obtain ⟨v, rfl, rd⟩ := rds_one r
    split at e
    · split at e
      · rename_i h1 _ y ys h2
        split at e
        · rename_i hal
          obtain ⟨a, ws, rfl, h3, h4⟩ := see_seq G rd h1 h2
          cases e
          obtain ⟨c1, c2, c3⟩ := alike_spec hal
          have dp := Rps.dp h3 c1
          rw [Vals.ref1 rv]
          obtain ⟨i, ei, hb⟩ := best_at true y ys _ rfl
          rcases h4 with ⟨h4, _⟩ | ⟨h4, _⟩
          · obtain ⟨its, rv2, pl, hz⟩ := I.list (kk ▸ h4)
            obtain ⟨as, hr⟩ := Dp.readsAll I _ _ its (kk ▸ dp) rv2
            have hn : its.toArray.size = ys.length + 1 := by rw [List.size_toArray, ← rv2.length, h3.length]; rfl
            refine PySem.call_max_walkH (PySem.W.iter_listW (A := X.A.in1) (I.ok.hd hc) pl.isList fun s₂ e W st0 hfp hw hk => ?_)
            refine ⟨_, _, _, _, _, _, _, s.heap, _, rfl, W, st0, hfp, by omega, hw, hk, PySem.W.cmpIn_gt (A := X.A.in1) (vs := its.toArray) hr c2 (by show X.A.units + 1 + _ < _; omega), fun v s' hP m => ?_⟩
            obtain ⟨h', tk, rfl, hk'⟩ := PySem.W.moved_old e rfl m
            rw [show its.toArray.size - 1 = ys.length by omega] at hP
            exact best_fin I rv2 G h3 q hk' hb (by rw [ei]; exact hP)
          · obtain ⟨its, rv2, pl, hz⟩ := I.tuple (kk ▸ sqT_of_fz h4)
            obtain ⟨as, hr⟩ := Dp.readsAll I _ _ its (kk ▸ dp) rv2
            have hn : its.toArray.size = ys.length + 1 := by rw [List.size_toArray, ← rv2.length, h3.length]; rfl
            refine PySem.call_max_walkH (PySem.W.iter_tupleW (A := X.A.in1) (I.ok.hd hc) pl fun s₂ e W st0 hfp hw hk => ?_)
            refine ⟨_, _, _, _, _, _, _, s.heap, _, rfl, W, st0, hfp, by omega, hw, hk, PySem.W.cmpIn_gt (A := X.A.in1) (vs := its.toArray) hr c2 (by show X.A.units + 1 + _ < _; omega), fun v s' hP m => ?_⟩
            obtain ⟨h', tk, rfl, hk'⟩ := PySem.W.moved_old e rfl m
            rw [show its.toArray.size - 1 = ys.length by omega] at hP
            exact best_fin I rv2 G h3 q hk' hb (by rw [ei]; exact hP)
        · cases e
      · cases e
    · cases e
  · cases e
theorem rc_min (hc : X.calm = true) (k : CxK X g) : CallR X (.builtin "min") (rCal g (fBest false)) := by
  rintro pins s σ H vs us Q I rv ⟨ex, ι, st, ds, G, r, d, st', e, q⟩
  have kk : X.K = (g.wx ex).K := k.K
  have hu := k.u
  unfold fBest at e
  split at e
  · cases e
    obtain ⟨v, w, rfl, r1, r2⟩ := rds_two r
    obtain rfl := r1.intI
    obtain rfl := r2.intI
    exact call_min2 hc pins s σ H _ us Q I rv ⟨_, _, rfl, q _ H ι G (.refl _ _) (.p (.int _))⟩
  · obtain ⟨v, rfl, rd⟩ := rds_one r
    split at e
    · split at e
      · rename_i h1 _ y ys h2
        split at e
        · rename_i hal
          obtain ⟨a, ws, rfl, h3, h4⟩ := see_seq G rd h1 h2
          cases e
          obtain ⟨c1, c2, c3⟩ := alike_spec hal
          have dp := Rps.dp h3 c1
          rw [Vals.ref1 rv]
          obtain ⟨i, ei, hb⟩ := best_at false y ys _ rfl
          rcases h4 with ⟨h4, _⟩ | ⟨h4, _⟩
          · obtain ⟨its, rv2, pl, hz⟩ := I.list (kk ▸ h4)
            obtain ⟨as, hr⟩ := Dp.readsAll I _ _ its (kk ▸ dp) rv2
            have hn : its.toArray.size = ys.length + 1 := by rw [List.size_toArray, ← rv2.length, h3.length]; rfl
            refine PySem.call_min_walkH (PySem.W.iter_listW (A := X.A.in1) (I.ok.hd hc) pl.isList fun s₂ e W st0 hfp hw hk => ?_)
            refine ⟨_, _, _, _, _, _, _, s.heap, _, rfl, W, st0, hfp, by omega, hw, hk, PySem.W.cmpIn_lt (A := X.A.in1) (vs := its.toArray) hr c2 (by show X.A.units + 1 + _ < _; omega), fun v s' hP m => ?_⟩
            obtain ⟨h', tk, rfl, hk'⟩ := PySem.W.moved_old e rfl m
            rw [show its.toArray.size - 1 = ys.length by omega] at hP
            exact best_fin I rv2 G h3 q hk' hb (by rw [ei]; exact hP)
          · obtain ⟨its, rv2, pl, hz⟩ := I.tuple (kk ▸ sqT_of_fz h4)
            obtain ⟨as, hr⟩ := Dp.readsAll I _ _ its (kk ▸ dp) rv2
            have hn : its.toArray.size = ys.length + 1 := by rw [List.size_toArray, ← rv2.length, h3.length]; rfl
            refine PySem.call_min_walkH (PySem.W.iter_tupleW (A := X.A.in1) (I.ok.hd hc) pl fun s₂ e W st0 hfp hw hk => ?_)
            refine ⟨_, _, _, _, _, _, _, s.heap, _, rfl, W, st0, hfp, by omega, hw, hk, PySem.W.cmpIn_lt (A := X.A.in1) (vs := its.toArray) hr c2 (by show X.A.units + 1 + _ < _; omega), fun v s' hP m => ?_⟩
            obtain ⟨h', tk, rfl, hk'⟩ := PySem.W.moved_old e rfl m
            rw [show its.toArray.size - 1 = ys.length by omega] at hP
            exact best_fin I rv2 G h3 q hk' hb (by rw [ei]; exact hP)
        · cases e
      · cases e
    · cases e
  · cases e
end
end Iv
end

section
set_option Elab.async false
set_option linter.all false
set_option maxRecDepth 100000
set_option maxHeartbeats 4100000
namespace Iv
open PySem PySem.Spec PyProof.Rows L2 Gx

/-! ### subscripts, slices -/
def oIx (x y : D) (st : Store) : Res D := match y with
  | .p (.int i) => match x with
    | .ref n => match st[n]? with
      | some (.lst ds) => match atI ds i with
        | some d => .ok d st
        | none => .bad
      | _ => .bad
    | .p (.str z) => if z.length ≤ szLine then match atI z.cps.toList i with
        | some c => .ok (.p (.str ⟨#[c]⟩)) st
        | none => .bad
      else .bad
    | .p x => match seqP x with
      | some xs => match atI xs i with
        | some d => .ok (.p d) st
        | none => .bad
      | none => .bad
  | _ => .bad
def cutL {α : Type} (xs : List α) (lo hi : Option Int) : List α := (xs.drop (HT.sIx xs.length 0 lo)).take (HT.sIx xs.length xs.length hi - HT.sIx xs.length 0 lo)
def oSl (x : D) (lo hi : Option Int) (st : Store) : Res D := match see st x with
  | some (.lst xs) => .ok (.p (.lst (cutL xs lo hi))) st
  | some (.scr xs) => .ok (.p (.lst (cutL xs lo hi))) st
  | some (.tup xs) => .ok (.p (.tup (cutL xs lo hi))) st
  | some (.str z) => if z.length ≤ szLine then .ok (.p (.str (cutS z lo hi))) st else .bad
  | _ => .bad
def poN : Ev (Option Int) := fun _ st => .ok none st
def poS (f : Ev D) : Ev (Option Int) := fun δ st => (f δ st).bnd fun d s => match d with
  | .p (.int i) => .ok (some i) s
  | _ => .bad
def vSl (f : Ev D) (lo hi : Ev (Option Int)) : Ev D := fun δ st => (f δ st).bnd fun x s => (lo δ s).bnd fun l s2 => (hi δ s2).bnd fun h s3 => oSl x l h s3
def PostO (g : GL) (H : Hp) (ι : List Addr) (E : XK) (r : Res (Option Int)) (Q : Option Int → Hp → Prop) : Prop := match r with
  | .ok b st => ∀ H' ι', Good g ι' st H' → Ext g H ι H' ι' → Q b H'
  | .exc c st => PostX g H ι c st E
  | .bad => False
def SemO (g : GL) (E : XK) (f : Ev (Option Int)) : TO := fun σ H Q => ∃ ex ι st δ, At (g.wx ex) H ι st σ δ ∧ PostO (g.wx ex) H ι E (f δ st) Q
section
variable {X : Cx} {g : GL} {E : XK} {pos : Pos} {a b e : Expr} {ι : List Addr} {st : Store} {H F : Hp}
theorem noX_ix : NoX oIx := by intro x y st c s e; unfold oIx at e; repeat' split at e
                               all_goals cases e
theorem atI_rps {vs : List V} {xs : List P} {i : Int} {x : P} (h : Rps g F vs xs) (e : atI xs i = some x) : ∃ v, atI vs i = some v ∧ Rp g F v x := by
  unfold atI at e ⊢
  rw [h.length]
  cases q : ixN xs.length i with
  | none => rw [q] at e; exact nomatch e
  | some j => rw [q] at e; exact h.get' e
theorem atI_rds {vs : List V} {xs : List D} {i : Int} {x : D} (h : RDs g F ι vs xs) (e : atI xs i = some x) : ∃ v, atI vs i = some v ∧ RD g F ι v x := by
  unfold atI at e ⊢
  rw [Paired.length h]
  cases q : ixN xs.length i with
  | none => rw [q] at e; exact nomatch e
  | some j => rw [q] at e; exact pd_get' h e
theorem xr_ix (k : CxK X g) : IxR X (rSem g oIx) := by
  rintro value slice pins s σ H x y v u Q I rx ry ⟨ex, ι, st, dx, dy, G, r1, r2, d, st', e, q⟩ hs
  have kk : X.K = (g.wx ex).K := k.K
  unfold oIx at e
  split at e
  · obtain rfl := r2.intI
    split at e
    · split at e
      · rename_i h1
        split at e
        · rename_i h2
          cases e
          cases r1 with
          | ref hn =>
            obtain ⟨c, w, h3, h4, rc⟩ := G.cell' hn
            rw [h1] at h3; cases h3
            cases rc with
            | lst z =>
              obtain ⟨v', h5, h6⟩ := atI_rds z h2
              exact ix_list value slice pins s σ H _ _ v u Q I rx ry ⟨_, _, _, v', rfl, rfl, .inl (.inl h4), h5, q _ H ι G (.refl _ _) h6⟩ hs
        · cases e
      · cases e
    · split at e
      · split at e
        · rename_i h2
          cases e
          cases r1 with
          | p r1 =>
            cases r1
            exact ix_str value slice pins s σ H _ _ v u Q I rx ry ⟨_, _, _, rfl, rfl, Nat.le_trans ‹_› szLine_le, h2, q _ H ι G (.refl _ _) (.p (.str _))⟩ hs
        · cases e
      · cases e
    · split at e
      · rename_i h1
        split at e
        · rename_i h2
          cases e
          obtain ⟨a, ws, rfl, h3, h4⟩ := see_seq G r1 rfl h1
          obtain ⟨v', h5, h6⟩ := atI_rps h3 h2
          rcases h4 with ⟨h4, _⟩ | ⟨h4, _⟩
          · exact ix_list value slice pins s σ H _ _ v u Q I rx ry ⟨_, _, _, v', rfl, rfl, kk ▸ h4, h5, q _ H ι G (.refl _ _) (.p h6)⟩ hs
          · exact ix_tup value slice pins s σ H _ _ v u Q I rx ry ⟨_, _, _, v', rfl, rfl, kk ▸ sqT_of_fz h4, h5, q _ H ι G (.refl _ _) (.p h6)⟩ hs
        · cases e
      · cases e
  · cases e
theorem se_ix {fa fb : Ev D} (k : CxK X g) (ha : PE X a (SemE g E fa)) (hb : PE X b (SemE g E fb)) (hs : PlainIx b) : PE X (.Subscript a b pos) (SemE g E (v2 oIx fa fb)) :=
  pe_mono (pe_ix (xr_ix k) ha hb hs) (tOp_of (opSem_of noX_ix))
theorem cut_rps {vs : List V} {xs : List P} (lo hi : Option Int) (h : Rps g F vs xs) : Rps g F (cutV vs lo hi) (cutL xs lo hi) := by
  unfold cutV cutL
  rw [h.length]
  exact (h.drop _).take _
theorem cut_whole {xs : List P} {lo hi : Option Int} (h : HT.sIx xs.length 0 lo = 0 ∧ HT.sIx xs.length xs.length hi = xs.length) : cutL xs lo hi = xs := by
  unfold cutL
  rw [h.1, h.2]
  simp
def rSl3 (g : GL) : V → Option Int → Option Int → Hp → VK → Prop := fun x lo hi H Q => ∃ ex ι st dx, Good (g.wx ex) ι st H ∧ RD (g.wx ex) (Fz H ((g.wx ex).x ι)) ι x dx ∧ ∃ d st', oSl dx lo hi st = .ok d st' ∧ ∀ v H' ι', Good (g.wx ex) ι' st' H' → Ext (g.wx ex) H ι H' ι' → RD (g.wx ex) (Fz H' ((g.wx ex).x ι')) ι' v d → Q v H'
theorem xr_sl (k : CxK X g) : SlR X (rSl3 g) := by
  rintro pins s σ H x v vl vu lo hi sl Q I rx hs pl pu ⟨ex, ι, st, dx, G, r1, d, st', e, q⟩
  have kk : X.K = (g.wx ex).K := k.K
  unfold oSl at e
  split at e
  · rename_i h1
    obtain ⟨a, ws, rfl, h3, h4⟩ := see_lst G r1 h1
    cases e
    exact sl_list pins s σ H _ v vl vu lo hi sl Q I rx hs pl pu ⟨a, ws, rfl, .inl (.inl h3), fun p hp => new_data G hp q rfl fun F' s' e => .lst e (cut_rps lo hi (Rps.sub s' h4))⟩
  · rename_i h1
    obtain ⟨a, ws, rfl, h3, h4⟩ := see_scr G r1 h1
    cases e
    exact sl_list pins s σ H _ v vl vu lo hi sl Q I rx hs pl pu ⟨a, ws, rfl, kk ▸ h3, fun p hp => new_data G hp q rfl fun F' s' e => .lst e (cut_rps lo hi (Rps.sub s' h4))⟩
  · rename_i h1
    obtain ⟨a, ws, rfl, h3, h4⟩ := see_tup G r1 h1
    cases e
    refine sl_tupA pins s σ H _ v vl vu lo hi sl Q I rx hs pl pu ⟨a, ws, rfl, kk ▸ sqT_of_fz h3, fun z => ?_, fun _ p hp => new_data G hp q rfl fun F' s' e => .tup (.inl (.inl e)) (cut_rps lo hi (Rps.sub s' h4))⟩
    rw [h4.length] at z
    rw [cut_whole z] at q
    exact q _ H ι G (.refl _ _) (.p (.tup h3 h4))
  · rename_i h1
    split at e
    · cases e
      obtain rfl := see_str G r1 h1
      exact sl_str pins s σ H _ v vl vu lo hi sl Q I rx hs pl pu ⟨_, rfl, Nat.le_trans ‹_› szLine_le, q _ H ι G (.refl _ _) (.p (.str _))⟩
    · cases e
  · cases e
theorem po_mono {o : Option Expr} {t t' : TO} (h : PO X o t) (k : ∀ σ H Q, t' σ H Q → t σ H Q) : PO X o t' := ⟨fun pins s σ H Q I q => h.run pins s σ H Q I (k σ H Q q)⟩
theorem so_none : PO X none (SemO g E poN) := po_mono po_none fun σ H Q ⟨ex, ι, st, δ, at_, h⟩ => h H ι at_.good (.refl _ _)
theorem so_some {f : Ev D} (h : PE X e (SemE g E f)) : PO X (some e) (SemO g E (poS f)) := by
  refine po_mono (po_some h) fun σ H Q ⟨ex, ι, st, δ, at_, h⟩ => ?_
  refine semE_bnd at_ ?_
  unfold poS at h
  cases ea : f δ st with
  | bad => rw [ea] at h; exact h
  | exc c s1 => rw [ea] at h; exact h
  | ok x s1 =>
    rw [ea] at h
    intro v H1 ι1 at1 x1 r1
    simp only [Res.bnd] at h
    split at h
    · obtain rfl := r1.intI
      exact ⟨_, rfl, h H1 ι1 at1.good x1⟩
    · exact h.elim
theorem semO_bnd {ex : List Addr} {f : Ev (Option Int)} {σ : L2.St} {δ : Env} {Q : Option Int → Hp → Prop} (a : At (g.wx ex) H ι st σ δ)
    (h : match f δ st with
      | .ok d st1 => ∀ H1 ι1, At (g.wx ex) H1 ι1 st1 σ δ → Ext (g.wx ex) H ι H1 ι1 → Q d H1
      | .exc c st1 => PostX (g.wx ex) H ι c st1 E
      | .bad => False) : SemO g E f σ H Q := by
  refine ⟨ex, ι, st, δ, a, ?_⟩
  cases e : f δ st with
  | ok d st1 => rw [e] at h; exact fun H1 ι1 gd x => h H1 ι1 (a.ext x gd) x
  | exc c st1 => rw [e] at h; exact h
  | bad => rw [e] at h; exact h
theorem noX_sl {x lo hi st c s} : oSl x lo hi st ≠ .exc c s := by
  intro e; unfold oSl at e; repeat' split at e
  all_goals cases e
theorem se_sl {lo hi : Option Expr} {f : Ev D} {fl fh : Ev (Option Int)} {p2 : Pos} (k : CxK X g) (he : PE X e (SemE g E f)) (hl : PO X lo (SemO g E fl)) (hh : PO X hi (SemO g E fh)) : PE X (.Subscript e (.Slice lo hi none p2) pos) (SemE g E (vSl f fl fh)) := by
  refine pe_mono (pe_slice (xr_sl k) he hl hh) fun σ H Q ⟨ex, ι, st, δ, at_, h⟩ => ?_
  refine semE_bnd at_ ?_
  unfold vSl at h
  cases ea : f δ st with
  | bad => rw [ea] at h; exact h
  | exc c s1 => rw [ea] at h; exact h
  | ok x s1 =>
    rw [ea] at h
    intro v H1 ι1 at1 x1 r1
    refine semO_bnd at1 ?_
    have h := Post.ext x1 h
    simp only [Res.bnd] at h
    cases eb : fl δ s1 with
    | bad => rw [eb] at h; exact h
    | exc c s2 => rw [eb] at h; exact h
    | ok l s2 =>
      rw [eb] at h
      intro H2 ι2 at2 x2
      refine semO_bnd at2 ?_
      have h := Post.ext x2 h
      simp only [] at h
      cases ec : fh δ s2 with
      | bad => rw [ec] at h; exact h
      | exc c s3 => rw [ec] at h; exact h
      | ok u s3 =>
        rw [ec] at h
        intro H3 ι3 at3 x3
        have h := Post.ext x3 h
        simp only [] at h
        refine ⟨ex, ι3, s3, x, at3.good, (r1.ext x2).ext x3, ?_⟩
        cases ez : oSl x l u s3 with
        | bad => rw [ez] at h; exact h.elim
        | exc c s => exact (noX_sl ez).elim
        | ok d s => rw [ez] at h; exact ⟨d, s, rfl, h⟩

/-! ### methods of built-in types -/
abbrev FM := D → List D → Store → Res D
def isList (d : D) (st : Store) : Bool := match d with
  | .ref n => match st[n]? with
    | some (.lst _) => true
    | _ => false
  | .p (.lst _) => true
  | .p (.scr _) => true
  | _ => false
def isStr (d : D) (_ : Store) : Bool := match d with
  | .p (.str _) => true
  | _ => false
def isDict (d : D) (st : Store) : Bool := match d with
  | .ref n => match st[n]? with
    | some (.dK _) => true
    | some (.dT _) => true
    | _ => false
  | _ => false
def vMet (ty : D → Store → Bool) (f : FM) (fo : Ev D) (fa : Ev (List D)) : Ev D := fun δ st => (fo δ st).bnd fun o s => if ty o s = true then (fa δ s).bnd fun ds s2 => f o ds s2 else .bad
def rMet (g : GL) (f : FM) : V → List V → Hp → VK → Prop := fun x vs H Q => ∃ ex ι st dx ds, Good (g.wx ex) ι st H ∧ RD (g.wx ex) (Fz H ((g.wx ex).x ι)) ι x dx ∧ RDs (g.wx ex) (Fz H ((g.wx ex).x ι)) ι vs ds ∧ ∃ d st', f dx ds st = .ok d st' ∧ ∀ v H' ι', Good (g.wx ex) ι' st' H' → Ext (g.wx ex) H ι H' ι' → RD (g.wx ex) (Fz H' ((g.wx ex).x ι')) ι' v d → Q v H'
def NoXM (f : FM) : Prop := ∀ o ds st c s, f o ds st ≠ .exc c s
/-- ty tells the type T -/
def TyOk (g : GL) (T : String) (ty : D → Store → Bool) : Prop := ∀ {ex : List Addr} {ι : List Addr} {st : Store} {H : Hp} {v : V} {d : D}, Good (g.wx ex) ι st H → RD (g.wx ex) (Fz H ((g.wx ex).x ι)) ι v d → ty d st = true → tyV g.K T v H
theorem ty_list : TyOk g "list" isList := by
  intro ex ι st H v d G r e
  unfold isList at e
  split at e
  · split at e
    · rename_i h1
      cases r with
      | ref hn =>
        obtain ⟨c, w, h3, h4, rc⟩ := G.cell' hn
        rw [h1] at h3; cases h3
        cases rc with
        | lst z => exact .inl ⟨rfl, _, .inl (.inl h4)⟩
    · cases e
  · cases r with
    | p r => cases r with | lst h _ => exact .inl ⟨rfl, _, .inl (.inl (Fz.lst h))⟩
  · cases r with
    | p r => cases r with | scr h _ => exact .inl ⟨rfl, _, sqL_of_fz h⟩
  · cases e
theorem ty_str : TyOk g "str" isStr := by
  intro ex ι st H v d G r e
  unfold isStr at e
  split at e
  · cases r with
    | p r => cases r; exact rfl
  · cases e
theorem ty_dict : TyOk g "dict" isDict := by
  intro ex ι st H v d G r e
  unfold isDict at e
  split at e
  · split at e
    · rename_i h1
      cases r with
      | ref hn =>
        obtain ⟨c, w, h3, h4, rc⟩ := G.cell' hn
        rw [h1] at h3; cases h3
        cases rc with
        | dK z => exact .inr (.inr (.inl ⟨rfl, .inl ⟨_, h4⟩⟩))
    · rename_i h1
      cases r with
      | ref hn =>
        obtain ⟨c, w, h3, h4, rc⟩ := G.cell' hn
        rw [h1] at h3; cases h3
        cases rc with
        | dT z => exact .inr (.inr (.inl ⟨rfl, .inr ⟨_, h4⟩⟩))
    · cases e
  · cases e
theorem tBM_of {T : String} {ty : D → Store → Bool} {f : FM} {fo : Ev D} {fa : Ev (List D)} (ht : TyOk g T ty) (n : NoXM f) : ∀ σ H Q, SemE g E (vMet ty f fo fa) σ H Q → tBM g.K T (rMet g f) (SemE g E fo) (SemA g E fa) σ H Q := by
  rintro σ H Q ⟨ex, ι, st, δ, at_, h⟩
  refine semE_bnd at_ ?_
  unfold vMet at h
  cases ea : fo δ st with
  | bad => rw [ea] at h; exact h
  | exc c s1 => rw [ea] at h; exact h
  | ok x s1 =>
    rw [ea] at h
    intro v H1 ι1 at1 x1 r1
    have h := Post.ext x1 h
    simp only [Res.bnd] at h
    split at h
    · rename_i hty
      refine ⟨ht at1.good r1 hty, semA_bnd at1 ?_⟩
      cases eb : fa δ s1 with
      | bad => rw [eb] at h; exact h
      | exc c s2 => rw [eb] at h; exact h
      | ok ds s2 =>
        rw [eb] at h
        intro vs H2 ι2 at2 x2 r2
        have h := Post.ext x2 h
        simp only [] at h
        refine ⟨ex, ι2, s2, x, ds, at2.good, r1.ext x2, r2, ?_⟩
        cases ez : f x ds s2 with
        | bad => rw [ez] at h; exact h.elim
        | exc c s => exact (n _ _ _ _ _ ez).elim
        | ok d s => rw [ez] at h; exact ⟨d, s, rfl, h⟩
    · exact h.elim
/-- a short list of plain arguments -/
abbrev FewArgs (X : Cx) (e : Expr) (es : List Expr) (cp : Pos) : Prop :=
  ((backTo cp (starEach (e :: es) X.env)).all (fun x => !x.1) && (backToKw cp (keywordEach [] X.env)).all (fun x => x.1.isSome) && decide ((e :: es).length + ([] : List Keyword).length + (if ([] : List Keyword).isEmpty then 0 else 1) < 30)) = true
theorem se_met {T id : String} {ty : D → Store → Bool} {f : FM} {fo : Ev D} {fa : Ev (List D)} {o : Expr} {es : List Expr} {name : Str} {apos cpos : Pos} (k : CxK X g) (pa : PlainAttrs T) (slot : Slot T name id) (hty : typeOf (.builtin id) = pure (.type "method_descriptor")) (hm : MtR X id (rMet g f)) (ht : TyOk g T ty) (n : NoXM f)
    (ho : PE X o (SemE g E fo)) (ha : PA X (e :: es) (SemA g E fa))
    (hb : attributeBase o name X.env (eval o X.env) = eval o X.env := by rfl)
    (few : FewArgs X e es cpos := by rfl) (line1 : (apos.endLine == cpos.line) = true := by rfl) (star1 : starEach (e :: es) X.env = (false, eval e X.env) :: starEach es X.env := by rfl) (plain1 : (backTo cpos (starEach es X.env)).any (·.1) = false := by rfl) :
    PE X (.Call (.Attribute o name apos) (e :: es) [] cpos) (SemE g E (vMet ty f fo fa)) := by
  have q := pe_bm pa slot hty hm ho ha hb few line1 star1 plain1
  rw [k.K] at q
  exact pe_mono q (tBM_of ht n)
def vMet0 (ty : D → Store → Bool) (f : FM) (fo : Ev D) : Ev D := fun δ st => (fo δ st).bnd fun o s => if ty o s = true then f o [] s else .bad
theorem tBM0_of {T : String} {ty : D → Store → Bool} {f : FM} {fo : Ev D} (ht : TyOk g T ty) (n : NoXM f) : ∀ σ H Q, SemE g E (vMet0 ty f fo) σ H Q → tBM0 g.K T (rMet g f) (SemE g E fo) σ H Q := by
  rintro σ H Q ⟨ex, ι, st, δ, at_, h⟩
  refine semE_bnd at_ ?_
  unfold vMet0 at h
  cases ea : fo δ st with
  | bad => rw [ea] at h; exact h
  | exc c s1 => rw [ea] at h; exact h
  | ok x s1 =>
    rw [ea] at h
    intro v H1 ι1 at1 x1 r1
    have h := Post.ext x1 h
    simp only [Res.bnd] at h
    split at h
    · rename_i hty
      refine ⟨ht at1.good r1 hty, ex, ι1, s1, x, [], at1.good, r1, .nil, ?_⟩
      cases ez : f x [] s1 with
      | bad => rw [ez] at h; exact h.elim
      | exc c s => exact (n _ _ _ _ _ ez).elim
      | ok d s => rw [ez] at h; exact ⟨d, s, rfl, h⟩
    · exact h.elim
theorem se_met0 {T id : String} {ty : D → Store → Bool} {f : FM} {fo : Ev D} {o : Expr} {name : Str} {apos cpos : Pos} (k : CxK X g) (pa : PlainAttrs T) (slot : Slot T name id) (hty : typeOf (.builtin id) = pure (.type "method_descriptor")) (hm : MtR X id (rMet g f)) (ht : TyOk g T ty) (n : NoXM f)
    (ho : PE X o (SemE g E fo)) (hbase : attributeBase o name X.env (eval o X.env) = eval o X.env := by rfl) (hline : (apos.endLine == cpos.line) = true := by rfl) :
    PE X (.Call (.Attribute o name apos) [] [] cpos) (SemE g E (vMet0 ty f fo)) := by
  have q := pe_bm0 pa slot hty hm ho hbase hline
  rw [k.K] at q
  exact pe_mono q (tBM0_of ht n)

/-- l.append(x) -/
def mApp : FM := fun o ds st => match o, ds with
  | .ref n, [d] => match st[n]? with
    | some (.lst xs) => if xs.length < szLine then .ok (.p .non) (st.set n (.lst (xs ++ [d]))) else .bad
    | _ => .bad
  | _, _ => .bad
theorem nm_app : NoXM mApp := by intro o ds st c s e; unfold mApp at e; repeat' split at e
                                 all_goals cases e
/-- a cell that holds a list -/
theorem lst_cell (G : Good g ι st H) {v : V} {n : Nat} {xs : List D} (r : RD g (Fz H (g.x ι)) ι v (.ref n)) (h : st[n]? = some (.lst xs)) : ∃ a vs, v = .ref a ∧ ι[n]? = some a ∧ H a = some (.lst vs) ∧ RDs g (Fz H (g.x ι)) ι vs xs := by
  cases r with
  | ref hn =>
    obtain ⟨c, w, h3, h4, rc⟩ := G.cell' hn
    rw [h] at h3; cases h3
    cases rc with
    | lst z => exact ⟨_, _, rfl, hn, h4, z⟩
/-- .. is written -/
theorem lst_write (G : Good g ι st H) {n : Nat} {a : Addr} {vs ws : List V} {ds : List D} (hn : ι[n]? = some a) (h : H a = some (.lst vs)) (r : RDs g (Fz H (g.x ι)) ι ws ds) : Good g ι (st.set n (.lst ds)) (upd H a (.lst ws)) ∧ Ext g H ι (upd H a (.lst ws)) ι :=
  good_write G hn (.lst r) (fun ps e => by rw [h] at e; cases e) (fun c P e => by rw [h] at e; cases e) fun c P e => by rw [h] at e; cases e
theorem rm_app : MtR X "list.append" (rMet g mApp) := by
  rintro pins s σ H x vs v us Q I rx rv ⟨ex, ι, st, dx, ds, G, r1, r2, d, st', e, q⟩
  unfold mApp at e
  split at e
  · split at e
    · rename_i h1
      split at e
      · rename_i hz
        cases e
        obtain ⟨a, ws, rfl, hn, hH, rr⟩ := lst_cell G r1 h1
        obtain ⟨w, rfl, rw'⟩ := rds_one r2
        obtain ⟨G', x'⟩ := lst_write G hn hH (pd_app rr (.cons rw' .nil))
        exact mt_append pins s σ H _ _ v us Q I rx rv ⟨a, ws, w, rfl, rfl, hH, Nat.lt_of_lt_of_le (by rw [Paired.length rr]; exact hz) szLine_le, q _ _ ι G' x' (.p .non)⟩
      · cases e
    · cases e
  · cases e
/-- l.index(x) -/
def mIdx : FM := fun o ds st => match ds with
  | [d] => match see st o, see st d with
    | some (.lst xs), some y => if SeqAt.shaped (P.lst xs).toD = true ∧ SeqAt.shaped y.toD = true then match idxP y xs 0 with
        | some i => .ok (.p (.int (i : Nat))) st
        | none => .bad
      else .bad
    | _, _ => .bad
  | _ => .bad
theorem nm_idx : NoXM mIdx := by intro o ds st c s e; unfold mIdx at e; repeat' split at e
                                 all_goals cases e
theorem idxP_spec {y : P} : ∀ {xs : List P} {n i : Nat}, idxP y xs n = some i → ∃ j z, i = n + j ∧ xs[j]? = some z ∧ PyData.eqv z.toD y.toD = true ∧ ∀ m z', m < j → xs[m]? = some z' → PyData.eqv z'.toD y.toD = false
  | [], _, _, e => by cases e
  | x :: xs, n, i, e => by
    unfold idxP at e
    split at e
    · rename_i h
      cases e
      exact ⟨0, x, by omega, rfl, h, fun m z' hm => absurd hm (Nat.not_lt_zero _)⟩
    · rename_i h
      obtain ⟨j, z, h1, h2, h3, h4⟩ := idxP_spec e
      refine ⟨j + 1, z, by omega, by simpa using h2, h3, fun m z' hm hz => ?_⟩
      cases m with
      | zero => simp at hz; subst hz; simpa using h
      | succ m => exact h4 m z' (by omega) (by simpa using hz)
theorem rm_idx (k : CxK X g) : MtR X "list.index" (rMet g mIdx) := by
  rintro pins s σ H x vs v us Q I rx rv ⟨ex, ι, st, dx, ds, G, r1, r2, d, st', e, q⟩
  have kk : X.K = (g.wx ex).K := k.K
  have hu := k.u
  unfold mIdx at e
  split at e
  · split at e
    · rename_i xs y h1 h2
      split at e
      · rename_i hz
        split at e
        · rename_i h3
          cases e
          obtain ⟨w, rfl, rw'⟩ := rds_one r2
          have d1 := dp_of G r1 h1 hz.1
          have d2 := dp_of G rw' h2 hz.2
          obtain ⟨a, ws, ev, _, _⟩ := see_lst G r1 h1
          obtain ⟨j, z, h4, h5, h6, h7⟩ := idxP_spec h3
          rw [Nat.zero_add] at h4
          subst h4 ev
          have d1' : Dp X.K H (V.ref a) (.list (P.toDs xs)) := by rw [kk]; simpa only [P.toD] using d1
          refine mt_indexD (by omega) pins s σ H _ _ v us Q I rx rv ⟨a, w, _, _, _, _, rfl, rfl, d1', kk ▸ d2, by simpa only [P.toD] using hz.1, hz.2, ?_, h6, ?_, q _ H ι G (.refl _ _) (.p (.int _))⟩
          · rw [toDs_eq, List.getElem?_map, h5]; rfl
          · intro m z' hm hz'
            rw [toDs_eq, List.getElem?_map, Option.map_eq_some_iff] at hz'
            obtain ⟨y', e1, rfl⟩ := hz'
            exact h7 m y' hm e1
        · cases e
      · cases e
    · cases e
  · cases e
end
end Iv
end

section
set_option Elab.async false
set_option linter.all false
set_option maxRecDepth 100000
set_option maxHeartbeats 4100000
namespace Iv
open PySem PySem.Spec PyProof.Rows L2 Gx

/-! ### targets -/
abbrev Gv := D → Env → Store → SR
abbrev Gvs := List D → Env → Store → SR
def PostG (g : GL) (H : Hp) (ι : List Addr) (E : XK) (r : SR) (Q : L2.St → Hp → Prop) : Prop := match r with
  | .nx δ st => ∀ σ H' ι', Good g ι' st H' → Ext g H ι H' ι' → RE g (Fz H' (g.x ι')) ι' σ δ → Q σ H'
  | .exc c st => PostX g H ι c st E
  | _ => False
def SemG (g : GL) (E : XK) (f : Gv) : TG := fun v σ H Q => ∃ ex ι st δ d, At (g.wx ex) H ι st σ δ ∧ RD (g.wx ex) (Fz H ((g.wx ex).x ι)) ι v d ∧ PostG (g.wx ex) H ι E (f d δ st) Q
def SemGs (g : GL) (E : XK) (f : Gvs) : TGs := fun vs σ H Q => ∃ ex ι st δ ds, At (g.wx ex) H ι st σ δ ∧ RDs (g.wx ex) (Fz H ((g.wx ex).x ι)) ι vs ds ∧ PostG (g.wx ex) H ι E (f ds δ st) Q
theorem PostG.ext {g : GL} {H H1 : Hp} {ι ι1 : List Addr} {r : SR} {E : XK} {Q : L2.St → Hp → Prop} (x : Ext g H ι H1 ι1) (h : PostG g H ι E r Q) : PostG g H1 ι1 E r Q := by
  cases r with
  | nx δ st => exact fun v H' ι' a b c => h v H' ι' a (x.trans b) c
  | exc c st => exact PostX.ext x h
  | _ => exact h.elim
def gvN (i : Nat) : Gv := fun d δ st => .nx (δ.set i (some d)) st
def gsN : Gvs := fun ds δ st => match ds with
  | [] => .nx δ st
  | _ => .bad
def gsC (f : Gv) (r : Gvs) : Gvs := fun ds δ st => match ds with
  | d :: ds => match f d δ st with
    | .nx δ1 st1 => r ds δ1 st1
    | .exc c s => .exc c s
    | _ => .bad
  | [] => .bad
def gvT (n : Nat) (f : Gvs) : Gv := fun d δ st => match see st d with
  | some (.tup xs) => if xs.length = n then f (xs.map .p) δ st else .bad
  | _ => .bad
/-- o[i] = v -/
def oSet (o i v : D) (st : Store) : Option Store := match o, i with
  | .ref n, .p (.int k) => match st[n]? with
    | some (.lst ds) => match ixN ds.length k with
      | some j => some (st.set n (.lst (ds.set j v)))
      | none => none
    | _ => none
  | _, _ => none
def gvS (fo fi : Ev D) : Gv := fun v δ st => match fo δ st with
  | .ok o s1 => match fi δ s1 with
    | .ok i s2 => match oSet o i v s2 with
      | some s3 => .nx δ s3
      | none => .bad
    | .exc c s => .exc c s
    | .bad => .bad
  | .exc c s => .exc c s
  | .bad => .bad
section
variable {X : Cx} {g : GL} {E : XK} {pos : Pos} {a b e : Expr} {ι : List Addr} {st : Store} {H F : Hp}
theorem pg_mono {t t' : TG} {tg : Expr} (h : PG X tg t) (k : ∀ v σ H Q, t' v σ H Q → t v σ H Q) : PG X tg t' := ⟨fun pins s σ H v u Q I r q => h.run pins s σ H v u Q I r (k v σ H Q q)⟩
theorem pgs_mono {t t' : TGs} {tg : List Expr} (h : PGs X tg t) (k : ∀ v σ H Q, t' v σ H Q → t v σ H Q) : PGs X tg t' := ⟨fun pins s σ H v u Q I r q => h.run pins s σ H v u Q I r (k v σ H Q q)⟩
theorem sg_name {i : Nat} {x : Str} (hN : X.N.Nodup) (hi : X.N[i]? = some x) (hx : Loc X.env.scope x) (hf : X.fn x = true ∨ X.env.scope.names.lookup x = some .local := by first | exact .inl rfl | exact .inr rfl | assumption) : PG X (.Name x pos) (SemG g E (gvN i)) :=
  pg_mono (pg_name hN hi hx hf) fun v σ H Q ⟨ex, ι, st, δ, d, at_, r, h⟩ => h _ H ι at_.good (.refl _ _) (at_.env.set i r)
theorem sgs_nil : PGs X [] (SemGs g E gsN) := pgs_mono pgs_nil fun v σ H Q ⟨ex, ι, st, δ, d, at_, r, h⟩ => by
  cases r with
  | nil => exact ⟨rfl, h _ H ι at_.good (.refl _ _) at_.env⟩
  | cons _ _ => exact h.elim
theorem sgs_cons {es : List Expr} {f : Gv} {r : Gvs} (h1 : PG X e (SemG g E f)) (h2 : PGs X es (SemGs g E r)) (hs : (assignEach (e :: es) X.env).map (·.2) = assign e X.env :: (assignEach es X.env).map (·.2) := by rfl) : PGs X (e :: es) (SemGs g E (gsC f r)) :=
  pgs_mono (pgs_cons h1 h2 hs) fun v σ H Q ⟨ex, ι, st, δ, d, at_, rd, h⟩ => by
    cases rd with
    | nil => exact h.elim
    | @cons v1 d1 vs1 ds1 r1 rr =>
      refine ⟨_, _, rfl, ex, ι, st, δ, d1, at_, r1, ?_⟩
      simp only [gsC] at h
      cases ef : f d1 δ st with
      | nx δ1 st1 =>
        rw [ef] at h
        intro σ1 H1 ι1 g1 x1 e1
        exact ⟨ex, ι1, st1, δ1, ds1, ⟨g1, e1⟩, RDs.sub x1.keep x1.le rr, PostG.ext x1 h⟩
      | exc c s => rw [ef] at h; exact h
      | _ => rw [ef] at h; exact h.elim
theorem sg_tup {es : List Expr} {k : Nat} {f : Gvs} {n : Nat} (kk : CxK X g) (hc : X.calm = true) (h : PGs X es (SemGs g E f)) (hn : (assignEach es X.env).length = n := by rfl) (hst : (assignEach es X.env).findIdx? (·.1) = none := by rfl) : PG X (.Tuple es k pos) (SemG g E (gvT n f)) :=
  pg_mono (pg_tup hc h hn hst) fun v σ H Q ⟨ex, ι, st, δ, d, at_, rd, h⟩ => by
    have hK : X.K = (g.wx ex).K := kk.K
    unfold gvT at h
    split at h
    · rename_i h1
      split at h
      · rename_i h2
        obtain ⟨a, ws, rfl, h3, h4⟩ := see_tup at_.good rd h1
        exact ⟨a, ws, rfl, hK ▸ sqT_of_fz h3, by rw [h4.length]; exact h2, ex, ι, st, δ, _, at_, rds_map h4, h⟩
      · exact h.elim
    · exact h.elim
/-- o[i] = v, by values -/
def rSet3 (g : GL) : TSet := fun o i v H Q => ∃ ex ι st do_ di dv, Good (g.wx ex) ι st H ∧ RD (g.wx ex) (Fz H ((g.wx ex).x ι)) ι o do_ ∧ RD (g.wx ex) (Fz H ((g.wx ex).x ι)) ι i di ∧ RD (g.wx ex) (Fz H ((g.wx ex).x ι)) ι v dv ∧ ∃ st', oSet do_ di dv st = some st' ∧ ∀ H', Good (g.wx ex) ι st' H' → Ext (g.wx ex) H ι H' ι → Q H'
theorem set_sem : PSet X (rSet3 g) := by
  rintro pins s σ H o i v ov iv u Q I ro ri rv ⟨ex, ι, st, do_, di, dv, G, r1, r2, r3, st', e, q⟩
  unfold oSet at e
  split at e
  · split at e
    · rename_i h1
      split at e
      · rename_i h2
        cases e
        obtain ⟨a, ws, rfl, hn, hH, rr⟩ := lst_cell G r1 h1
        obtain rfl := r2.intI
        obtain ⟨G', x'⟩ := lst_write G hn hH (pd_set _ rr r3)
        exact set_list pins s σ H _ _ v ov iv u Q I ro ri rv ⟨a, ws, _, _, rfl, rfl, hH, by rw [Paired.length rr]; exact h2, q _ G' x'⟩
      · cases e
    · cases e
  · cases e
theorem sg_sub {fo fi : Ev D} (ho : PE X a (SemE g E fo)) (hi : PE X b (SemE g E fi))
    (ha : ∀ v, assign (.Subscript a b pos) X.env v = (do
      let ov ← holding [v] (eval a X.env)
      let iv ← holding [v, ov] (eval b X.env)
      standAt pos; holding [v, ov, iv] (setItem ov iv v)
      release [v, ov, iv] []) := by intro _; rfl) : PG X (.Subscript a b pos) (SemG g E (gvS fo fi)) :=
  pg_mono (pg_sub ho hi (set_sem (g := g)) ha) fun v σ H Q ⟨ex, ι, st, δ, d, at_, rd, h⟩ => by
    refine semE_bnd at_ ?_
    unfold gvS at h
    cases ea : fo δ st with
    | bad => rw [ea] at h; exact h
    | exc c s1 => rw [ea] at h; exact h
    | ok o s1 =>
      rw [ea] at h
      intro vo H1 ι1 at1 x1 r1
      refine semE_bnd at1 ?_
      have h := PostG.ext x1 h
      simp only [] at h
      cases eb : fi δ s1 with
      | bad => rw [eb] at h; exact h
      | exc c s2 => rw [eb] at h; exact h
      | ok i s2 =>
        rw [eb] at h
        intro vi H2 ι2 at2 x2 r2
        have h := PostG.ext x2 h
        simp only [] at h
        refine ⟨ex, ι2, s2, o, i, d, at2.good, r1.ext x2, r2, (rd.ext x1).ext x2, ?_⟩
        cases es : oSet o i d s2 with
        | none => rw [es] at h; exact h.elim
        | some s3 =>
          rw [es] at h
          exact ⟨s3, rfl, fun H' G' x' => h σ H' ι2 G' x' (at2.env.ext x')⟩

/-! ### statements -/
def sNx : Sv := fun δ st => .nx δ st
def sSeq (f h : Sv) : Sv := fun δ st => match f δ st with
  | .nx δ1 s1 => h δ1 s1
  | r => r
def sIf (c : Ev Bool) (f h : Sv) : Sv := fun δ st => match c δ st with
  | .ok true s => f δ s
  | .ok false s => h δ s
  | .exc c s => .exc c s
  | .bad => .bad
def sRet (f : Ev D) : Sv := fun δ st => match f δ st with
  | .ok d s => .rt d s
  | .exc c s => .exc c s
  | .bad => .bad
def sRetN : Sv := fun _ st => .rt (.p .non) st
def sDo (f : Ev D) : Sv := fun δ st => match f δ st with
  | .ok _ s => .nx δ s
  | .exc c s => .exc c s
  | .bad => .bad
def sAsg (f : Ev D) (t : Gv) : Sv := fun δ st => match f δ st with
  | .ok d s => match t d δ s with
    | .nx δ1 s1 => .nx δ1 s1
    | .exc c s => .exc c s
    | _ => .bad
  | .exc c s => .exc c s
  | .bad => .bad
def sBrk : Sv := fun δ st => .bk δ st
def sCnt : Sv := fun δ st => .ct δ st
theorem ss_nil : PSs X [] (SemS g E sNx) := pss_mono pss_nil fun D σ H ⟨ex, ι, st, δ, at_, h⟩ => h σ H ι at_.good (.refl _ _) at_.env
theorem ss_pass : PS X (.Pass pos) (SemS g E sNx) := ps_mono ps_pass fun D σ H ⟨ex, ι, st, δ, at_, h⟩ => h σ H ι at_.good (.refl _ _) at_.env
theorem ss_brk : PS X (.Break pos) (SemS g E sBrk) := ps_mono ps_break fun D σ H ⟨ex, ι, st, δ, at_, h⟩ => h σ H ι at_.good (.refl _ _) at_.env
theorem ss_cnt : PS X (.Continue pos) (SemS g E sCnt) := ps_mono ps_continue fun D σ H ⟨ex, ι, st, δ, at_, h⟩ => h σ H ι at_.good (.refl _ _) at_.env
theorem ss_cons {s : Stmt} {ss : List Stmt} {f h : Sv} (h1 : PS X s (SemS g E f)) (h2 : PSs X ss (SemS g E h)) : PSs X (s :: ss) (SemS g E (sSeq f h)) := by
  refine pss_mono (pss_cons h1 h2) fun D σ H ⟨ex, ι, st, δ, at_, hh⟩ => ⟨ex, ι, st, δ, at_, ?_⟩
  unfold sSeq at hh
  cases ef : f δ st with
  | nx δ1 s1 =>
    rw [ef] at hh
    intro σ1 H1 ι1 g1 x1 e1
    exact ⟨ex, ι1, s1, δ1, ⟨g1, e1⟩, PostS.ext x1 hh⟩
  | _ => rw [ef] at hh; exact hh
theorem ss_one {s : Stmt} {f : Sv} (h1 : PS X s (SemS g E f)) : PSs X [s] (SemS g E f) := pss_one h1
theorem ss_if {c : Expr} {x y : List Stmt} {fc : Ev Bool} {f h : Sv} (hc : PT X c (SemB g E fc)) (ha : PSs X x (SemS g E f)) (hb : PSs X y (SemS g E h)) : PS X (.If c x y pos) (SemS g E (sIf fc f h)) := by
  refine ps_mono (ps_if hc ha hb) fun D σ H ⟨ex, ι, st, δ, at_, hh⟩ => semB_bnd at_ ?_
  unfold sIf at hh
  cases ef : fc δ st with
  | bad => rw [ef] at hh; exact hh
  | exc c s => rw [ef] at hh; exact hh
  | ok b s1 =>
    rw [ef] at hh
    intro H1 ι1 at1 x1
    cases b with
    | true => exact ⟨ex, ι1, s1, δ, at1, PostS.ext x1 hh⟩
    | false => exact ⟨ex, ι1, s1, δ, at1, PostS.ext x1 hh⟩
theorem ss_ret {f : Ev D} (he : PE X e (SemE g E f)) : PS X (.Return (some e) pos) (SemS g E (sRet f)) := by
  refine ps_mono (ps_ret he) fun D σ H ⟨ex, ι, st, δ, at_, hh⟩ => ⟨ex, ι, st, δ, at_, ?_⟩
  unfold sRet at hh
  cases ef : f δ st with
  | bad => rw [ef] at hh; exact hh
  | exc c s => rw [ef] at hh; exact hh
  | ok d s => rw [ef] at hh; exact hh
theorem ss_retN : PS X (.Return none pos) (SemS g E sRetN) := ps_mono ps_retN fun D σ H ⟨ex, ι, st, δ, at_, h⟩ => h .non H ι at_.good (.refl _ _) (.p .non)
theorem ss_do {f : Ev D} (he : PE X e (SemE g E f)) (hs : swapsWith e none pos.line X.env = pure false := by rfl) : PS X (.Expr e pos) (SemS g E (sDo f)) := by
  refine ps_mono (ps_expr he hs) fun D σ H ⟨ex, ι, st, δ, at_, hh⟩ => semE_bnd at_ ?_
  unfold sDo at hh
  cases ef : f δ st with
  | bad => rw [ef] at hh; exact hh
  | exc c s => rw [ef] at hh; exact hh
  | ok d s => rw [ef] at hh; exact fun v H1 ι1 at1 x1 r1 => hh σ H1 ι1 at1.good x1 at1.env
theorem tAsg_of {f : Ev D} {t : Gv} {u : TG} (hu : ∀ v σ H Q, SemG g E t v σ H Q → u v σ H Q) : ∀ D σ H, SemS g E (sAsg f t) D σ H → tAsg (SemE g E f) u D σ H := by
  rintro D σ H ⟨ex, ι, st, δ, at_, hh⟩
  refine semE_bnd at_ ?_
  unfold sAsg at hh
  cases ef : f δ st with
  | bad => rw [ef] at hh; exact hh
  | exc c s => rw [ef] at hh; exact hh
  | ok d s =>
    rw [ef] at hh
    intro v H1 ι1 at1 x1 r1
    have hh := PostS.ext x1 hh
    simp only [] at hh
    refine hu v σ H1 D.nx ⟨ex, ι1, s, δ, d, at1, r1, ?_⟩
    cases et : t d δ s with
    | nx δ1 s1 => rw [et] at hh; exact hh
    | exc c s => rw [et] at hh; exact hh
    | _ => rw [et] at hh; exact hh.elim
theorem ss_asg {tg : Expr} {f : Ev D} {t : Gv} (he : PE X e (SemE g E f)) (hg : PG X tg (SemG g E t)) (hs : swapsWithSole [tg] e pos.line X.env = pure false := by rfl) (hw : swappedStores [tg] e X.env = pure none := by rfl)
    (h1 : (assignEach [tg] X.env).map (·.2) = [assign tg X.env] := by rfl) : PS X (.Assign [tg] e pos) (SemS g E (sAsg f t)) := ps_mono (ps_asg he hg hs hw h1) (tAsg_of fun _ _ _ _ q => q)
theorem ss_set {i : Nat} {x : Str} {f : Ev D} {pos' : Pos} (hN : X.N.Nodup) (hi : X.N[i]? = some x) (hx : Loc X.env.scope x) (he : PE X e (SemE g E f)) (hs : swapsWith e (some (.Name x pos')) pos.line X.env = pure false := by rfl) (hf : X.fn x = true ∨ X.env.scope.names.lookup x = some .local := by first | exact .inl rfl | exact .inr rfl | assumption) :
    PS X (.Assign [.Name x pos'] e pos) (SemS g E (sAsg f (gvN i))) :=
  ps_mono (ps_set hN hi hx he hs hf) (tAsg_of fun v σ H Q ⟨ex, ι, st, δ, d, at_, r, h⟩ => h _ H ι at_.good (.refl _ _) (at_.env.set i r))
def sPar (i j : Nat) (f : Ev (List D)) : Sv := fun δ st => match f δ st with
  | .ok ds s => match ds with
    | [d, e] => .nx ((δ.set i (some d)).set j (some e)) s
    | _ => .bad
  | .exc c s => .exc c s
  | .bad => .bad
def sPar3 (i j l : Nat) (f : Ev (List D)) : Sv := fun δ st => match f δ st with
  | .ok ds s => match ds with
    | [d, e, h] => .nx (((δ.set i (some d)).set j (some e)).set l (some h)) s
    | _ => .bad
  | .exc c s => .exc c s
  | .bad => .bad
theorem ss_par {i j : Nat} {x y : Str} {fa : Ev (List D)} {px py pt : Pos} {kt k2 pt2} (hc : X.calm = true) (hN : X.N.Nodup) (hi : X.N[i]? = some x) (hj : X.N[j]? = some y) (hij : i ≠ j)
    (hx : X.env.scope.names.lookup x = some .local) (hy : X.env.scope.names.lookup y = some .local) (ha : PA X [a, b] (SemA g E fa))
    (hw : swappedStores [.Tuple [.Name x px, .Name y py] kt pt] (.Tuple [a, b] k2 pt2) X.env = pure (some [x, y])) (hs : swapsWithSole [.Tuple [.Name x px, .Name y py] kt pt] (.Tuple [a, b] k2 pt2) pos.line X.env = pure false := by rfl) :
    PS X (.Assign [.Tuple [.Name x px, .Name y py] kt pt] (.Tuple [a, b] k2 pt2) pos) (SemS g E (sPar i j fa)) := by
  refine ps_mono (ps_par hc hN hi hj hij hx hy ha hw hs) fun D σ H ⟨ex, ι, st, δ, at_, hh⟩ => semA_bnd at_ ?_
  unfold sPar at hh
  cases ef : fa δ st with
  | bad => rw [ef] at hh; exact hh
  | exc c s => rw [ef] at hh; exact hh
  | ok ds s =>
    rw [ef] at hh
    intro vs H1 ι1 at1 x1 r1
    have hh := PostS.ext x1 hh
    simp only [] at hh
    split at hh
    · obtain ⟨v, w, rfl, q1, q2⟩ := rds_two r1
      exact ⟨v, w, rfl, hh _ H1 ι1 at1.good (.refl _ _) ((at1.env.set i q1).set j q2)⟩
    · exact hh.elim
theorem rds_three {vs : List V} {d e f : D} (r : RDs g F ι vs [d, e, f]) : ∃ v w u, vs = [v, w, u] ∧ RD g F ι v d ∧ RD g F ι w e ∧ RD g F ι u f := by
  cases r with
  | cons r t => cases t with | cons r2 t => cases t with | cons r3 t => cases t; exact ⟨_, _, _, rfl, r, r2, r3⟩
theorem ss_par3 {i j l : Nat} {x y z : Str} {c : Expr} {fa : Ev (List D)} {px py pz pt : Pos} {kt k2 pt2} (hc : X.calm = true) (hN : X.N.Nodup) (hi : X.N[i]? = some x) (hj : X.N[j]? = some y) (hl : X.N[l]? = some z) (hij : i ≠ j) (hil : i ≠ l) (hjl : j ≠ l)
    (hx : X.env.scope.names.lookup x = some .local) (hy : X.env.scope.names.lookup y = some .local) (hz : X.env.scope.names.lookup z = some .local) (ha : PA X [a, b, c] (SemA g E fa))
    (hw : swappedStores [.Tuple [.Name x px, .Name y py, .Name z pz] kt pt] (.Tuple [a, b, c] k2 pt2) X.env = pure (some [x, y, z])) (hs : swapsWithSole [.Tuple [.Name x px, .Name y py, .Name z pz] kt pt] (.Tuple [a, b, c] k2 pt2) pos.line X.env = pure false := by rfl) :
    PS X (.Assign [.Tuple [.Name x px, .Name y py, .Name z pz] kt pt] (.Tuple [a, b, c] k2 pt2) pos) (SemS g E (sPar3 i j l fa)) := by
  refine ps_mono (ps_par3 hc hN hi hj hl hij hil hjl hx hy hz ha hw hs) fun D σ H ⟨ex, ι, st, δ, at_, hh⟩ => semA_bnd at_ ?_
  unfold sPar3 at hh
  cases ef : fa δ st with
  | bad => rw [ef] at hh; exact hh
  | exc c s => rw [ef] at hh; exact hh
  | ok ds s =>
    rw [ef] at hh
    intro vs H1 ι1 at1 x1 r1
    have hh := PostS.ext x1 hh
    simp only [] at hh
    split at hh
    · obtain ⟨v, w, u, rfl, q1, q2, q3⟩ := rds_three r1
      exact ⟨v, w, u, rfl, hh _ H1 ι1 at1.good (.refl _ _) (((at1.env.set i q1).set j q2).set l q3)⟩
    · exact hh.elim
end
end Iv
end

section
set_option Elab.async false
set_option linter.all false
set_option maxRecDepth 100000
set_option maxHeartbeats 4100000
namespace Iv
open PySem PySem.Spec PyProof.Rows L2 Gx

/-! ### a op= b, while -/
def iAdd (x y : D) (st : Store) : Res D := match x, y with
  | .p (.int i), .p (.int j) => .ok (.p (.int (i + j))) st
  | .p (.str a), .p (.str b) => if a.length + b.length ≤ szLine then .ok (.p (.str (a ++ b))) st else .bad
  | .ref n, y => match st[n]?, see st y with
    | some (.lst xs), some (.lst ys) => if xs.length + ys.length ≤ szLine then .ok (.ref n) (st.set n (.lst (xs ++ ys.map .p))) else .bad
    | _, _ => .bad
  | _, _ => .bad
def iSub (x y : D) (st : Store) : Res D := match x, y with
  | .p (.int i), .p (.int j) => .ok (.p (.int (i - j))) st
  | _, _ => .bad
def iMul (x y : D) (st : Store) : Res D := match x, y with
  | .p (.int i), .p (.int j) => if mulOk i j = true then .ok (.p (.int (i * j))) st else .bad
  | _, _ => .bad
def sAug (i : Nat) (op : D → D → Store → Res D) (f : Ev D) : Sv := fun δ st => match δ[i]? with
  | some (some d) => match f δ st with
    | .ok y s => match op d y s with
      | .ok z s2 => .nx (δ.set i (some z)) s2
      | _ => .bad
    | .exc c s => .exc c s
    | .bad => .bad
  | _ => .bad
def sWh (c : Ev Bool) (b : Sv) : Nat → Sv
  | 0, _, _ => .bad
  | n + 1, δ, st => match c δ st with
    | .ok true s => match b δ s with
      | .nx δ1 s1 => sWh c b n δ1 s1
      | .ct δ1 s1 => sWh c b n δ1 s1
      | .bk δ1 s1 => .nx δ1 s1
      | .rt d s => .rt d s
      | .exc c s => .exc c s
      | .bad => .bad
    | .ok false s => .nx δ s
    | .exc c s => .exc c s
    | .bad => .bad
section
variable {X : Cx} {g : GL} {E : XK} {pos : Pos} {a b e : Expr} {ι : List Addr} {st : Store} {H F : Hp}
theorem ir_add (k : CxK X g) : PIp X .Add (rSem g iAdd) := by
  rintro pins s σ H x y v u Q I rx ry ⟨ex, ι, st, dx, dy, G, r1, r2, d, st', e, q⟩
  unfold iAdd at e
  split at e
  · cases e
    obtain rfl := r1.intI
    obtain rfl := r2.intI
    exact iop_add pins s σ H _ _ v u Q I rx ry ⟨_, _, rfl, rfl, q _ H ι G (.refl _ _) (.p (.int _))⟩
  · split at e
    · cases e
      obtain rfl := see_str G r1 rfl
      obtain rfl := see_str G r2 rfl
      exact iop_add_str pins s σ H _ _ v u Q I rx ry ⟨_, _, rfl, rfl, Nat.le_trans ‹_› szLine_le, q _ H ι G (.refl _ _) (.p (.str _))⟩
    · cases e
  · split at e
    · rename_i h1 h2
      split at e
      · rename_i hz
        cases e
        obtain ⟨a, ws, rfl, hn, hH, rr⟩ := lst_cell G r1 h1
        obtain ⟨b, zs, rfl, hB, qb⟩ := see_lst G r2 h2
        obtain ⟨G', x'⟩ := lst_write G hn hH (pd_app rr (rds_map qb))
        exact iop_ext pins s σ H _ _ v u Q I rx ry ⟨a, b, ws, zs, rfl, rfl, hH, hB, Nat.le_trans (by rw [Paired.length rr, qb.length]; exact hz) szLine_le, q _ _ ι G' x' (.ref hn)⟩
      · cases e
    · cases e
  · cases e
theorem ir_sub : PIp X .Sub (rSem g iSub) := by
  rintro pins s σ H x y v u Q I rx ry ⟨ex, ι, st, dx, dy, G, r1, r2, d, st', e, q⟩
  unfold iSub at e
  split at e
  · cases e
    obtain rfl := r1.intI
    obtain rfl := r2.intI
    exact iop_sub pins s σ H _ _ v u Q I rx ry ⟨_, _, rfl, rfl, q _ H ι G (.refl _ _) (.p (.int _))⟩
  · cases e
theorem ir_mul : PIp X .Mult (rSem g iMul) := by
  rintro pins s σ H x y v u Q I rx ry ⟨ex, ι, st, dx, dy, G, r1, r2, d, st', e, q⟩
  unfold iMul at e
  split at e
  · split at e
    · cases e
      obtain rfl := r1.intI
      obtain rfl := r2.intI
      exact iop_mul pins s σ H _ _ v u Q I rx ry ⟨_, _, rfl, rfl, cmul ‹_›, q _ H ι G (.refl _ _) (.p (.int _))⟩
    · cases e
  · cases e
theorem ss_aug {i : Nat} {x : Str} {op : Operator} {f : D → D → Store → Res D} {fe : Ev D} {pos' : Pos} (hN : X.N.Nodup) (hi : X.N[i]? = some x) (hx : Loc X.env.scope x) (he : PE X e (SemE g E fe)) (ho : PIp X op (rSem g f)) (hf : X.fn x = true ∨ X.env.scope.names.lookup x = some .local := by first | exact .inl rfl | exact .inr rfl | assumption) :
    PS X (.AugAssign (.Name x pos') op e pos) (SemS g E (sAug i f fe)) := by
  refine ps_mono (ps_aug hN hi hx he ho hf) fun D σ H ⟨ex, ι, st, δ, at_, hh⟩ => ?_
  unfold sAug at hh
  split at hh
  · rename_i d hd
    obtain ⟨v, h1, h2⟩ := at_.env.2 i d hd
    refine ⟨v, h1, semE_bnd at_ ?_⟩
    cases ef : fe δ st with
    | bad => rw [ef] at hh; exact hh
    | exc c s => rw [ef] at hh; exact hh
    | ok y s =>
      rw [ef] at hh
      intro w H1 ι1 at1 x1 r1
      have hh := PostS.ext x1 hh
      simp only [] at hh
      split at hh
      · rename_i z s2 ez
        exact ⟨ex, ι1, s, d, y, at1.good, h2.ext x1, r1, z, s2, ez, fun v' H' ι' G' x' r' => hh _ H' ι' G' x' ((at1.env.ext x').set i r')⟩
      · exact hh.elim
  · exact hh.elim
theorem ss_while {c : Expr} {body : List Stmt} {fc : Ev Bool} {fb : Sv} (n : Nat) (hp : PassesOwn (model X.prog X.w) X.A X.env X.xe) (hc : PT X c (SemB g E fc)) (hb : PSs X body (SemS g E fb)) : PS X (.While c body [] pos) (SemS g E (sWh fc fb n)) := by
  refine ps_mono (ps_while hp hc hb) fun D σ H ⟨ex, ι, st, δ, at_, hh⟩ => ?_
  refine ⟨fun m σ H => ∃ ι st δ, At (g.wx ex) H ι st σ δ ∧ PostS (g.wx ex) H ι E (sWh fc fb m δ st) D, ⟨n, ι, st, δ, at_, hh⟩, ?_⟩
  rintro m σ H ⟨ι, st, δ, at_, hh⟩
  cases m with
  | zero => exact hh.elim
  | succ m =>
    refine semB_bnd at_ ?_
    unfold sWh at hh
    cases ef : fc δ st with
    | bad => rw [ef] at hh; exact hh
    | exc c s => rw [ef] at hh; exact hh
    | ok k s =>
      rw [ef] at hh
      intro H1 ι1 at1 x1
      have hh := PostS.ext x1 hh
      cases k with
      | false => rw [if_neg Bool.false_ne_true]; exact hh σ H1 ι1 at1.good (.refl _ _) at1.env
      | true =>
        rw [if_pos rfl]
        refine ⟨_, fun σ' H' q => ⟨m, Nat.lt_succ_self m, q⟩, ex, ι1, s, δ, at1, ?_⟩
        simp only [] at hh
        cases eb : fb δ s with
        | nx δ1 s1 => rw [eb] at hh; exact fun σ' H' ι' G' x' e' => ⟨ι', s1, δ1, ⟨G', e'⟩, PostS.ext x' hh⟩
        | ct δ1 s1 => rw [eb] at hh; exact fun σ' H' ι' G' x' e' => ⟨ι', s1, δ1, ⟨G', e'⟩, PostS.ext x' hh⟩
        | bk δ1 s1 => rw [eb] at hh; exact hh
        | rt d s => rw [eb] at hh; exact hh
        | exc c s => rw [eb] at hh; exact hh
        | bad => rw [eb] at hh; exact hh
end

/-! ### what one walks -/
/-- the items; the cell that holds them, if one does -/
structure Its where
  ds : List D
  cn : Option Nat := none
def getI (cn : Option Nat) (len : Nat) (st : Store) (i : Nat) (d0 : D) : Option D := match cn with
  | none => some d0
  | some n => match st[n]? with
    | some (.lst ds) => if ds.length = len then ds[i]? else none
    | _ => none
def endI (cn : Option Nat) (len : Nat) (st : Store) : Bool := match cn with
  | none => true
  | some n => match st[n]? with
    | some (.lst ds) => decide (ds.length = len)
    | _ => false
/-- with more lists under way -/
def GL.up (g : GL) (e : List Addr) : GL := { g with ex := e ++ g.ex }
/-- the heap has grown, more lists are under way -/
structure Ex2 (g : GL) (H : Hp) (ι : List Addr) (e : List Addr) (H' : Hp) (ι' : List Addr) : Prop where
  le : Le ι ι'
  keep : Sub (Fz H (g.x ι)) (Fz H' ((g.up e).x ι'))
structure ItS (g : GL) (J : It) (H : Hp) (ι : List Addr) (r : Its) : Prop where
  go : ∀ {e : List Addr} {i : Nat} {H' : Hp} {ι' : List Addr} {st' : Store} {d0 d : D}, r.ds[i]? = some d0 → Good (g.up e) ι' st' H' → Ex2 g H ι e H' ι' → getI r.cn r.ds.length st' i d0 = some d → J.go i H' ∧ ∀ x H'', J.yld i H' x H'' → Good (g.up e) ι' st' H'' ∧ Ext (g.up e) H' ι' H'' ι' ∧ RD (g.up e) (Fz H'' ((g.up e).x ι')) ι' x d
  stop : ∀ {e : List Addr} {H' : Hp} {ι' : List Addr} {st' : Store}, Good (g.up e) ι' st' H' → Ex2 g H ι e H' ι' → endI r.cn r.ds.length st' = true → J.stop r.ds.length H'
def PostI (g : GL) (H : Hp) (ι : List Addr) (E : XK) (r : Res Its) (R : It → Hp → Prop) : Prop := match r with
  | .ok t st => ∀ J H' ι', Good g ι' st H' → Ext g H ι H' ι' → ItS g J H' ι' t → R J H'
  | .exc c st => PostX g H ι c st E
  | .bad => False
def SemI (g : GL) (E : XK) (f : Ev Its) : TI := fun σ H R => ∃ ex ι st δ, At (g.wx ex) H ι st σ δ ∧ PostI (g.wx ex) H ι E (f δ st) R
/-- a list or a tuple -/
def itA (f : Ev D) : Ev Its := fun δ st => (f δ st).bnd fun d s => match d with
  | .p x => match seqP x with
    | some xs => .ok ⟨xs.map .p, none⟩ s
    | none => .bad
  | .ref n => match s[n]? with
    | some (.lst ds) => .ok ⟨ds, some n⟩ s
    | _ => .bad
def itR1 (f : Ev (List D)) : Ev Its := fun δ st => (f δ st).bnd fun ds s => match ds with
  | [.p (.int j)] => if -1000000000000 ≤ j ∧ j < 1000000000000 then .ok ⟨(List.range j.toNat).map fun i => .p (.int (i : Nat)), none⟩ s else .bad
  | _ => .bad
def itR2 (f : Ev (List D)) : Ev Its := fun δ st => (f δ st).bnd fun ds s => match ds with
  | [.p (.int a), .p (.int b)] => if -1000000000000 ≤ a ∧ a < 1000000000000 ∧ -1000000000000 ≤ b ∧ b < 1000000000000 then .ok ⟨(List.range (b - a).toNat).map fun i => .p (.int (a + (i : Nat))), none⟩ s else .bad
  | _ => .bad
section
variable {X : Cx} {g : GL} {E : XK} {pos : Pos} {tg a b e : Expr} {ι : List Addr} {st : Store} {H F : Hp}
theorem pi_mono {t t' : TI} (h : PI X tg e t) (k : ∀ σ H Q, t' σ H Q → t σ H Q) : PI X tg e t' := ⟨fun pins s σ H R I q => h.run pins s σ H R I (k σ H R q)⟩
theorem its_list {a : Addr} {vs : List V} {xs : List P} (h : SqL g.K H a vs) (hs : ∀ e H' ι', Ex2 g H ι e H' ι' → SqL g.K H' a vs) (r : Rps g (Fz H (g.x ι)) vs xs) : ItS g (Itl g.K a) H ι ⟨xs.map .p, none⟩ := by
  refine ⟨fun {e i H' ι' st' d0 d} hi G x hd => ?_, fun {e H' ι' st'} G x _ => ⟨vs, hs _ _ _ x, by rw [List.length_map, r.length]; exact Nat.le_refl _⟩⟩
  cases hd
  rw [List.getElem?_map, Option.map_eq_some_iff] at hi
  obtain ⟨y, hy, rfl⟩ := hi
  obtain ⟨v, hv, rv⟩ := r.get' hy
  refine ⟨⟨vs, v, hs _ _ _ x, hv⟩, fun w H'' ⟨e, z⟩ => ?_⟩
  subst e
  have := z vs (hs _ _ _ x)
  rw [hv] at this; cases this
  exact ⟨G, .refl _ _, .p ((rv.sub x.keep).wx _)⟩
theorem its_tup {a : Addr} {vs : List V} {xs : List P} (h : SqT g.K (Fz H (g.x ι)) a vs) (r : Rps g (Fz H (g.x ι)) vs xs) : ItS g (Itt g.K a) H ι ⟨xs.map .p, none⟩ := by
  have hs : ∀ e H' ι', Ex2 g H ι e H' ι' → SqT g.K H' a vs := fun e H' ι' x => sqT_of_fz (x.keep.sqT h)
  refine ⟨fun {e i H' ι' st' d0 d} hi G x hd => ?_, fun {e H' ι' st'} G x _ => ⟨vs, hs _ _ _ x, by rw [List.length_map, r.length]; exact Nat.le_refl _⟩⟩
  cases hd
  rw [List.getElem?_map, Option.map_eq_some_iff] at hi
  obtain ⟨y, hy, rfl⟩ := hi
  obtain ⟨v, hv, rv⟩ := r.get' hy
  refine ⟨⟨vs, v, hs _ _ _ x, hv⟩, fun w H'' ⟨e, z⟩ => ?_⟩
  subst e
  have := z vs (hs _ _ _ x)
  rw [hv] at this; cases this
  exact ⟨G, .refl _ _, .p ((rv.sub x.keep).wx _)⟩
theorem its_cell {n : Nat} {a : Addr} {ds : List D} (hn : ι[n]? = some a) : ItS g (Itl g.K a) H ι ⟨ds, some n⟩ := by
  have at_ : ∀ {e : List Addr} {H' : Hp} {ι' : List Addr} {st' : Store} {zs : List D}, Good (g.up e) ι' st' H' → Ex2 g H ι e H' ι' → st'[n]? = some (.lst zs) → ∃ ws, H' a = some (.lst ws) ∧ RDs (g.up e) (Fz H' ((g.up e).x ι')) ι' ws zs := fun {e H' ι' st' zs} G x hc => by
    obtain ⟨b, ws, e, _, h1, h2⟩ := lst_cell G (.ref (x.le.get hn)) hc
    cases e
    exact ⟨ws, h1, h2⟩
  refine ⟨fun {e i H' ι' st' d0 d} hi G x hd => ?_, fun {e H' ι' st'} G x he => ?_⟩
  · simp only [getI] at hd
    split at hd
    · rename_i zs hc
      split at hd
      · obtain ⟨ws, h1, h2⟩ := at_ G x hc
        obtain ⟨v, hv, rv⟩ := pd_get' h2 hd
        refine ⟨⟨ws, v, .inl (.inl h1), hv⟩, fun w H'' ⟨e, z⟩ => ?_⟩
        subst e
        have := z ws (.inl (.inl h1))
        rw [hv] at this; cases this
        exact ⟨G, .refl _ _, rv⟩
      · cases hd
    · cases hd
  · simp only [endI] at he
    split at he
    · rename_i zs hc
      obtain ⟨ws, h1, h2⟩ := at_ G x hc
      exact ⟨ws, .inl (.inl h1), by rw [Paired.length h2]; exact Nat.le_of_eq (by simpa using he)⟩
    · cases he
/-- an iterator object just made, of which nothing else knows -/
theorem pie_new {X : Cx} {pins : List (Addr × Obj)} {σ : L2.St} {tg : Expr} {R : It → Hp → Prop} {H1 : Hp} {s1 : Shared} {o : Obj} {J : It} {tn : Nat → Heap → Prop} (I1 : Inv X pins σ H1 s1) (T : Turn X.prog X.w X.K tg J [s1.heap.objs.size] s1.heap.objs.size tn) (t0 : tn 0 (s1.heap.push o)) (q : R J H1) :
    PIE X pins σ tg R (.ref s1.heap.objs.size) { s1 with heap := s1.heap.push o } :=
  ⟨_, _, _, _, H1, rfl, I1.kept (t' := s1.toks) fun _ _ e => Heap.get?_push_of_some _ e, T, t0, fun _ hb => List.mem_singleton.mp hb ▸ I1.fpOk (Nat.le_refl _) (I1.hok.fresh (Nat.le_refl _)), q⟩
/-- over what an expression's value holds -/
theorem si_any {f : Ev D} (k : CxK X g) (h : PE X e (SemE g E f)) : PI X tg e (SemI g E (itA f)) := by
  refine ⟨fun pins s σ H R I ⟨ex, ι, st, δ, at_, hh⟩ => ?_⟩
  have kk : X.K = (g.wx ex).K := k.K
  have key : SemE g E f σ H fun x H1 => (iList X.K (fun σ H Q => Q x H) σ H1 R) ∨ (iTup X.K (fun σ H Q => Q x H) σ H1 R) := by
    refine semE_bnd at_ ?_
    unfold itA at hh
    cases ef : f δ st with
    | bad => rw [ef] at hh; exact hh
    | exc c s => rw [ef] at hh; exact hh
    | ok d s =>
      rw [ef] at hh
      intro v H1 ι1 at1 x1 r1
      simp only [Res.bnd] at hh
      split at hh
      · split at hh
        · rename_i hx
          obtain ⟨a, vs, rfl, h3, h4⟩ := see_seq at1.good r1 rfl hx
          cases r1 with
          | p r1 =>
            cases r1 with
            | tup z zs =>
              rcases h4 with ⟨h4, h5⟩ | ⟨h4, _⟩
              · rcases h5 with ⟨_, h5⟩ | ⟨_, h5⟩ <;> cases h5
              · exact .inr ⟨_, rfl, ⟨vs, kk ▸ sqT_of_fz h4⟩, hh _ H1 ι1 at1.good x1 (kk ▸ its_tup h4 h3)⟩
            | lst z zs =>
              rcases h4 with ⟨h4, h5⟩ | ⟨_, h5⟩
              · cases hx
                exact .inl ⟨_, rfl, ⟨_, (.inl (.inl (Fz.lst z)) : SqL X.K H1 _ _)⟩, hh _ H1 ι1 at1.good x1 (kk ▸ its_list (.inl (.inl (Fz.lst z))) (fun _ H' ι' x => .inl (.inl (Fz.lst (x.keep _ _ z)))) zs)⟩
              · cases h5
            | scr z zs =>
              rcases h4 with ⟨h4, h5⟩ | ⟨_, h5⟩
              · cases hx
                exact .inl ⟨_, rfl, ⟨_, kk ▸ sqL_of_fz z⟩, hh _ H1 ι1 at1.good x1 (kk ▸ its_list (sqL_of_fz z) (fun _ H' ι' x => sqL_of_fz (x.keep.sqL z)) zs)⟩
              · cases h5
            | _ => cases hx
        · exact hh.elim
      · split at hh
        · rename_i hc
          obtain ⟨a, ws, rfl, hn, hH, rr⟩ := lst_cell at1.good r1 hc
          exact .inl ⟨a, rfl, ⟨ws, .inl (.inl hH)⟩, hh _ H1 ι1 at1.good x1 (kk ▸ its_cell hn)⟩
        · exact hh.elim
  refine thn (h.run pins s σ H _ I key) fun v s1 ⟨x, H1, I1, r1, got⟩ => ?_
  cases got with
  | inl got =>
    obtain ⟨a, rfl, ⟨xs, hq⟩, q⟩ := got
    cases r1
    obtain ⟨_, _, p, _⟩ := I1.list hq
    exact wpAny_pyIter_list p.isList (pie_new I1 (turn_list a _) ⟨_, Heap.get?_push_size _ rfl, rfl, rfl⟩ q)
  | inr got =>
    obtain ⟨a, rfl, ⟨xs, hq⟩, q⟩ := got
    cases r1
    obtain ⟨items, _, p, _⟩ := I1.tuple hq
    have p : s1.heap.IsTuple a items.toArray := p
    exact wpAny_pyIter_tuple p (pie_new I1 (turn_tuple a _) ⟨_, Heap.get?_push_size _ rfl, rfl, rfl⟩ q)
theorem its_rng {lo : Int} {n : Nat} : ItS g (Itr lo n) H ι ⟨(List.range n).map fun i => .p (.int (lo + (i : Nat))), none⟩ := by
  refine ⟨fun {e i H' ι' st' d0 d} hi G x hd => ?_, fun {e H' ι' st'} G x _ => by simp [Itr]⟩
  cases hd
  rw [List.getElem?_map, Option.map_eq_some_iff] at hi
  obtain ⟨y, hy, rfl⟩ := hi
  have hl : i < n := by
    have := (List.getElem?_eq_some_iff.mp hy).1
    simpa using this
  have : y = i := by
    have := (List.getElem?_eq_some_iff.mp hy).2
    simpa using this.symm
  subst this
  refine ⟨hl, fun w H'' ⟨e1, z⟩ => ?_⟩
  subst e1 z
  exact ⟨G, .refl _ _, .p (.int _)⟩
theorem si_range1 {fa : Ev (List D)} {p : Pos} (hg : Gl X "range") (hm : X.mg "range" = none) (ha : PA X [a] (SemA g E fa)) (hs : starEach [a] X.env = [(false, eval a X.env)] := by rfl) : PI X tg (.Call (.Name "range" p) [a] [] pos) (SemI g E (itR1 fa)) := by
  refine pi_mono (pi_range1 hg hm ha hs) fun σ H R ⟨ex, ι, st, δ, at_, hh⟩ => semA_bnd at_ ?_
  unfold itR1 at hh
  cases ef : fa δ st with
  | bad => rw [ef] at hh; exact hh
  | exc c s => rw [ef] at hh; exact hh
  | ok ds s =>
    rw [ef] at hh
    intro vs H1 ι1 at1 x1 r1
    simp only [Res.bnd] at hh
    split at hh
    · split at hh
      · rename_i hz
        obtain ⟨v, rfl, rv⟩ := rds_one r1
        obtain rfl := rv.intI
        refine ⟨_, rfl, by omega, by omega, hh _ H1 ι1 at1.good x1 ?_⟩
        have := its_rng (g := g.wx ex) (H := H1) (ι := ι1) (lo := 0) (n := (‹Int›).toNat)
        simpa using this
      · exact hh.elim
    · exact hh.elim
theorem si_range2 {fa : Ev (List D)} {p : Pos} (hg : Gl X "range") (hm : X.mg "range" = none) (ha : PA X [a, b] (SemA g E fa)) (hs : starEach [a, b] X.env = [(false, eval a X.env), (false, eval b X.env)] := by rfl) (hs2 : starEach [b] X.env = [(false, eval b X.env)] := by rfl) : PI X tg (.Call (.Name "range" p) [a, b] [] pos) (SemI g E (itR2 fa)) := by
  refine pi_mono (pi_range2 hg hm ha hs hs2) fun σ H R ⟨ex, ι, st, δ, at_, hh⟩ => semA_bnd at_ ?_
  unfold itR2 at hh
  cases ef : fa δ st with
  | bad => rw [ef] at hh; exact hh
  | exc c s => rw [ef] at hh; exact hh
  | ok ds s =>
    rw [ef] at hh
    intro vs H1 ι1 at1 x1 r1
    simp only [Res.bnd] at hh
    split at hh
    · split at hh
      · rename_i hz
        obtain ⟨v, w, rfl, rv, rw'⟩ := rds_two r1
        obtain rfl := rv.intI
        obtain rfl := rw'.intI
        exact ⟨_, _, rfl, by omega, hh _ H1 ι1 at1.good x1 its_rng⟩
      · exact hh.elim
    · exact hh.elim
end
end Iv
end

section
set_option Elab.async false
set_option linter.all false
set_option maxRecDepth 100000
set_option maxHeartbeats 4100000
namespace Iv
open PySem PySem.Spec PyProof.Rows L2 Gx

/-! ### for -/
def sFor (cn : Option Nat) (len : Nat) (t : Gv) (b : Sv) : List D → Nat → Sv
  | [], _, δ, st => if endI cn len st = true then .nx δ st else .bad
  | d0 :: ds, i, δ, st => match getI cn len st i d0 with
    | some d => match t d δ st with
      | .nx δ1 s1 => match b δ1 s1 with
        | .nx δ2 s2 => sFor cn len t b ds (i + 1) δ2 s2
        | .ct δ2 s2 => sFor cn len t b ds (i + 1) δ2 s2
        | .bk δ2 s2 => .nx δ2 s2
        | .rt d s => .rt d s
        | .exc c s => .exc c s
        | .bad => .bad
      | .exc c s => .exc c s
      | _ => .bad
    | none => .bad
def sForI (fi : Ev Its) (t : Gv) (b : Sv) : Sv := fun δ st => match fi δ st with
  | .ok r s => sFor r.cn r.ds.length t b r.ds 0 δ s
  | .exc c s => .exc c s
  | .bad => .bad
section
variable {X : Cx} {g : GL} {E : XK} {pos : Pos} {tg a b e : Expr} {ι : List Addr} {st : Store} {H F : Hp}
theorem Ext.ex2 {H' : Hp} {ι' : List Addr} (x : Ext g H ι H' ι') : Ex2 g H ι [] H' ι' := ⟨x.le, x.keep⟩
theorem semI_bnd {ex : List Addr} {f : Ev Its} {σ : L2.St} {δ : Env} {R : It → Hp → Prop} (a : At (g.wx ex) H ι st σ δ)
    (h : match f δ st with
      | .ok r st1 => ∀ J H1 ι1, At (g.wx ex) H1 ι1 st1 σ δ → Ext (g.wx ex) H ι H1 ι1 → ItS (g.wx ex) J H1 ι1 r → R J H1
      | .exc c st1 => PostX (g.wx ex) H ι c st1 E
      | .bad => False) : SemI g E f σ H R := by
  refine ⟨ex, ι, st, δ, a, ?_⟩
  cases e : f δ st with
  | ok d st1 => rw [e] at h; exact fun J H1 ι1 gd x r => h J H1 ι1 (a.ext x gd) x r
  | exc c st1 => rw [e] at h; exact h
  | bad => rw [e] at h; exact h
theorem ss_for {iter : Expr} {body : List Stmt} {fi : Ev Its} {t : Gv} {fb : Sv} (hp : PassesOwn (model X.prog X.w) X.A X.env X.xe) (hc : X.calm = true) (hi : PI X tg iter (SemI g E fi)) (hg : PG X tg (SemG g E t)) (hb : PSs X body (SemS g E fb))
    (hs : ∀ x, foldedSetIterable iter X.env x = pure x := by intro _; rfl) : PS X (.For tg iter body [] pos) (SemS g E (sForI fi t fb)) := by
  refine ps_mono (ps_for hp hc hi hg hb hs) fun D σ H ⟨ex, ι, st, δ, at_, hh⟩ => semI_bnd at_ ?_
  unfold sForI at hh
  cases ef : fi δ st with
  | bad => rw [ef] at hh; exact hh
  | exc c s => rw [ef] at hh; exact hh
  | ok r s =>
    rw [ef] at hh
    intro J H1 ι1 at1 x1 J1
    have hh := PostS.ext x1 hh
    simp only [] at hh
    obtain ⟨ds, cn⟩ := r
    refine ⟨fun i m σ H => m = ds.length - i ∧ i ≤ ds.length ∧ ∃ ι st δ, At (g.wx ex) H ι st σ δ ∧ Ext (g.wx ex) H1 ι1 H ι ∧ PostS (g.wx ex) H ι E (sFor cn ds.length t fb (ds.drop i) i δ st) D, ⟨ds.length, by simp, Nat.zero_le _, ι1, s, δ, at1, .refl _ _, hh⟩, ?_⟩
    rintro i m σ H ⟨rfl, hi, ι, st, δ, at2, x2, hh⟩
    by_cases hl : i < ds.length
    · rw [List.drop_eq_getElem_cons hl] at hh
      simp only [sFor] at hh
      cases eg : getI cn ds.length st i ds[i] with
      | none => rw [eg] at hh; exact hh.elim
      | some d =>
        rw [eg] at hh
        simp only [] at hh
        obtain ⟨q1, q2⟩ := J1.go (e := []) (List.getElem?_eq_getElem hl) at2.good x2.ex2 eg
        refine .inr ⟨q1, fun σ H => i + 1 ≤ ds.length ∧ ∃ ι st δ, At (g.wx ex) H ι st σ δ ∧ Ext (g.wx ex) H1 ι1 H ι ∧ PostS (g.wx ex) H ι E (sFor cn ds.length t fb (ds.drop (i + 1)) (i + 1) δ st) D, fun σ' H' q => ⟨ds.length - (i + 1), by omega, rfl, q⟩, fun x H' y => ?_⟩
        obtain ⟨G3, x3, r3⟩ := q2 x H' y
        have at3 := at2.ext x3 G3
        refine ⟨ex, ι, st, δ, d, at3, r3, ?_⟩
        have hh := PostS.ext x3 hh
        cases et : t d δ st with
        | exc c s => rw [et] at hh; exact hh
        | nx δ1 s1 =>
          rw [et] at hh
          intro σ4 H4 ι4 G4 x4 e4
          have hh := PostS.ext x4 hh
          simp only [] at hh
          have x14 : Ext (g.wx ex) H1 ι1 H4 ι4 := (x2.trans x3).trans x4
          refine ⟨ex, ι4, s1, δ1, ⟨G4, e4⟩, ?_⟩
          cases eb : fb δ1 s1 with
          | nx δ2 s2 => rw [eb] at hh; exact fun σ' H' ι' G' x' e' => ⟨hl, ι', s2, δ2, ⟨G', e'⟩, x14.trans x', PostS.ext x' hh⟩
          | ct δ2 s2 => rw [eb] at hh; exact fun σ' H' ι' G' x' e' => ⟨hl, ι', s2, δ2, ⟨G', e'⟩, x14.trans x', PostS.ext x' hh⟩
          | bk δ2 s2 => rw [eb] at hh; exact hh
          | rt d s => rw [eb] at hh; exact hh
          | exc c s => rw [eb] at hh; exact hh
          | bad => rw [eb] at hh; exact hh
        | _ => rw [et] at hh; exact hh.elim
    · have e : i = ds.length := by omega
      subst e
      rw [List.drop_length] at hh
      simp only [sFor] at hh
      split at hh
      · rename_i he
        exact .inl ⟨J1.stop (e := []) at2.good x2.ex2 he, hh σ H ι at2.good (.refl _ _) at2.env⟩
      · exact hh.elim
end

/-! ### blocks: targets that are names -/
abbrev Tv := D → Env → Option Env
abbrev Tvs := List D → Env → Option Env
def SemT (g : GL) (vs : List Nat) (f : Tv) : TG := fun v σ H Q => ∃ ex ι st δ d, At (g.wx ex) H ι st σ δ ∧ RD (g.wx ex) (Fz H ((g.wx ex).x ι)) ι v d ∧ match f d δ with
  | some δ' => ∀ σ', RE (g.wx ex) (Fz H ((g.wx ex).x ι)) ι σ' δ' → wipe σ' vs = wipe σ vs → Q σ' H
  | none => False
def SemTs (g : GL) (vs : List Nat) (f : Tvs) : TGs := fun v σ H Q => ∃ ex ι st δ d, At (g.wx ex) H ι st σ δ ∧ RDs (g.wx ex) (Fz H ((g.wx ex).x ι)) ι v d ∧ match f d δ with
  | some δ' => ∀ σ', RE (g.wx ex) (Fz H ((g.wx ex).x ι)) ι σ' δ' → wipe σ' vs = wipe σ vs → Q σ' H
  | none => False
def tvN (i : Nat) : Tv := fun d δ => some (δ.set i (some d))
def tsN : Tvs := fun ds δ => match ds with
  | [] => some δ
  | _ => none
def tsC (f : Tv) (r : Tvs) : Tvs := fun ds δ => match ds with
  | d :: ds => match f d δ with
    | some δ1 => r ds δ1
    | none => none
  | [] => none
def tvT (n : Nat) (f : Tvs) : Tv := fun d δ => match d with
  | .p (.tup xs) => if xs.length = n then f (xs.map .p) δ else none
  | _ => none
theorem wipe_set {σ : L2.St} {i : Nat} {x : Option V} : ∀ {vs : List Nat}, i ∈ vs → wipe (σ.set i x) vs = wipe σ vs
  | [], h => by cases h
  | v :: vs, h => by
    unfold wipe
    by_cases hi : i ∈ vs
    · rw [wipe_set hi]
    · have e : i = v := (List.mem_cons.mp h).resolve_right hi
      subst e
      have k : ∀ vs : List Nat, (wipe (σ.set i x) vs).set i none = (wipe σ vs).set i none := by
        intro vs
        induction vs with
        | nil => unfold wipe; rw [List.set_set]
        | cons w ws ih =>
          unfold wipe
          by_cases hw : w = i
          · subst hw; rw [List.set_set, List.set_set]; exact ih
          · rw [List.set_comm _ _ hw, ih, List.set_comm _ _ hw]
      exact k vs
theorem wipe_idem (σ : L2.St) : ∀ vs : List Nat, wipe (wipe σ vs) vs = wipe σ vs
  | [] => rfl
  | v :: vs => by
    have e : wipe σ (v :: vs) = (wipe σ vs).set v none := rfl
    rw [e, wipe_set List.mem_cons_self]
    show (wipe (wipe σ vs) vs).set v none = _
    rw [wipe_idem σ vs]
def wipE (δ : Env) : List Nat → Env
  | [] => δ
  | v :: vs => (wipE δ vs).set v none
theorem RE.wipe {g : GL} {F : Hp} {ι : List Addr} {σ : L2.St} {δ : Env} (h : RE g F ι σ δ) : ∀ vs : List Nat, RE g F ι (wipe σ vs) (wipE δ vs)
  | [] => h
  | v :: vs => by
    have ih := h.wipe vs
    unfold L2.wipe wipE
    refine ⟨by simpa using ih.1, fun j e hj => ?_⟩
    by_cases hij : v = j
    · subst hij
      by_cases hl : v < (wipE δ vs).length
      · rw [List.getElem?_set_self hl] at hj; cases hj
      · rw [List.getElem?_eq_none (by simpa using hl)] at hj; cases hj
    · rw [List.getElem?_set_ne hij] at hj
      obtain ⟨w, a, b⟩ := ih.2 j e hj
      exact ⟨w, by rw [List.getElem?_set_ne hij]; exact a, b⟩
section
variable {X : Cx} {g : GL} {E : XK} {pos : Pos} {tg a b e : Expr} {ι : List Addr} {st : Store} {H F : Hp} {vs : List Nat}
theorem tg_name {i : Nat} {x : Str} (hN : X.N.Nodup) (hi : X.N[i]? = some x) (hx : Loc X.env.scope x) (hv : i ∈ vs) (hf : X.fn x = true ∨ X.env.scope.names.lookup x = some .local := by first | exact .inl rfl | exact .inr rfl | assumption) : PG X (.Name x pos) (SemT g vs (tvN i)) :=
  pg_mono (pg_name hN hi hx hf) fun v σ H Q ⟨ex, ι, st, δ, d, at_, r, h⟩ => h _ (at_.env.set i r) (wipe_set hv)
theorem tgs_nil : PGs X [] (SemTs g vs tsN) := pgs_mono pgs_nil fun v σ H Q ⟨ex, ι, st, δ, d, at_, r, h⟩ => by
  cases r with
  | nil => exact ⟨rfl, h _ at_.env rfl⟩
  | cons _ _ => exact h.elim
theorem tgs_cons {es : List Expr} {f : Tv} {r : Tvs} (h1 : PG X e (SemT g vs f)) (h2 : PGs X es (SemTs g vs r)) (hs : (assignEach (e :: es) X.env).map (·.2) = assign e X.env :: (assignEach es X.env).map (·.2) := by rfl) : PGs X (e :: es) (SemTs g vs (tsC f r)) :=
  pgs_mono (pgs_cons h1 h2 hs) fun v σ H Q ⟨ex, ι, st, δ, d, at_, rd, h⟩ => by
    cases rd with
    | nil => exact h.elim
    | @cons v1 d1 vs1 ds1 r1 rr =>
      refine ⟨_, _, rfl, ex, ι, st, δ, d1, at_, r1, ?_⟩
      simp only [tsC] at h
      cases ef : f d1 δ with
      | none => rw [ef] at h; exact h.elim
      | some δ1 =>
        rw [ef] at h
        intro σ1 e1 w1
        refine ⟨ex, ι, st, δ1, ds1, ⟨at_.good, e1⟩, rr, ?_⟩
        simp only [] at h
        cases er : r ds1 δ1 with
        | none => rw [er] at h; exact h.elim
        | some δ2 => rw [er] at h; exact fun σ2 e2 w2 => h σ2 e2 (w2.trans w1)
theorem tg_tup {es : List Expr} {k : Nat} {f : Tvs} {n : Nat} (kk : CxK X g) (hc : X.calm = true) (h : PGs X es (SemTs g vs f)) (hn : (assignEach es X.env).length = n := by rfl) (hst : (assignEach es X.env).findIdx? (·.1) = none := by rfl) : PG X (.Tuple es k pos) (SemT g vs (tvT n f)) :=
  pg_mono (pg_tup hc h hn hst) fun v σ H Q ⟨ex, ι, st, δ, d, at_, rd, h⟩ => by
    have hK : X.K = (g.wx ex).K := kk.K
    cases ed : tvT n f d δ with
    | none => rw [ed] at h; exact h.elim
    | some δ' =>
      rw [ed] at h
      unfold tvT at ed
      split at ed
      · rename_i xs
        split at ed
        · rename_i h2
          obtain ⟨a, ws, rfl, h3, h4⟩ := see_tup at_.good rd (rfl : see st (.p (.tup xs)) = some (.tup xs))
          exact ⟨a, ws, rfl, hK ▸ sqT_of_fz h3, by rw [h4.length]; exact h2, ex, ι, st, δ, _, at_, rds_map h4, by rw [ed]; exact h⟩
        · cases ed
      · cases ed
/-- the tests of a block -/
def bYes : Ev Bool := fun _ st => .ok true st
theorem sb_none : PTs X [] (SemB g E bYes) := ⟨fun pins s σ H Q I ⟨ex, ι, st, δ, at_, h⟩ => pts_nil.run pins s σ H Q I (h H ι at_.good (.refl _ _))⟩
theorem sb_one {c : Expr} {f : Ev Bool} (h : PT X c (SemB g E f)) : PTs X [c] (SemB g E f) := ⟨fun pins s σ H Q I q => (pts_one h).run pins s σ H Q I q⟩
end

/-! ### list comprehensions -/
def compL (cn : Option Nat) (len : Nat) (t : Tv) (c : Ev Bool) (e : Ev D) (δ0 : Env) : List D → Nat → Store → Res (List D)
  | [], _, st => if endI cn len st = true then .ok [] st else .bad
  | d0 :: ds, i, st => match getI cn len st i d0 with
    | some d => match t d δ0 with
      | some δ1 => match c δ1 st with
        | .ok true s => match e δ1 s with
          | .ok y s2 => match compL cn len t c e δ0 ds (i + 1) s2 with
            | .ok ys s3 => .ok (y :: ys) s3
            | _ => .bad
          | _ => .bad
        | .ok false s => compL cn len t c e δ0 ds (i + 1) s
        | _ => .bad
      | none => .bad
    | none => .bad
def vCmpD (fi : Ev Its) (t : Tv) (c : Ev Bool) (e : Ev D) (vs : List Nat) (k : List D → Store → Res D) : Ev D := fun δ st => match fi δ st with
  | .ok r s => if r.ds.length ≤ szLine then match compL r.cn r.ds.length t c e (wipE δ vs) r.ds 0 s with
      | .ok ys s2 => k ys s2
      | _ => .bad
    else .bad
  | .exc c s => .exc c s
  | .bad => .bad
def kLst (ys : List D) (st : Store) : Res D := match pAll ys with
  | some xs => .ok (.p (.lst xs)) st
  | none => .bad
def kCel (ys : List D) (st : Store) : Res D := .ok (.ref st.length) (st ++ [.lst ys])
abbrev vCmp (fi : Ev Its) (t : Tv) (c : Ev Bool) (e : Ev D) (vs : List Nat) : Ev D := vCmpD fi t c e vs kLst
abbrev vCmpM (fi : Ev Its) (t : Tv) (c : Ev Bool) (e : Ev D) (vs : List Nat) : Ev D := vCmpD fi t c e vs kCel
section
variable {X : Cx} {g : GL} {E : XK} {pos : Pos} {ι ι' : List Addr} {st : Store} {H H' : Hp} {D' : Addr}
/-- a list comes under way -/
theorem under (G : Good g ι st H) (hp : H D' = none) (os : List V) : Good (g.up [D']) ι st (upd H D' (.lst os)) ∧ Ex2 g H ι [D'] (upd H D' (.lst os)) ι := by
  generalize ho : HO.lst os = o
  have ke : ∀ b u, H b = some u → upd H D' o b = some u := fun b u e => by rw [upd_ne (ne_of_none e hp)]; exact e
  have sub : Sub (Fz H (g.x ι)) (Fz (upd H D' o) ((g.up [D']).x ι)) := fun b u e => by
    obtain ⟨h1, w, h2, h3⟩ := Fz.at e
    refine Fz.mk (fun m => ?_) (ke _ _ h2) h3
    rcases List.mem_append.mp m with m | m
    · rcases List.mem_append.mp m with m | m
      · rw [List.mem_singleton.mp m, hp] at h2; cases h2
      · exact h1 (GL.in2 m)
    · exact h1 (GL.in1 m)
  refine ⟨⟨G.nd, pd_imp G.cells fun a c _ ⟨u, e, r⟩ => ⟨u, ke _ _ e, (r.sub sub (.refl ι)).wx _⟩, (G.tabs.ext ke).wx _, fun b hb => ?_, fun b hb m => ?_⟩, ⟨.refl ι, sub⟩⟩
  · obtain hb | hb := List.mem_append.mp hb
    · rw [List.mem_singleton.mp hb]; exact ⟨os, ho ▸ upd_same⟩
    · obtain ⟨u, e⟩ := G.exs b hb; exact ⟨u, ke _ _ e⟩
  · obtain hb | hb := List.mem_append.mp hb
    · exact G.out hp (GL.in1 (List.mem_singleton.mp hb ▸ m))
    · exact G.dis b hb m
theorem RD.unwx {g : GL} {F : Hp} {ι : List Addr} {e : List Addr} {v : V} {d : D} (h : RD (g.wx e) F ι v d) : RD g F ι v d := by
  have := h.wx g.ex
  exact this
/-- .. and it is done -/
theorem over (G : Good (g.up [D']) ι st H) : Good g ι st H ∧ Sub (Fz H ((g.up [D']).x ι)) (Fz H (g.x ι)) := by
  have sub : Sub (Fz H ((g.up [D']).x ι)) (Fz H (g.x ι)) := fun b u e => by
    obtain ⟨h1, w, h2, h3⟩ := Fz.at e
    refine Fz.mk (fun m => h1 ?_) h2 h3
    rcases List.mem_append.mp m with m | m
    · exact List.mem_append_left _ (List.mem_append_right _ m)
    · exact List.mem_append_right _ m
  exact ⟨⟨G.nd, pd_imp G.cells fun a c _ ⟨u, e, r⟩ => ⟨u, e, (r.wx g.ex).sub sub (.refl ι)⟩, G.tabs.wx (g := g.up [D']) g.ex, fun b hb => G.exs b (List.mem_append_right _ hb), fun b hb => G.dis b (List.mem_append_right _ hb)⟩, sub⟩
/-- a list under way is written -/
theorem under_write (G : Good (g.up [D']) ι st H) {o : HO} {us : List V} (h : H D' = some o) (hT : ∀ ps, o ≠ .tbl ps) (hX : ∀ c P, o ≠ CodeGO c P) (hL : ∀ c q, o ≠ LamX.CodeO c q) : Good (g.up [D']) ι st (upd H D' (.lst us)) ∧ Sub (Fz H ((g.up [D']).x ι)) (Fz (upd H D' (.lst us)) ((g.up [D']).x ι)) := by
  generalize hu : HO.lst us = u
  have hm : D' ∈ (g.up [D']).ex := List.mem_cons_self
  have sub : Sub (Fz H ((g.up [D']).x ι)) (Fz (upd H D' u) ((g.up [D']).x ι)) := fun b w e => by
    obtain ⟨h1, v, h2, h3⟩ := Fz.at e
    exact Fz.mk h1 (by rw [upd_ne (fun z => h1 (GL.in2 (by rw [z]; exact hm)))]; exact h2) h3
  refine ⟨⟨G.nd, pd_imp G.cells fun a c ha ⟨o, e, r⟩ => ⟨o, by rw [upd_ne (fun z => G.dis _ hm (by rw [← z]; exact ha))]; exact e, r.sub sub (.refl ι)⟩, G.tabs.but (fun b o h e => by rw [upd_ne h]; exact e) (fun ps z => hT ps (by rw [h] at z; exact Option.some.inj z)) (fun c P z => hX c P (by rw [h] at z; exact Option.some.inj z)) (fun c q z => hL c q (by rw [h] at z; exact Option.some.inj z)), fun b hb => ?_, G.dis⟩, sub⟩
  · by_cases z : b = D'
    · rw [z]; exact ⟨us, hu ▸ upd_same⟩
    · obtain ⟨o, e⟩ := G.exs b hb
      exact ⟨o, by rw [upd_ne z]; exact e⟩

/-- what a comprehension's end makes of its items -/
structure KOk (k : List D → Store → Res D) : Prop where
  nx : ∀ ys st c s, k ys st ≠ .exc c s
  ok : ∀ {g : GL} {ι : List Addr} {st : Store} {H : Hp} {D' : Addr} {acc : List V} {ys : List D} {d : D} {st' : Store}, Good (g.up [D']) ι st H → H D' = some (.lst acc) → RDs (g.up [D']) (Fz H ((g.up [D']).x ι)) ι acc ys → D' ∉ g.ex → k ys st = .ok d st' →
    ∃ ι', Good g ι' st' H ∧ Le ι ι' ∧ Sub (Fz H ((g.up [D']).x ι)) (Fz H (g.x ι')) ∧ RD g (Fz H (g.x ι')) ι' (.ref D') d
theorem ok_lst : KOk kLst := by
  refine ⟨fun ys st c s e => ?_, fun {g ι st H D' acc ys d st'} G h r hD e => ?_⟩
  · unfold kLst at e
    split at e <;> cases e
  · unfold kLst at e
    split at e
    · rename_i xs hx
      cases e
      obtain ⟨G', s'⟩ := over G
      refine ⟨ι, G', .refl _, s', .p (.lst (Fz.mk (fun m => ?_) h rfl) ((Rps.wx g.ex (rps_of r hx)).sub s'))⟩
      rcases List.mem_append.mp m with m | m
      · exact hD m
      · exact G.dis _ List.mem_cons_self m
    · cases e
theorem ok_cel : KOk kCel := by
  refine ⟨fun ys st c s e => (by cases e), fun {g ι st H D' acc ys d st'} G h r hD e => ?_⟩
  cases e
  obtain ⟨G', s'⟩ := over G
  have hD' : D' ∉ ι := G.dis _ List.mem_cons_self
  have le : Le ι (ι ++ [D']) := ⟨[D'], rfl⟩
  have sub : Sub (Fz H ((g.up [D']).x ι)) (Fz H (g.x (ι ++ [D']))) := fun b u e => by
    obtain ⟨h1, w, h2, h3⟩ := Fz.at e
    refine Fz.mk (fun m => h1 ?_) h2 h3
    rcases List.mem_append.mp m with m | m
    · exact List.mem_append_left _ (List.mem_append_right _ m)
    · rcases List.mem_append.mp m with m | m
      · exact List.mem_append_right _ m
      · exact List.mem_append_left _ (List.mem_append_left _ m)
  refine ⟨ι ++ [D'], ⟨?_, ?_, G'.tabs, G'.exs, fun b hb m => ?_⟩, le, sub, .ref ?_⟩
  · rw [List.nodup_append]
    refine ⟨G.nd, by simp, fun a ha b hb z => ?_⟩
    rw [List.mem_singleton.mp hb] at z
    exact hD' (z ▸ ha)
  · exact pd_app (pd_imp G.cells fun a c _ ⟨u, e, r⟩ => ⟨u, e, (r.wx g.ex).sub sub le⟩) (.cons ⟨_, h, .lst (RDs.sub sub le (show RDs g _ ι acc ys from RDs.wx (g := g.up [D']) g.ex r))⟩ .nil)
  · rcases List.mem_append.mp m with m | m
    · exact G'.dis b hb m
    · exact hD (List.mem_singleton.mp m ▸ hb)
  · rw [← G'.len]; simp
theorem tLc_gen {fi : Ev Its} {t : Tv} {c : Ev Bool} {e : Ev D} {vs : List Nat} {k : List D → Store → Res D} (hk : KOk k) {σ : L2.St} {tt : TT} {te : TE} (htt : ∀ σB H Q, wipe σB vs = wipe σ vs → SemB g E0 c σB H Q → tt σB H Q) (hte : ∀ σB H Q, wipe σB vs = wipe σ vs → SemE g E0 e σB H Q → te σB H Q) : ∀ H Q, SemE g E (vCmpD fi t c e vs k) σ H Q → tLc (SemI g E fi) (SemT g vs t) tt te vs σ H Q := by
  rintro H Q ⟨ex, ι, st, δ, at_, hh⟩
  refine semI_bnd at_ ?_
  unfold vCmpD at hh
  cases ef : fi δ st with
  | bad => rw [ef] at hh; exact hh
  | exc c s => rw [ef] at hh; exact hh
  | ok r s =>
    rw [ef] at hh
    intro J H1 ι1 at1 x1 J1
    have hh := Post.ext x1 hh
    simp only [] at hh
    obtain ⟨ds, cn⟩ := r
    split at hh
    · rename_i hz
      split at hh
      · rename_i tot sF hc
        intro D' hD
        have hDx : D' ∉ (g.wx ex).x ι1 := at1.good.out hD
        obtain ⟨G1, e1⟩ := under at1.good hD []
        refine ⟨fun i m H => m = ds.length - i ∧ i ≤ ds.length ∧ ∃ ι st acc ys zs, Good ((g.wx ex).up [D']) ι st H ∧ Ex2 (g.wx ex) H1 ι1 [D'] H ι ∧ (∀ b ∈ ex, H b = H1 b) ∧ H D' = some (.lst acc) ∧ RDs ((g.wx ex).up [D']) (Fz H (((g.wx ex).up [D']).x ι)) ι acc ys ∧ ys.length ≤ i ∧ compL cn ds.length t c e (wipE δ vs) (ds.drop i) i st = .ok zs sF ∧ tot = ys ++ zs,
          ⟨ds.length, by simp, Nat.zero_le _, ι1, s, [], [], tot, G1, e1, fun b hb => upd_ne (fun z => hDx (by rw [← z]; exact GL.in2 (g := g.wx ex) hb)), upd_same, .nil, Nat.zero_le _, hc, rfl⟩, ?_⟩
        rintro i m H ⟨rfl, hi, ι, st, acc, ys, zs, G2, e2, sm2, hD2, r2, hl2, hc2, rfl⟩
        have envAt : ∀ {H' : Hp} {ι' : List Addr}, Ext ((g.wx ex).up [D']) H ι H' ι' → RE ((g.wx ex).up [D']) (Fz H' (((g.wx ex).up [D']).x ι')) ι' (wipe σ vs) (wipE δ vs) := fun {H' ι'} x => by
          have q := (at1.env.wipe vs)
          exact ⟨q.1, fun j d hj => let ⟨v, a, b⟩ := q.2 j d hj; ⟨v, a, ((b.sub e2.keep e2.le).wx (D' :: ex)).ext x⟩⟩
        by_cases hl : i < ds.length
        · rw [List.drop_eq_getElem_cons hl] at hc2
          simp only [compL] at hc2
          cases eg : getI cn ds.length st i ds[i] with
          | none => rw [eg] at hc2; cases hc2
          | some d =>
            rw [eg] at hc2
            simp only [] at hc2
            obtain ⟨q1, q2⟩ := J1.go (List.getElem?_eq_getElem hl) G2 e2 eg
            refine .inr ⟨q1, fun H => i + 1 ≤ ds.length ∧ ∃ ι st acc ys zs', Good ((g.wx ex).up [D']) ι st H ∧ Ex2 (g.wx ex) H1 ι1 [D'] H ι ∧ (∀ b ∈ ex, H b = H1 b) ∧ H D' = some (.lst acc) ∧ RDs ((g.wx ex).up [D']) (Fz H (((g.wx ex).up [D']).x ι)) ι acc ys ∧ ys.length ≤ i + 1 ∧ compL cn ds.length t c e (wipE δ vs) (ds.drop (i + 1)) (i + 1) st = .ok zs' sF ∧ _ = ys ++ zs', fun H' q => ⟨ds.length - (i + 1), by omega, rfl, q⟩, fun x H' y => ?_⟩
            obtain ⟨G3, x3, r3⟩ := q2 x H' y
            cases et : t d (wipE δ vs) with
            | none => rw [et] at hc2; cases hc2
            | some δ1 =>
              rw [et] at hc2
              simp only [] at hc2
              refine ⟨D' :: ex, ι, st, wipE δ vs, d, ⟨G3, envAt x3⟩, r3, ?_⟩
              rw [et]
              intro σ2 e4 w4
              refine ⟨w4.trans (wipe_idem _ _), ?_⟩
              have at4 : At (g.wx (D' :: ex)) H' ι st σ2 δ1 := ⟨G3, e4⟩
              refine htt _ _ _ (w4.trans (wipe_idem _ _)) (semB_bnd at4 ?_)
              cases eb : c δ1 st with
              | bad => rw [eb] at hc2; cases hc2
              | exc c s => rw [eb] at hc2; cases hc2
              | ok k1 s1 =>
                rw [eb] at hc2
                intro H5 ι5 at5 x5
                have x15 : Ext (g.wx (D' :: ex)) H ι H5 ι5 := x3.trans x5
                have e5 : Ex2 (g.wx ex) H1 ι1 [D'] H5 ι5 := ⟨e2.le.trans x15.le, e2.keep.trans x15.keep⟩
                have sm5 : ∀ b ∈ ex, H5 b = H1 b := fun b hb => (x15.same b (List.mem_cons_of_mem _ hb)).trans (sm2 b hb)
                have hD5 : H5 D' = some (.lst acc) := (x15.same D' List.mem_cons_self).trans hD2
                have r5 := RDs.sub x15.keep x15.le r2
                cases k1 with
                | false =>
                  simp only [if_false, Bool.false_eq_true]
                  exact ⟨hl, ι5, s1, acc, ys, zs, at5.good, e5, sm5, hD5, r5, Nat.le_succ_of_le hl2, hc2, rfl⟩
                | true =>
                  rw [if_pos rfl]
                  simp only [] at hc2
                  refine hte _ _ _ (w4.trans (wipe_idem _ _)) (semE_bnd at5 ?_)
                  cases ee : e δ1 s1 with
                  | bad => rw [ee] at hc2; cases hc2
                  | exc c s => rw [ee] at hc2; cases hc2
                  | ok y1 s2 =>
                    rw [ee] at hc2
                    simp only [] at hc2
                    intro v H6 ι6 at6 x6 r6
                    cases er : compL cn ds.length t c e (wipE δ vs) (ds.drop (i + 1)) (i + 1) s2 with
                    | bad => rw [er] at hc2; cases hc2
                    | exc c s => rw [er] at hc2; cases hc2
                    | ok zs' s3 =>
                      rw [er] at hc2
                      cases hc2
                      have hD6 : H6 D' = some (.lst acc) := (x6.same D' List.mem_cons_self).trans hD5
                      have r6' := RDs.sub x6.keep x6.le r5
                      obtain ⟨G7, s7⟩ := under_write (us := acc ++ [v]) (g := g.wx ex) (D' := D') at6.good hD6 (fun ps z => by cases z) (fun c P z => by cases z) (fun c P z => by cases z)
                      refine ⟨acc, hD6, Nat.lt_of_lt_of_le (by rw [Paired.length r6']; omega) (Nat.le_trans (Nat.le_trans hl hz) szLine_le), hl, ι6, s2, acc ++ [v], ys ++ [y1], zs', G7, ⟨e5.le.trans x6.le, (e5.keep.trans x6.keep).trans s7⟩, fun b hb => ?_, upd_same, RDs.sub s7 (.refl _) (pd_app r6' (.cons r6 .nil)), by rw [List.length_append]; simpa using hl2, er, by simp⟩
                      rw [upd_ne (fun z => hDx (by rw [← z]; exact GL.in2 (g := g.wx ex) hb))]
                      exact (x6.same b (List.mem_cons_of_mem _ hb)).trans (sm5 b hb)
        · have ei : i = ds.length := by omega
          subst ei
          rw [List.drop_length] at hc2
          simp only [compL] at hc2
          split at hc2
          · rename_i he
            cases hc2
            rw [List.append_nil] at hh
            refine .inl ⟨J1.stop G2 e2 he, ?_⟩
            cases ek : k ys sF with
            | bad => rw [ek] at hh; exact hh.elim
            | exc c s => exact (hk.nx _ _ _ _ ek).elim
            | ok d s' =>
              rw [ek] at hh
              obtain ⟨ι', G', le', s', r'⟩ := hk.ok G2 hD2 r2 (fun m => hDx (GL.in2 (g := g.wx ex) m)) ek
              exact hh _ _ ι' G' ⟨e2.le.trans le', e2.keep.trans s', sm2⟩ r'
          · cases hc2
      · exact hh.elim
    · exact hh.elim
theorem tLc_of {fi : Ev Its} {t : Tv} {c : Ev Bool} {e : Ev D} {vs : List Nat} {k : List D → Store → Res D} (hk : KOk k) : ∀ σ H Q, SemE g E (vCmpD fi t c e vs k) σ H Q → tLc (SemI g E fi) (SemT g vs t) (SemB g E0 c) (SemE g E0 e) vs σ H Q := fun σ H Q h => tLc_gen hk (fun _ _ _ _ q => q) (fun _ _ _ _ q => q) H Q h
theorem se_lc {elt tg iter : Expr} {ifs : List Expr} {scope : Scope} {own : List (Str × Nat)} {fi : Ev Its} {t : Tv} {c : Ev Bool} {e : Ev D} {k : List D → Store → Res D} (hk : KOk k) (hc : X.calm = true) (hN : X.N.Nodup) (hi : PI X tg iter (SemI g E fi)) (ok : BlkOk X.N X.env.scope scope own)
    (hg : ∀ (s : Shared) (H : Hp) (C : Addr) (cl : List (Str × Addr)) (fp : List Addr), PG (X.blk s H scope (compEnvC scope cl C X.env) fp) tg (SemT g (own.map (·.2)) t)) (ht : ∀ (s : Shared) (H : Hp) (C : Addr) (cl : List (Str × Addr)) (fp : List Addr), PTs (X.blk s H scope (compEnvC scope cl C X.env) fp) ifs (SemB g E0 c))
    (he : ∀ (s : Shared) (H : Hp) (C : Addr) (cl : List (Str × Addr)) (fp : List Addr), PE (X.blk s H scope (compEnvC scope cl C X.env) fp) elt (SemE g E0 e)) (hs : ∀ x, foldedSetIterable iter X.env x = pure x := by intro _; rfl) :
    PE X (.ListComp elt [⟨tg, iter, ifs, 0⟩] scope pos) (SemE g E (vCmpD fi t c e (own.map (·.2)) k)) :=
  pe_mono (pe_lc hc hN hi ok hg ht he hs) (tLc_of hk)
end
end Iv
end

section
set_option Elab.async false
set_option linter.all false
set_option maxRecDepth 100000
set_option maxHeartbeats 4100000
namespace Iv
open PySem PySem.Spec PyProof.Rows L2 Gx GenW

/-! ### generator expressions -/
theorem good_tb {g : GL} {ι : List Addr} {st : Store} {H H2 : Hp} (G : Good g ι st H) (t : TbG H H2) {P : Addr} (kx : ∀ b o, b ≠ P → H b = some o → H2 b = some o) (hP : P ∈ g.T) : Good g ι st H2 ∧ Ext g H ι H2 ι := by
  have sub : Sub (Fz H (g.x ι)) (Fz H2 (g.x ι)) := fun b u e => by
    obtain ⟨h1, w, h2, h3⟩ := Fz.at e
    refine Fz.mk h1 (t.keep _ _ h2 fun ps z => ?_) h3
    subst z
    cases h3
  have rcn : ∀ {o : HO} {c : Cell} {F : Hp}, RC g F ι o c → NotTbl o := fun r ps z => by
    subst z
    cases r
  refine ⟨⟨G.nd, pd_imp G.cells fun a c _ ⟨u, e, r⟩ => ⟨u, t.keep _ _ e (rcn r), r.sub sub (.refl ι)⟩, G.tabs.tg t kx hP, fun b hb => ?_, G.dis⟩, ⟨.refl ι, sub, fun b hb => ?_⟩⟩
  · obtain ⟨o, e⟩ := G.exs b hb
    exact ⟨o, t.keep _ _ e fun ps z => by cases z⟩
  · obtain ⟨o, e⟩ := G.exs b hb
    rw [e]
    exact t.keep _ _ e fun ps z => by cases z
def YL (g : GL) (tot : List D) : YP := fun ys x _ K => K ∧ ∃ pre d rest F ι, tot = pre ++ d :: rest ∧ RDs g F ι ys pre ∧ RD g F ι x d
def DL (g : GL) (H1 : Hp) (ι1 : List Addr) (sF : Store) (tot : List D) : DP := fun ys H => ∃ ι', Good g ι' sF H ∧ Ext g H1 ι1 H ι' ∧ RDs g (Fz H (g.x ι')) ι' ys tot
theorem yl_mono {g : GL} {tot : List D} : YMono (YL g tot) := fun ys x H K K' f ⟨a, b⟩ => ⟨f a, b⟩
section
variable {X : Cx} {g : GL} {E : XK} {pos : Pos} {ex : List Addr} {ι1 : List Addr} {s sF : Store} {H0 H1 H2 : Hp} {σ : L2.St} {δ : Env} {vs : List Nat} {J : It} {ds tot : List D} {cn : Option Nat} {t : Tv} {c : Ev Bool} {e : Ev D} {ι0 : List Addr}
theorem gx_turns (at1 : At (g.wx ex) H2 ι1 s σ δ) (x01 : Ext (g.wx ex) H0 ι0 H2 ι1) {H1 : Hp} (x12 : Ext (g.wx ex) H1 ι1 H2 ι1) (J1 : ItS (g.wx ex) J H1 ι1 ⟨ds, cn⟩) (hc : compL cn ds.length t c e (wipE δ vs) ds 0 s = .ok tot sF) :
    ∃ W, (∃ m, W 0 m [] H2) ∧ GTurns J (SemT g vs t) (SemB g E0 c) (SemE g E0 e) vs σ (YL (g.wx ex) tot) (DL (g.wx ex) H0 ι0 sF tot) W := by
  refine ⟨fun i m ys H => m = ds.length - i ∧ i ≤ ds.length ∧ ∃ ι st pre zs, Good (g.wx ex) ι st H ∧ Ext (g.wx ex) H2 ι1 H ι ∧ RDs (g.wx ex) (Fz H ((g.wx ex).x ι)) ι ys pre ∧ compL cn ds.length t c e (wipE δ vs) (ds.drop i) i st = .ok zs sF ∧ tot = pre ++ zs,
    ⟨ds.length, by simp, Nat.zero_le _, ι1, s, [], tot, at1.good, .refl _ _, .nil, hc, rfl⟩, ?_⟩
  rintro i m ys H ⟨rfl, hi, ι, st, pre, zs, G2, x2, r2, hc2, rfl⟩
  have e2 : Ex2 (g.wx ex) H1 ι1 [] H ι := (x12.trans x2).ex2
  by_cases hl : i < ds.length
  · rw [List.drop_eq_getElem_cons hl] at hc2
    simp only [compL] at hc2
    cases eg : getI cn ds.length st i ds[i] with
    | none => rw [eg] at hc2; cases hc2
    | some d =>
      rw [eg] at hc2
      simp only [] at hc2
      obtain ⟨q1, q2⟩ := J1.go (e := []) (List.getElem?_eq_getElem hl) G2 e2 eg
      refine .inr ⟨q1, fun x H' y => ?_⟩
      obtain ⟨G3, x3, r3⟩ := q2 x H' y
      cases et : t d (wipE δ vs) with
      | none => rw [et] at hc2; cases hc2
      | some δ1 =>
        rw [et] at hc2
        simp only [] at hc2
        refine ⟨ex, ι, st, wipE δ vs, d, ⟨G3, (at1.env.ext (x2.trans x3)).wipe vs⟩, r3, ?_⟩
        rw [et]
        intro σ2 e4 w4
        refine ⟨w4.trans (wipe_idem _ _), ?_⟩
        have at4 : At (g.wx ex) H' ι st σ2 δ1 := ⟨G3, e4⟩
        refine semB_bnd at4 ?_
        cases eb : c δ1 st with
        | bad => rw [eb] at hc2; cases hc2
        | exc c s => rw [eb] at hc2; cases hc2
        | ok k1 s1 =>
          rw [eb] at hc2
          intro H5 ι5 at5 x5
          have x25 : Ext (g.wx ex) H2 ι1 H5 ι5 := (x2.trans x3).trans x5
          have r5 := RDs.sub (Ext.trans x3 x5).keep x5.le r2
          cases k1 with
          | false =>
            simp only [if_false, Bool.false_eq_true]
            exact ⟨ds.length - (i + 1), by omega, rfl, hl, ι5, s1, pre, zs, at5.good, x25, r5, hc2, rfl⟩
          | true =>
            rw [if_pos rfl]
            simp only [] at hc2
            refine semE_bnd at5 ?_
            cases ee : e δ1 s1 with
            | bad => rw [ee] at hc2; cases hc2
            | exc c s => rw [ee] at hc2; cases hc2
            | ok y1 s2 =>
              rw [ee] at hc2
              simp only [] at hc2
              intro v H6 ι6 at6 x6 r6
              cases er : compL cn ds.length t c e (wipE δ vs) (ds.drop (i + 1)) (i + 1) s2 with
              | bad => rw [er] at hc2; cases hc2
              | exc c s => rw [er] at hc2; cases hc2
              | ok zs' s3 =>
                rw [er] at hc2
                cases hc2
                have r6' := RDs.sub x6.keep x6.le r5
                exact ⟨⟨ds.length - (i + 1), by omega, rfl, hl, ι6, s2, pre ++ [y1], zs', at6.good, x25.trans x6, pd_app r6' (.cons r6 .nil), er, by simp⟩, pre, y1, zs', _, ι6, rfl, r6', r6⟩
  · have ei : i = ds.length := by omega
    subst ei
    rw [List.drop_length] at hc2
    simp only [compL] at hc2
    split at hc2
    · rename_i he
      cases hc2
      rw [List.append_nil]
      exact .inl ⟨J1.stop (e := []) G2 e2 he, ι, G2, x01.trans x2, r2⟩
    · cases hc2
/-- the search of any (stop = true) and all (stop = false) -/
def anyL (stop : Bool) (cn : Option Nat) (len : Nat) (t : Tv) (c : Ev Bool) (e : Ev D) (δ0 : Env) : List D → Nat → Store → Res Bool
  | [], _, st => if endI cn len st = true then .ok false st else .bad
  | d0 :: ds, i, st => match getI cn len st i d0 with
    | some d => match t d δ0 with
      | some δ1 => match c δ1 st with
        | .ok true s => match e δ1 s with
          | .ok (.p (.bl b)) s2 => if b = stop then .ok true s2 else anyL stop cn len t c e δ0 ds (i + 1) s2
          | _ => .bad
        | .ok false s => anyL stop cn len t c e δ0 ds (i + 1) s
        | _ => .bad
      | none => .bad
    | none => .bad
def YA (g : GL) (H1 : Hp) (ι1 : List Addr) (stop : Bool) (sF : Store) (r : Bool) : YP := fun _ x H K => ∃ b, x = .bl b ∧ (b = stop → r = true ∧ ∃ ι', Good g ι' sF H ∧ Ext g H1 ι1 H ι') ∧ (b ≠ stop → K)
def DA (g : GL) (H1 : Hp) (ι1 : List Addr) (sF : Store) (r : Bool) : DP := fun _ H => r = false ∧ ∃ ι', Good g ι' sF H ∧ Ext g H1 ι1 H ι'
theorem ya_mono {stop r : Bool} : YMono (YA g H1 ι1 stop sF r) := fun ys x H K K' f ⟨b, a1, a2, a3⟩ => ⟨b, a1, a2, fun z => f (a3 z)⟩
theorem ga_turns {stop r : Bool} (at1 : At (g.wx ex) H2 ι1 s σ δ) (x01 : Ext (g.wx ex) H0 ι0 H2 ι1) {H1 : Hp} (x12 : Ext (g.wx ex) H1 ι1 H2 ι1) (J1 : ItS (g.wx ex) J H1 ι1 ⟨ds, cn⟩) (hc : anyL stop cn ds.length t c e (wipE δ vs) ds 0 s = .ok r sF) :
    ∃ W, (∃ m, W 0 m [] H2) ∧ GTurns J (SemT g vs t) (SemB g E0 c) (SemE g E0 e) vs σ (YA (g.wx ex) H0 ι0 stop sF r) (DA (g.wx ex) H0 ι0 sF r) W := by
  refine ⟨fun i m ys H => m = ds.length - i ∧ i ≤ ds.length ∧ ∃ ι st, Good (g.wx ex) ι st H ∧ Ext (g.wx ex) H2 ι1 H ι ∧ anyL stop cn ds.length t c e (wipE δ vs) (ds.drop i) i st = .ok r sF,
    ⟨ds.length, by simp, Nat.zero_le _, ι1, s, at1.good, .refl _ _, hc⟩, ?_⟩
  rintro i m ys H ⟨rfl, hi, ι, st, G2, x2, hc2⟩
  have e2 : Ex2 (g.wx ex) H1 ι1 [] H ι := (x12.trans x2).ex2
  by_cases hl : i < ds.length
  · rw [List.drop_eq_getElem_cons hl] at hc2
    simp only [anyL] at hc2
    cases eg : getI cn ds.length st i ds[i] with
    | none => rw [eg] at hc2; cases hc2
    | some d =>
      rw [eg] at hc2
      simp only [] at hc2
      obtain ⟨q1, q2⟩ := J1.go (e := []) (List.getElem?_eq_getElem hl) G2 e2 eg
      refine .inr ⟨q1, fun x H' y => ?_⟩
      obtain ⟨G3, x3, r3⟩ := q2 x H' y
      cases et : t d (wipE δ vs) with
      | none => rw [et] at hc2; cases hc2
      | some δ1 =>
        rw [et] at hc2
        simp only [] at hc2
        refine ⟨ex, ι, st, wipE δ vs, d, ⟨G3, (at1.env.ext (x2.trans x3)).wipe vs⟩, r3, ?_⟩
        rw [et]
        intro σ2 e4 w4
        refine ⟨w4.trans (wipe_idem _ _), ?_⟩
        have at4 : At (g.wx ex) H' ι st σ2 δ1 := ⟨G3, e4⟩
        refine semB_bnd at4 ?_
        cases eb : c δ1 st with
        | bad => rw [eb] at hc2; cases hc2
        | exc c s => rw [eb] at hc2; cases hc2
        | ok k1 s1 =>
          rw [eb] at hc2
          intro H5 ι5 at5 x5
          have x25 : Ext (g.wx ex) H2 ι1 H5 ι5 := (x2.trans x3).trans x5
          cases k1 with
          | false =>
            simp only [if_false, Bool.false_eq_true]
            exact ⟨ds.length - (i + 1), by omega, rfl, hl, ι5, s1, at5.good, x25, hc2⟩
          | true =>
            rw [if_pos rfl]
            simp only [] at hc2
            refine semE_bnd at5 ?_
            split at hc2
            · rename_i b s2 ee
              rw [ee]
              intro v H6 ι6 at6 x6 r6
              cases r6 with
              | p r6 =>
                cases r6
                refine ⟨b, rfl, fun z => ?_, fun z => ?_⟩
                · rw [if_pos z] at hc2
                  cases hc2
                  exact ⟨rfl, ι6, at6.good, x01.trans (x25.trans x6)⟩
                · rw [if_neg z] at hc2
                  exact ⟨ds.length - (i + 1), by omega, rfl, hl, ι6, s2, at6.good, x25.trans x6, hc2⟩
            · cases hc2
  · have ei : i = ds.length := by omega
    subst ei
    rw [List.drop_length] at hc2
    simp only [anyL] at hc2
    split at hc2
    · rename_i he
      cases hc2
      exact .inl ⟨J1.stop (e := []) G2 e2 he, rfl, ι, G2, x01.trans x2⟩
    · cases hc2
/-- what a context of generator expressions needs -/
structure GxOk (X : Cx) (g : GL) (k : Nat) : Prop where
  nd : X.N.Nodup
  calm : X.calm = true
  dot : (".0" : Str) ∉ X.N
  room : Room (k + 6) X.A
  blt : BltM X
  code : ∃ c P, X.env.code = .ref c ∧ P ∈ g.T ∧ PySem.W.CodeHd X.base c P
/-- what a block's parts compute, in the generator's context -/
structure GxB (X : Cx) (g : GL) (k : Nat) (elt tg iter : Expr) (ifs : List Expr) (scope : Scope) (own : List (Str × Nat)) (t : Tv) (c : Ev Bool) (e : Ev D) : Prop where
  blk : BlkOk X.N X.env.scope scope own
  /-- no coroutine -/ co : scope.isCoroutine = false
  h0 : scope.names.lookup (".0" : Str) = some NameKind.local
  hg : ∀ (A : Around) (s : Shared) (H : Hp) (cenv : PySem.Env) (fp : List Addr) (pn : List (Addr × Obj)), Room k A → cenv.scope = scope → PG (gCx X A s H cenv fp pn) tg (SemT g (own.map (·.2)) t)
  ht : ∀ (A : Around) (s : Shared) (H : Hp) (cenv : PySem.Env) (fp : List Addr) (pn : List (Addr × Obj)), Room k A → cenv.scope = scope → PTs (gCx X A s H cenv fp pn) ifs (SemB g E0 c)
  he : ∀ (A : Around) (s : Shared) (H : Hp) (cenv : PySem.Env) (fp : List Addr) (pn : List (Addr × Obj)), Room k A → cenv.scope = scope → PE (gCx X A s H cenv fp pn) elt (SemE g E0 e)
  hs : ∀ x, genFold iter X.env x = pure x

section
variable {X : Cx} {g : GL} {E : XK} {k : Nat} {pins : List (Addr × Obj)} {σ : L2.St} {H : Hp} {s : Shared} {elt tg iter : Expr} {ifs : List Expr} {scope : Scope} {own : List (Str × Nat)} {gpos : Pos} {t : Tv} {c : Ev Bool} {e : Ev D} {fi : Ev Its}
/-- the generator, made -/
theorem gx_list {ex ι : List Addr} {st sF : Store} {δ : Env} {tot : List D} {r : Its} {s1 : Store} (ok : GxOk X g k) (b : GxB X g k elt tg iter ifs scope own t c e) (hi : PI X tg iter (SemI g E fi)) (I : Inv X pins σ H s)
    (at_ : At (g.wx ex) H ι st σ δ) (ef : fi δ st = .ok r s1) (hc : compL r.cn r.ds.length t c e (wipE δ (own.map (·.2))) r.ds 0 s1 = .ok tot sF) :
    wpAny (model X.prog X.w) X.A (eval (.GeneratorExp elt [⟨tg, iter, ifs, 0⟩] scope gpos) X.env) (GxM X pins σ k (YL (g.wx ex) tot) (DL (g.wx ex) H ι sF tot)) X.xe s := by
  obtain ⟨cc, P, h1, h2, h3⟩ := ok.code
  refine pgx (P := P) (tt := fun _ => SemB g E0 c) (te := fun _ => SemE g E0 e) I ok.nd hi b.blk b.co b.h0 ok.dot ok.room.depth h1 ok.blt yl_mono b.hg b.ht b.he b.hs ?_
  refine semI_bnd at_ ?_
  rw [ef]
  intro J H1 ι1 at1 x1 J1
  refine ⟨(at1.good.tabs.t P h2).zero, .inl h3, fun cv H2 tb tx _ => ?_⟩
  obtain ⟨G2, x2⟩ := good_tb at1.good tb tx h2
  exact gx_turns (at1.ext x2 G2) (x1.trans x2) x2 J1 hc
theorem gx_any {ex ι : List Addr} {st sF : Store} {δ : Env} {stop rr : Bool} {r : Its} {s1 : Store} (ok : GxOk X g k) (b : GxB X g k elt tg iter ifs scope own t c e) (hi : PI X tg iter (SemI g E fi)) (I : Inv X pins σ H s)
    (at_ : At (g.wx ex) H ι st σ δ) (ef : fi δ st = .ok r s1) (hc : anyL stop r.cn r.ds.length t c e (wipE δ (own.map (·.2))) r.ds 0 s1 = .ok rr sF) :
    wpAny (model X.prog X.w) X.A (eval (.GeneratorExp elt [⟨tg, iter, ifs, 0⟩] scope gpos) X.env) (GxM X pins σ k (YA (g.wx ex) H ι stop sF rr) (DA (g.wx ex) H ι sF rr)) X.xe s := by
  obtain ⟨cc, P, h1, h2, h3⟩ := ok.code
  refine pgx (P := P) (tt := fun _ => SemB g E0 c) (te := fun _ => SemE g E0 e) I ok.nd hi b.blk b.co b.h0 ok.dot ok.room.depth h1 ok.blt ya_mono b.hg b.ht b.he b.hs ?_
  refine semI_bnd at_ ?_
  rw [ef]
  intro J H1 ι1 at1 x1 J1
  refine ⟨(at1.good.tabs.t P h2).zero, .inl h3, fun cv H2 tb tx _ => ?_⟩
  obtain ⟨G2, x2⟩ := good_tb at1.good tb tx h2
  exact ga_turns (at1.ext x2 G2) (x1.trans x2) x2 J1 hc
def vGenD (fi : Ev Its) (t : Tv) (c : Ev Bool) (e : Ev D) (vs : List Nat) (k : List D → Store → Res D) : Ev D := fun δ st => match fi δ st with
  | .ok r s => if r.ds.length ≤ szLine then match compL r.cn r.ds.length t c e (wipE δ vs) r.ds 0 s with
      | .ok ys s2 => k ys s2
      | _ => .bad
    else .bad
  | _ => .bad
def vAnyG (stop neg : Bool) (fi : Ev Its) (t : Tv) (c : Ev Bool) (e : Ev D) (vs : List Nat) : Ev D := fun δ st => match fi δ st with
  | .ok r s => match anyL stop r.cn r.ds.length t c e (wipE δ vs) r.ds 0 s with
      | .ok b s2 => .ok (.p (.bl (if neg = true then !b else b))) s2
      | _ => .bad
  | _ => .bad
def sumOk (ns : List Int) : Bool := ns.all fun i => decide (-1000000000000 ≤ i) && decide (i ≤ 1000000000000)
def kSum (ys : List D) (st : Store) : Res D := match pAll ys with
  | some xs => match allInt xs with
    | some ns => if ys.length ≤ szLine ∧ sumOk ns = true then .ok (.p (.int ns.sum)) st else .bad
    | none => .bad
  | none => .bad
def kTup (ys : List D) (st : Store) : Res D := match pAll ys with
  | some xs => if ys.length ≤ szLine then .ok (.p (.tup xs)) st else .bad
  | none => .bad
theorem compL_len {cn : Option Nat} {len : Nat} {t : Tv} {c : Ev Bool} {e : Ev D} {δ0 : Env} : ∀ {ds : List D} {i : Nat} {st sF : Store} {tot : List D}, compL cn len t c e δ0 ds i st = .ok tot sF → tot.length ≤ ds.length
  | [], i, st, sF, tot, h => by
    unfold compL at h
    split at h
    · cases h; exact Nat.le_refl _
    · cases h
  | d0 :: ds, i, st, sF, tot, h => by
    unfold compL at h
    repeat' split at h
    all_goals first
      | (cases h; done)
      | (rename_i hh; cases h; have := compL_len hh; simp only [List.length_cons]; omega)
      | (have := compL_len h; simp only [List.length_cons]; omega)
theorem sum_le : ∀ {ns : List Int}, sumOk ns = true → -((ns.length : Int) * 1000000000000) ≤ ns.sum ∧ ns.sum ≤ (ns.length : Int) * 1000000000000
  | [], _ => by simp
  | n :: ns, h => by
    unfold sumOk at h
    rw [List.all_cons, Bool.and_eq_true, Bool.and_eq_true, decide_eq_true_eq, decide_eq_true_eq] at h
    have ih := sum_le (ns := ns) h.2
    rw [List.length_cons, List.sum_cons]
    omega
end
section
variable {X : Cx} {g : GL} {E : XK} {k : Nat} {elt tg iter : Expr} {ifs : List Expr} {scope : Scope} {own : List (Str × Nat)} {gpos p cpos : Pos} {t : Tv} {c : Ev Bool} {e : Ev D} {fi : Ev Its}
theorem ints_pre {g : GL} {F : Hp} {ι : List Addr} : ∀ {pre : List D} {ys : List V} {xs : List P} {ns : List Int} {ms : List Int}, RDs g F ι ys pre → pAll pre = some xs → allInt xs = some ns → ys = ms.map V.int → ms = ns
  | pre, ys, xs, ns, ms, h, h1, h2, h3 => by
    have q := ints_of (rps_of h h1) h2
    rw [q] at h3
    have : ∀ {a b : List Int}, a.map V.int = b.map V.int → a = b := by
      intro a
      induction a with
      | nil => intro b z; cases b with
        | nil => rfl
        | cons _ _ => cases z
      | cons x a ih => intro b z; cases b with
        | nil => cases z
        | cons y b => simp only [List.map_cons, List.cons.injEq] at z; rw [ih z.2]; cases z.1; rfl
    exact (this h3).symm
theorem pAll_app : ∀ {a b : List D} {xs : List P}, pAll (a ++ b) = some xs → ∃ ys zs, pAll a = some ys ∧ pAll b = some zs ∧ xs = ys ++ zs
  | [], b, xs, h => ⟨[], xs, rfl, h, rfl⟩
  | .p x :: a, b, xs, h => by
    simp only [List.cons_append, pAll, Option.map_eq_some_iff] at h
    obtain ⟨ws, h1, rfl⟩ := h
    obtain ⟨ys, zs, h2, h3, rfl⟩ := pAll_app h1
    exact ⟨x :: ys, zs, by simp [pAll, h2], h3, rfl⟩
  | .ref _ :: a, b, xs, h => by cases h
theorem allInt_app : ∀ {a b : List P} {ns : List Int}, allInt (a ++ b) = some ns → ∃ ys zs, allInt a = some ys ∧ allInt b = some zs ∧ ns = ys ++ zs
  | [], b, xs, h => ⟨[], xs, rfl, h, rfl⟩
  | x :: a, b, ns, h => by
    cases x with
    | int i =>
      simp only [List.cons_append, allInt, Option.map_eq_some_iff] at h
      obtain ⟨ws, h1, rfl⟩ := h
      obtain ⟨ys, zs, h2, h3, rfl⟩ := allInt_app h1
      exact ⟨i :: ys, zs, by simp [allInt, h2], h3, rfl⟩
    | _ => cases h
theorem allInt_len : ∀ {a : List P} {ns : List Int}, allInt a = some ns → ns.length = a.length
  | [], _, h => by cases h; rfl
  | x :: a, ns, h => by
    cases x with
    | int i =>
      simp only [allInt, Option.map_eq_some_iff] at h
      obtain ⟨ws, h1, rfl⟩ := h
      simp [allInt_len h1]
    | _ => cases h
theorem sumOk_app {a b : List Int} (h : sumOk (a ++ b) = true) : sumOk a = true ∧ sumOk b = true := by
  unfold sumOk at h ⊢
  rw [List.all_append, Bool.and_eq_true] at h
  exact h
theorem se_sumG (ok : GxOk X g k) (b : GxB X g k elt tg iter ifs scope own t c e) (hi : PI X tg iter (SemI g E fi)) (hg : Gl X "sum") (hm : X.mg "sum" = none) (hv : bootBuiltins "sum" = some (.builtin "sum"))
    (he : starEach [.GeneratorExp elt [⟨tg, iter, ifs, 0⟩] scope gpos] X.env = (false, eval (.GeneratorExp elt [⟨tg, iter, ifs, 0⟩] scope gpos) X.env) :: starEach [] X.env := by rfl) :
    PE X (.Call (.Name "sum" p) [.GeneratorExp elt [⟨tg, iter, ifs, 0⟩] scope gpos] [] cpos) (SemE g E (vGenD fi t c e (own.map (·.2)) kSum)) := by
  refine ⟨fun pins s σ H Q I ⟨ex, ι, st, δ, at_, hh⟩ => ?_⟩
  unfold vGenD at hh
  split at hh
  · rename_i r s1 ef
    split at hh
    · split at hh
      · rename_i tot sF hc
        refine wpAny_Call_Name_kw (ld_blt I hg hm hv (PyProof.Rows.callWith_builtin1 ?_ he (by rfl)))
        rw [he]
        show wpAny _ _ (spliced ((false, eval (.GeneratorExp elt [⟨tg, iter, ifs, 0⟩] scope gpos) X.env) :: backTo cpos (starEach [] X.env))) _ _ s
        refine Calls.spliced_cons (thn (gx_list ok b hi I at_ ef hc) fun u s' G => Calls.spliced_nil ?_)
        unfold kSum at hh
        split at hh
        · rename_i xs hx
          split at hh
          · rename_i ns hn
            split at hh
            · rename_i hz
              refine GxM.sum G (ok.room.mono (by omega)) I.ok.frames (fun ys x H K hY => ?_) fun ms H s2 tk hD I2 => ?_
              · obtain ⟨hK, pre, d, rest, F, ι', rfl, r1, r2⟩ := hY
                obtain ⟨a1, a2, h1, h2, rfl⟩ := pAll_app hx
                cases d with
                | ref _ => cases h2
                | p y =>
                  simp only [pAll, Option.map_eq_some_iff] at h2
                  obtain ⟨a3, h3, rfl⟩ := h2
                  obtain ⟨n1, n2, h4, h5, rfl⟩ := allInt_app hn
                  cases y with
                  | int i =>
                    simp only [allInt, Option.map_eq_some_iff] at h5
                    obtain ⟨n3, h6, rfl⟩ := h5
                    refine ⟨i, by cases r2 with | p r2 => cases r2; rfl, fun ms hms => ?_, hK⟩
                    rw [ints_pre r1 h1 h4 hms]
                    obtain ⟨o1, o2⟩ := sumOk_app hz.2
                    have q := sum_le o1
                    have l1 := allInt_len h4
                    have l2 := pAll_len h1
                    have l3 : n1.length ≤ szLine := by
                      have := hz.1
                      rw [List.length_append] at this
                      omega
                    unfold sumOk at o2
                    rw [List.all_cons, Bool.and_eq_true, Bool.and_eq_true, decide_eq_true_eq, decide_eq_true_eq] at o2
                    unfold szLine at l3
                    unfold InLong
                    omega
                  | _ => cases h5
              · obtain ⟨ι', G', x', rr⟩ := hD
                rw [ints_pre rr hx hn rfl]
                exact ⟨.int _, H, I2, ⟨_, rfl⟩, hh _ H ι' G' x' (.p (.int _))⟩
            · exact hh.elim
          · exact hh.elim
        · exact hh.elim
      · exact hh.elim
    · exact hh.elim
  · exact hh.elim
theorem se_anyG (ok : GxOk X g k) (b : GxB X g k elt tg iter ifs scope own t c e) (hi : PI X tg iter (SemI g E fi)) (hg : Gl X "any") (hm : X.mg "any" = none) (hv : bootBuiltins "any" = some (.builtin "any"))
    (he : starEach [.GeneratorExp elt [⟨tg, iter, ifs, 0⟩] scope gpos] X.env = (false, eval (.GeneratorExp elt [⟨tg, iter, ifs, 0⟩] scope gpos) X.env) :: starEach [] X.env := by rfl) :
    PE X (.Call (.Name "any" p) [.GeneratorExp elt [⟨tg, iter, ifs, 0⟩] scope gpos] [] cpos) (SemE g E (vAnyG true false fi t c e (own.map (·.2)))) := by
  refine ⟨fun pins s σ H Q I ⟨ex, ι, st, δ, at_, hh⟩ => ?_⟩
  unfold vAnyG at hh
  split at hh
  · rename_i r s1 ef
    split at hh
    · rename_i rr sF hc
      refine wpAny_Call_Name_kw (ld_blt I hg hm hv (PyProof.Rows.callWith_builtin1 ?_ he (by rfl)))
      rw [he]
      show wpAny _ _ (spliced ((false, eval (.GeneratorExp elt [⟨tg, iter, ifs, 0⟩] scope gpos) X.env) :: backTo cpos (starEach [] X.env))) _ _ s
      refine Calls.spliced_cons (thn (gx_any ok b hi I at_ ef hc) fun u s' G => Calls.spliced_nil ?_)
      refine GxM.any G (ok.room.mono (by omega)) I.ok.frames (fun ys x H K hY => ?_) fun ys H s2 hD I2 => ?_
      · obtain ⟨b, rfl, h1, h2⟩ := hY
        refine ⟨b, rfl, fun z s2 I2 => ?_, fun z => h2 (by rw [z]; decide)⟩
        obtain ⟨rfl, ι', G', x'⟩ := h1 z
        exact ⟨.bl true, H, I2, rfl, hh _ H ι' G' x' (.p (.bl true))⟩
      · obtain ⟨rfl, ι', G', x'⟩ := hD
        exact ⟨.bl false, H, I2, rfl, hh _ H ι' G' x' (.p (.bl false))⟩
    · exact hh.elim
  · exact hh.elim
theorem se_allG (ok : GxOk X g k) (b : GxB X g k elt tg iter ifs scope own t c e) (hi : PI X tg iter (SemI g E fi)) (hg : Gl X "all") (hm : X.mg "all" = none) (hv : bootBuiltins "all" = some (.builtin "all"))
    (he : starEach [.GeneratorExp elt [⟨tg, iter, ifs, 0⟩] scope gpos] X.env = (false, eval (.GeneratorExp elt [⟨tg, iter, ifs, 0⟩] scope gpos) X.env) :: starEach [] X.env := by rfl) :
    PE X (.Call (.Name "all" p) [.GeneratorExp elt [⟨tg, iter, ifs, 0⟩] scope gpos] [] cpos) (SemE g E (vAnyG false true fi t c e (own.map (·.2)))) := by
  refine ⟨fun pins s σ H Q I ⟨ex, ι, st, δ, at_, hh⟩ => ?_⟩
  unfold vAnyG at hh
  split at hh
  · rename_i r s1 ef
    split at hh
    · rename_i rr sF hc
      refine wpAny_Call_Name_kw (ld_blt I hg hm hv (PyProof.Rows.callWith_builtin1 ?_ he (by rfl)))
      rw [he]
      show wpAny _ _ (spliced ((false, eval (.GeneratorExp elt [⟨tg, iter, ifs, 0⟩] scope gpos) X.env) :: backTo cpos (starEach [] X.env))) _ _ s
      refine Calls.spliced_cons (thn (gx_any ok b hi I at_ ef hc) fun u s' G => Calls.spliced_nil ?_)
      refine GxM.all G (ok.room.mono (by omega)) I.ok.frames (fun ys x H K hY => ?_) fun ys H s2 hD I2 => ?_
      · obtain ⟨b, rfl, h1, h2⟩ := hY
        refine ⟨b, rfl, fun z s2 I2 => ?_, fun z => h2 (by rw [z]; decide)⟩
        obtain ⟨rfl, ι', G', x'⟩ := h1 z
        exact ⟨.bl false, H, I2, rfl, hh _ H ι' G' x' (.p (.bl false))⟩
      · obtain ⟨rfl, ι', G', x'⟩ := hD
        exact ⟨.bl true, H, I2, rfl, hh _ H ι' G' x' (.p (.bl true))⟩
    · exact hh.elim
  · exact hh.elim
theorem se_tupG (ok : GxOk X g k) (b : GxB X g k elt tg iter ifs scope own t c e) (hi : PI X tg iter (SemI g E fi)) (hg : Gl X "tuple") (hm : X.mg "tuple" = none) (hv : bootBuiltins "tuple" = some (.type "tuple"))
    (he : starEach [.GeneratorExp elt [⟨tg, iter, ifs, 0⟩] scope gpos] X.env = (false, eval (.GeneratorExp elt [⟨tg, iter, ifs, 0⟩] scope gpos) X.env) :: starEach [] X.env := by rfl) :
    PE X (.Call (.Name "tuple" p) [.GeneratorExp elt [⟨tg, iter, ifs, 0⟩] scope gpos] [] cpos) (SemE g E (vGenD fi t c e (own.map (·.2)) kTup)) := by
  refine ⟨fun pins s σ H Q I ⟨ex, ι, st, δ, at_, hh⟩ => ?_⟩
  unfold vGenD at hh
  split at hh
  · rename_i r s1 ef
    split at hh
    · split at hh
      · rename_i tot sF hc
        refine wpAny_Call_Name_kw (ld_blt I hg hm hv (PyProof.Rows.callWith_type1 ?_ he (by rfl)))
        rw [he]
        show wpAny _ _ (spliced ((false, eval (.GeneratorExp elt [⟨tg, iter, ifs, 0⟩] scope gpos) X.env) :: backTo cpos (starEach [] X.env))) _ _ s
        refine Calls.spliced_cons (thn (gx_list ok b hi I at_ ef hc) fun u s' G => Calls.spliced_nil ?_)
        unfold kTup at hh
        split at hh
        · rename_i xs hx
          split at hh
          · rename_i hz
            refine GxM.tuple G (ok.room.mono (by omega)) I.ok.frames (fun ys x H K hY => ?_) (fun ys H s2 q hD hq I2 => ?_) fun ys H hD => ?_
            · obtain ⟨hK, pre, d, rest, F, ι', rfl, r1, r2⟩ := hY
              refine ⟨Nat.lt_of_lt_of_le ?_ szLine_le, hK⟩
              rw [Paired.length r1]
              rw [List.length_append, List.length_cons] at hz
              omega
            · obtain ⟨ι', G', x', rr⟩ := hD
              refine ⟨.ref q, _, I2, rfl, ?_⟩
              have := new_data (Q := Q) G' hq (fun v H2 ι2 g2 x2 r2 => hh v H2 ι2 g2 (x'.trans x2) r2) rfl (o := .tup ys) fun F' s' e => .tup (.inl (.inl e)) (Rps.sub s' (rps_of rr hx))
              exact this
            · obtain ⟨ι', G', x', rr⟩ := hD
              rw [Paired.length rr]
              exact Nat.le_trans hz szLine_le
          · exact hh.elim
        · exact hh.elim
      · exact hh.elim
    · exact hh.elim
  · exact hh.elim
end
end
end Iv
end

section
set_option Elab.async false
set_option linter.all false
set_option maxRecDepth 100000
set_option maxHeartbeats 4100000
namespace Iv
open PySem PySem.Spec PyProof.Rows L2 Gx

/-! ### own functions -/
def wfD (m : Nat) : D → Bool
  | .p _ => true
  | .ref n => decide (n < m)
def wfC (m : Nat) : Cell → Bool
  | .lst ds => ds.all (wfD m)
  | .dK ds => ds.all fun x => wfD m x.2
  | .dT ds => ds.all fun x => wfD m x.2
  | .obj _ ds => ds.all fun x => wfD m x.2
/-- a call is done: its own cells are closed -/
def retF (m : Nat) (d : D) (s : Store) : Res D :=
  if s.length = m then .ok d s else
  if (s.take m).all (wfC m) = true then match d with
    | .p x => .ok (.p x) (s.take m)
    | .ref n => if n < m then .ok (.ref n) (s.take m) else match see s (.ref n) with
      | some x => .ok (.p x) (s.take m)
      | none => .bad
  else .bad
def excF (m : Nat) (c : Nat) (s : Store) : Res D :=
  if s.length = m then .exc c s else if (s.take m).all (wfC m) = true then .exc c (s.take m) else .bad
def startE (n : Nat) (ds : List D) : Env := ds.map some ++ List.replicate (n - ds.length) none
/-- what a def's body computes; keep: its cells stay open -/
def fnF (keep : Bool) (n k : Nat) (b : Sv) : F1 := fun ds st => if ds.length = k then match b (startE n ds) st with
    | .nx _ s => if keep = true then .ok (.p .non) s else retF st.length (.p .non) s
    | .rt d s => if keep = true then .ok d s else retF st.length d s
    | .exc c s => if keep = true then .exc c s else excF st.length c s
    | _ => .bad
  else .bad
/-- the promise -/
def SpF (g : GL) (k : Nat) (f : F1) : Sp := fun vs H Q E => vs.length = k ∧ ∃ ex ι st ds, Good (g.wx ex) ι st H ∧ RDs (g.wx ex) (Fz H ((g.wx ex).x ι)) ι vs ds ∧ Post (g.wx ex) H ι E (f ds st) Q
section
variable {g : GL} {ι ι' : List Addr} {st s : Store} {H H' : Hp} {E : XK} {Q : VK}
theorem pd_take {α β : Type} {R : α → β → Prop} : ∀ {xs : List α} {ys : List β} (n : Nat), Paired R xs ys → Paired R (xs.take n) (ys.take n)
  | _, _, 0, _ => by simpa using .nil
  | _, _, n + 1, .nil => .nil
  | _, _, n + 1, .cons r t => .cons r (pd_take n t)
theorem le_take (l : Le ι ι') : ι'.take ι.length = ι := by
  obtain ⟨ν, rfl⟩ := l
  simp
theorem rd_down {F F' : Hp} (sub : Sub F F') (l : Le ι ι') {v : V} {d : D} (r : RD g F ι' v d) (w : wfD ι.length d = true) : RD g F' ι v d := by
  cases r with
  | p r => exact .p (r.sub sub)
  | ref h =>
    simp only [wfD, decide_eq_true_eq] at w
    obtain ⟨ν, rfl⟩ := l
    rw [List.getElem?_append_left w] at h
    exact .ref h
theorem rc_down {F F' : Hp} (sub : Sub F F') (l : Le ι ι') {o : HO} {c : Cell} (r : RC g F ι' o c) (w : wfC ι.length c = true) : RC g F' ι o c := by
  cases r with
  | lst h =>
    simp only [wfC, List.all_eq_true] at w
    refine .lst ?_
    induction h with
    | nil => exact .nil
    | cons r t ih => exact .cons (rd_down sub l r (w _ List.mem_cons_self)) (ih fun d hd => w d (List.mem_cons_of_mem _ hd))
  | dK h =>
    simp only [wfC, List.all_eq_true] at w
    refine .dK ?_
    induction h with
    | nil => exact .nil
    | cons r t ih => exact .cons ⟨r.1, rd_down sub l r.2 (w _ List.mem_cons_self)⟩ (ih fun d hd => w d (List.mem_cons_of_mem _ hd))
  | dT h =>
    simp only [wfC, List.all_eq_true] at w
    refine .dT ?_
    induction h with
    | nil => exact .nil
    | cons r t ih => exact .cons ⟨r.1, rd_down sub l r.2 (w _ List.mem_cons_self)⟩ (ih fun d hd => w d (List.mem_cons_of_mem _ hd))
  | obj h =>
    simp only [wfC, List.all_eq_true] at w
    refine .obj ?_
    induction h with
    | nil => exact .nil
    | cons r t ih => exact .cons ⟨r.1, rd_down sub l r.2 (w _ List.mem_cons_self)⟩ (ih fun d hd => w d (List.mem_cons_of_mem _ hd))
/-- the cells above are closed -/
theorem good_drop (G : Good g ι' s H') (l : Le ι ι') (w : (s.take ι.length).all (wfC ι.length) = true) : Good g ι (s.take ι.length) H' ∧ Sub (Fz H' (g.x ι')) (Fz H' (g.x ι)) := by
  have sub : Sub (Fz H' (g.x ι')) (Fz H' (g.x ι)) := fun b u e => by
    obtain ⟨h1, w, h2, h3⟩ := Fz.at e
    refine Fz.mk (fun m => h1 ?_) h2 h3
    obtain ⟨ν, rfl⟩ := l
    rcases List.mem_append.mp m with m | m
    · exact GL.in2 m
    · exact GL.in1 (List.mem_append_left _ m)
  have hc := pd_take ι.length G.cells
  rw [le_take l] at hc
  refine ⟨⟨?_, ?_, G.tabs, G.exs, fun b hb m => ?_⟩, sub⟩
  · obtain ⟨ν, rfl⟩ := l
    exact (List.nodup_append.mp G.nd).1
  · rw [List.all_eq_true] at w
    have : ∀ {l' : List Addr} {t : List Cell}, Paired (fun a c => ∃ o, H' a = some o ∧ RC g (Fz H' (g.x ι')) ι' o c) l' t → (∀ c ∈ t, wfC ι.length c = true) → Paired (fun a c => ∃ o, H' a = some o ∧ RC g (Fz H' (g.x ι)) ι o c) l' t := by
      intro l' t h
      induction h with
      | nil => intro _; exact .nil
      | cons r t ih =>
        intro hw
        obtain ⟨o, h1, h2⟩ := r
        exact .cons ⟨o, h1, rc_down sub l h2 (hw _ List.mem_cons_self)⟩ (ih fun c hc => hw c (List.mem_cons_of_mem _ hc))
    exact this hc w
  · obtain ⟨ν, rfl⟩ := l
    exact G.dis b hb (List.mem_append_left _ m)
theorem ext_down (x : Ext g H ι H' ι') (sub : Sub (Fz H' (g.x ι')) (Fz H' (g.x ι))) : Ext g H ι H' ι := ⟨.refl ι, x.keep.trans sub, x.same⟩
theorem le_eq (l : Le ι ι') (h : ι'.length = ι.length) : ι' = ι := by
  obtain ⟨ν, rfl⟩ := l
  rw [List.length_append] at h
  have : ν = [] := List.eq_nil_of_length_eq_zero (by omega)
  rw [this, List.append_nil]
theorem ret_ok {v : V} {d d' : D} {s' : Store} (G0 : Good g ι st H) (G : Good g ι' s H') (x : Ext g H ι H' ι') (r : RD g (Fz H' (g.x ι')) ι' v d) (e : retF st.length d s = .ok d' s') : ∃ ι'', Good g ι'' s' H' ∧ Ext g H ι H' ι'' ∧ RD g (Fz H' (g.x ι'')) ι'' v d' := by
  rw [← G0.len] at e
  unfold retF at e
  split at e
  · cases e; exact ⟨ι', G, x, r⟩
  · split at e
    · rename_i w
      obtain ⟨G', sub⟩ := good_drop G x.le w
      have x' := ext_down x sub
      split at e
      · cases e
        cases r with
        | p r => exact ⟨ι, G', x', .p (r.sub sub)⟩
      · split at e
        · rename_i hn
          cases e
          exact ⟨ι, G', x', rd_down sub x.le r (by simpa [wfD] using hn)⟩
        · rename_i hn
          split at e
          · rename_i y hs
            cases e
            cases r with
            | ref h =>
              rename_i n a
              obtain ⟨c, u, h1, h2, rc⟩ := G.cell' h
              have na : a ∉ g.x ι := fun m => by
                rcases List.mem_append.mp m with m | m
                · exact G.dis a m (List.mem_of_getElem? h)
                · obtain ⟨ν, e'⟩ := x.le
                  have nd := G.nd
                  subst e'
                  rw [List.getElem?_append_right (by omega)] at h
                  exact (List.nodup_append.mp nd).2.2 a m a (List.mem_of_getElem? h) rfl
              simp only [Iv.see, h1] at hs
              refine ⟨ι, G', x', .p ?_⟩
              cases rc with
              | lst q =>
                simp only [seeC, Option.map_eq_some_iff] at hs
                obtain ⟨ys, e1, rfl⟩ := hs
                exact .lst (Fz.mk na h2 rfl) ((rps_of q e1).sub sub)
              | dK q =>
                simp only [seeC, Option.map_eq_some_iff] at hs
                obtain ⟨ys, e1, rfl⟩ := hs
                exact .dK (Fz.mk na h2 rfl) ((rpk_of q e1).sub sub)
              | dT q =>
                simp only [seeC, Option.map_eq_some_iff] at hs
                obtain ⟨ys, e1, rfl⟩ := hs
                exact .dT (Fz.mk na h2 rfl) ((rpt_of q e1).sub sub)
              | obj q =>
                simp only [seeC, Option.map_eq_some_iff] at hs
                obtain ⟨ys, e1, rfl⟩ := hs
                exact .obj (Fz.mk na h2 rfl) ((rpf_of q e1).sub sub)
          · cases e
    · cases e
theorem retF_x {m : Nat} {d : D} {s : Store} {c : Nat} {s' : Store} : retF m d s ≠ .exc c s' := by
  intro e; unfold retF at e; repeat' split at e
  all_goals cases e
theorem ret_post {v : V} {d : D} (G0 : Good g ι st H) (G : Good g ι' s H') (x : Ext g H ι H' ι') (r : RD g (Fz H' (g.x ι')) ι' v d) (h : Post g H ι E (retF st.length d s) Q) : Q v H' := by
  cases e : retF st.length d s with
  | bad => rw [e] at h; exact h.elim
  | exc c s' => exact (retF_x e).elim
  | ok d' s' =>
    rw [e] at h
    obtain ⟨ι'', G', x', r'⟩ := ret_ok G0 G x r e
    exact h v H' ι'' G' x' r'
theorem exc_post {c : Nat} (G0 : Good g ι st H) (h : Post g H ι E (excF st.length c s) Q) : PostX g H ι c s E := by
  intro H' ι' G x
  rw [← G0.len] at h
  unfold excF at h
  split at h
  · exact h H' ι' G x
  · split at h
    · rename_i w
      obtain ⟨G', sub⟩ := good_drop G x.le w
      exact h H' ι G' (ext_down x sub)
    · exact h.elim
theorem re_start {F : Hp} {N : List Str} {vs : List V} {ds : List D} (r : RDs g F ι vs ds) : RE g F ι (L2.start N vs) (startE N.length ds) := by
  unfold L2.start startE
  have hl := Paired.length r
  refine ⟨by simp [hl], fun i d h => ?_⟩
  by_cases hi : i < ds.length
  · rw [List.getElem?_append_left (by simpa using hi), List.getElem?_map, Option.map_eq_some_iff] at h
    obtain ⟨d', h1, h2⟩ := h
    cases h2
    obtain ⟨v, h3, h4⟩ := pd_get' r h1
    exact ⟨v, by rw [List.getElem?_append_left (by simpa [hl] using hi), List.getElem?_map, h3]; rfl, h4⟩
  · rw [List.getElem?_append_right (by simpa using Nat.le_of_not_lt hi)] at h
    rw [List.getElem?_replicate] at h
    split at h <;> cases h
/-- the body's reading, from the promise -/
theorem fn_body {keep : Bool} {N : List Str} {k : Nat} {b : Sv} {vs : List V} (h : SpF g k (fnF keep N.length k b) vs H Q E) : SemS g E b { nx := fun _ H' => Q .non H', rt := Q } (L2.start N vs) H := by
  obtain ⟨hl, ex, ι, st, ds, G, r, h⟩ := h
  refine ⟨ex, ι, st, startE N.length ds, ⟨G, re_start r⟩, ?_⟩
  unfold fnF at h
  split at h
  · cases e : b (startE N.length ds) st with
    | nx δ s =>
      rw [e] at h
      intro σ H' ι' G' x' e'
      cases keep with
      | true => exact h .non H' ι' G' x' (.p .non)
      | false => exact ret_post G G' x' (.p .non) h
    | rt d s =>
      rw [e] at h
      intro v H' ι' G' x' r'
      cases keep with
      | true => exact h v H' ι' G' x' r'
      | false => exact ret_post G G' x' r' h
    | exc c s =>
      rw [e] at h
      cases keep with
      | true => exact h
      | false => exact exc_post G h
    | _ => rw [e] at h; exact h.elim
  · exact h.elim
end

/-! ### calls, raise -/
section
variable {X : Cx} {g : GL} {E : XK} {pos : Pos} {e : Expr} {es : List Expr}
def vFn (f : F1) (fa : Ev (List D)) (dds : List D) : Ev D := fun δ st => (fa δ st).bnd fun ds s => f (ds ++ dds) s
theorem vK_rd {F : Hp} {ι : List Addr} : RDs g F ι [] [] := .nil
/-- defaults: data that asks nothing of the heap -/
inductive RdC : V → D → Prop
  | non : RdC .non (.p .non)
  | bl (b : Bool) : RdC (.bl b) (.p (.bl b))
  | int (i : Int) : RdC (.int i) (.p (.int i))
  | str (x : Str) : RdC (.str x) (.p (.str x))
theorem RdC.rd {F : Hp} {ι : List Addr} {v : V} {d : D} (h : RdC v d) : RD g F ι v d := by
  cases h with
  | non => exact .p .non
  | bl b => exact .p (.bl b)
  | int i => exact .p (.int i)
  | str x => exact .p (.str x)
theorem rdc_all {F : Hp} {ι : List Addr} {vs : List V} {ds : List D} (h : Paired RdC vs ds) : RDs g F ι vs ds := Paired.mapP h fun _ _ r => r.rd
theorem tCall_of {k : Nat} {f : F1} {fa : Ev (List D)} {dvs : List V} {dds : List D} (hd : Paired RdC dvs dds) (hk : ∀ ds st, ds.length ≠ k → f ds st = .bad) : ∀ σ H Q, SemE g E (vFn f fa dds) σ H Q → tCall (SpF g k f) dvs E (SemA g E fa) σ H Q := by
  rintro σ H Q ⟨ex, ι, st, δ, at_, h⟩
  refine semA_bnd at_ ?_
  unfold vFn at h
  cases ea : fa δ st with
  | bad => rw [ea] at h; exact h
  | exc c s1 => rw [ea] at h; exact h
  | ok ds s1 =>
    rw [ea] at h
    intro vs H1 ι1 at1 x1 r1
    have h := Post.ext x1 h
    simp only [Res.bnd] at h
    have rr := pd_app r1 (rdc_all (g := g.wx ex) hd)
    refine ⟨?_, ex, ι1, s1, ds ++ dds, at1.good, rr, h⟩
    rw [Paired.length rr]
    apply Classical.byContradiction
    intro z
    rw [hk _ _ z] at h
    exact h
theorem fnF_len {keep : Bool} {n k : Nat} {b : Sv} : ∀ ds st, ds.length ≠ k → fnF keep n k b ds st = .bad := fun ds st h => if_neg h
theorem se_call {CX : CXT} {k n : Nat} {fa : Ev (List D)} {f : Addr} {fd : FuncData} {ps : List Str} {x : Str} {p : Pos} {ff : F1} {dvs : List V} {ds : List Value} {dds : List D} (F : FnOk X.prog X.w X.K X.mg X.base CX n f fd ps (SpF g k ff)) (hlen : ∀ ds st, ds.length ≠ k → ff ds st = .bad) (hr : Room n X.A) (hg : Gl X x) (hm : X.mg x = some (.ref f)) (hk : PySem.W.keepIn X.K (.ref f) = true) (hb : Binds X.K fd ps ds) (hd : Vals dvs ds) (hdd : Paired RdC dvs dds) (hx : Passes CX X E)
    (ha : PA X (e :: es) (SemA g E fa)) (hdb : (x == ("__debug__" : Str)) = false := by decide) (he : starEach (e :: es) X.env = (false, eval e X.env) :: starEach es X.env := by rfl) (hpl : (backTo pos (starEach es X.env)).any (·.1) = false := by rfl) :
    PE X (.Call (.Name x p) (e :: es) [] pos) (SemE g E (vFn ff fa dds)) := pe_mono (pe_call F hr hg hm hk hb hd hx ha hdb he hpl) (tCall_of hdd hlen)
def sRaise (c : Nat) : Sv := fun _ st => .exc c st
theorem ss_raise {c : Nat} {x m : Str} {j : Nat} {p p2 p3 : Pos} {C : Addr} (hc : X.calm = true) (tk : Takes X (fun cls d _ H => E cls d H)) (hC : g.CT c = C) (hmk : PMk X (.Call (.Name x p) [.Constant (.str m) j p2] [] p3) (fun _ H Q => Q (.ref C) none H)) : PS X (.Raise (some (.Call (.Name x p) [.Constant (.str m) j p2] [] p3)) none pos) (SemS g E (sRaise c)) := by
  subst hC
  exact ps_mono (ps_raise hc tk hmk) fun D σ H ⟨ex, ι, st, δ, at_, h⟩ => h H ι at_.good (.refl _ _)
def vBad {α : Type} : Ev α := fun _ _ => .bad
def sBad : Sv := fun _ _ => .bad
theorem se_bad : PE X e (SemE g E vBad) := ⟨fun pins s σ H Q I ⟨ex, ι, st, δ, at_, h⟩ => h.elim⟩
theorem ss_bad {s : Stmt} : PS X s (SemS g E sBad) := ⟨fun pins s σ H D I ⟨ex, ι, st, δ, at_, h⟩ => h.elim⟩
theorem sss_bad {s : List Stmt} : PSs X s (SemS g E sBad) := ⟨fun pins s σ H D I ⟨ex, ι, st, δ, at_, h⟩ => h.elim⟩
/-- no exception leaves -/
theorem passE0 {P : Program} {w : World} (hp : X.prog = P) (hw : X.w = w) : Passes (L2.CX P w) X C8.E0 := by
  subst hp hw
  exact passes_call takes0 fun _ _ _ _ h => h
end
end Iv
end

section
set_option Elab.async false
set_option linter.all false
set_option maxRecDepth 100000
set_option maxHeartbeats 4100000
namespace Iv
open PySem PySem.Spec PyProof.Rows L2 Gx

/-! ### short names -/
section
variable {X : Cx} {g : GL} {E : XK} {pos : Pos} {a b c e : Expr} {fa fb fc : Ev D}
theorem sv (i : Nat) {x : Str} (hN : X.N[i]? = some x := by rfl) (hv : Vis X.env.scope x := by first | exact Or.inl rfl | exact Or.inr (Or.inl rfl) | exact Or.inr (Or.inr rfl)) (hd : (x == ("__debug__" : Str)) = false := by decide)
    (hcd : (x == ("__classdict__" : Str)) = false := by decide) : PE X (.Name x pos) (SemE g E (vV i)) := se_var hN hv hd hcd
theorem sgint {x : Str} {i : Int} (hg : Gl X x) (h : ∃ t, X.mg x = some (.int i t)) (hd : (x == ("__debug__" : Str)) = false := by decide) : PE X (.Name x pos) (SemE g E (vK (.int i))) := by
  obtain ⟨t, h⟩ := h
  exact se_const (pe_glob (v := V.int i) hg h ⟨t, rfl⟩ hd) fun _ _ => .int i
theorem sgstr {x z : Str} (hg : Gl X x) (h : ∃ t, X.mg x = some (.str z t)) (hd : (x == ("__debug__" : Str)) = false := by decide) : PE X (.Name x pos) (SemE g E (vK (.str z))) := by
  obtain ⟨t, h⟩ := h
  exact se_const (pe_glob (v := V.str z) hg h ⟨t, rfl⟩ hd) fun _ _ => .str z
theorem sAddE (k : CxK X g) (ha : PE X a (SemE g E fa)) (hb : PE X b (SemE g E fb)) : PE X (.BinOp a .Add b pos) (SemE g E (v2 oAdd fa fb)) := se_op (or_add k) (opSem_of noX_add) ha hb
theorem sSubE (ha : PE X a (SemE g E fa)) (hb : PE X b (SemE g E fb)) : PE X (.BinOp a .Sub b pos) (SemE g E (v2 oSub fa fb)) := se_op or_sub (opSem_of noX_sub) ha hb
theorem sMulE (k : CxK X g) (ha : PE X a (SemE g E fa)) (hb : PE X b (SemE g E fb)) : PE X (.BinOp a .Mult b pos) (SemE g E (v2 oMul fa fb)) := se_op (or_mul k) (opSem_of noX_mul) ha hb
theorem sDivE (ha : PE X a (SemE g E fa)) (hb : PE X b (SemE g E fb)) : PE X (.BinOp a .FloorDiv b pos) (SemE g E (v2 oDiv fa fb)) := se_op or_div (opSem_of noX_div) ha hb
theorem sModE (ha : PE X a (SemE g E fa)) (hb : PE X b (SemE g E fb)) : PE X (.BinOp a .Mod b pos) (SemE g E (v2 oMod fa fb)) := se_op or_mod (opSem_of noX_mod) ha hb
theorem sPowE (ha : PE X a (SemE g E fa)) (hb : PE X b (SemE g E fb)) : PE X (.BinOp a .Pow b pos) (SemE g E (v2 oPow fa fb)) := se_op or_pow (opSem_of noX_pow) ha hb
/-- which comparison is which function -/
def cmpF : CmpOp → Option (D → D → Store → Res D)
  | .Lt => some (oOrd .lt) | .LtE => some (oOrd .le) | .Gt => some (oOrd .gt) | .GtE => some (oOrd .ge) | .Eq => some (oEq false) | .NotEq => some (oEq true) | .Is => some (oIs false) | .IsNot => some (oIs true)
  | _ => none
theorem cmp_or {op : CmpOp} {f : D → D → Store → Res D} (k : CxK X g) (h : cmpF op = some f) : OpR X (compareOp op) (rSem g f) ∧ NoX f := by
  cases op <;> first
    | (cases h; done)
    | (cases h; exact ⟨or_lt k, noX_ord⟩)
    | (cases h; exact ⟨or_le k, noX_ord⟩)
    | (cases h; exact ⟨or_gt k, noX_ord⟩)
    | (cases h; exact ⟨or_ge k, noX_ord⟩)
    | (cases h; exact ⟨or_eq k, noX_eq⟩)
    | (cases h; exact ⟨or_ne k, noX_eq⟩)
    | (cases h; exact ⟨or_is, noX_is⟩)
    | (cases h; exact ⟨or_isnot, noX_is⟩)
theorem scmp {op : CmpOp} {f : D → D → Store → Res D} (k : CxK X g) (ha : PE X a (SemE g E fa)) (hb : PE X b (SemE g E fb)) (h : cmpF op = some f := by rfl) (hm : behindInMarks op b = false := by exact nomark _) : PE X (.Compare a [op] [b] pos) (SemE g E (v2 f fa fb)) := se_cmp (cmp_or k h).1 (opSem_of (cmp_or k h).2) ha hb hm
theorem tcmp {op : CmpOp} {f : D → D → Store → Res D} (k : CxK X g) (ha : PE X a (SemE g E fa)) (hb : PE X b (SemE g E fb)) (h : cmpF op = some f := by rfl) (hm : behindInMarks op b = false := by exact nomark _) : PT X (.Compare a [op] [b] pos) (SemB g E (tstB (v2 f fa fb))) := st_cmp (cmp_or k h).1 (opSem_of (cmp_or k h).2) ha hb hm
theorem schn {op op' : CmpOp} {f f' : D → D → Store → Res D} (k : CxK X g) (ha : PE X a (SemE g E fa)) (hb : PE X b (SemE g E fb)) (hc : PE X c (SemE g E fc)) (h : cmpF op = some f := by rfl) (h' : cmpF op' = some f' := by rfl)
    (hm : lastMarks [op, op'] [b, c] = false := by with_unfolding_all rfl) : PE X (.Compare a [op, op'] [b, c] pos) (SemE g E (vCh f f' fa fb fc)) := se_chain (cmp_or k h).1 (cmp_or k h').1 (opSem_of (cmp_or k h).2) (opSem_of (cmp_or k h').2) ha hb hc hm
theorem tchn {op op' : CmpOp} {f f' : D → D → Store → Res D} (k : CxK X g) (ha : PE X a (SemE g E fa)) (hb : PE X b (SemE g E fb)) (hc : PE X c (SemE g E fc)) (h : cmpF op = some f := by rfl) (h' : cmpF op' = some f' := by rfl)
    (hm : lastMarks [op, op'] [b, c] = false := by with_unfolding_all rfl) : PT X (.Compare a [op, op'] [b, c] pos) (SemB g E (tstB (vCh f f' fa fb fc))) := st_chain (cmp_or k h).1 (cmp_or k h').1 (opSem_of (cmp_or k h).2) (opSem_of (cmp_or k h').2) ha hb hc hm
/-- a context's facts -/
theorem kx_of {n : Nat} (hK : X.K = g.K) (hr : Room n X.A) : CxK X g := ⟨hK, by have := hr.un; omega⟩
end

/-! ### functions by their facts -/
structure Cal2 (P : Program) (w : World) (K : PySem.W.Frag) (mg : Str → Option Value) (base : Heap) (g : GL) (n : Nat) (x : Str) (k : Nat) (ff : F1) (dds : List D) : Prop where
  ex : ∃ (f : Addr) (fd : FuncData) (ps : List Str) (ds : List Value) (dvs : List V), FnOk P w K mg base (L2.CX P w) n f fd ps (SpF g k ff) ∧ mg x = some (.ref f) ∧ PySem.W.keepIn K (.ref f) = true ∧ Binds K fd ps ds ∧ Vals dvs ds ∧ Paired RdC dvs dds
  len : ∀ ds st, ds.length ≠ k → ff ds st = .bad
theorem scall {X : Cx} {g : GL} {E : XK} {pos p : Pos} {e : Expr} {es : List Expr} {n j k : Nat} {x : Str} {ff : F1} {dds : List D} {fa : Ev (List D)} (c : Cal2 X.prog X.w X.K X.mg X.base g n x k ff dds) (hr : Room j X.A) (hn : n ≤ j) (hg : Gl X x) (hx : Passes (L2.CX X.prog X.w) X E)
    (ha : PA X (e :: es) (SemA g E fa)) (hdb : (x == ("__debug__" : Str)) = false := by decide) (he : starEach (e :: es) X.env = (false, eval e X.env) :: starEach es X.env := by rfl) (hpl : (backTo pos (starEach es X.env)).any (·.1) = false := by rfl) :
    PE X (.Call (.Name x p) (e :: es) [] pos) (SemE g E (vFn ff fa dds)) := by
  obtain ⟨f, fd, ps, ds, dvs, F, hm, hk, hb, hd, hdd⟩ := c.ex
  exact se_call F c.len (hr.mono hn) hg hm hk hb hd hdd hx ha hdb he hpl
/-- the rule of a def -/
theorem fn_ok {P : Program} {w : World} {K : PySem.W.Frag} {mg : Str → Option Value} {base : Heap} {g : GL} {x qual : Str} {params : Arguments} {body : List Stmt} {scope : Scope} {dvs : List V} {kws : List (Str × V)} {p : He.Defn} {fd : FuncData} {N ps : List Str} {k : Nat} (keep : Bool) {b : Sv} (F : FunD K x qual params body scope dvs kws (He.fAd K p) fd) (S : FnScope N ps scope)
    (hbody : ∀ (A : Around) (outer : List PySem.Env) (s : Shared) (H : Hp) (E : XK), Room k (A.deeper (envOfC qual scope s.heap.objs.size (He.fAd K p) (.ref (He.codeOf K p)))) → PSs (cxOf (L2.CX P w) P w K mg base N qual scope (He.fAd K p) (.ref (He.codeOf K p)) A outer s H E) body (SemS g E b)) :
    FnOk P w K mg base (L2.CX P w) (k + 1) (He.fAd K p) fd ps (SpF g ps.length (fnF keep N.length ps.length b)) := by
  obtain ⟨_, _, dV, kV, doc, pm, an, cdv, ct, _, rfl, lk, hcd, -, -⟩ := F.ex
  obtain ⟨c, rfl⟩ := He.codeIn_ref hcd
  have e : He.codeOf K p = c := He.codeOf_eq lk rfl
  refine fn_of lk hcd S (fun vs H Q E h => h.1) fun A outer s H vs Q E hr hsp => ⟨SemS g E b, ?_, fn_body hsp⟩
  rw [← e] at hr ⊢
  exact hbody A outer s H E hr
theorem cal_of {P : Program} {w : World} {K : PySem.W.Frag} {mg : Str → Option Value} {base : Heap} {g : GL} {x qual : Str} {params : Arguments} {body : List Stmt} {scope : Scope} {kws : List (Str × V)} {p : He.Defn} {fd : FuncData} {N ps : List Str} {n k : Nat} {keep : Bool} {b : Sv} (F : FunD K x qual params body scope [] kws (He.fAd K p) fd)
    (h : FnOk P w K mg base (L2.CX P w) n (He.fAd K p) fd ps (SpF g k (fnF keep N.length k b))) (hm : mg x = some (.ref (He.fAd K p))) (hb : Binds K fd ps []) : Cal2 P w K mg base g n x k (fnF keep N.length k b) [] :=
  ⟨⟨_, _, _, _, _, h, hm, F.kp, hb, .nil, .nil⟩, fnF_len⟩
/-- an own exception -/
structure ExF (K : PySem.W.Frag) (mg : Str → Option Value) (g : GL) (i : Nat) (x : Str) : Prop where
  mg : mg x = some (.ref (g.CT i))
  ex : PySem.W.excIn K (g.CT i) He.veBase "ValueError.__new__" = true
  kp : PySem.W.keepIn K (.ref (g.CT i)) = true
  sub : PySem.W.subIn K (.ref (g.CT i)) (.type "BaseException") = some true
  ty : PySem.W.typeIn K (.ref (g.CT i)) = some (.type "type")
theorem sraise {X : Cx} {g : GL} {E : XK} {pos : Pos} {i : Nat} {x m : Str} {j : Nat} {p p2 p3 : Pos} (ef : ExF X.K X.mg g i x) (hc : X.calm = true) (tk : Takes X (fun cls d _ H => E cls d H)) (hg : Gl X x) (hdb : (x == ("__debug__" : Str)) = false := by decide) :
    PS X (.Raise (some (.Call (.Name x p) [.Constant (.str m) j p2] [] p3)) none pos) (SemS g E (sRaise i)) :=
  ss_raise hc tk rfl (pmk_own PySem.F.excBase_ValueError ef.ex ef.mg ef.kp (raises_own ef.sub ef.ty) hg hdb)
/-- a generator expression's context: a def's own body -/
theorem gx_of {P : Program} {w : World} {K : PySem.W.Frag} {mg : Str → Option Value} {base : Heap} {g : GL} {qual : Str} {scope : Scope} {f : Addr} {p : He.Defn} {A : Around} {outer : List PySem.Env} {s : Shared} {H : Hp} {E : XK} {N : List Str} {k : Nat} (nd : N.Nodup) (dot : (".0" : Str) ∉ N) (hr : Room (k + 6) (A.deeper (envOfC qual scope s.heap.objs.size f (.ref (He.codeOf K p)))))
    (TB : LamX.TabB base mg (He.cT K p).1 (He.cT K p).2) (hT : (He.cT K p).2 ∈ g.T) : GxOk (cxOf (L2.CX P w) P w K mg base N qual scope f (.ref (He.codeOf K p)) A outer s H E) g k :=
  ⟨nd, rfl, dot, hr, BltM.of TB.bm, _, _, rfl, hT, TB.code⟩
theorem bt_len : bootBuiltins "len" = some (.builtin "len") := by decide +kernel
theorem bt_abs : bootBuiltins "abs" = some (.builtin "abs") := by decide +kernel
theorem bt_max : bootBuiltins "max" = some (.builtin "max") := by decide +kernel
theorem bt_min : bootBuiltins "min" = some (.builtin "min") := by decide +kernel
theorem bt_sum : bootBuiltins "sum" = some (.builtin "sum") := by decide +kernel
theorem bt_any : bootBuiltins "any" = some (.builtin "any") := by decide +kernel
theorem bt_all : bootBuiltins "all" = some (.builtin "all") := by decide +kernel
theorem bt_sorted : bootBuiltins "sorted" = some (.builtin "sorted") := by decide +kernel
theorem bt_int : bootBuiltins "int" = some (.type "int") := by decide +kernel
theorem bt_list : bootBuiltins "list" = some (.type "list") := by decide +kernel
theorem bt_tuple : bootBuiltins "tuple" = some (.type "tuple") := by decide +kernel
theorem bt_str : bootBuiltins "str" = some (.type "str") := by decide +kernel
theorem bt_dict : bootBuiltins "dict" = some (.type "dict") := by decide +kernel
/-! ### what a def's context lets pass -/
section
variable {P : Program} {w : World} {K : PySem.W.Frag} {mg : Str → Option Value} {base : Heap} {N : List Str} {qual : Str} {scope : Scope} {f : Addr} {cd : Value} {A : Around} {outer : List PySem.Env} {s : Shared} {H : Hp} {E : XK}
theorem tk_fn : Takes (cxOf (L2.CX P w) P w K mg base N qual scope f cd A outer s H E) (fun cls d _ H => E cls d H) := takes_of rfl rfl rfl rfl
theorem px_fn : Passes (L2.CX P w) (cxOf (L2.CX P w) P w K mg base N qual scope f cd A outer s H E) E := passes_call tk_fn fun _ _ _ _ h => h
theorem po_fn : PassesOwn (model P w) (cxOf (L2.CX P w) P w K mg base N qual scope f cd A outer s H E).A (cxOf (L2.CX P w) P w K mg base N qual scope f cd A outer s H E).env (cxOf (L2.CX P w) P w K mg base N qual scope f cd A outer s H E).xe := passes_of rfl
end
theorem ss_setLc {X : Cx} {g : GL} {E : XK} {i : Nat} {y : Str} {py : Pos} {elt tg iter : Expr} {ifs : List Expr} {scope : Scope} {own : List (Str × Nat)} {pos spos : Pos} {fi : Ev Its} {t : Tv} {c : Ev Bool} {e : Ev D} {k : List D → Store → Res D} (hy : X.N[i]? = some y) (hyl : X.env.scope.names.lookup y = some .local)
    (hsw : swapsWith (.ListComp elt [⟨tg, iter, ifs, 0⟩] scope pos) (some (.Name y py)) spos.line X.env = pure true) (hk : KOk k) (hc : X.calm = true) (hN : X.N.Nodup) (hi : PI X tg iter (SemI g E fi)) (ok : BlkOk X.N X.env.scope scope own)
    (hg : ∀ (s : Shared) (H : Hp) (C : Addr) (cl : List (Str × Addr)) (fp : List Addr), PG (X.blk s H scope (compEnvC scope cl C X.env) fp) tg (SemT g (own.map (·.2)) t)) (ht : ∀ (s : Shared) (H : Hp) (C : Addr) (cl : List (Str × Addr)) (fp : List Addr), PTs (X.blk s H scope (compEnvC scope cl C X.env) fp) ifs (SemB g C8.E0 c))
    (he : ∀ (s : Shared) (H : Hp) (C : Addr) (cl : List (Str × Addr)) (fp : List Addr), PE (X.blk s H scope (compEnvC scope cl C X.env) fp) elt (SemE g C8.E0 e)) (hs : ∀ x, foldedSetIterable iter X.env x = pure x := by intro _; rfl) :
    PS X (.Assign [.Name y py] (.ListComp elt [⟨tg, iter, ifs, 0⟩] scope pos) spos) (SemS g E (sAsg (vCmpD fi t c e (own.map (·.2)) k) (gvN i))) := by
  refine ps_mono (ps_setLc hc hN hy hyl hsw hi ok hg ht he hs) fun D σ H q => ?_
  exact tLc_of hk σ H _ (tAsg_of (u := gName i) (fun v σ H Q ⟨ex, ι, st, δ, d, at_, r, h⟩ => h _ H ι at_.good (.refl _ _) (at_.env.set i r)) D σ H q)
end Iv
end

section
set_option Elab.async false
set_option linter.all false
set_option maxRecDepth 100000
set_option maxHeartbeats 4100000
namespace Iv
open PySem PySem.Spec PyProof.Rows L2 Gx LamX

/-! ### range with a step -/
def itR3 (f : Ev (List D)) : Ev Its := fun δ st => (f δ st).bnd fun ds s => match ds with
  | [.p (.int a), .p (.int b), .p (.int c)] => if c ≠ 0 ∧ c.natAbs < 1073741824 ∧ Builtin.Range.small a b c = true ∧ 0 ≤ Builtin.Range.rangeSize a b c then .ok ⟨(List.range (Builtin.Range.rangeSize a b c).toNat).map fun i => .p (.int (a + (i : Nat) * c)), none⟩ s else .bad
  | _ => .bad
section
variable {X : Cx} {g : GL} {E : XK} {pos : Pos} {tg a b c : Expr} {ι : List Addr} {st : Store} {H F : Hp}
theorem its_rngC {lo c : Int} {n : Nat} : ItS g (Itc lo c n) H ι ⟨(List.range n).map fun i => .p (.int (lo + (i : Nat) * c)), none⟩ := by
  refine ⟨fun {e i H' ι' st' d0 d} hi G x hd => ?_, fun {e H' ι' st'} G x _ => by simp [Itc]⟩
  cases hd
  rw [List.getElem?_map, Option.map_eq_some_iff] at hi
  obtain ⟨y, hy, rfl⟩ := hi
  have hl : i < n := by
    have := (List.getElem?_eq_some_iff.mp hy).1
    simpa using this
  have : y = i := by
    have := (List.getElem?_eq_some_iff.mp hy).2
    simpa using this.symm
  subst this
  refine ⟨hl, fun w H'' ⟨e1, z⟩ => ?_⟩
  subst e1 z
  exact ⟨G, .refl _ _, .p (.int _)⟩
theorem si_range3 {fa : Ev (List D)} {p : Pos} (hg : Gl X "range") (hm : X.mg "range" = none) (ha : PA X [a, b, c] (SemA g E fa)) (hs : starEach [a, b, c] X.env = (false, eval a X.env) :: starEach [b, c] X.env := by rfl) (hpl : (backTo pos (starEach [b, c] X.env)).any (·.1) = false := by rfl) :
    PI X tg (.Call (.Name "range" p) [a, b, c] [] pos) (SemI g E (itR3 fa)) := by
  refine pi_mono (pi_range3 hg hm ha hs hpl) fun σ H R ⟨ex, ι, st, δ, at_, hh⟩ => semA_bnd at_ ?_
  unfold itR3 at hh
  cases ef : fa δ st with
  | bad => rw [ef] at hh; exact hh
  | exc c s => rw [ef] at hh; exact hh
  | ok ds s =>
    rw [ef] at hh
    intro vs H1 ι1 at1 x1 r1
    simp only [Res.bnd] at hh
    split at hh
    · split at hh
      · rename_i hz
        obtain ⟨v, w, u, rfl, rv, rw', ru⟩ := rds_three r1
        obtain rfl := rv.intI
        obtain rfl := rw'.intI
        obtain rfl := ru.intI
        exact ⟨_, _, _, _, rfl, ⟨hz.1, hz.2.1, hz.2.2.1, (Int.toNat_of_nonneg hz.2.2.2).symm⟩, hh _ H1 ι1 at1.good x1 its_rngC⟩
      · exact hh.elim
    · exact hh.elim
end

/-! ### a lambda is made -/
section
variable {X : Cx} {σ : L2.St} {H : Hp} {s : Shared} {pins : List (Addr × Obj)}
theorem lam_mk {T : List (Addr × Str)} {c P : Addr} {params : Arguments} {body : Expr} {scope : Scope} {pos : Pos} {E : Value → Shared → Prop} {Q : Value → Shared → Prop} (I : Inv X pins σ H s) (TB : TabB X.base X.mg c P) (hcode : X.env.code = .ref c)
    (hT : Tabs T H) (hm : (P, X.env.qual ++ "<lambda>") ∈ T) (hu : ∀ p ∈ T, p.1 = P → p.2 = X.env.qual ++ "<lambda>") (hdef : defaultsOf params X.env = ([], [])) (hfree : ∀ y ∈ scope.names, y.2 = .free → ∃ c, X.env.cells.lookup y.1 = some c)
    (h : ∀ (f c' : Addr) (pm ctv : Value) (H1 : Hp) (s' : Shared), Inv X pins σ H1 s' → (∀ b o, b ≠ P → H b = some o → H1 b = some o) → Tabs T H1 →
      s'.heap.get? f = some (PySem.W.kla_obj "<lambda>" (X.env.qual ++ "<lambda>") params body scope (cloFrom X.env.cells scope.names []) pm c' ctv) → H1 f = none → H f = none → f ∉ frs X.stack → s.heap.objs.size ≤ f → H1 c' = some (CodeO c' (X.env.qual ++ "<lambda>")) → Q (.ref f) s') :
    wpAny (model X.prog X.w) X.A (eval (Expr.Lambda params body scope pos) X.env) Q E s := by
  obtain ⟨ps, tab, triples, known⟩ := hT _ hm
  have onHeap : s.heap.get? P = some { cls := .none, data := .fields ps } := I.hok P _ tab
  have built : s.heap.BuiltinsAt X.mg P := TB.bm.keeps I.bk
  have notFrame : ∀ f, s.heap.objs.size ≤ f → f ∉ frs X.stack := fun f hf z => (List.mem_cons.mp (I.stkSub _ z)).elim (fun e => Nat.lt_irrefl _ (Nat.lt_of_lt_of_le (e ▸ I.lt) hf)) (I.nofs hf)
  apply PySem.W.kla_eval hdef
  cases look : codeAmong pos ps.toList with
  | some cv =>
    obtain ⟨c', rfl, isCode⟩ := known pos cv look
    refine PySem.W.kla_makeFunctionHit (mg := X.mg) (c := c) (P := P) (ps := ps) (closure_ok hfree) I.ok.glob (I.mod.glob.keeps I.bk) hcode (TB.code.keeps I.bk) onHeap triples look built fun ctv h' tk grown big => ?_
    exact h h'.objs.size c' ((X.mg "__name__").getD .none) ctv H _ (I.kept fun b o e => Heap.get?_push_of_some _ (grown b o e)) (fun _ _ _ e => e) hT (Heap.get?_push_size _ rfl) (I.hok.fresh big) (I.hok.fresh big) (notFrame _ big) big isCode
  | none =>
    refine PySem.W.kla_makeFunction (mg := X.mg) (c := c) (P := P) (ps := ps) (closure_ok hfree) I.ok.glob (I.mod.glob.keeps I.bk) hcode (TB.code.keeps I.bk) onHeap triples look TB.gP built fun c' ctv h' tk grown newer lt record table => ?_
    obtain ⟨_, oc, vs, t, ec, ocAt, ocData, ocName⟩ := record
    cases ec
    have big : s.heap.objs.size ≤ h'.objs.size := Nat.le_trans newer (Nat.le_of_lt lt)
    have unknown : H c' = none := I.hok.fresh newer
    have I1 := inv_table (t' := tk) (more := #[rawInt pos.line, rawInt pos.col, .ref c']) (h' := h'.push (PySem.W.kla_obj "<lambda>" (X.env.qual ++ "<lambda>") params body scope (cloFrom X.env.cells scope.names []) ((X.mg "__name__").getD .none) c' ctv)) I tab
      (fun b o hb e => Heap.get?_push_of_some _ (grown b o hb e)) (Heap.get?_push_of_some _ table) newer ⟨oc, vs, t, Heap.get?_push_of_some _ ocAt, ocData, ocName⟩
    have keep : ∀ b o, b ≠ P → H b = some o → (upd (upd H P (.tbl (ps ++ #[rawInt pos.line, rawInt pos.col, .ref c']))) c' (CodeO c' (X.env.qual ++ "<lambda>"))) b = some o := fun b o nb e => by
      rw [upd_ne (ne_of_none e unknown), upd_ne nb]; exact e
    have toL : (ps ++ #[rawInt pos.line, rawInt pos.col, .ref c']).toList = ps.toList ++ [rawInt pos.line, rawInt pos.col, .ref c'] := by simp
    have codeStays : ∀ {c0 : Addr} {q : Str}, H c0 = some (CodeO c0 q) → (upd (upd H P (.tbl (ps ++ #[rawInt pos.line, rawInt pos.col, .ref c']))) c' (CodeO c' (X.env.qual ++ "<lambda>"))) c0 = some (CodeO c0 q) := fun {c0 q} e =>
      keep _ _ (fun z => codeO_ne ps (Option.some.inj (e.symm.trans (z ▸ tab)))) e
    refine h h'.objs.size c' ((X.mg "__name__").getD .none) ctv _ _ I1 keep (fun p hp => ?_) (Heap.get?_push_size _ rfl) ?_ (I.hok.fresh big) (notFrame _ big) big upd_same
    · have ⟨ps', a1, a2, a3⟩ := hT p hp
      by_cases hb : p.1 = P
      · rw [hu p hp hb, hb]
        refine ⟨_, by rw [upd_ne (ne_of_none tab unknown), upd_same], by rw [toL]; exact PySem.TriplesOk_snoc _ _ _ _ triples, fun p' cv hcv => ?_⟩
        rw [toL] at hcv
        rcases among_app _ triples hcv with z | z
        · obtain ⟨c0, e1, e2⟩ := known p' cv z
          exact ⟨c0, e1, codeStays e2⟩
        · exact ⟨c', z, upd_same⟩
      · exact ⟨ps', keep _ _ hb a1, a2, fun p' cv hcv => let ⟨c0, e1, e2⟩ := a3 p' cv hcv; ⟨c0, e1, codeStays e2⟩⟩
    · rw [upd_ne (Nat.ne_of_gt lt), upd_ne (Nat.ne_of_gt (Nat.lt_of_lt_of_le (Heap.lt_size onHeap) big))]
      exact I.hok.fresh big
end
/-- the store stands behind the making of a lambda -/
theorem good_lam {g : GL} {ι : List Addr} {st : Store} {H H1 : Hp} {P : Addr} {q : Str} (G : Good g ι st H) (hP : (P, q) ∈ g.L) (k : ∀ b o, b ≠ P → H b = some o → H1 b = some o) (tb : Tabs g.L H1) : Good g ι st H1 ∧ Ext g H ι H1 ι := by
  obtain ⟨ps0, e0, _, _⟩ := G.tabs.l _ hP
  have nt : ∀ {b : Addr} {o : HO}, H b = some o → (∀ ps, o ≠ .tbl ps) → H1 b = some o := fun {b o} e n => k _ _ (fun z => n ps0 (by rw [z, e0] at e; exact (Option.some.inj e).symm)) e
  have sub : Sub (Fz H (g.x ι)) (Fz H1 (g.x ι)) := fun b u e => by
    obtain ⟨h1, w, h2, h3⟩ := Fz.at e
    exact Fz.mk h1 (nt h2 fun ps z => by subst z; cases h3) h3
  have rcn : ∀ {o : HO} {c : Cell} {F : Hp}, RC g F ι o c → ∀ ps, o ≠ .tbl ps := fun r ps z => by
    subst z
    cases r
  refine ⟨⟨G.nd, pd_imp G.cells fun a c _ ⟨u, e, r⟩ => ⟨u, nt e (rcn r), r.sub sub (.refl ι)⟩, G.tabs.lm k hP tb, fun b hb => ?_, G.dis⟩, ⟨.refl ι, sub, fun b hb => ?_⟩⟩
  · obtain ⟨o, e⟩ := G.exs b hb
    exact ⟨o, nt e fun ps z => by cases z⟩
  · obtain ⟨o, e⟩ := G.exs b hb
    rw [e]
    exact nt e fun ps z => by cases z

/-! ### told(lambda: e) -/
def vTold (c : Nat) (ret : Str) (f : Ev D) : Ev D := fun δ st => match f δ st with
  | .ok d s => .ok d s
  | .exc c' s => if c' = c then .ok (.p (.str ret)) s else .bad
  | .bad => .bad
/-- the def that tells: one parameter, called; its one exception told by a text -/
structure TolD (K : PySem.W.Frag) (mg : Str → Option Value) (g : GL) (x a e : Str) (c : Nat) (ret : Str) (Ng : List Str) (pg : Arguments) (sg : Scope) (bg : List Stmt) (fT : Addr) : Prop where
  ex : ∃ (dV kV doc pm cdv ct oc : Value) (an od : Option Addr) (osl : Array (Option Value)), K.lookup fT = some ⟨oc, od, .func (PySem.W.fnOf x x pg bg sg dV kV doc pm an cdv ct), osl⟩ ∧ PySem.W.codeIn K cdv x = true ∧ Binds K (PySem.W.fnOf x x pg bg sg dV kV doc pm an cdv ct) [a] []
  gm : mg x = some (.ref fT)
  kp : PySem.W.keepIn K (.ref fT) = true
  sc : FnScope Ng [a] sg
  n0 : Ng[0]? = some a
  va : Vis sg a
  ge : sg.names.lookup e = some .globalImplicit
  ef : ExF K mg g c e
  de : (e == ("__debug__" : Str)) = false
  bd : ∃ (j : Nat) (p1 p2 p3 p4 p5 p6 p7 p8 : Pos), bg = [.Try [.Return (some (.Call (.Name a p1) [] [] p2)) p3] [.ExceptHandler (some (.Name e p4)) none [.Return (some (.Constant (.str ret) j p5)) p6] p7] [] [] p8]
  exm : PySem.W.exmOne K (.ref (g.CT c)) (.ref (g.CT c)) = some true

/-- a lambda without parameters -/
def NoPar (params : Arguments) (body : Expr) (scope : Scope) : Prop := ∀ (q : Str) (cl : List (Str × Addr)) (pm cv ctv : Value), bindArgs (PySem.W.kla_fn "<lambda>" q params body scope cl pm cv ctv) ⟨[], []⟩ = pure []
/-- from the def's code to the call of it -/
theorem after_call {X : Cx} {pins : List (Addr × Obj)} {σ : L2.St} {H1 : Hp} {s1 : Shared} {f : Value} {us : List Value} {Q : VK} (I1 : Inv X pins σ H1 s1) (rc : codeAny (model X.prog X.w) X.A (.call f ⟨us, []⟩) (CR C8.CX0 X.stack X.prog X.w H1 s1 Q C8.E0) s1) :
    wpAny (model X.prog X.w) X.A (call f us) (EP X pins σ Q) X.xe s1 := by
  apply wpAny_call
  apply codeAny_mono rc
  rintro (_ | (u | _ | _ | _)) s2 hq
  all_goals first
    | exact I1.after hq
    | exact False.elim hq

theorem px_lam {X : Cx} {P : Program} {w : World} {A : Around} {outer : List PySem.Env} {s : Shared} {H : Hp} {E : XK} {scope : Scope} {f c' : Addr} (hp : X.prog = P) (hw : X.w = w) : Passes (L2.CX P w) (lamCx X A outer s H E scope f c') E := by
  subst hp hw
  exact passes_call (X := lamCx X A outer s H E scope f c') (takes_of (X := lamCx X A outer s H E scope f c') rfl rfl rfl rfl) fun _ _ _ _ h => h
theorem se_told {X : Cx} {g : GL} {E : XK} {x a e : Str} {cx : Nat} {ret : Str} {Ng : List Str} {pg : Arguments} {sg : Scope} {bg : List Stmt} {fT c P : Addr} {k : Nat} {params : Arguments} {body : Expr} {scope : Scope} {p lpos pos : Pos} {f' : Ev D} (td : TolD X.K X.mg g x a e cx ret Ng pg sg bg fT) (hg : Gl X x)
    (TB : TabB X.base X.mg c P) (hcode : X.env.code = .ref c) (hmT : (P, X.env.qual ++ "<lambda>") ∈ g.L) (hu : ∀ p ∈ g.L, p.1 = P → p.2 = X.env.qual ++ "<lambda>") (hr : Room (k + 2) X.A) (L : LamS X.env.scope scope) (hdef : defaultsOf params X.env = ([], []))
    (hbind : NoPar params body scope)
    (hbody : ∀ (A : Around) (outer : List PySem.Env) (s : Shared) (H : Hp) (E : XK) (f c' : Addr), Room k (A.deeper (lamEnv X scope s.heap.objs.size f c')) → PE (lamCx X A outer s H E scope f c') body (SemE g E f'))
    (hd : (a == ("__debug__" : Str)) = false := by decide) (hcd : (a == ("__classdict__" : Str)) = false := by decide) (hdb : (x == ("__debug__" : Str)) = false := by decide) :
    PE X (.Call (.Name x p) [.Lambda params body scope lpos] [] pos) (SemE g E (vTold cx ret f')) := by
  refine ⟨fun pins s σ H Q I ⟨ex, ι, st, δ, at_, hh⟩ => ?_⟩
  obtain ⟨dV, kV, doc, pm, cdv, ct, oc, an, od, osl, lk, hcg, hb⟩ := td.ex
  obtain ⟨j, q1, q2, q3, q4, q5, q6, q7, q8, rfl⟩ := td.bd
  refine wpAny_Call_Name_kw (ld_glob I hg td.gm ?_ hdb)
  refine PySem.W.callWith_K (h₀ := X.base) I.ok.mod.kin td.kp ?_ (by rfl) (by rfl)
  change wpAny _ _ (spliced ((false, eval (Expr.Lambda params body scope lpos) X.env) :: backTo pos (starEach [] X.env))) _ _ s
  refine Calls.spliced_cons (lam_mk I TB hcode at_.good.tabs.l hmT hu hdef (L.has I.ok) fun f c' pm' ctv H1 s' I1 keep T1 hf hfn _ hfr _ hco => ?_)
  obtain ⟨G1, x1⟩ := good_lam at_.good hmT keep T1
  have at1 := at_.ext x1 G1
  apply Calls.spliced_nil
  refine ⟨I1.kIn, ?_⟩
  have rc : codeAny (model X.prog X.w) X.A (.call (.ref fT) ⟨[.ref f], []⟩) (CR C8.CX0 X.stack X.prog X.w H1 s' Q C8.E0) s' := by
    refine run_ofS (N := Ng) (ps := [a]) (us := [.ref f]) (vs := [.ref f]) lk hcg td.sc hr I1.env0 (hb s' [.ref f] I1.kIn rfl) (.cons rfl .nil) rfl fun hr' => ?_
    have h0 : ∀ f : Addr, (L2.start Ng [V.ref f])[0]? = some (some (V.ref f)) := fun f => rfl
    obtain ⟨t', ht', hq'⟩ := told_gives (X := X) (Ng := Ng) (x := x) (g := fT) (cdg := cdv) (j := j) (p1 := q1) (p2 := q2) (p3 := q3) (p4 := q4) (p5 := q5) (p6 := q6) (p7 := q7) (p8 := q8) (ret := ret) (q := X.env.qual ++ "<lambda>") td.ge td.ef.mg td.de h0 f c' s' H1 Q (fun E H' Q' => SemE g E f' σ H' Q')
      (fun W pn xe E p1 p2 tk hW => pe_act (i := 0) I1 L hf hfn hfr (hbind _ _ _ _ _) tk hW hr' (fun A outer s H hr2 => hbody A outer s H E f c' hr2) td.n0 td.va hd hcd) hco (by
        refine ⟨ex, ι, st, δ, at1, ?_⟩
        unfold vTold at hh
        cases ef : f' δ st with
        | bad => rw [ef] at hh; exact hh
        | ok d s =>
          rw [ef] at hh
          exact fun v H' ι' G' x' r' => hh v H' ι' G' (x1.trans x') r'
        | exc c2 s =>
          rw [ef] at hh
          simp only [] at hh
          split at hh
          · rename_i hc
            subst hc
            exact fun H' ι' G' x' => ⟨true, td.exm, fun _ => hh (.str ret) H' ι' G' (x1.trans x') (.p (.str _)), fun z => Bool.noConfusion z⟩
          · exact hh.elim)
    exact ⟨t', ht'.nox, hq'⟩
  exact after_call I1 rc
end Iv
end

section
set_option Elab.async false
set_option linter.all false
set_option maxRecDepth 100000
set_option maxHeartbeats 4100000
namespace Iv
open PySem PySem.Spec PyProof.Rows L2 Gx LamX

/-- the i-th lambda, made -/
theorem se_lam {X : Cx} {g : GL} {E : XK} {c P : Addr} {params : Arguments} {body : Expr} {scope : Scope} {lpos : Pos} (i : Nat) (hi : g.lm[i]? = some ⟨X.env.qual ++ "<lambda>", params, body, scope, cloFrom X.env.cells scope.names []⟩) (TB : TabB X.base X.mg c P) (hcode : X.env.code = .ref c)
    (hmT : (P, X.env.qual ++ "<lambda>") ∈ g.L) (hu : ∀ p ∈ g.L, p.1 = P → p.2 = X.env.qual ++ "<lambda>") (L : LamS X.env.scope scope) (hdef : defaultsOf params X.env = ([], [])) : PE X (.Lambda params body scope lpos) (SemE g E (vK (.lam i))) := by
  refine ⟨fun pins s σ H Q I ⟨ex, ι, st, δ, at_, hh⟩ => ?_⟩
  refine lam_mk I TB hcode at_.good.tabs.l hmT hu hdef (L.has I.ok) fun f c' pm' ctv H1 s' I1 keep T1 hf hfn hfn0 hfr big hco => ?_
  obtain ⟨G1, x1⟩ := good_lam at_.good hmT keep T1
  obtain ⟨a1, a2, a3, a4, a5⟩ := inv_new (sz := 0) (a := f) I I big
  have new : ObjOk X.prog X.w (upd H1 f (LamO ⟨X.env.qual ++ "<lambda>", params, body, scope, cloFrom X.env.cells scope.names []⟩ c' f)) s'.heap f (LamO ⟨X.env.qual ++ "<lambda>", params, body, scope, cloFrom X.env.cells scope.names []⟩ c' f) :=
    ⟨⟨pm', ctv, hf⟩, ⟨_, hf⟩, fun h1 h2 ⟨pm, ctv, z⟩ k => ⟨pm, ctv, k _ z⟩⟩
  have I2 := inv_track (a := f) I1 hfn a1 a2 a3 a4 new
  have ne : c' ≠ f := fun z => by rw [z, hfn] at hco; cases hco
  obtain ⟨G2, x2⟩ := good_new (o := LamO ⟨X.env.qual ++ "<lambda>", params, body, scope, cloFrom X.env.cells scope.names []⟩ c' f) G1 hfn
  refine ⟨.ref f, _, I2, rfl, hh _ _ ι G2 (x1.trans x2) (.p (.lam hi (fz_new G1 hfn rfl) (Fz.mk (fun m => ?_) (by rw [upd_ne ne]; exact hco) rfl)))⟩
  rcases List.mem_append.mp m with m | m
  · obtain ⟨xs, e⟩ := G1.exs c' m
    rw [hco] at e
    cases e
  · obtain ⟨cc, u, e, r⟩ := pd_mem G1.cells m
    rw [hco] at e
    cases e
    cases r
end Iv
end

section
set_option Elab.async false
set_option linter.all false
set_option maxRecDepth 100000
set_option maxHeartbeats 4100000
namespace Iv
open PySem PySem.Spec PyProof.Rows L2 Gx LamX

/-! ### a list comprehension whose parts may lean on the frame around it, as it stood when the block began -/
section
variable {X : Cx} {pins : List (Addr × Obj)} {σ : L2.St}
/-- what is fixed while such a block runs: its beginning, its iterator, the list that it makes -/
structure BlkRun (X : Cx) (pins : List (Addr × Obj)) (σ : L2.St) (scope : Scope) (own : List (Str × Nat)) (tg : Expr) where
  s : Shared
  H : Hp
  env : PySem.Env
  fp : List Addr
  it : Addr
  tn : Nat → Heap → Prop
  J : It
  out : Inv X pins σ H s
  fps : ∀ b ∈ fp, FpOk X pins H b
  turn : Turn X.prog X.w X.K tg J fp it tn
  loc : env.locals = s.heap.objs.size
/-- the block's own context -/
abbrev BlkRun.cx {scope : Scope} {own : List (Str × Nat)} {tg : Expr} (B : BlkRun X pins σ scope own tg) : Cx := X.blk B.s B.H scope B.env B.fp
/-- between two turns -/
structure BlkRun.Sits {scope : Scope} {own : List (Str × Nat)} {tg : Expr} (B : BlkRun X pins σ scope own tg) (W : Nat → Nat → Hp → Prop) (m : Nat) (s' : Shared) : Prop where
  ex : ∃ (i : Nat) (H' : Hp), Inv B.cx [] (wipe σ (own.map (·.2))) H' s' ∧ B.tn i s'.heap ∧ (∀ b ∈ B.fp, H' b = none) ∧ W i m H'
variable {scope : Scope} {own : List (Str × Nat)} {tg : Expr} (B : BlkRun X pins σ scope own tg)
theorem BlkRun.fpIn {σ' : L2.St} {H' : Hp} {s' : Shared} (I : Inv B.cx [] σ' H' s') (free : ∀ b ∈ B.fp, H' b = none) : ∀ b ∈ B.fp, FpOk B.cx [] H' b := by
  intro b hb
  have q := I.ok.exf b hb
  exact ⟨free b hb, q.1, I.ok.exfs b hb, Or.inl hb, q.2, fun p hp => by cases hp⟩
/-- the frame around, at any later moment -/
theorem BlkRun.outer {σ' : L2.St} {H' : Hp} {s' : Shared} {pp : List (Addr × Obj)} (I : Inv B.cx pp σ' H' s') : Inv X pins σ H' s' := by
  refine Inv.call' B.out I.os I.base I.hok I.bare ?_
  intro b hb
  obtain ⟨_, z1, _, z2, z3, z4⟩ := B.fps b hb
  exact ⟨z2, z1, z3, z4⟩
/-- a turn is done -/
theorem BlkRun.sits {W : Nat → Nat → Hp → Prop} {Nx : Hp → Prop} {m i : Nat} {sA sB : Shared} {σ8 : L2.St} {H' : Hp} (next : ∀ H', Nx H' → ∃ m', m' < m ∧ W (i + 1) m' H') (at1 : B.tn (i + 1) sA.heap) (same : wipe σ8 (own.map (·.2)) = wipe σ (own.map (·.2)))
    (I : Inv B.cx ([] ++ pinsAt B.fp sA.heap) σ8 H' sB) (nx : Nx H') : ∃ m', m' < m ∧ B.Sits W m' sB := by
  obtain ⟨m', less, w⟩ := next H' nx
  have held : ∀ b ∈ B.fp, ∀ o, sA.heap.get? b = some o → sB.heap.get? b = some o ∧ H' b = none := by
    intro b hb o e
    have q := I.pin (b, o) (List.mem_append_right _ (List.mem_append_right _ (mem_pinsAt hb e)))
    exact ⟨q.1, q.2.1⟩
  have len : (wipe σ (own.map (·.2))).length = σ8.length := by rw [← same, wipe_length]
  have back : Inv B.cx [] (wipe σ (own.map (·.2))) H' sB := Inv.weak (Inv.unpinned (pins := []) I) len fun j v e => by
    rw [← same] at e
    exact (wipe_some e).1
  refine ⟨m', less, ⟨i + 1, H', back, B.turn.keep _ _ _ at1 fun b hb o e => (held b hb o e).1, fun b hb => ?_, w⟩⟩
  obtain ⟨o, e, _⟩ := B.turn.obj _ _ at1 b hb
  exact (held b hb o e).2
end
theorem lcz {X : Cx} {pins : List (Addr × Obj)} {s : Shared} {σ : L2.St} {H : Hp} {Q : VK} {elt tg iter : Expr} {ifs : List Expr} {scope : Scope} {own : List (Str × Nat)} {pos : Pos} {wi : TI} {g : TG} {tt : TT} {te : TE} (calm : X.calm = true) (nd : X.N.Nodup) (I : Inv X pins σ H s) (hi : PI X tg iter wi) (ok : BlkOk X.N X.env.scope scope own)
    (hg : ∀ (s : Shared) (H : Hp) (C : Addr) (cl : List (Str × Addr)) (fp : List Addr), PG (X.blk s H scope (compEnvC scope cl C X.env) fp) tg g)
    (ht : ∀ (s : Shared) (H : Hp) (C : Addr) (cl : List (Str × Addr)) (fp : List Addr), Inv X pins σ H s → (∀ b ∈ fp, FpOk X pins H b) → PTs (X.blk s H scope (compEnvC scope cl C X.env) fp) ifs tt)
    (he : ∀ (s : Shared) (H : Hp) (C : Addr) (cl : List (Str × Addr)) (fp : List Addr), Inv X pins σ H s → (∀ b ∈ fp, FpOk X pins H b) → PE (X.blk s H scope (compEnvC scope cl C X.env) fp) elt te) (plain : ∀ x, foldedSetIterable iter X.env x = pure x)
    (h : tLc wi g tt te (own.map (·.2)) σ H Q) : wpAny (model X.prog X.w) X.A (eval (.ListComp elt [⟨tg, iter, ifs, 0⟩] scope pos) X.env) (EP X pins σ Q) X.xe s := by
  have captured : ∀ y ∈ scope.names, y.2 = .free → ∃ c, X.env.cells.lookup y.1 = some c := fun y hy e => I.ok.has _ (ok.free y hy e)
  rw [eval_ListComp]
  apply wpAny_comprehension_free (use := none) rfl plain (closure_ok captured) ok.kind
  · intro y hy e
    rw [ok.uniq y hy, e]
  refine thn (hi.run pins s σ H _ I h) fun _ _ walked => thn walked ?_
  rintro itv s2 ⟨it, fp, tn, J, H2, rfl, I2, T, tn2, fp2, made⟩
  refine wpAny_newObj_type (newEnv_comp ?_) (show 0 ≤ sizeLine from Nat.zero_le _)
  have I3 := I2.lnew (its := []) (t' := s2.toks) .nil (Nat.zero_le _)
  obtain ⟨W, ⟨m0, w0⟩, turns⟩ := made s2.heap.objs.size I2.fresh
  have below : ∀ b ∈ fp, b < s2.heap.objs.size := fun b hb => let ⟨_, e, _⟩ := T.obj _ _ tn2 b hb; Heap.lt_size e
  have fp3 : ∀ b ∈ fp, FpOk X pins (upd H2 s2.heap.objs.size (.lst [])) b := fun b hb => ⟨by rw [upd_ne (Nat.ne_of_lt (below b hb))]; exact (fp2 b hb).1, (fp2 b hb).2⟩
  generalize hs3 : ({ s2 with heap := s2.heap.push { cls := .type "list", data := .seq ([] : List Value).toArray }, toks := s2.toks } : Shared) = s3 at I3
  have size3 : ∀ b ∈ fp, b < s3.heap.objs.size := fun b hb => by rw [← hs3]; show b < (s2.heap.push _).objs.size; rw [Heap.size_push]; exact Nat.lt_succ_of_lt (below b hb)
  have tn3 : tn 0 s3.heap := T.keep _ _ _ tn2 fun b _ o e => by rw [← hs3]; exact Heap.get?_push_of_some _ e
  have started := block_start I3 ok nd fun b hb => ⟨fp3 b hb, size3 b hb⟩
  let B : BlkRun X pins σ scope own tg := ⟨s3, upd H2 s2.heap.objs.size (.lst []), compEnvC scope (cellsFrom (s3.heap.objs.size + 1) scope.names (cloFrom X.env.cells scope.names [])) s3.heap.objs.size X.env, fp, it, tn, J, I3, fp3, T, rfl⟩
  have pg := hg B.s B.H s3.heap.objs.size (cellsFrom (s3.heap.objs.size + 1) scope.names (cloFrom X.env.cells scope.names [])) fp
  have pt := ht B.s B.H s3.heap.objs.size (cellsFrom (s3.heap.objs.size + 1) scope.names (cloFrom X.env.cells scope.names [])) fp I3 fp3
  have pe := he B.s B.H s3.heap.objs.size (cellsFrom (s3.heap.objs.size + 1) scope.names (cloFrom X.env.cells scope.names [])) fp I3 fp3
  show codeAny _ _ (.compStart (.ListComp elt [⟨tg, iter, ifs, 0⟩] scope pos) 0 (.ref it) (.ref s2.heap.objs.size) B.env) (compPost (model X.prog X.w) X.A X.xe none (EP X pins σ Q) (.ref s2.heap.objs.size) B.s.heap.objs.size) _
  have first : B.Sits W m0 { s3 with heap := pushCells (s3.heap.push { cls := .type "dict", data := .dict #[] }) scope.names } :=
    ⟨0, _, started, T.keep _ _ _ tn3 fun b _ o e => pushCells_keeps _ _ _ _ (Heap.get?_push_of_some _ e), fun b hb => (fp3 b hb).1, w0⟩
  suffices turn : ∀ n s', B.Sits W n s' → _ from
    codeAny_compStart_list (compLoop_any (B.Sits W) turn m0 first) (T.self X.A 0 _ _ _ (T.keep _ _ _ tn3 fun b _ o e => pushCells_keeps _ _ _ _ (Heap.get?_push_of_some _ e)) (compLoop_any (B.Sits W) turn m0 first))
  rintro n sA ⟨i, HA, IA, tnA, freeA, wA⟩
  have fpA := B.fpIn IA freeA
  rcases turns i n HA wA with ⟨stop, fin⟩ | ⟨go, Nx, next, step⟩
  · refine thnF (T.done B.cx rfl rfl rfl calm i [] sA _ HA (fun _ _ => False) IA fpA tnA stop) ?_
    rintro _ sB ⟨rfl, IB⟩
    obtain ⟨m, names, _⟩ := IB.loc
    have free : HA s3.heap.objs.size = none := IB.free
    have frame : FpOk X pins HA s3.heap.objs.size := I3.fpOk (Nat.le_refl _) free
    refine ⟨m, names, fun hC but => ⟨V.ref s2.heap.objs.size, HA, ?_, rfl, fin⟩⟩
    exact (B.outer IB).turned (t' := sB.toks) (fun b o hb e => (but.2 b hb).trans e) frame.1 frame.2.1 frame.2.2.2.1 frame.2.2.2.2.1 frame.2.2.2.2.2
  · refine thnF (T.item B.cx rfl rfl rfl calm i [] sA _ HA (fun _ _ => False) IA fpA tnA go) ?_
    rintro _ sB ⟨u, rfl, item⟩
    refine thnF item ?_
    rintro _ sC ⟨x, HC, IC, rC, yielded, tnC, freeC⟩
    have held := IC.pinned (B.fpIn IC freeC) (T.obj _ _ tnC)
    refine thnF (pg.run _ sC _ HC x u _ held rC (step x HC yielded)) ?_
    rintro _ sD ⟨σD, HD, ID, wiped, test⟩
    refine thnF (pt.run _ sD σD HD _ ID test) ?_
    rintro yes sE ⟨HE, IE, rest⟩
    cases yes
    · exact B.sits next tnC wiped IE rest
    · refine thnF (pe.run _ sE σD HE _ IE rest) ?_
      rintro v sF ⟨y, HF, IF, rF, acc, listed, short, nx⟩
      exact app_ok (X := B.cx) IF listed short rF fun sG IG => B.sits next tnC wiped IG nx
theorem Fz.ext_ {H : Hp} {l : List Addr} {b : Addr} {p : Heap → Prop} (h : Fz H l b = some (.ext p)) : H b = some (.ext p) := by
  obtain ⟨_, u, e, s⟩ := Fz.at h
  cases u with
  | ext _ => cases s; exact e
  | frz o w => cases w <;> cases s
  | _ => cases s
/-- the lambdas of a frame: their texts, what they compute -/
structure LamOk (X : Cx) (g : GL) (k : Nat) (lams : Nat → Ev D) : Prop where
  ok : ∀ (i : Nat) (d : LamD), g.lm[i]? = some d → d.q = X.env.qual ++ "<lambda>" ∧ d.cl = cloFrom X.env.cells d.scope.names [] ∧ LamS X.env.scope d.scope ∧
    (∀ (q : Str) (cl : List (Str × Addr)) (pm cv ctv : Value), bindArgs (PySem.W.kla_fn "<lambda>" q d.params d.body d.scope cl pm cv ctv) ⟨[], []⟩ = pure []) ∧
    ∀ (A : Around) (outer : List PySem.Env) (s : Shared) (H : Hp) (E : XK) (f c' : Addr), Room k (A.deeper (lamEnv X d.scope s.heap.objs.size f c')) → PE (lamCx X A outer s H E d.scope f c') d.body (SemE g E (lams i))
/-- the lambda's object is called, wherever one stands -/
theorem lam_runs {X : Cx} {pins : List (Addr × Obj)} {σ : L2.St} {H HZ : Hp} {s s1 : Shared} {A : Around} {outer : List PySem.Env} {d : LamD} {f c' : Addr} {k : Nat} {E : XK} {Q : VK} {tb : TE} {pm ctv : Value} (I : Inv X pins σ H s) (L : LamS X.env.scope d.scope) (e0 : Env0 X.prog X.w X.K X.mg X.base A outer s1 HZ) (room : Room (k + 1) A)
    (since : Un (frs X.stack) [] H HZ s.heap s1.heap) (lim : s1.heap.NoLimit) (obj : s1.heap.get? f = some (PySem.W.kla_obj "<lambda>" (X.env.qual ++ "<lambda>") d.params d.body d.scope (cloFrom X.env.cells d.scope.names []) pm c' ctv)) (code : HZ c' = some (CodeO c' (X.env.qual ++ "<lambda>")))
    (bind : bindArgs (PySem.W.kla_fn "<lambda>" (X.env.qual ++ "<lambda>") d.params d.body d.scope (cloFrom X.env.cells d.scope.names []) pm (.ref c') ctv) ⟨[], []⟩ = pure []) (hbody : PE (lamCx X A outer s1 HZ E d.scope f c') d.body tb) (ht : tb σ HZ Q) :
    codeAny (model X.prog X.w) A (.call (.ref f) ⟨[], []⟩) (CR (L2.CX X.prog X.w) outer X.prog X.w HZ s1 Q E) s1 := by
  have record : ∃ (oc : Obj) (vs : Array Value) (t : Tok), s1.heap.get? c' = some oc ∧ oc.data = .fields vs ∧ vs[1]? = some (.str (X.env.qual ++ "<lambda>") t) := (e0.hok c' _ code).1
  obtain ⟨oc, vs, t, at_, data, name⟩ := record
  apply PySem.W.kla_callFunE room.depth obj rfl L.co L.gen rfl ⟨c', oc, vs, t, rfl, at_, data, name⟩
  rw [bind]
  apply wpAny_pure
  apply wpAny_newFunctionEnv (fun y hy => (L.own y hy).2) (fun y hy => by cases hy) _ L.kind
  intro h₁ names but
  refine ⟨lim.fresh _ but, ?_⟩
  have inside := lam_start2 (E := E) (f := f) (c' := c') (tk := s1.toks + 0) I L e0 room.hd since names fun b o e => but.extBut b o (Nat.ne_of_lt (Heap.lt_size e)) (Heap.get?_push_of_some _ e)
  apply PySem.W.kla_codeExpr
  refine wpAny_mono (hbody.run [] _ _ HZ Q inside ht) ?_ fun _ _ x => x
  rintro u s2 ⟨v, H2, J, rel, q⟩
  exact ⟨v, H2, J.os, J.bare, J.base, J.hok, rel, q⟩
/-- .. in the def that tells -/
theorem pe_actB {X : Cx} {pins : List (Addr × Obj)} {σ : L2.St} {H : Hp} {s : Shared} {CXg : CXT} {Eg : XK} {Ng : List Str} {qg : Str} {sg : Scope} {g f c' : Addr} {cdg : Value} {d : LamD} {k i : Nat} {a : Str} {pn : List (Addr × Obj)} {xe : Value → Shared → Prop} {W : WX} {E : XK} {tb : TE} {p1 p2 : Pos} (I : Inv X pins σ H s)
    (L : LamS X.env.scope d.scope) (hq : d.q = X.env.qual ++ "<lambda>") (hcl : d.cl = cloFrom X.env.cells d.scope.names []) (bind : ∀ (q : Str) (cl : List (Str × Addr)) (pm cv ctv : Value), bindArgs (PySem.W.kla_fn "<lambda>" q d.params d.body d.scope cl pm cv ctv) ⟨[], []⟩ = pure [])
    (takes : Takes ((cxOf CXg X.prog X.w X.K X.mg X.base Ng qg sg g cdg X.A X.stack s H Eg).tr pn xe) W) (wish : ∀ cls d σ' H', E cls d H' → W cls d σ' H') (room : Room (k + 1) (X.A.deeper (envOfC qg sg s.heap.objs.size g cdg)))
    (hbody : ∀ (A : Around) (outer : List PySem.Env) (s : Shared) (H : Hp), Room k (A.deeper (lamEnv X d.scope s.heap.objs.size f c')) → PE (lamCx X A outer s H E d.scope f c') d.body tb) (slot : Ng[i]? = some a) (seen : Vis sg a) (n1 : (a == ("__debug__" : Str)) = false := by decide) (n2 : (a == ("__classdict__" : Str)) = false := by decide) :
    PE ((cxOf CXg X.prog X.w X.K X.mg X.base Ng qg sg g cdg X.A X.stack s H Eg).tr pn xe) (.Call (.Name a p1) [] [] p2) fun σZ HZ Q => σZ[i]? = some (some (.ref f)) ∧ HZ c' = some (CodeO c' (X.env.qual ++ "<lambda>")) ∧ HZ f = some (LamO d c' f) ∧ tb σ HZ Q := by
  constructor
  rintro pinsZ sZ σZ HZ Q IZ ⟨here, code, held, ht⟩
  have name := (pe_var (pos := p1) (i := i) slot seen n1 n2).run pinsZ sZ σZ HZ (fun v H1 => v = .ref f ∧ H1 = HZ) IZ ⟨.ref f, here, rfl, rfl⟩
  apply wpAny_Call_Name_kw
  refine thn name ?_
  rintro u s1 ⟨v, H1, I1, rel, rfl, rfl⟩
  cases rel
  obtain ⟨⟨pm, ctv, obj⟩, _, _⟩ := I1.hok f _ held
  rw [hq, hcl] at obj
  apply PySem.W.callWith_F0 ⟨_, _, _, _, obj⟩
  have ran := lam_runs (E := E) (Q := Q) I L I1.env0 room I1.base I1.nolimit obj code (bind _ _ _ _ _) (hbody _ _ s1 H1 (room.deeper _)) ht
  have out : Passes (L2.CX X.prog X.w) ((cxOf CXg X.prog X.w X.K X.mg X.base Ng qg sg g cdg X.A X.stack s H Eg).tr pn xe) E := passes_call takes wish
  refine wpAny_call (codeAny_mono ran ?_)
  rintro (e | fl) s2 back
  · exact out pinsZ σZ H1 s1 e s2 I1 back
  · cases fl with
    | ret u => exact I1.after back
    | _ => cases back
def vToldL (fs : Nat) (vs : List Nat) (c : Nat) (ret : Str) (lams : Nat → Ev D) : Ev D := fun δ st => match δ[fs]? with
  | some (some (.p (.lam i))) => vTold c ret (lams i) (wipE δ vs) st
  | _ => .bad
theorem wipe_out' {σ σ2 : L2.St} {vs : List Nat} {i : Nat} (h : wipe σ2 vs = wipe σ vs) (hi : i ∉ vs) : σ2[i]? = σ[i]? := by
  rw [← wipe_out (σ := σ2) hi, h, wipe_out hi]
theorem wipE_some {δ : Env} {i : Nat} {d : D} : ∀ {vs : List Nat}, (wipE δ vs)[i]? = some (some d) → δ[i]? = some (some d) ∧ i ∉ vs
  | [], h => ⟨h, by simp⟩
  | v :: vs, h => by
    unfold wipE at h
    by_cases hv : v = i
    · subst hv
      by_cases hl : v < (wipE δ vs).length
      · rw [List.getElem?_set_self hl] at h; cases h
      · rw [List.getElem?_eq_none (by simpa using hl)] at h; cases h
    · rw [List.getElem?_set_ne hv] at h
      obtain ⟨a, b⟩ := wipE_some h
      exact ⟨a, fun m => (List.mem_cons.mp m).elim (fun e => hv e.symm) b⟩
theorem wipE_len (δ : Env) : ∀ vs : List Nat, (wipE δ vs).length = δ.length
  | [] => rfl
  | v :: vs => by unfold wipE; rw [List.length_set, wipE_len δ vs]
end Iv
end

section
set_option Elab.async false
set_option linter.all false
set_option maxRecDepth 100000
set_option maxHeartbeats 4100000
namespace Iv
open PySem PySem.Spec PyProof.Rows L2 Gx LamX
section
variable {X : Cx} {g : GL} {E : XK} {pins : List (Addr × Obj)} {σ : L2.St} {H0 : Hp} {s0 : Shared}
theorem se_toldB {x a e fv : Str} {cx fs : Nat} {ret : Str} {Ng : List Str} {pg : Arguments} {sg scope : Scope} {bg : List Stmt} {fT : Addr} {k : Nat} {own : List (Str × Nat)} {p pf pos : Pos} {lams : Nat → Ev D} {C : Addr} {cl : List (Str × Addr)} {fp : List Addr} (td : TolD X.K X.mg g x a e cx ret Ng pg sg bg fT)
    (I0 : Inv X pins σ H0 s0) (hfp : ∀ b ∈ fp, FpOk X pins H0 b) (hg : Gl (X.blk s0 H0 scope (compEnvC scope cl C X.env) fp) x) (hr : Room (k + 2) X.A) (LK : LamOk X g k lams)
    (hfv : X.N[fs]? = some fv) (hvf : Vis (X.blk s0 H0 scope (compEnvC scope cl C X.env) fp).env.scope fv) (hdb : (x == ("__debug__" : Str)) = false := by decide) (hd : (a == ("__debug__" : Str)) = false := by decide) (hcd : (a == ("__classdict__" : Str)) = false := by decide) (hd2 : (fv == ("__debug__" : Str)) = false := by decide) (hcd2 : (fv == ("__classdict__" : Str)) = false := by decide) :
    PE (X.blk s0 H0 scope (compEnvC scope cl C X.env) fp) (.Call (.Name x p) [.Name fv pf] [] pos) (fun σB H Q => wipe σB (own.map (·.2)) = wipe σ (own.map (·.2)) ∧ SemE g E (vToldL fs (own.map (·.2)) cx ret lams) σB H Q) := by
  refine ⟨fun pinsB s σB H Q IB ⟨hw, ex, ι, st, δ, at_, hh⟩ => ?_⟩
  obtain ⟨dV, kV, doc, pm, cdv, ct, oc, an, od, osl, lk, hcg, hb⟩ := td.ex
  obtain ⟨j, q1, q2, q3, q4, q5, q6, q7, q8, rfl⟩ := td.bd
  unfold vToldL at hh
  split at hh
  · rename_i i hδ
    obtain ⟨v, hv, rv⟩ := at_.env.2 fs _ hδ
    cases rv with
    | p rv =>
      cases rv with
      | @lam f c' i d hi hF hC =>
        have hF' : H f = some (LamO d c' f) := Fz.ext_ hF
        have hC' : H c' = some (CodeO c' d.q) := Fz.ext_ hC
        obtain ⟨hq, hcl, L, hbind, hbody⟩ := LK.ok i d hi
        rw [hq] at hC'
        refine wpAny_Call_Name_kw (ld_glob IB hg td.gm ?_ hdb)
        have ha : PA (X.blk s0 H0 scope (compEnvC scope cl C X.env) fp) [.Name fv pf] (tCons (tVar fs) tNil) := pa_cons (pe_var hfv hvf hd2 hcd2) pa_nil
        refine PySem.W.callWith_K (h₀ := X.base) IB.ok.mod.kin td.kp (thn (ha.run pos pinsB s σB H (fun vs H1 => vs = [V.ref f] ∧ H1 = H) IB ⟨_, hv, rfl, rfl⟩) fun us s1 ⟨vs, H1, I1, r1, e1, e2⟩ => ?_) (by rfl) (by rfl)
        subst e1 e2
        obtain rfl := Vals.ref1 r1
        refine ⟨I1.kIn, ?_⟩
        have Io : Inv X pins σ H1 s1 := I0.call' (ch := fp) I1.os I1.base I1.hok I1.bare fun b hb => ⟨(hfp b hb).2.2.2.1, (hfp b hb).2.1, (hfp b hb).2.2.2.2.1, (hfp b hb).2.2.2.2.2⟩
        have lens : (wipe σB (own.map (·.2))).length = (wipe σ (own.map (·.2))).length := by rw [hw]
        have at1 : At (g.wx ex) H1 ι st σ (wipE δ (own.map (·.2))) := by
          refine ⟨at_.good, ⟨?_, fun m d hm => ?_⟩⟩
          · rw [wipE_len, ← at_.env.1, ← wipe_length σB (own.map (·.2)), lens, wipe_length]
          · obtain ⟨hm1, hm2⟩ := wipE_some hm
            obtain ⟨v', hv', rv'⟩ := at_.env.2 m d hm1
            exact ⟨v', by rw [← wipe_out' hw hm2]; exact hv', rv'⟩
        have rc : codeAny (model X.prog X.w) X.A (.call (.ref fT) ⟨[.ref f], []⟩) (CR C8.CX0 X.stack X.prog X.w H1 s1 Q C8.E0) s1 := by
          refine run_ofS (N := Ng) (ps := [a]) (us := [.ref f]) (vs := [.ref f]) lk hcg td.sc hr Io.env0 (hb s1 [.ref f] I1.kIn rfl) (.cons rfl .nil) rfl fun hr' => ?_
          have h0 : ∀ f : Addr, (L2.start Ng [V.ref f])[0]? = some (some (V.ref f)) := fun f => rfl
          obtain ⟨t', ht', hq'⟩ := told_gives (X := X) (Ng := Ng) (x := x) (g := fT) (cdg := cdv) (j := j) (p1 := q1) (p2 := q2) (p3 := q3) (p4 := q4) (p5 := q5) (p6 := q6) (p7 := q7) (p8 := q8) (ret := ret) (q := X.env.qual ++ "<lambda>") td.ge td.ef.mg td.de h0 f c' s1 H1 Q (fun E H' Q' => H' f = some (LamO d c' f) ∧ SemE g E (lams i) σ H' Q')
            (fun W pn xe E p1 p2 tk hW => pe_actB (i := 0) Io L hq hcl hbind tk hW hr' (fun A outer s H hr2 => hbody A outer s H E f c' hr2) td.n0 td.va hd hcd) hC' (by
              refine ⟨hF', ex, ι, st, _, at1, ?_⟩
              unfold vTold at hh
              cases ef : lams i (wipE δ (own.map (·.2))) st with
              | bad => rw [ef] at hh; exact hh
              | ok d s => rw [ef] at hh; exact hh
              | exc c2 s =>
                rw [ef] at hh
                simp only [] at hh
                split at hh
                · rename_i hc
                  subst hc
                  exact fun H' ι' G' x' => ⟨true, td.exm, fun _ => hh (.str ret) H' ι' G' x' (.p (.str _)), fun z => Bool.noConfusion z⟩
                · exact hh.elim)
          exact ⟨t', ht'.nox, hq'⟩
        exact after_call I1 rc
  · exact hh.elim
/-- [1 for f in bad if told(f) != z] -/
theorem se_lcL {x a e fv z : Str} {cx fs : Nat} {ret : Str} {Ng : List Str} {pg : Arguments} {sg scope : Scope} {bg : List Stmt} {fT : Addr} {k : Nat} {own : List (Str × Nat)} {p pf pt pc pz pos : Pos} {jz : Nat} {lams : Nat → Ev D} {elt tg iter : Expr} {fi : Ev Its} {t : Tv} {ee : Ev D} {kf : List D → Store → Res D} (td : TolD X.K X.mg g x a e cx ret Ng pg sg bg fT) (kx : CxK X g)
    (hk : KOk kf) (hc : X.calm = true) (hN : X.N.Nodup) (hi : PI X tg iter (SemI g E fi)) (ok : BlkOk X.N X.env.scope scope own)
    (hg : ∀ (s : Shared) (H : Hp) (C : Addr) (cl : List (Str × Addr)) (fp : List Addr), PG (X.blk s H scope (compEnvC scope cl C X.env) fp) tg (SemT g (own.map (·.2)) t))
    (hgx : ∀ (s : Shared) (H : Hp) (C : Addr) (cl : List (Str × Addr)) (fp : List Addr), Gl (X.blk s H scope (compEnvC scope cl C X.env) fp) x)
    (he : ∀ (s : Shared) (H : Hp) (C : Addr) (cl : List (Str × Addr)) (fp : List Addr), PE (X.blk s H scope (compEnvC scope cl C X.env) fp) elt (SemE g L2.E0 ee))
    (hr : Room (k + 2) X.A) (LK : LamOk X g k lams) (hfv : X.N[fs]? = some fv) (hvf : ∀ (s : Shared) (H : Hp) (C : Addr) (cl : List (Str × Addr)) (fp : List Addr), Vis (X.blk s H scope (compEnvC scope cl C X.env) fp).env.scope fv) (hs : ∀ x, foldedSetIterable iter X.env x = pure x := by intro _; rfl)
    (hdb : (x == ("__debug__" : Str)) = false := by decide) (hd : (a == ("__debug__" : Str)) = false := by decide) (hcd : (a == ("__classdict__" : Str)) = false := by decide) (hd2 : (fv == ("__debug__" : Str)) = false := by decide) (hcd2 : (fv == ("__classdict__" : Str)) = false := by decide) :
    PE X (.ListComp elt [⟨tg, iter, [.Compare (.Call (.Name x p) [.Name fv pf] [] pt) [.NotEq] [.Constant (.str z) jz pz] pc], 0⟩] scope pos) (SemE g E (vCmpD fi t (tstB (v2 (oEq true) (vToldL fs (own.map (·.2)) cx ret lams) (vK (.str z)))) ee (own.map (·.2)) kf)) := by
  refine PE.mk fun pins s σ H Q I q => ?_
  refine lcz hc hN I hi ok hg (tt := fun σB H Q => wipe σB (own.map (·.2)) = wipe σ (own.map (·.2)) ∧ SemB g L2.E0 (tstB (v2 (oEq true) (vToldL fs (own.map (·.2)) cx ret lams) (vK (.str z)))) σB H Q) (te := SemE g L2.E0 ee) (fun s0 H0 C cl fp I0 hfp => ?_) (fun s0 H0 C cl fp _ _ => he s0 H0 C cl fp) hs (tLc_gen hk (fun σB H Q w q => ⟨w, q⟩) (fun _ _ _ _ q => q) H Q q)
  have kb : CxK (X.blk s0 H0 scope (compEnvC scope cl C X.env) fp) g := ⟨kx.K, kx.u⟩
  refine pts_one (pt_mono (pt_cmpR (or_ne kb) (se_toldB (own := own) (E := L2.E0) td I0 hfp (hgx s0 H0 C cl fp) hr LK hfv (hvf s0 H0 C cl fp) hdb hd hcd hd2 hcd2) (se_str (E := L2.E0) (g := g)) (nomark _)) fun σB H Q ⟨w, q⟩ => ?_)
  have q2 := tTest_of (t := tOp (rSem g (oEq true)) (SemE g L2.E0 (vToldL fs (own.map (·.2)) cx ret lams)) (SemE g L2.E0 (vK (.str z)))) (tOp_of (opSem_of noX_eq)) σB H Q q
  exact ⟨w, q2⟩
end
end Iv
end

section
set_option Elab.async false
set_option linter.all false
set_option maxRecDepth 100000
set_option maxHeartbeats 4100000
namespace Iv
open PySem PySem.Spec PyProof.Rows L2 Gx LamX

/-! ### the law -/
/-- the script as the law gets it; the tables of code objects are empty -/
def SpLaw (K : PySem.W.Frag) (cs : List (Addr × Addr)) (n : Nat) : Sp := fun vs H Q _ => ∃ (a : Addr) (ns : List Int), vs = [.ref a] ∧ SqL K H a (ns.map V.int) ∧ (∀ p ∈ cs, H p.2 = some (.tbl #[])) ∧ ns.length ≤ n ∧ (∀ z ∈ ns, Builtin.Int.intBits z ≤ 1048576) ∧ ∀ H', Q (.bl true) H'
def scrD (ns : List Int) : D := .p (.scr (ns.map .int))
theorem rps_ints {g : GL} {F : Hp} : ∀ ns : List Int, Rps g F (ns.map V.int) (ns.map .int)
  | [] => .nil
  | n :: ns => .cons (.int n) (rps_ints ns)
theorem sqL_fz {K : PySem.W.Frag} {H : Hp} {l : List Addr} {a : Addr} {xs : List V} (h : SqL K H a xs) (hl : a ∉ l) : SqL K (Fz H l) a xs := by
  obtain (h | ⟨o, h⟩) | h := h
  · exact .inl (.inl (Fz.mk hl h rfl))
  · exact .inl (.inr ⟨o, Fz.mk hl h rfl⟩)
  · exact .inr h
theorem fn_law {P : Program} {w : World} {K : PySem.W.Frag} {mg : Str → Option Value} {base : Heap} {x qual : Str} {params : Arguments} {body : List Stmt} {scope : Scope} {dvs : List V} {kws : List (Str × V)} {p : He.Defn} {fd : FuncData} {N : List Str} {a0 : Str} {k n : Nat} {b : Sv} {cs : List (Addr × Addr)} (F : FunD K x qual params body scope dvs kws (He.fAd K p) fd) (S : FnScope N [a0] scope)
    (hb : ∀ ns : List Int, ns.length ≤ n → (∀ z ∈ ns, Builtin.Int.intBits z ≤ 1048576) → ∃ s, b (startE N.length [scrD ns]) [] = .rt (.p (.bl true)) s)
    (hbody : ∀ (A : Around) (outer : List PySem.Env) (s : Shared) (H : Hp) (E : XK), Room k (A.deeper (envOfC qual scope s.heap.objs.size (He.fAd K p) (.ref (He.codeOf K p)))) →
      ∃ g : GL, g.K = K ∧ (∀ P ∈ g.T, P ∈ cs.map (·.2)) ∧ (∀ q ∈ g.L, q.1 ∈ cs.map (·.2)) ∧ (∀ q ∈ g.L, q.1 ∉ g.T) ∧ PSs (cxOf (L2.CX P w) P w K mg base N qual scope (He.fAd K p) (.ref (He.codeOf K p)) A outer s H E) body (SemS g E b)) :
    FnOk P w K mg base (L2.CX P w) (k + 1) (He.fAd K p) fd [a0] (SpLaw K cs n) := by
  obtain ⟨_, _, dV, kV, doc, pm, an, cdv, ct, _, rfl, lk, hcd, -, -⟩ := F.ex
  obtain ⟨c, rfl⟩ := He.codeIn_ref hcd
  have e : He.codeOf K p = c := He.codeOf_eq lk rfl
  refine fn_of lk hcd S (fun vs H Q E ⟨a, ns, h, _⟩ => by rw [h]; rfl) fun A outer s H vs Q E hr ⟨a, ns, ev, hS, hT, hl, hz, hQ⟩ => ?_
  rw [← e] at hr ⊢
  obtain ⟨g, hK, h1, h2, h3, hp⟩ := hbody A outer s H E hr
  refine ⟨SemS g E b, hp, ?_⟩
  subst ev
  obtain ⟨sF, hb⟩ := hb ns hl hz
  have tab : ∀ {P : Addr}, P ∈ cs.map (·.2) → H P = some (.tbl #[]) := fun {P} hP => by
    obtain ⟨q, hq, rfl⟩ := List.mem_map.mp hP
    exact hT q hq
  have G : Good (g.wx []) [] [] H := ⟨.nil, .nil, ⟨fun P hP => ⟨#[], tab (h1 P hP), True.intro, fun pos cv hc => by simp [codeAmong] at hc⟩, fun q hq => TabS.nil (tab (h2 q hq)), h3⟩, (fun b hb => by cases hb), (fun b hb => by cases hb)⟩
  refine ⟨[], [], [], startE N.length [scrD ns], ⟨G, re_start (.cons (.p (.scr (hK ▸ sqL_fz hS (fun m => by cases m)) (rps_ints ns))) .nil)⟩, ?_⟩
  rw [hb]
  intro v H' ι' _ _ r
  cases r with
  | p r => cases r; exact hQ H'
/-- the lambdas written in a list -/
def lamsOf : Stmt → List (Arguments × Expr × Scope)
  | .Assign _ (.List es _) _ => es.filterMap fun
    | .Lambda p b s _ => some (p, b, s)
    | _ => none
  | _ => []
def lmOf (q : Str) (cells : List (Str × Addr)) (st : Stmt) : List LamD := (lamsOf st).map fun z => ⟨q, z.1, z.2.1, z.2.2, cloFrom cells z.2.2.names []⟩
theorem told_of {K : PySem.W.Frag} {mg : Str → Option Value} {g : GL} {x a e : Str} {c : Nat} {ret : Str} {Ng : List Str} {pg : Arguments} {sg : Scope} {bg : List Stmt} {fT : Addr} {fd : FuncData} (F : FunD K x x pg bg sg [] [] fT fd) (gm : mg x = some (.ref fT))
    (hb : ∀ (kV doc pm : Value) (an : Option Addr) (cdv ct : Value) (us : List Value), us.length = [a].length → bindArgs (PySem.W.fnOf x x pg bg sg .none kV doc pm an cdv ct) ⟨us, []⟩ = pure ([a].zip us)) (sc : FnScope Ng [a] sg) (n0 : Ng[0]? = some a) (va : Vis sg a) (ge : sg.names.lookup e = some .globalImplicit) (ef : ExF K mg g c e) (de : (e == ("__debug__" : Str)) = false)
    (bd : ∃ (j : Nat) (p1 p2 p3 p4 p5 p6 p7 p8 : Pos), bg = [.Try [.Return (some (.Call (.Name a p1) [] [] p2)) p3] [.ExceptHandler (some (.Name e p4)) none [.Return (some (.Constant (.str ret) j p5)) p6] p7] [] [] p8]) (exm : PySem.W.exmOne K (.ref (g.CT c)) (.ref (g.CT c)) = some true) : TolD K mg g x a e c ret Ng pg sg bg fT := by
  have b : Binds K fd [a] [] := F.bindsN hb
  obtain ⟨_, _, dV, kV, doc, pm, an, cdv, ct, _, rfl, lk, hcd, -, -⟩ := F.ex
  exact ⟨⟨_, _, _, _, _, _, _, _, _, _, lk, hcd, b⟩, gm, F.kp, sc, n0, va, ge, ef, de, bd, exm⟩
end Iv
end

section
set_option Elab.async false
set_option linter.all false
set_option maxRecDepth 100000
set_option maxHeartbeats 4100000
namespace Iv
open PySem PySem.Spec PyProof.Rows L2 Gx

/-! ### instances of own classes -/
theorem rpf_get {g : GL} {F : Hp} {f : Str} {x : P} : ∀ {fs : List (Str × V)} {ps : List (Str × P)}, RpF g F fs ps → ps.lookup f = some x → ∃ v, fs.lookup f = some v ∧ Rp g F v x
  | _, _, .nil, e => by cases e
  | _, _, .cons (n := n) r t, e => by
    rw [List.lookup_cons] at e ⊢
    cases hb : (f == n) with
    | true => rw [hb] at e; cases e; exact ⟨_, rfl, r⟩
    | false => rw [hb] at e; exact rpf_get t e
theorem rpf_none {g : GL} {F : Hp} {f : Str} : ∀ {fs : List (Str × V)} {ps : List (Str × P)}, RpF g F fs ps → ps.lookup f = none → fs.lookup f = none
  | _, _, .nil, _ => rfl
  | _, _, .cons (n := n) r t, e => by
    rw [List.lookup_cons] at e ⊢
    cases hb : (f == n) with
    | true => rw [hb] at e; cases e
    | false => rw [hb] at e; exact rpf_none t e
abbrev Flds (g : GL) (F : Hp) (ι : List Addr) (fs : List (Str × V)) (ds : List (Str × D)) : Prop := Paired (fun (a : Str × V) (b : Str × D) => a.1 = b.1 ∧ RD g F ι a.2 b.2) fs ds
theorem fld_get {g : GL} {F : Hp} {ι : List Addr} {f : Str} {d : D} : ∀ {fs : List (Str × V)} {ds : List (Str × D)}, Flds g F ι fs ds → ds.lookup f = some d → ∃ v, fs.lookup f = some v ∧ RD g F ι v d
  | _, _, .nil, e => by cases e
  | (n, v) :: fs, (m, d') :: ds, .cons r t, e => by
    obtain ⟨rfl, r2⟩ := r
    rw [List.lookup_cons] at e ⊢
    cases hb : (f == n) with
    | true => rw [hb] at e; cases e; exact ⟨_, rfl, r2⟩
    | false => rw [hb] at e; exact fld_get t e
theorem fld_none {g : GL} {F : Hp} {ι : List Addr} {f : Str} : ∀ {fs : List (Str × V)} {ds : List (Str × D)}, Flds g F ι fs ds → ds.lookup f = none → fs.lookup f = none
  | _, _, .nil, _ => rfl
  | (n, v) :: fs, (m, d') :: ds, .cons r t, e => by
    obtain ⟨rfl, r2⟩ := r
    rw [List.lookup_cons] at e ⊢
    cases hb : (f == n) with
    | true => rw [hb] at e; cases e
    | false => rw [hb] at e; exact fld_none t e
def putD (f : Str) (d : D) : List (Str × D) → List (Str × D)
  | [] => [(f, d)]
  | (n, x) :: r => if n = f then (n, d) :: r else (n, x) :: putD f d r
theorem fld_put {g : GL} {F : Hp} {ι : List Addr} {f : Str} {v : V} {d : D} (r0 : RD g F ι v d) : ∀ {fs : List (Str × V)} {ds : List (Str × D)}, Flds g F ι fs ds → Flds g F ι (putF f v fs) (putD f d ds)
  | _, _, .nil => .cons ⟨rfl, r0⟩ .nil
  | (n, v') :: fs, (m, d') :: ds, .cons r t => by
    obtain ⟨e, r2⟩ := r
    dsimp only at e
    subst e
    unfold putF putD
    split
    · exact .cons ⟨rfl, r0⟩ t
    · exact .cons ⟨rfl, r2⟩ (fld_put r0 t)
/-- the class and the fields of an instance; none: it is none of the classes -/
def getF (cs : List Nat) (f : Str) (d : D) (s : Store) : Res D := match d with
  | .p (.obj c fs) => if c ∈ cs then (match fs.lookup f with
    | some x => .ok (.p x) s
    | none => .bad) else .bad
  | .ref n => match s[n]? with
    | some (.obj c fs) => if c ∈ cs then (match fs.lookup f with
      | some d => .ok d s
      | none => .bad) else .bad
    | _ => .bad
  | _ => .bad
def vFld (cs : List Nat) (f : Str) (fo : Ev D) : Ev D := fun δ st => (fo δ st).bnd fun d s => getF cs f d s
/-- of class c, and no field has the name m -/
def isObj (c : Nat) (m : Str) (d : D) (s : Store) : Bool := match d with
  | .p (.obj c' fs) => decide (c' = c) && (fs.lookup m).isNone
  | .ref n => match s[n]? with
    | some (.obj c' fs) => decide (c' = c) && (fs.lookup m).isNone
    | _ => false
  | _ => false
section
variable {X : Cx} {g : GL} {E : XK} {pos : Pos} {a b e o : Expr} {es : List Expr} {ι : List Addr} {st : Store} {H : Hp}
theorem getF_ok {cs : List Nat} {f : Str} {d d' : D} {s' : Store} {v : V} (G : Good g ι st H) (r : RD g (Fz H (g.x ι)) ι v d) (e : getF cs f d st = .ok d' s') :
    s' = st ∧ ∃ a c dx fs w, c ∈ cs ∧ v = .ref a ∧ H a = some (.ins (g.CT c) dx fs) ∧ fs.lookup f = some w ∧ RD g (Fz H (g.x ι)) ι w d' := by
  cases r with
  | p r =>
    cases r with
    | obj h r =>
      rename_i a dx c fs ps
      simp only [getF] at e
      split at e
      · rename_i hc
        split at e
        · rename_i x hx
          cases e
          obtain ⟨w, h1, h2⟩ := rpf_get r hx
          exact ⟨rfl, a, c, dx, fs, w, hc, rfl, Fz.ins h, h1, .p h2⟩
        · cases e
      · cases e
    | _ => cases e
  | ref hn =>
    rename_i n a
    simp only [getF] at e
    split at e
    · rename_i c ds hs
      split at e
      · rename_i hc
        split at e
        · rename_i x hx
          cases e
          obtain ⟨a', u, h1, h2, rc⟩ := G.cell hs
          rw [hn] at h1; cases h1
          cases rc with
          | obj q =>
            rename_i dx fs
            obtain ⟨w, h3, h4⟩ := fld_get q hx
            exact ⟨rfl, a, c, dx, fs, w, hc, rfl, h2, h3, h4⟩
        · cases e
      · cases e
    · cases e
theorem getF_x {cs : List Nat} {f : Str} {d : D} {s s' : Store} {c : Nat} : getF cs f d s ≠ .exc c s' := by
  intro e; unfold getF at e; repeat' split at e
  all_goals cases e
theorem isObj_ok {c : Nat} {m : Str} {d : D} {v : V} (G : Good g ι st H) (r : RD g (Fz H (g.x ι)) ι v d) (e : isObj c m d st = true) : ∃ a dx fs, v = .ref a ∧ H a = some (.ins (g.CT c) dx fs) ∧ fs.lookup m = none := by
  cases r with
  | p r =>
    cases r with
    | obj h r =>
      rename_i a dx c' fs ps
      simp only [isObj, Bool.and_eq_true, decide_eq_true_eq, Option.isNone_iff_eq_none] at e
      obtain ⟨rfl, e⟩ := e
      exact ⟨a, dx, fs, rfl, Fz.ins h, rpf_none r e⟩
    | _ => cases e
  | ref hn =>
    rename_i n a
    simp only [isObj] at e
    split at e
    · rename_i c' ds hs
      simp only [Bool.and_eq_true, decide_eq_true_eq, Option.isNone_iff_eq_none] at e
      obtain ⟨rfl, e⟩ := e
      obtain ⟨a', u, h1, h2, rc⟩ := G.cell hs
      rw [hn] at h1; cases h1
      cases rc with
      | obj q => exact ⟨a, _, _, rfl, h2, fld_none q e⟩
    · cases e
/-- o.f -/
theorem se_fld {cs : List Nat} {f : Str} {fo : Ev D} (hK : X.K = g.K) (hc : ∀ c ∈ cs, Cls g.K (g.CT c) ∧ NoAttr g.K (g.CT c) f) (he : PE X e (SemE g E fo)) (hb : attributeBase e f X.env (eval e X.env) = eval e X.env := by rfl) :
    PE X (.Attribute e f pos) (SemE g E (vFld cs f fo)) := by
  refine pe_mono (pe_fld he hb) fun σ H Q ⟨ex, ι, st, δ, at_, h⟩ => ?_
  refine semE_bnd at_ ?_
  unfold vFld at h
  cases ea : fo δ st with
  | bad => rw [ea] at h; exact h
  | exc c s1 => rw [ea] at h; exact h
  | ok d s1 =>
    rw [ea] at h
    intro v H1 ι1 at1 x1 r1
    have hq := Post.ext x1 h
    simp only [Res.bnd] at hq
    cases eg : getF cs f d s1 with
    | bad => rw [eg] at hq; exact hq.elim
    | exc c s2 => exact (getF_x eg).elim
    | ok d' s2 =>
      rw [eg] at hq
      obtain ⟨rfl, a, c, dx, fs, w, hcs, rfl, h1, h2, h3⟩ := getF_ok at1.good r1 eg
      obtain ⟨k1, k2⟩ := hc c hcs
      exact ⟨a, g.CT c, dx, fs, w, rfl, h1, hK ▸ k1, hK ▸ k2, h2, hq w H1 ι1 at1.good (.refl _ _) h3⟩
/-- o.m(..) -/
def vMeth (c : Nat) (m : Str) (ff : F1) (fo : Ev D) (fa : Ev (List D)) (dds : List D) : Ev D := fun δ st => (fo δ st).bnd fun d s => if isObj c m d s = true then (fa δ s).bnd fun ds s2 => ff (d :: (ds ++ dds)) s2 else .bad
theorem tMeth_of {c k : Nat} {m : Str} {ff : F1} {fo : Ev D} {fa : Ev (List D)} {dvs : List V} {dds : List D} (hd : Paired RdC dvs dds) (hk : ∀ ds st, ds.length ≠ k → ff ds st = .bad) :
    ∀ σ H Q, SemE g E (vMeth c m ff fo fa dds) σ H Q → tMeth (g.CT c) m (SpF g k ff) dvs E (SemE g E fo) (SemA g E fa) σ H Q := by
  rintro σ H Q ⟨ex, ι, st, δ, at_, h⟩
  refine semE_bnd at_ ?_
  unfold vMeth at h
  cases ea : fo δ st with
  | bad => rw [ea] at h; exact h
  | exc c s1 => rw [ea] at h; exact h
  | ok d s1 =>
    rw [ea] at h
    intro v H1 ι1 at1 x1 r1
    have h := Post.ext x1 h
    simp only [Res.bnd] at h
    split at h
    · rename_i ho
      obtain ⟨a, dx, fs, rfl, h1, h2⟩ := isObj_ok at1.good r1 ho
      refine ⟨a, dx, fs, rfl, h1, h2, semA_bnd at1 ?_⟩
      cases eb : fa δ s1 with
      | bad => rw [eb] at h; exact h
      | exc c s2 => rw [eb] at h; exact h
      | ok ds s2 =>
        rw [eb] at h
        intro vs H2 ι2 at2 x2 r2
        have h := Post.ext x2 h
        simp only [Res.bnd] at h
        have rr : RDs (g.wx ex) (Fz H2 ((g.wx ex).x ι2)) ι2 (V.ref a :: (vs ++ dvs)) (d :: (ds ++ dds)) := .cons (r1.ext x2) (pd_app r2 (rdc_all (g := g.wx ex) hd))
        refine ⟨?_, ex, ι2, s2, _, at2.good, rr, h⟩
        rw [Paired.length rr]
        apply Classical.byContradiction
        intro z
        rw [hk _ _ z] at h
        exact h
    · exact h.elim
/-- a method by its facts -/
structure Cal3 (P : Program) (w : World) (K : PySem.W.Frag) (mg : Str → Option Value) (base : Heap) (g : GL) (n c : Nat) (m : Str) (k : Nat) (ff : F1) (dds : List D) : Prop where
  cl : Cls K (g.CT c)
  ex : ∃ (f : Addr) (fd : FuncData) (ps : List Str) (ds : List Value) (dvs : List V), FnOk P w K mg base (L2.CX P w) n f fd ps (SpF g k ff) ∧ L2.Meth K (g.CT c) m f ∧ Binds K fd ps ds ∧ Vals dvs ds ∧ Paired RdC dvs dds
  len : ∀ ds st, ds.length ≠ k → ff ds st = .bad
theorem smeth {n j c k : Nat} {m : Str} {ff : F1} {dds : List D} {fo : Ev D} {fa : Ev (List D)} {atp : Pos} (cl : Cal3 X.prog X.w X.K X.mg X.base g n c m k ff dds) (hr : Room j X.A) (hn : n ≤ j) (hx : Passes (L2.CX X.prog X.w) X E)
    (ho : PE X o (SemE g E fo)) (ha : PA X (e :: es) (SemA g E fa)) (hst : starEach (e :: es) X.env = (false, eval e X.env) :: starEach es X.env := by rfl) (hpl : (backTo pos (starEach es X.env)).any (·.1) = false := by rfl) {pl : Sem Bool}
    (ht : eval (.Call (.Attribute o m atp) (e :: es) [] pos) X.env = (do
      let ov ← eval o X.env
      standAt atp.atName
      let (fm, fst1) ← holding [ov] (getMethod ov m pl)
      callWith pos fm fst1 (backTo pos (starEach (e :: es) X.env)) (backToKw pos (keywordEach [] X.env))) := by rfl) :
    PE X (.Call (.Attribute o m atp) (e :: es) [] pos) (SemE g E (vMeth c m ff fo fa dds)) := by
  obtain ⟨f, fd, ps, ds, dvs, F, hm, hb, hd, hdd⟩ := cl.ex
  exact pe_mono (pe_meth ho cl.cl hm F (hr.mono hn) hb hd hx ha hst hpl ht) (tMeth_of hdd cl.len)
theorem smeth0 {n j c k : Nat} {m : Str} {ff : F1} {dds : List D} {fo : Ev D} {atp : Pos} (cl : Cal3 X.prog X.w X.K X.mg X.base g n c m k ff dds) (hr : Room j X.A) (hn : n ≤ j) (hx : Passes (L2.CX X.prog X.w) X E)
    (ho : PE X o (SemE g E fo)) {pl : Sem Bool}
    (ht : eval (.Call (.Attribute o m atp) [] [] pos) X.env = (do
      let ov ← eval o X.env
      standAt atp.atName
      let (fm, fst1) ← holding [ov] (getMethod ov m pl)
      callWith pos fm fst1 (backTo pos (starEach [] X.env)) (backToKw pos (keywordEach [] X.env))) := by rfl) :
    PE X (.Call (.Attribute o m atp) [] [] pos) (SemE g E (vMeth c m ff fo aN dds)) := by
  obtain ⟨f, fd, ps, ds, dvs, F, hm, hb, hd, hdd⟩ := cl.ex
  refine pe_mono (pe_meth0 ho cl.cl hm F (hr.mono hn) hb hd hx ht) fun σ H Q q => ?_
  obtain ⟨ex, ι, st, δ, at_, h⟩ := q
  refine semE_bnd at_ ?_
  unfold vMeth at h
  cases ea : fo δ st with
  | bad => rw [ea] at h; exact h
  | exc c s1 => rw [ea] at h; exact h
  | ok d s1 =>
    rw [ea] at h
    intro v H1 ι1 at1 x1 r1
    have h := Post.ext x1 h
    simp only [Res.bnd] at h
    split at h
    · rename_i ho
      obtain ⟨a, dx, fs, rfl, h1, h2⟩ := isObj_ok at1.good r1 ho
      refine ⟨a, dx, fs, rfl, h1, h2, ?_⟩
      simp only [aN] at h
      have rr : RDs (g.wx ex) (Fz H1 ((g.wx ex).x ι1)) ι1 (V.ref a :: ([] ++ dvs)) (d :: ([] ++ dds)) := .cons r1 (rdc_all (g := g.wx ex) hdd)
      refine ⟨?_, ex, ι1, s1, _, at1.good, rr, h⟩
      rw [Paired.length rr]
      apply Classical.byContradiction
      intro z
      rw [cl.len _ _ z] at h
      exact h
    · exact h.elim
/-! ### a new instance -/
def vMake (c : Nat) (ff : F1) (keep : Bool) (fa : Ev (List D)) (dds : List D) : Ev D := fun δ st => (fa δ st).bnd fun ds s => match ff (.ref s.length :: (ds ++ dds)) (s ++ [.obj c []]) with
  | .ok (.p .non) s2 => if keep = true then .ok (.ref s.length) s2 else retF s.length (.ref s.length) s2
  | .exc e s2 => if keep = true then .exc e s2 else excF s.length e s2
  | _ => .bad
theorem tMake_of {c k : Nat} {ff : F1} {keep : Bool} {fa : Ev (List D)} {dvs : List V} {dds : List D} (hd : Paired RdC dvs dds) (hk : ∀ ds st, ds.length ≠ k → ff ds st = .bad) :
    ∀ σ H Q, SemE g E (vMake c ff keep fa dds) σ H Q → tMake (g.CT c) (SpF g k ff) dvs E (SemA g E fa) σ H Q := by
  rintro σ H Q ⟨ex, ι, st, δ, at_, h⟩
  refine semA_bnd at_ ?_
  unfold vMake at h
  cases ea : fa δ st with
  | bad => rw [ea] at h; exact h
  | exc c s1 => rw [ea] at h; exact h
  | ok ds s1 =>
    rw [ea] at h
    intro vs H1 ι1 at1 x1 r1 x dx hx hdx hne
    have h := Post.ext x1 h
    simp only [Res.bnd] at h
    obtain ⟨G1, e1⟩ := good_new (o := .own x) at1.good hdx
    obtain ⟨G2, e2⟩ := good_cell (p := x) (o := .ins (g.CT c) dx []) (c := .obj c []) G1 (by rw [upd_ne hne.symm]; exact hx) (.obj .nil)
    have e12 := e1.trans e2
    have hn : (ι1 ++ [x])[s1.length]? = some x := Good.next at1.good
    have rr : RDs (g.wx ex) (Fz (upd (upd H1 dx (.own x)) x (.ins (g.CT c) dx [])) ((g.wx ex).x (ι1 ++ [x]))) (ι1 ++ [x]) (V.ref x :: (vs ++ dvs)) (.ref s1.length :: (ds ++ dds)) :=
      .cons (.ref hn) (pd_app (Paired.mapP r1 fun _ _ r => r.ext e12) (rdc_all (g := g.wx ex) hd))
    have hp : Post (g.wx ex) (upd (upd H1 dx (.own x)) x (.ins (g.CT c) dx [])) (ι1 ++ [x]) E (ff (.ref s1.length :: (ds ++ dds)) (s1 ++ [.obj c []])) (fun v H2 => v = .non ∧ Q (.ref x) H2) := by
      cases ef : ff (.ref s1.length :: (ds ++ dds)) (s1 ++ [.obj c []]) with
      | bad => rw [ef] at h; exact h.elim
      | exc i s2 =>
        rw [ef] at h
        cases keep with
        | true =>
          intro H' ι' G' x'
          exact h H' ι' G' (e12.trans x')
        | false =>
          have q := exc_post at1.good h
          intro H' ι' G' x'
          exact q H' ι' G' (e12.trans x')
      | ok d s2 =>
        rw [ef] at h
        cases d with
        | ref n => exact h.elim
        | p y =>
          cases y with
          | non =>
            intro v H' ι' G' x' r'
            have hv : v = .non := by
              cases r' with
              | p r => cases r; rfl
            have rx : RD (g.wx ex) (Fz H' ((g.wx ex).x ι')) ι' (.ref x) (.ref s1.length) := RD.ext x' (.ref hn)
            refine ⟨hv, ?_⟩
            cases keep with
            | true => exact h _ H' ι' G' (e12.trans x') rx
            | false => exact ret_post at1.good G' (e12.trans x') rx h
          | _ => exact h.elim
    refine ⟨?_, ex, ι1 ++ [x], _, _, G2, rr, hp⟩
    rw [Paired.length rr]
    apply Classical.byContradiction
    intro z
    rw [hk _ _ z] at hp
    exact hp
structure Cal4 (P : Program) (w : World) (K : PySem.W.Frag) (mg : Str → Option Value) (base : Heap) (g : GL) (n c : Nat) (x : Str) (k : Nat) (ff : F1) (dds : List D) : Prop where
  ex : ∃ (f : Addr) (fd : FuncData) (ps : List Str) (ds : List Value) (dvs : List V), FnOk P w K mg base (L2.CX P w) n f fd ps (SpF g k ff) ∧ Mk K (g.CT c) f ∧ mg x = some (.ref (g.CT c)) ∧ Binds K fd ps ds ∧ Vals dvs ds ∧ Paired RdC dvs dds
  len : ∀ ds st, ds.length ≠ k → ff ds st = .bad
theorem smake {n j c k : Nat} {x : Str} {ff : F1} {keep : Bool} {dds : List D} {fa : Ev (List D)} {p : Pos} (cl : Cal4 X.prog X.w X.K X.mg X.base g n c x k ff dds) (hr : Room j X.A) (hn : n + 1 ≤ j) (hg : Gl X x) (hx : Passes (L2.CX X.prog X.w) X E)
    (ha : PA X (e :: es) (SemA g E fa)) (hdb : (x == ("__debug__" : Str)) = false := by decide) (he : starEach (e :: es) X.env = (false, eval e X.env) :: starEach es X.env := by rfl) (hpl : (backTo pos (starEach es X.env)).any (·.1) = false := by rfl) :
    PE X (.Call (.Name x p) (e :: es) [] pos) (SemE g E (vMake c ff keep fa dds)) := by
  obtain ⟨f, fd, ps, ds, dvs, F, M, hm, hb, hd, hdd⟩ := cl.ex
  exact pe_mono (pe_make M F (hr.mono hn) hg hm hb hd hx ha hdb he hpl) (tMake_of hdd cl.len)
theorem smake0 {n j c k : Nat} {x : Str} {ff : F1} {keep : Bool} {dds : List D} {p : Pos} (cl : Cal4 X.prog X.w X.K X.mg X.base g n c x k ff dds) (hr : Room j X.A) (hn : n + 1 ≤ j) (hg : Gl X x) (hx : Passes (L2.CX X.prog X.w) X E)
    (hdb : (x == ("__debug__" : Str)) = false := by decide) :
    PE X (.Call (.Name x p) [] [] pos) (SemE g E (vMake c ff keep aN dds)) := by
  obtain ⟨f, fd, ps, ds, dvs, F, M, hm, hb, hd, hdd⟩ := cl.ex
  refine pe_mono (pe_make0 M F (hr.mono hn) hg hm hb hd hx hdb) fun σ H Q q => ?_
  have z := tMake_of (fa := aN) hdd cl.len σ H Q q
  obtain ⟨ex, ι, st, δ, at_, z⟩ := z
  exact z [] H ι at_.good (.refl _ _) .nil
/-! ### o.f = v -/
def sSetF (cs : List Nat) (f : Str) (fo fv : Ev D) : Sv := fun δ st => match fv δ st with
  | .ok v s1 => match fo δ s1 with
    | .ok (.ref n) s2 => match s2[n]? with
      | some (.obj c fs) => if c ∈ cs ∧ fs.length < 1000 then .nx δ (s2.set n (.obj c (putD f v fs))) else .bad
      | _ => .bad
    | .exc c s => .exc c s
    | _ => .bad
  | .exc c s => .exc c s
  | .bad => .bad
theorem ss_fld {cs : List Nat} {f : Str} {fo fv : Ev D} {value : Expr} {pos' : Pos} (hK : X.K = g.K) (hc : ∀ c ∈ cs, Cls g.K (g.CT c) ∧ NoAttr g.K (g.CT c) f) (ho : PE X o (SemE g E fo)) (hv : PE X value (SemE g E fv)) (hs : swapsWith value (some (.Attribute o f pos')) pos.line X.env = pure false := by rfl) :
    PS X (.Assign [.Attribute o f pos'] value pos) (SemS g E (sSetF cs f fo fv)) := by
  refine ps_mono (ps_fld ho hv hs) fun D σ H ⟨ex, ι, st, δ, at_, h⟩ => ?_
  refine semE_bnd at_ ?_
  unfold sSetF at h
  cases ea : fv δ st with
  | bad => rw [ea] at h; exact h
  | exc c s1 => rw [ea] at h; exact h
  | ok dv s1 =>
    rw [ea] at h
    intro y H1 ι1 at1 x1 r1
    refine semE_bnd at1 ?_
    simp only at h
    cases eb : fo δ s1 with
    | bad => rw [eb] at h; exact h.elim
    | exc c s2 =>
      rw [eb] at h
      intro H' ι' G' x'
      exact h H' ι' G' (x1.trans x')
    | ok d s2 =>
      rw [eb] at h
      intro v H2 ι2 at2 x2 r2
      cases d with
      | p _ => exact h.elim
      | ref n =>
        simp only at h
        split at h
        · rename_i c fs hs2
          split at h
          · rename_i hc2
            obtain ⟨a, u, h1, h2, rc⟩ := at2.good.cell hs2
            cases r2 with
            | ref hn =>
              rw [hn] at h1; cases h1
              cases rc with
              | obj q =>
                rename_i dx vs
                obtain ⟨k1, k2⟩ := hc c hc2.1
                obtain ⟨G', x'⟩ := good_write (c := .obj c (putD f dv fs)) at2.good hn (.obj (fld_put (r1.ext x2) q)) (fun ps e => by rw [h2] at e; cases e) (fun c P e => by rw [h2] at e; cases e) (fun c P e => by rw [h2] at e; cases e)
                refine ⟨a, g.CT c, dx, vs, rfl, h2, hK ▸ k1, hK ▸ k2, by rw [Paired.length q]; exact hc2.2, ?_⟩
                exact h σ _ ι2 G' (x1.trans (x2.trans x')) (at2.env.ext x')
          · exact h.elim
        · exact h.elim
end
end Iv
end

section
set_option Elab.async false
set_option linter.all false
set_option maxRecDepth 100000
set_option maxHeartbeats 4100000
namespace Iv
open PySem PySem.Spec PyProof.Rows L2 Gx

/-! ### zip -/
def zipP (xs ys : List P) : List P := (xs.zip ys).map fun z => .tup [z.1, z.2]
theorem zip_get {α β : Type} : ∀ {xs : List α} {ys : List β} {i : Nat} {z : α × β}, (xs.zip ys)[i]? = some z → xs[i]? = some z.1 ∧ ys[i]? = some z.2
  | [], ys, i, z, h => by simp at h
  | x :: xs, [], i, z, h => by simp at h
  | x :: xs, y :: ys, 0, z, h => by
    obtain rfl : (x, y) = z := by simpa using h
    exact ⟨rfl, rfl⟩
  | x :: xs, y :: ys, i + 1, z, h => by
    have := zip_get (xs := xs) (ys := ys) (i := i) (z := z) (by simpa using h)
    simpa using this
/-- data, as a list or as a tuple: the items -/
def lstP : P → Option (List P)
  | .lst xs => some xs
  | .scr xs => some xs
  | _ => none
def tupP : P → Option (List P)
  | .tup xs => some xs
  | _ => none
def zip2 (d e : D) : Option (List P) := match d, e with
  | .p x, .p y => match lstP x, lstP y with
    | some xs, some ys => some (zipP xs ys)
    | _, _ => match tupP x, tupP y with
      | some xs, some ys => some (zipP xs ys)
      | _, _ => none
  | _, _ => none
def itZ (f : Ev (List D)) : Ev Its := fun δ st => (f δ st).bnd fun ds s => match ds with
  | [d, e] => match zip2 d e with
    | some zs => .ok ⟨zs.map .p, none⟩ s
    | none => .bad
  | _ => .bad
section
variable {X : Cx} {g : GL} {E : XK} {pos : Pos} {tg a b e : Expr} {ι : List Addr} {st : Store} {H F : Hp}
/-- a pair, just made -/
theorem pair_new {e : List Addr} {H' : Hp} {ι' : List Addr} {st' : Store} {T : Addr} {vx vy : V} {x y : P} (G : Good (g.up e) ι' st' H') (hT : H' T = none) (rx : Rp (g.up e) (Fz H' ((g.up e).x ι')) vx x) (ry : Rp (g.up e) (Fz H' ((g.up e).x ι')) vy y) :
    Good (g.up e) ι' st' (upd H' T (.tup [vx, vy])) ∧ Ext (g.up e) H' ι' (upd H' T (.tup [vx, vy])) ι' ∧ RD (g.up e) (Fz (upd H' T (.tup [vx, vy])) ((g.up e).x ι')) ι' (.ref T) (.p (.tup [x, y])) := by
  obtain ⟨G2, x2⟩ := good_new (o := .tup [vx, vy]) G hT
  have hz : Fz (upd H' T (.tup [vx, vy])) ((g.up e).x ι') T = some (.tup [vx, vy]) := fz_new G hT rfl
  exact ⟨G2, x2, .p (.tup (.inl (.inl hz)) (.cons (rx.sub x2.keep) (.cons (ry.sub x2.keep) .nil)))⟩
theorem its_zipL {a b : Addr} {vs ws : List V} {xs ys : List P} (hs : ∀ e H' ι', Ex2 g H ι e H' ι' → SqL g.K H' a vs) (ht : ∀ e H' ι', Ex2 g H ι e H' ι' → SqL g.K H' b ws) (r : Rps g (Fz H (g.x ι)) vs xs) (q : Rps g (Fz H (g.x ι)) ws ys) : ItS g (Itz g.K a b) H ι ⟨(zipP xs ys).map .p, none⟩ := by
  refine ⟨fun {e i H' ι' st' d0 d} hi G x hd => ?_, fun {e H' ι' st'} G x _ => ⟨vs, ws, hs _ _ _ x, ht _ _ _ x, ?_⟩⟩
  · cases hd
    rw [List.getElem?_map, Option.map_eq_some_iff] at hi
    obtain ⟨z, hz, rfl⟩ := hi
    unfold zipP at hz
    rw [List.getElem?_map, Option.map_eq_some_iff] at hz
    obtain ⟨z, hz, rfl⟩ := hz
    obtain ⟨h1, h2⟩ := zip_get hz
    obtain ⟨v, hv, rv⟩ := r.get' h1
    obtain ⟨w, hw, rw_⟩ := q.get' h2
    refine ⟨⟨vs, ws, v, w, hs _ _ _ x, ht _ _ _ x, hv, hw⟩, fun u H'' ⟨T, x', y', e1, e2, e3, e4, e5⟩ => ?_⟩
    subst e1 e3
    have k1 := e4 vs (hs _ _ _ x)
    have k2 := e5 ws (ht _ _ _ x)
    rw [hv] at k1; cases k1
    rw [hw] at k2; cases k2
    exact pair_new G e2 ((rv.sub x.keep).wx _) ((rw_.sub x.keep).wx _)
  · simp only [List.length_map, zipP, List.length_zip, r.length, q.length]
    omega
theorem its_zipT {a b : Addr} {vs ws : List V} {xs ys : List P} (hs : ∀ e H' ι', Ex2 g H ι e H' ι' → SqT g.K H' a vs) (ht : ∀ e H' ι', Ex2 g H ι e H' ι' → SqT g.K H' b ws) (r : Rps g (Fz H (g.x ι)) vs xs) (q : Rps g (Fz H (g.x ι)) ws ys) : ItS g (RZ.ItzT g.K a b) H ι ⟨(zipP xs ys).map .p, none⟩ := by
  refine ⟨fun {e i H' ι' st' d0 d} hi G x hd => ?_, fun {e H' ι' st'} G x _ => ⟨vs, ws, hs _ _ _ x, ht _ _ _ x, ?_⟩⟩
  · cases hd
    rw [List.getElem?_map, Option.map_eq_some_iff] at hi
    obtain ⟨z, hz, rfl⟩ := hi
    unfold zipP at hz
    rw [List.getElem?_map, Option.map_eq_some_iff] at hz
    obtain ⟨z, hz, rfl⟩ := hz
    obtain ⟨h1, h2⟩ := zip_get hz
    obtain ⟨v, hv, rv⟩ := r.get' h1
    obtain ⟨w, hw, rw_⟩ := q.get' h2
    refine ⟨⟨vs, ws, v, w, hs _ _ _ x, ht _ _ _ x, hv, hw⟩, fun u H'' ⟨T, x', y', e1, e2, e3, e4, e5⟩ => ?_⟩
    subst e1 e3
    have k1 := e4 vs (hs _ _ _ x)
    have k2 := e5 ws (ht _ _ _ x)
    rw [hv] at k1; cases k1
    rw [hw] at k2; cases k2
    exact pair_new G e2 ((rv.sub x.keep).wx _) ((rw_.sub x.keep).wx _)
  · simp only [List.length_map, zipP, List.length_zip, r.length, q.length]
    omega
/-- frozen lists stay -/
theorem lstP_ok {v : V} {x : P} {xs : List P} (r : Rp g (Fz H (g.x ι)) v x) (e : lstP x = some xs) : ∃ a vs, v = .ref a ∧ Rps g (Fz H (g.x ι)) vs xs ∧ SqL g.K H a vs ∧ ∀ e H' ι', Ex2 g H ι e H' ι' → SqL g.K H' a vs := by
  cases r with
  | lst h r => cases e; exact ⟨_, _, rfl, r, .inl (.inl (Fz.lst h)), fun _ H' ι' x => .inl (.inl (Fz.lst (x.keep _ _ h)))⟩
  | scr h r => cases e; exact ⟨_, _, rfl, r, sqL_of_fz h, fun _ H' ι' x => sqL_of_fz (x.keep.sqL h)⟩
  | _ => cases e
theorem tupP_ok {v : V} {x : P} {xs : List P} (r : Rp g (Fz H (g.x ι)) v x) (e : tupP x = some xs) : ∃ a vs, v = .ref a ∧ Rps g (Fz H (g.x ι)) vs xs ∧ SqT g.K H a vs ∧ ∀ e H' ι', Ex2 g H ι e H' ι' → SqT g.K H' a vs := by
  cases r with
  | tup h r => cases e; exact ⟨_, _, rfl, r, sqT_of_fz h, fun _ H' ι' x => sqT_of_fz (x.keep.sqT h)⟩
  | _ => cases e
/-- zip of two lists or of two tuples -/
theorem si_zip {elts : List Expr} {kk : Nat} {tpos p : Pos} {fa : Ev (List D)} (k : CxK X g) (hg : Gl X "zip") (hm : X.mg "zip" = none) (ha : PA X [a, b] (SemA g E fa))
    (hs : starEach [a, b] X.env = (false, eval a X.env) :: starEach [b] X.env := by rfl) (hpl : (backTo pos (starEach [b] X.env)).any (·.1) = false := by rfl) :
    PI X (.Tuple elts kk tpos) (.Call (.Name "zip" p) [a, b] [] pos) (SemI g E (itZ fa)) := by
  refine pi_mono (RZ.pi_zipA hg hm ha hs hpl) fun σ H R ⟨ex, ι, st, δ, at_, hh⟩ => ?_
  have kk : X.K = (g.wx ex).K := k.K
  refine semA_bnd at_ ?_
  unfold itZ at hh
  cases ef : fa δ st with
  | bad => rw [ef] at hh; exact hh
  | exc c s => rw [ef] at hh; exact hh
  | ok ds s =>
    rw [ef] at hh
    intro vs H1 ι1 at1 x1 r1
    simp only [Res.bnd] at hh
    split at hh
    · rename_i d1 d2
      split at hh
      · rename_i zs hz
        cases r1 with
        | cons r1 r2 =>
          cases r2 with
          | cons r2 r3 =>
            cases r3
            unfold zip2 at hz
            split at hz
            · cases r1 with
              | p r1 =>
                cases r2 with
                | p r2 =>
                  split at hz
                  · rename_i xs ys hx hy
                    cases hz
                    obtain ⟨p1, ws1, rfl, q1, s1, t1⟩ := lstP_ok r1 hx
                    obtain ⟨p2, ws2, rfl, q2, s2, t2⟩ := lstP_ok r2 hy
                    exact ⟨p1, p2, ws1, ws2, rfl, .inl ⟨kk ▸ s1, kk ▸ s2, hh _ H1 ι1 at1.good x1 (kk ▸ its_zipL t1 t2 q1 q2)⟩⟩
                  · split at hz
                    · rename_i xs ys hx hy
                      cases hz
                      obtain ⟨p1, ws1, rfl, q1, s1, t1⟩ := tupP_ok r1 hx
                      obtain ⟨p2, ws2, rfl, q2, s2, t2⟩ := tupP_ok r2 hy
                      exact ⟨p1, p2, ws1, ws2, rfl, .inr ⟨kk ▸ s1, kk ▸ s2, hh _ H1 ι1 at1.good x1 (kk ▸ its_zipT t1 t2 q1 q2)⟩⟩
                    · cases hz
            · cases hz
      · exact hh.elim
    · exact hh.elim
end
end Iv
end

section
set_option Elab.async false
set_option linter.all false
set_option maxRecDepth 100000
set_option maxHeartbeats 4100000
namespace Iv
open PySem L2
/-! ### plain rules of the meanings: loops and comprehensions, with no program in sight -/
theorem bnd_ok {α β : Type} (a : α) (s : Store) (f : α → Store → Res β) : (Res.ok a s).bnd f = f a s := rfl
theorem bnd_exc {α β : Type} (c : Nat) (s : Store) (f : α → Store → Res β) : (Res.exc c s : Res α).bnd f = .exc c s := rfl
/-- a while loop: each turn goes on or ends it; the measure falls -/
theorem wh_inv {c : Ev Bool} {b : Sv} (I : Nat → Env → Store → Prop) (Q : Env → Store → Prop)
    (step : ∀ m δ st, I m δ st → (c δ st = .ok false st ∧ Q δ st) ∨ ∃ m' δ' st', m = m' + 1 ∧ c δ st = .ok true st ∧ b δ st = .nx δ' st' ∧ I m' δ' st') :
    ∀ {n m : Nat} {δ : Env} {st : Store}, m < n → I m δ st → ∃ δ' st', sWh c b n δ st = .nx δ' st' ∧ Q δ' st' := by
  intro n
  induction n with
  | zero => intro m δ st h; omega
  | succ n ih =>
    intro m δ st h hI
    unfold sWh
    obtain ⟨h1, h2⟩ | ⟨m', δ', st', rfl, h2, h3, h4⟩ := step m δ st hI
    · exact ⟨δ, st, by rw [h1], h2⟩
    · obtain ⟨δ2, st2, e, q⟩ := ih (by omega) h4
      exact ⟨δ2, st2, by rw [h2]; simp only; rw [h3]; exact e, q⟩
/-- over data the length asks nothing -/
theorem sFor_len {t : Gv} {b : Sv} (l l2 : Nat) : ∀ {ds : List D} {i : Nat} {δ : Env} {st : Store}, sFor none l t b ds i δ st = sFor none l2 t b ds i δ st
  | [], i, δ, st => rfl
  | d :: ds, i, δ, st => by
    unfold sFor getI
    simp only [sFor_len l l2 (ds := ds)]
theorem compL_len2 {t : Tv} {c : Ev Bool} {e : Ev D} {δ0 : Env} (l l2 : Nat) : ∀ {ds : List D} {i : Nat} {st : Store}, compL none l t c e δ0 ds i st = compL none l2 t c e δ0 ds i st
  | [], i, st => rfl
  | d :: ds, i, st => by
    unfold compL getI
    simp only [compL_len2 l l2 (ds := ds)]
/-- a for loop over data -/
theorem for_inv {len : Nat} {t : Gv} {b : Sv} (I : Nat → Env → Store → Prop) : ∀ {ds : List D} {i : Nat} {δ : Env} {st : Store},
    (∀ j d δ st, ds[j]? = some d → I (i + j) δ st → ∃ δ1 s1 δ2 s2, t d δ st = .nx δ1 s1 ∧ b δ1 s1 = .nx δ2 s2 ∧ I (i + j + 1) δ2 s2) →
    I i δ st → ∃ δ' st', sFor none len t b ds i δ st = .nx δ' st' ∧ I (i + ds.length) δ' st'
  | [], i, δ, st, _, h => ⟨δ, st, rfl, h⟩
  | d :: ds, i, δ, st, step, h => by
    obtain ⟨δ1, s1, δ2, s2, h1, h2, h3⟩ := step 0 d δ st rfl h
    obtain ⟨δ', st', e, q⟩ := for_inv (len := len) (t := t) (b := b) I (ds := ds) (i := i + 1) (δ := δ2) (st := s2) (fun j d δ st hj hI => by
      have := step (j + 1) d δ st (by simpa using hj) (by rw [show i + (j + 1) = i + 1 + j by omega]; exact hI)
      rw [show i + (j + 1) = i + 1 + j by omega] at this
      exact this) (by simpa using h3)
    refine ⟨δ', st', ?_, by rw [List.length_cons, show i + (ds.length + 1) = i + 1 + ds.length by omega]; exact q⟩
    unfold sFor getI
    simp only [h1, h2]
    exact e
theorem range_get {n i x : Nat} (h : (List.range n)[i]? = some x) : i < n ∧ x = i := by
  have h1 := List.getElem?_eq_some_iff.mp h
  obtain ⟨h1, h2⟩ := h1
  simp at h1 h2
  exact ⟨h1, h2.symm⟩
/-- a for loop over a range -/
theorem for_range {n : Nat} {t : Gv} {b : Sv} {f : Nat → D} (I : Nat → Env → Store → Prop) {δ : Env} {st : Store}
    (step : ∀ j δ st, j < n → I j δ st → ∃ δ1 s1 δ2 s2, t (f j) δ st = .nx δ1 s1 ∧ b δ1 s1 = .nx δ2 s2 ∧ I (j + 1) δ2 s2)
    (h : I 0 δ st) : ∃ δ' st', (∀ len, sFor none len t b ((List.range n).map f) 0 δ st = .nx δ' st') ∧ I n δ' st' := by
  have := for_inv (len := 0) (t := t) (b := b) I (ds := (List.range n).map f) (i := 0) (δ := δ) (st := st) (fun j d δ st hj hI => by
    rw [List.getElem?_map, Option.map_eq_some_iff] at hj
    obtain ⟨i, hi, rfl⟩ := hj
    obtain ⟨hi, rfl⟩ := range_get hi
    rw [Nat.zero_add] at hI ⊢
    exact step i δ st hi hI) h
  obtain ⟨δ', st', e, q⟩ := this
  exact ⟨δ', st', fun len => by rw [sFor_len len 0]; exact e, by simpa using q⟩
/-- a comprehension whose parts leave the store alone -/
theorem compL_pure {len : Nat} {t : Tv} {c : Ev Bool} {e : Ev D} {δ0 : Env} {st : Store} (f : D → Option D) : ∀ {ds : List D} {i : Nat},
    (∀ d ∈ ds, ∃ δ1, t d δ0 = some δ1 ∧ ((f d = none ∧ c δ1 st = .ok false st) ∨ ∃ y, f d = some y ∧ c δ1 st = .ok true st ∧ e δ1 st = .ok y st)) →
    compL none len t c e δ0 ds i st = .ok (ds.filterMap f) st
  | [], i, _ => by rfl
  | d :: ds, i, h => by
    obtain ⟨δ1, h1, h2⟩ := h d (List.mem_cons_self ..)
    have ih := compL_pure (len := len) (t := t) (c := c) (e := e) (δ0 := δ0) (st := st) f (ds := ds) (i := i + 1) fun d hd => h d (List.mem_cons_of_mem _ hd)
    unfold compL getI
    simp only [h1]
    obtain ⟨h2, h3⟩ | ⟨y, h2, h3, h4⟩ := h2
    · simp only [h3, ih, List.filterMap_cons, h2]
    · simp only [h3, h4, ih, List.filterMap_cons, h2]
/-- without a test -/
theorem compL_map {len : Nat} {t : Tv} {e : Ev D} {δ0 : Env} {st : Store} (f : D → D) {ds : List D} {i : Nat}
    (h : ∀ d ∈ ds, ∃ δ1, t d δ0 = some δ1 ∧ e δ1 st = .ok (f d) st) :
    compL none len t bYes e δ0 ds i st = .ok (ds.map f) st := by
  have := compL_pure (len := len) (t := t) (c := bYes) (e := e) (δ0 := δ0) (st := st) (fun d => some (f d)) (ds := ds) (i := i) fun d hd => by
    obtain ⟨δ1, h1, h2⟩ := h d hd
    exact ⟨δ1, h1, .inr ⟨_, rfl, rfl, h2⟩⟩
  rw [this]
  simp
theorem pAll_map (xs : List P) : pAll (xs.map .p) = some xs := by
  induction xs with
  | nil => rfl
  | cons x xs ih => simp [pAll, ih]
theorem pAll_mapf {α : Type} (f : α → P) (xs : List α) : pAll (xs.map fun x => .p (f x)) = some (xs.map f) := by
  have := pAll_map (xs.map f)
  rw [List.map_map] at this
  exact this
theorem allInt_map {α : Type} (f : α → Int) (xs : List α) : allInt (xs.map fun x => .int (f x)) = some (xs.map f) := by
  induction xs with
  | nil => rfl
  | cons x xs ih => simp [allInt, ih]
/-- a store whose cells hold no cell beyond it -/
def WfS (s : Store) : Prop := s.all (wfC s.length) = true
theorem retF_own {s : Store} (w : WfS s) (x : P) (cs : List Cell) : retF s.length (.p x) (s ++ cs) = .ok (.p x) s := by
  unfold retF
  by_cases h : cs = []
  · subst h; simp
  · have : (s ++ cs).length ≠ s.length := by
      have := List.length_pos_iff.mpr h
      simp; omega
    rw [if_neg this, List.take_left', if_pos (show List.all s (wfC s.length) = true from w)]
    rfl
theorem retF_same (s : Store) (d : D) : retF s.length d s = .ok d s := by simp [retF]
theorem excF_same (s : Store) (c : Nat) : excF s.length c s = .exc c s := by simp [excF]
theorem excF_own {s : Store} (w : WfS s) (c : Nat) (cs : List Cell) : excF s.length c (s ++ cs) = .exc c s := by
  unfold excF
  by_cases h : cs = []
  · subst h; simp
  · have : (s ++ cs).length ≠ s.length := by
      have := List.length_pos_iff.mpr h
      simp; omega
    rw [if_neg this, List.take_left', if_pos (show List.all s (wfC s.length) = true from w)]
    rfl
theorem last_get (s : Store) (c : Cell) : (s ++ [c])[s.length]? = some c := by simp
theorem last_set (s : Store) (c d : Cell) : (s ++ [c]).set s.length d = s ++ [d] := by simp

/-! ### data that can be compared -/
mutual
def okD : Nat → P → Bool
  | _, .non => true
  | _, .bl _ => true
  | _, .int _ => true
  | _, .str x => PyData.strOk x
  | n + 1, .tup xs => okDs n xs
  | n + 1, .lst xs => okDs n xs
  | _, _ => false
def okDs : Nat → List P → Bool
  | _, [] => true
  | n, x :: xs => okD n x && okDs n xs
end
mutual
theorem okD_lay : ∀ (n : Nat) (x : P), okD n x = true → x.toD.canLay0 = true ∧ x.toD.depth ≤ n ∧ PyData.eqv x.toD x.toD = true
  | n, .non, _ => by simp [P.toD, PyData.canLay0, PyData.depth, PyData.eqv]
  | n, .bl _, _ => by simp [P.toD, PyData.canLay0, PyData.depth, PyData.eqv]
  | n, .int _, _ => by simp [P.toD, PyData.canLay0, PyData.depth, PyData.eqv]
  | n, .str x, h => by
    have : PyData.strOk x = true := by unfold okD at h; exact h
    simp [P.toD, PyData.canLay0, PyData.depth, PyData.eqv, this]
  | 0, .tup xs, h => by unfold okD at h; cases h
  | n + 1, .tup xs, h => by
    have := okDs_lay n xs (by unfold okD at h; exact h)
    simp [P.toD, PyData.canLay0, PyData.depth, PyData.eqv, this]
  | 0, .lst xs, h => by unfold okD at h; cases h
  | n + 1, .lst xs, h => by
    have := okDs_lay n xs (by unfold okD at h; exact h)
    simp [P.toD, PyData.canLay0, PyData.depth, PyData.eqv, this]
  | n, .scr _, h => by unfold okD at h; cases h
  | n, .dct _, h => by unfold okD at h; cases h
  | n, .obj _ _, h => by unfold okD at h; cases h
  | n, .lam _, h => by unfold okD at h; cases h
theorem okDs_lay : ∀ (n : Nat) (xs : List P), okDs n xs = true → PyData.canLayAll0 (P.toDs xs) = true ∧ PyData.depthAll (P.toDs xs) ≤ n ∧ PyData.eqvAll (P.toDs xs) (P.toDs xs) = true
  | n, [], _ => by simp [P.toDs, PyData.canLayAll0, PyData.depthAll, PyData.eqvAll]
  | n, x :: xs, h => by
    unfold okDs at h
    rw [Bool.and_eq_true] at h
    have h1 := okD_lay n x h.1
    have h2 := okDs_lay n xs h.2
    simp [P.toDs, PyData.canLayAll0, PyData.depthAll, PyData.eqvAll, h1, h2]
    omega
end
theorem okD_shaped {n : Nat} (hn : n ≤ 64) {x : P} (h : okD n x = true) : SeqAt.shaped x.toD = true := by
  have := okD_lay n x h
  unfold SeqAt.shaped
  simp [this.1]
  omega
theorem pEq_self {x : P} (h : okD 60 x = true) : pEq x x = some true := by
  have h1 := okD_shaped (by decide) h
  have h2 := (okD_lay _ _ h).2.2
  unfold pEq
  split
  · simp
  · simp [h1, h2]
mutual
theorem okD_mono : ∀ (n m : Nat) (x : P), n ≤ m → okD n x = true → okD m x = true
  | n, m, .non, _, _ => by unfold okD; rfl
  | n, m, .bl _, _, _ => by unfold okD; rfl
  | n, m, .int _, _, _ => by unfold okD; rfl
  | n, m, .str x, _, h => by unfold okD at h ⊢; exact h
  | 0, m, .tup xs, _, h => by unfold okD at h; cases h
  | n + 1, 0, .tup xs, l, h => by omega
  | n + 1, m + 1, .tup xs, l, h => by unfold okD at h ⊢; exact okDs_mono n m xs (by omega) h
  | 0, m, .lst xs, _, h => by unfold okD at h; cases h
  | n + 1, 0, .lst xs, l, h => by omega
  | n + 1, m + 1, .lst xs, l, h => by unfold okD at h ⊢; exact okDs_mono n m xs (by omega) h
  | n, m, .scr _, _, h => by unfold okD at h; cases h
  | n, m, .dct _, _, h => by unfold okD at h; cases h
  | n, m, .obj _ _, _, h => by unfold okD at h; cases h
  | n, m, .lam _, _, h => by unfold okD at h; cases h
theorem okDs_mono : ∀ (n m : Nat) (xs : List P), n ≤ m → okDs n xs = true → okDs m xs = true
  | n, m, [], _, _ => by unfold okDs; rfl
  | n, m, x :: xs, l, h => by
    unfold okDs at h ⊢
    rw [Bool.and_eq_true] at h ⊢
    exact ⟨okD_mono n m x l h.1, okDs_mono n m xs l h.2⟩
end
theorem okDs_all (n : Nat) (xs : List P) (h : ∀ x ∈ xs, okD n x = true) : okDs n xs = true := by
  induction xs with
  | nil => rfl
  | cons x xs ih => unfold okDs; rw [Bool.and_eq_true]; exact ⟨h x (List.mem_cons_self ..), ih fun y hy => h y (List.mem_cons_of_mem _ hy)⟩
/-! ### arithmetic that the meanings ask for -/
theorem mulOk_l {i j : Int} (h1 : -18446744073709551616 < i) (h2 : i < 18446744073709551616) : mulOk i j = true := by simp [mulOk, smallI, h1, h2]
theorem mulOk_r {i j : Int} (h1 : -18446744073709551616 < j) (h2 : j < 18446744073709551616) : mulOk i j = true := by simp [mulOk, smallI, h1, h2]
theorem log_ok {j : Int} (h : 0 < j) (h2 : j < 18446744073709551616) : j.natAbs.log2 < 9000 := by
  have : j.natAbs < 2 ^ 64 := by omega
  have := (Nat.log2_lt (by omega)).mpr this
  omega
theorem le_t {i j : Int} (h : i ≤ j) : ordI .le i j = true := by simp [ordI, h]
theorem le_f {i j : Int} (h : j < i) : ordI .le i j = false := by simp [ordI, h]
theorem lt_t {i j : Int} (h : i < j) : ordI .lt i j = true := by simp [ordI, h]
theorem lt_f {i j : Int} (h : j ≤ i) : ordI .lt i j = false := by simp [ordI, h]
theorem gt_t {i j : Int} (h : j < i) : ordI .gt i j = true := by simp [ordI, h]
theorem gt_f {i j : Int} (h : i ≤ j) : ordI .gt i j = false := by simp [ordI, h]
theorem ge_t {i j : Int} (h : j ≤ i) : ordI .ge i j = true := by simp [ordI, h]
theorem ge_f {i j : Int} (h : i < j) : ordI .ge i j = false := by simp [ordI, h]
theorem seqP_lst (xs : List P) : seqP (.lst xs) = some xs := rfl
theorem seqP_tup (xs : List P) : seqP (.tup xs) = some xs := rfl
theorem seqP_scr (xs : List P) : seqP (.scr xs) = some xs := rfl
theorem szLine_eq : szLine = 1000000 := rfl
def absI (i : Int) : Int := if i < 0 then -i else i
def maxI (i j : Int) : Int := if j > i then j else i
def minI (i j : Int) : Int := if j < i then j else i
theorem fAbs_int (i : Int) (s : Store) : fAbs [.p (.int i)] s = .ok (.p (.int (absI i))) s := rfl
theorem fMax_int (i j : Int) (s : Store) : fBest true [.p (.int i), .p (.int j)] s = .ok (.p (.int (maxI i j))) s := rfl
theorem fMin_int (i j : Int) (s : Store) : fBest false [.p (.int i), .p (.int j)] s = .ok (.p (.int (minI i j))) s := rfl
theorem ordI_int (k : OK) (i j : Int) (s : Store) : oOrd k (.p (.int i)) (.p (.int j)) s = .ok (.p (.bl (ordI k i j))) s := rfl
theorem oEq_int (n : Bool) (i j : Int) (s : Store) : oEq n (.p (.int i)) (.p (.int j)) s = .ok (.p (.bl (if n = true then !decide (i = j) else decide (i = j)))) s := rfl
theorem sq_ge (i : Int) : 0 ≤ i * i := by
  rcases Int.le_total 0 i with h | h
  · exact Int.mul_nonneg h h
  · rw [← Int.neg_mul_neg]; exact Int.mul_nonneg (by omega) (by omega)
theorem sq_mono {a b : Int} (h0 : 0 ≤ a) (h : a ≤ b) : a * a ≤ b * b := Int.mul_le_mul h h h0 (by omega)


end Iv
end

section
set_option Elab.async false
set_option linter.all false
set_option maxRecDepth 100000
set_option maxHeartbeats 4100000
namespace Iv
open PySem L2
/-! ### the first of the greatest -/
section
variable {α : Type} (f : α → Int)
def pick (o : Option α) (x : α) : Option α := match o with
  | none => some x
  | some y => if f y < f x then some x else some y
def amax (xs : List α) : Option α := xs.foldl (pick f) none
theorem amax_snoc (xs : List α) (x : α) : amax f (xs ++ [x]) = pick f (amax f xs) x := by simp [amax, List.foldl_append]
theorem amax_nil : amax f ([] : List α) = none := rfl
theorem amax_some : ∀ (xs : List α), xs ≠ [] → ∃ r, amax f xs.reverse = some r
  | [], h => absurd rfl h
  | x :: xs, _ => by
    rw [List.reverse_cons, amax_snoc]
    cases amax f xs.reverse with
    | none => exact ⟨_, rfl⟩
    | some y => unfold pick; simp only; split <;> exact ⟨_, rfl⟩
theorem amax_rspec : ∀ (xs : List α) (r : α), amax f xs.reverse = some r → ∃ i, xs.reverse[i]? = some r ∧ (∀ x ∈ xs, f x ≤ f r) ∧ ∀ j : Nat, j < i → ∀ x, xs.reverse[j]? = some x → f x < f r
  | [], r, h => by simp [amax] at h
  | x :: xs, r, h => by
    rw [List.reverse_cons, amax_snoc] at h
    cases e : amax f xs.reverse with
    | none =>
      cases xs with
      | nil =>
        rw [e] at h
        obtain rfl : x = r := by simpa [pick] using h
        exact ⟨0, by simp, by simp, by omega⟩
      | cons y ys =>
        obtain ⟨q, e2⟩ := amax_some f (y :: ys) (by simp)
        rw [e2] at e; cases e
    | some y =>
      obtain ⟨i, h1, h2, h3⟩ := amax_rspec xs y e
      rw [e] at h
      have hi := (List.getElem?_eq_some_iff.mp h1).1
      unfold pick at h
      simp only at h
      rw [List.reverse_cons]
      split at h
      · rename_i c
        obtain rfl := Option.some.inj h
        refine ⟨xs.length, ?_, fun z hz => ?_, fun j hj z hz => ?_⟩
        · rw [List.getElem?_append_right (by simp)]; simp
        · rcases List.mem_cons.mp hz with rfl | hz
          · omega
          · have := h2 z hz; omega
        · rw [List.getElem?_append_left (by simpa using hj)] at hz
          have := h2 z (List.mem_reverse.mp (List.mem_of_getElem? hz))
          omega
      · rename_i c
        obtain rfl := Option.some.inj h
        refine ⟨i, ?_, fun z hz => ?_, fun j hj z hz => ?_⟩
        · rw [List.getElem?_append_left hi]; exact h1
        · rcases List.mem_cons.mp hz with rfl | hz
          · omega
          · exact h2 z hz
        · rw [List.getElem?_append_left (by omega)] at hz
          exact h3 j hj z hz
theorem amax_spec {xs : List α} {r : α} (h : amax f xs = some r) : ∃ i, xs[i]? = some r ∧ (∀ x ∈ xs, f x ≤ f r) ∧ ∀ j : Nat, j < i → ∀ x, xs[j]? = some x → f x < f r := by
  have := amax_rspec f xs.reverse r (by rwa [List.reverse_reverse])
  rw [List.reverse_reverse] at this
  obtain ⟨i, h1, h2, h3⟩ := this
  exact ⟨i, h1, fun x hx => h2 x (List.mem_reverse.mpr hx), h3⟩
theorem amax_ex {xs : List α} (h : xs ≠ []) : ∃ r, amax f xs = some r := by
  have := amax_some f xs.reverse (by simpa using h)
  rwa [List.reverse_reverse] at this
end
/-! ### max, min, index of whole numbers -/
def maxL : List Int → Int
  | [] => 0
  | x :: xs => xs.foldl (fun a y => if a < y then y else a) x
def minL : List Int → Int
  | [] => 0
  | x :: xs => xs.foldl (fun a y => if y < a then y else a) x
theorem fold_max : ∀ (xs : List Int) (x : Int), (xs.foldl (fun a y => if a < y then y else a) x ∈ x :: xs) ∧ ∀ y ∈ x :: xs, y ≤ xs.foldl (fun a y => if a < y then y else a) x
  | [], x => by simp
  | z :: xs, x => by
    rw [List.foldl_cons]
    have ih := fold_max xs (if x < z then z else x)
    refine ⟨?_, fun y hq => ?_⟩
    · have := ih.1
      rcases List.mem_cons.mp this with h | h
      · rw [h]; split <;> simp
      · simp [h]
    · have h0 := ih.2 (if x < z then z else x) (List.mem_cons_self ..)
      rcases List.mem_cons.mp hq with (rfl | hq)
      · generalize List.foldl _ _ xs = M at h0 ⊢; split at h0 <;> omega
      · rcases List.mem_cons.mp hq with (rfl | hq)
        · generalize List.foldl _ _ xs = M at h0 ⊢; split at h0 <;> omega
        · exact ih.2 y (List.mem_cons_of_mem _ hq)
theorem fold_min : ∀ (xs : List Int) (x : Int), (xs.foldl (fun a y => if y < a then y else a) x ∈ x :: xs) ∧ ∀ y ∈ x :: xs, xs.foldl (fun a y => if y < a then y else a) x ≤ y
  | [], x => by simp
  | z :: xs, x => by
    rw [List.foldl_cons]
    have ih := fold_min xs (if z < x then z else x)
    refine ⟨?_, fun y hq => ?_⟩
    · have := ih.1
      rcases List.mem_cons.mp this with h | h
      · rw [h]; split <;> simp
      · simp [h]
    · have h0 := ih.2 (if z < x then z else x) (List.mem_cons_self ..)
      rcases List.mem_cons.mp hq with (rfl | hq)
      · generalize List.foldl _ _ xs = M at h0 ⊢; split at h0 <;> omega
      · rcases List.mem_cons.mp hq with (rfl | hq)
        · generalize List.foldl _ _ xs = M at h0 ⊢; split at h0 <;> omega
        · exact ih.2 y (List.mem_cons_of_mem _ hq)
theorem maxL_mem {xs : List Int} (h : xs ≠ []) : maxL xs ∈ xs ∧ ∀ y ∈ xs, y ≤ maxL xs := by
  cases xs with
  | nil => exact absurd rfl h
  | cons x xs => exact fold_max xs x
theorem minL_mem {xs : List Int} (h : xs ≠ []) : minL xs ∈ xs ∧ ∀ y ∈ xs, minL xs ≤ y := by
  cases xs with
  | nil => exact absurd rfl h
  | cons x xs => exact fold_min xs x
theorem bestP_max : ∀ (xs : List Int) (x : Int), bestP true (.int x) (xs.map .int) = .int (xs.foldl (fun a y => if a < y then y else a) x)
  | [], x => rfl
  | y :: xs, x => by
    have ih := bestP_max xs (if x < y then y else x)
    unfold bestP at ih ⊢
    rw [List.map_cons, List.foldl_cons, List.foldl_cons]; rw [← ih]
    simp only [P.toD, PySem.W.dataLt_int, if_true]
    congr 1
    by_cases c : x < y <;> simp [c]
theorem bestP_min : ∀ (xs : List Int) (x : Int), bestP false (.int x) (xs.map .int) = .int (xs.foldl (fun a y => if y < a then y else a) x)
  | [], x => rfl
  | y :: xs, x => by
    have ih := bestP_min xs (if y < x then y else x)
    unfold bestP at ih ⊢
    rw [List.map_cons, List.foldl_cons, List.foldl_cons]; rw [← ih]
    simp only [P.toD, PySem.W.dataLt_int]
    congr 1
    by_cases c : y < x <;> simp [c]
theorem alike_ints (xs : List Int) : alikeP (xs.map .int) = true := by
  simp [alikeP, P.toD, isNon, SeqAt.shaped, PyData.canLay0, PyData.depth, PySem.W.alike]
theorem fMax_ints {d : D} {s : Store} {x : P} {xs : List Int} (h1 : see s d = some x) (h2 : seqP x = some (xs.map .int)) (h : xs ≠ []) : fBest true [d] s = .ok (.p (.int (maxL xs))) s := by
  cases xs with
  | nil => exact absurd rfl h
  | cons y ys =>
    have a := alike_ints (y :: ys)
    have b := bestP_max ys y
    rw [List.map_cons] at h2 a
    unfold fBest
    simp only [h1, h2, a, if_true, b]
    rfl
theorem fMin_ints {d : D} {s : Store} {x : P} {xs : List Int} (h1 : see s d = some x) (h2 : seqP x = some (xs.map .int)) (h : xs ≠ []) : fBest false [d] s = .ok (.p (.int (minL xs))) s := by
  cases xs with
  | nil => exact absurd rfl h
  | cons y ys =>
    have a := alike_ints (y :: ys)
    have b := bestP_min ys y
    rw [List.map_cons] at h2 a
    unfold fBest
    simp only [h1, h2, a, if_true, b]
    rfl
theorem idxP_ints : ∀ (xs : List Int) (m : Int) (i n : Nat), xs[i]? = some m → (∀ j : Nat, j < i → ∀ x, xs[j]? = some x → x ≠ m) → idxP (.int m) (xs.map .int) n = some (n + i)
  | [], m, i, n, h, _ => by simp at h
  | x :: xs, m, 0, n, h, _ => by
    obtain rfl : x = m := by simpa using h
    simp [idxP, P.toD, PyData.eqv]
  | x :: xs, m, i + 1, n, h, h2 => by
    have ih := idxP_ints xs m i (n + 1) (by simpa using h) fun j hj y hy => h2 (j + 1) (by omega) y (by simpa using hy)
    have : x ≠ m := h2 0 (by omega) x rfl
    simp only [List.map_cons, idxP, P.toD, PyData.eqv]
    rw [if_neg (by simpa using this), ih]
    congr 1; omega
/-- the first greatest, by max and index -/
theorem amax_idx {α : Type} {f : α → Int} {xs : List α} {r : α} (h : amax f xs = some r) : ∃ i, xs[i]? = some r ∧ maxL (xs.map f) = f r ∧ idxP (.int (f r)) ((xs.map f).map .int) 0 = some i := by
  obtain ⟨i, h1, h2, h3⟩ := amax_spec f h
  have hm := List.mem_of_getElem? h1
  have hne : xs.map f ≠ [] := by
    intro e
    have : xs = [] := List.map_eq_nil_iff.mp e
    rw [this] at hm; cases hm
  refine ⟨i, h1, ?_, ?_⟩
  · obtain ⟨g1, g2⟩ := maxL_mem hne
    obtain ⟨z, hz, e⟩ := List.mem_map.mp g1
    have := h2 z hz
    have := g2 (f r) (List.mem_map_of_mem hm)
    omega
  · have := idxP_ints (xs.map f) (f r) i 0 (by rw [List.getElem?_map, h1]; rfl) fun j hj x hx => by
      rw [List.getElem?_map, Option.map_eq_some_iff] at hx
      obtain ⟨y, hy, rfl⟩ := hx
      have := h3 j hj y hy
      omega
    simpa using this
theorem shaped_ints (xs : List Int) : SeqAt.shaped (P.lst (xs.map .int)).toD = true := okD_shaped (n := 2) (by decide) (by unfold okD; exact okDs_all _ _ fun x hx => by obtain ⟨i, _, rfl⟩ := List.mem_map.mp hx; rfl)
theorem shaped_int (i : Int) : SeqAt.shaped (P.int i).toD = true := rfl
theorem mIdx_ints {d e : D} {s : Store} {xs : List Int} {m : Int} {i : Nat} (h1 : see s d = some (.lst (xs.map .int))) (h2 : idxP (.int m) (xs.map .int) 0 = some i) : mIdx d [.p (.int m)] s = .ok (.p (.int (i : Nat))) s := by
  have h3 : see s (.p (.int m)) = some (.int m) := rfl
  unfold mIdx
  simp only [h1, h3, shaped_ints, shaped_int, h2, and_self, if_true]
/-! ### more of data -/
theorem pEq_int (i j : Int) : pEq (.int i) (.int j) = some (decide (i = j)) := rfl
theorem pEq_nil {xs : List P} (h : okDs 59 xs = true) : pEq (.lst xs) (.lst []) = some xs.isEmpty := by
  have h1 : SeqAt.shaped (P.lst xs).toD = true := okD_shaped (n := 60) (by decide) (by unfold okD; exact h)
  have h2 : SeqAt.shaped (P.lst []).toD = true := okD_shaped (n := 60) (by decide) rfl
  unfold pEq
  simp only [h1, h2, and_self, if_true]
  cases xs <;> simp [P.toD, P.toDs, PyData.eqv, PyData.eqvAll]
theorem atI_nat {α : Type} {xs : List α} {i : Nat} {x : α} (h : xs[i]? = some x) : L2.atI xs (i : Int) = some x := by
  have hl := (List.getElem?_eq_some_iff.mp h).1
  unfold L2.atI L2.ixN
  rw [if_pos (by omega)]; rw [if_pos (by omega)]
  simpa using h
theorem wfD_mono {m n : Nat} (h : m ≤ n) (d : D) (w : wfD m d = true) : wfD n d = true := by
  cases d with
  | p x => rfl
  | ref k => simp only [wfD, decide_eq_true_eq] at w ⊢; omega
theorem wfC_mono {m n : Nat} (h : m ≤ n) (c : Cell) (w : wfC m c = true) : wfC n c = true := by
  cases c <;> simp only [wfC, List.all_eq_true] at w ⊢ <;> exact fun x hx => wfD_mono h _ (w x hx)
theorem WfS.snoc {s : Store} (w : WfS s) {c : Cell} (h : wfC (s.length + 1) c = true) : WfS (s ++ [c]) := by
  unfold WfS at *
  simp only [List.length_append, List.length_cons, List.length_nil, List.all_append, List.all_cons, List.all_nil, Bool.and_true, Bool.and_eq_true]
  refine ⟨?_, h⟩
  rw [List.all_eq_true] at *
  exact fun x hx => wfC_mono (by omega) x (w x hx)
theorem wfC_ps (n : Nat) (xs : List P) : wfC n (.lst (xs.map .p)) = true := by simp [wfC, wfD]
end Iv
end

section
set_option Elab.async false
set_option linter.all false
set_option maxRecDepth 100000
set_option maxHeartbeats 4100000
namespace Iv
open PySem L2
theorem seqn {f g : Sv} {δ δ1 : Env} {s s1 : Store} (h : f δ s = .nx δ1 s1) : sSeq f g δ s = g δ1 s1 := by unfold sSeq; rw [h]
theorem retF_len {s : Store} {m : Nat} {d : D} (h : s.length = m) : retF m d s = .ok d s := by simp [retF, h]
theorem excF_len {s : Store} {m c : Nat} (h : s.length = m) : excF m c s = .exc c s := by simp [excF, h]
theorem retF_cell {s : Store} (w : WfS s) {c : Cell} {x : P} (h : seeC c = some x) : retF s.length (.ref s.length) (s ++ [c]) = .ok (.p x) s := by
  unfold retF
  rw [if_neg (by simp), List.take_left', if_pos (show List.all s (wfC s.length) = true from w)]
  · simp [see, h]
  · rfl
/-- a comprehension over data: what passes, each computed -/
theorem compL_gen {α : Type} {t : Tv} {c : Ev Bool} {e : Ev D} {δ0 : Env} {st : Store} (xs : List α) (enc : α → P) (p : α → Bool) (f : α → P)
    (h : ∀ x ∈ xs, ∃ δ1, t (.p (enc x)) δ0 = some δ1 ∧ c δ1 st = .ok (p x) st ∧ (p x = true → e δ1 st = .ok (.p (f x)) st)) :
    ∀ len k, compL none len t c e δ0 ((xs.map enc).map .p) k st = .ok (((xs.filter p).map f).map .p) st := by
  induction xs with
  | nil => intro len k; rfl
  | cons x xs ih =>
    intro len k
    obtain ⟨δ1, h1, h2, h3⟩ := h x (List.mem_cons_self ..)
    have ih := ih (fun y hy => h y (List.mem_cons_of_mem _ hy)) len (k + 1)
    rw [List.map_cons]; rw [List.map_cons]
    unfold compL getI
    simp only [h1, h2]
    cases hp : p x with
    | true =>
      simp only [h3 hp, ih, List.filter_cons, hp, if_true, List.map_cons]
    | false =>
      simp only [ih, List.filter_cons, hp, Bool.false_eq_true, if_false]
theorem compL_all {α : Type} {t : Tv} {e : Ev D} {δ0 : Env} {st : Store} (xs : List α) (enc : α → P) (f : α → P)
    (h : ∀ x ∈ xs, ∃ δ1, t (.p (enc x)) δ0 = some δ1 ∧ e δ1 st = .ok (.p (f x)) st) :
    ∀ len k, compL none len t bYes e δ0 ((xs.map enc).map .p) k st = .ok ((xs.map f).map .p) st := by
  intro len k
  have := compL_gen (t := t) (c := bYes) (e := e) (δ0 := δ0) (st := st) xs enc (fun _ => true) f (fun x hx => by
    obtain ⟨δ1, h1, h2⟩ := h x hx
    exact ⟨δ1, h1, rfl, fun _ => h2⟩) len k
  rw [this, List.filter_eq_self.mpr (fun _ _ => rfl)]
/-- lo, lo + 1, .. -/
def itv (lo : Int) (n : Nat) : List Int := (List.range n).map fun i => lo + (i : Nat)
theorem rng_itv (lo : Int) (n : Nat) : ((List.range n).map fun i => D.p (.int (lo + (i : Nat)))) = ((itv lo n).map P.int).map D.p := by
  unfold itv; simp only [List.map_map]; rfl
theorem rng_itv0 (n : Nat) : ((List.range n).map fun i => D.p (.int (i : Nat))) = ((itv 0 n).map P.int).map D.p := by
  unfold itv; simp only [List.map_map]
  refine List.map_congr_left fun ii _ => ?_
  simp [Function.comp]
theorem itv_len (lo : Int) (n : Nat) : (itv lo n).length = n := by simp [itv]
theorem itv_mem {lo : Int} {n : Nat} {x : Int} : x ∈ itv lo n ↔ lo ≤ x ∧ x < lo + n := by
  unfold itv
  simp only [List.mem_range, List.mem_map]
  constructor
  · rintro ⟨i, h, rfl⟩; omega
  · intro h; exact ⟨(x - lo).toNat, by omega, by omega⟩
theorem itv_succ (lo : Int) (n : Nat) : itv lo (n + 1) = itv lo n ++ [lo + (n : Nat)] := by unfold itv; rw [List.range_succ]; simp
theorem itv_get {lo : Int} {n i : Nat} (h : i < n) : (itv lo n)[i]? = some (lo + (i : Nat)) := by unfold itv; simp [h]
/-- a for loop over data, by places -/
theorem for_data {α : Type} {t : Gv} {b : Sv} (xs : List α) (enc : α → P) (J : Nat → Env → Store → Prop) {δ : Env} {st : Store}
    (step : ∀ j x δ st, xs[j]? = some x → J j δ st → ∃ δ1 s1 δ2 s2, t (.p (enc x)) δ st = .nx δ1 s1 ∧ b δ1 s1 = .nx δ2 s2 ∧ J (j + 1) δ2 s2)
    (h : J 0 δ st) : ∃ δ' st', (∀ len, sFor none len t b ((xs.map enc).map .p) 0 δ st = .nx δ' st') ∧ J xs.length δ' st' := by
  have := for_inv (len := 0) (t := t) (b := b) J (ds := (xs.map enc).map .p) (i := 0) (δ := δ) (st := st) (fun j d δ st hj hI => by
    rw [List.getElem?_map, Option.map_eq_some_iff] at hj
    obtain ⟨y, hy, rfl⟩ := hj
    rw [List.getElem?_map, Option.map_eq_some_iff] at hy
    obtain ⟨x, hx, rfl⟩ := hy
    rw [Nat.zero_add] at hI ⊢
    exact step j x δ st hx hI) h
  obtain ⟨δ', st', e, q⟩ := this
  exact ⟨δ', st', fun len => by rw [sFor_len len 0]; exact e, by simpa using q⟩
theorem okDs_ints (n : Nat) (xs : List Int) : okDs n (xs.map P.int) = true := okDs_all _ _ fun x hx => by
  obtain ⟨i, _, rfl⟩ := List.mem_map.mp hx
  unfold okD; rfl
theorem lst_ints (xs : List Int) : okD 60 (.lst (xs.map P.int)) = true := by unfold okD; exact okDs_ints _ _
theorem take_snoc {α : Type} {xs : List α} {j : Nat} {x : α} (h : xs[j]? = some x) : xs.take (j + 1) = xs.take j ++ [x] := by
  rw [List.take_add_one, h]; rfl
end Iv
end

section
set_option Elab.async false
set_option linter.all false
set_option maxRecDepth 100000
set_option maxHeartbeats 0
namespace K09
open PySem PySem.Spec PyProof.Rows L2
def top (i : Nat) : Stmt := PySem.Challenge.pw_woodstack_k09_stairs_between_floors.main.body.getD i (.Pass ⟨0, 0, 0, 0⟩)
def d_0 : He.DefD := ⟨("Rules", some "__init__"), "__init__", "Rules.__init__", defArgs (inClass (top 5) 0), defBody (inClass (top 5) 0), defScope (inClass (top 5) 0), [], []⟩
def d_1 : He.DefD := ⟨("Rules", some "steps_for"), "steps_for", "Rules.steps_for", defArgs (inClass (top 5) 1), defBody (inClass (top 5) 1), defScope (inClass (top 5) 1), [], []⟩
def d_2 : He.DefD := ⟨("Rules", some "goings_for"), "goings_for", "Rules.goings_for", defArgs (inClass (top 5) 2), defBody (inClass (top 5) 2), defScope (inClass (top 5) 2), [], []⟩
def d_3 : He.DefD := ⟨("Rules", some "best"), "best", "Rules.best", defArgs (inClass (top 5) 3), defBody (inClass (top 5) 3), defScope (inClass (top 5) 3), [], []⟩
def d_4 : He.DefD := ⟨("Rules", some "rises_fit"), "rises_fit", "Rules.rises_fit", defArgs (inClass (top 5) 4), defBody (inClass (top 5) 4), defScope (inClass (top 5) 4), [], []⟩
def d_5 : He.DefD := ⟨("heights", none), "heights", "heights", defArgs (top 6), defBody (top 6), defScope (top 6), [], []⟩
def d_6 : He.DefD := ⟨("edges_of", none), "edges_of", "edges_of", defArgs (top 7), defBody (top 7), defScope (top 7), [], []⟩
def d_7 : He.DefD := ⟨("headroom", none), "headroom", "headroom", defArgs (top 8), defBody (top 8), defScope (top 8), [], []⟩
def d_8 : He.DefD := ⟨("_law_dice", none), "_law_dice", "_law_dice", defArgs (top 10), defBody (top 10), defScope (top 10), [], []⟩
def d_9 : He.DefD := ⟨("_law_roll", none), "_law_roll", "_law_roll", defArgs (top 11), defBody (top 11), defScope (top 11), [], []⟩
def d_10 : He.DefD := ⟨("_law_rounds", none), "_law_rounds", "_law_rounds", defArgs (top 12), defBody (top 12), defScope (top 12), [], []⟩
def d_11 : He.DefD := ⟨("_law_told", none), "_law_told", "_law_told", defArgs (top 13), defBody (top 13), defScope (top 13), [], []⟩
def d_12 : He.DefD := ⟨("law", none), "law", "law", defArgs (top 14), defBody (top 14), defScope (top 14), [], []⟩
def fn : List He.DefD := [d_0, d_1, d_2, d_3, d_4, d_5, d_6, d_7, d_8, d_9, d_10, d_11, d_12]
def fa : List He.Fa := [.glo "heights", .glo "edges_of", .glo "headroom", .glo "_law_dice", .glo "_law_roll", .glo "_law_rounds", .glo "_law_told", .glo "law", .glo "LoadError", .glo "Rules", .int "STEP_SUM" 630, .exc "LoadError", .exm "LoadError" "LoadError" true, .cls "Rules", .noat "Rules" "rise", .noat "Rules" "going", .meth "Rules" "steps_for", .meth "Rules" "goings_for", .meth "Rules" "best", .meth "Rules" "rises_fit", .mkr "Rules", .free "abs", .free "any", .free "int", .free "len", .free "list", .free "max", .free "min", .free "range", .free "sum", .free "tuple", .free "zip"]
def tf : List He.Defn := [("Rules", some "__init__"), ("Rules", some "steps_for"), ("law", none)]
def exq (K : PySem.W.Frag) : Bool := decide ((tf.map fun p => (He.cT K p).2).Nodup)
abbrev R : PySem.W.OpenRow := PySem.W.OpenLaw.row PySem.Challenge.rw_woodstack_k09_stairs_between_floors
abbrev hk : PySem.W.Hook := He.hookX 4 fa fn [] tf exq
def ob (s : PySem.W.SharedT) : He.AlX := He.obsX 4 fa fn [] tf exq (HandSHeadRun.getT s)
theorem ob_eq (s : PySem.W.SharedT) : ob s = hk.obs s.abs := He.obsX_eq (HandSHeadRun.getT_eq s)
def names : List PySem.Str := ["WoodError", "LoadError", "STEP_SUM", "Rules", "heights", "edges_of", "headroom", "_law_dice", "_law_roll", "_law_rounds", "_law_told"]
theorem run (w : World) : HandSHeadRun.RunEq R (PySem.W.view R.prog [14]) hk ob 2000 names w := by
  intro os
  kernel_rfl
end K09
end

section
set_option Elab.async false
set_option linter.all false
set_option maxRecDepth 100000
set_option maxHeartbeats 4100000
namespace K09
open PySem PySem.Spec PyProof.Rows L2 Iv
def b_Rules___init__ : Sv :=
  sSeq (sSetF [2] "rise" (vV 0) (vCal fTup (aC (vV 1) (aN))))
  (sSeq (sSetF [2] "going" (vV 0) (vCal fTup (aC (vV 2) (aN))))
  (sIf (tstB (vAnyG true false (itA (vTup (aC (vFld [2] "rise" (vV 0)) (aC (vFld [2] "going" (vV 0)) (aN))))) (tvN 3) (bYes) (vNot (vCh (oOrd .lt) (oOrd .le) (vK (.int 0)) (v2 oIx (vV 3) (vK (.int 0))) (v2 oIx (vV 3) (vK (.int 1))))) [3]))
  (sRaise 1)
  (sNx)))
def f_Rules___init__ : F1 := fnF false 4 3 b_Rules___init__
theorem sc_Rules___init__ : FnScope ["self", "rise", "going", "pair"] ["self", "rise", "going"] (defScope (inClass (top 5) 0)) := ⟨rfl, rfl, rfl, by decide +kernel, rfl, by decide +kernel, by decide +kernel⟩
theorem ok_Rules___init__ {P : Program} {w : World} {K : PySem.W.Frag} {mg : Str → Option Value} {base : Heap} {g : GL} (gK : g.K = K) {fd : FuncData} (F : FunD K "__init__" "Rules.__init__" (defArgs (inClass (top 5) 0)) (defBody (inClass (top 5) 0)) (defScope (inClass (top 5) 0)) [] [] (He.fAd K ("Rules", some "__init__")) fd) (TB : LamX.TabB base mg (He.cT K ("Rules", some "__init__")).1 (He.cT K ("Rules", some "__init__")).2) (hT : (He.cT K ("Rules", some "__init__")).2 ∈ g.T) (n_any : mg "any" = none) (n_tuple : mg "tuple" = none) (x_LoadError : ExF K mg g 1 "LoadError") (l_going : ∀ c ∈ [2], Cls g.K (g.CT c) ∧ NoAttr g.K (g.CT c) "going") (l_rise : ∀ c ∈ [2], Cls g.K (g.CT c) ∧ NoAttr g.K (g.CT c) "rise") : FnOk P w K mg base (L2.CX P w) 7 (He.fAd K ("Rules", some "__init__")) fd ["self", "rise", "going"] (SpF g 3 f_Rules___init__) := by
  have nd : (["self", "rise", "going", "pair"] : List Str).Nodup := by decide +kernel
  refine fn_ok false F sc_Rules___init__ (fun A outer s H E hr => ?_)
  exact ss_cons (ss_fld (cs := [2]) gK.symm l_rise (sv 0) (se_callTy (rc_tup (kx_of gK.symm hr)) nx_tup rfl n_tuple bt_tuple (sa_cons (sv 1) (sa_nil))))
      (ss_cons (ss_fld (cs := [2]) gK.symm l_going (sv 0) (se_callTy (rc_tup (kx_of gK.symm hr)) nx_tup rfl n_tuple bt_tuple (sa_cons (sv 2) (sa_nil))))
      (ss_one (ss_if (st_val (se_anyG (k := 0) (own := [("pair", 3)]) (gx_of nd (by decide) (hr.mono (by decide)) TB hT) ⟨blkOk_by (by kernel_rfl), rfl, rfl, (by rintro A' s' H' ⟨_, _, _, _, _, _, _, _, _⟩ fp' pn' hr' rfl; exact tg_name (i := 3) nd rfl (by first | exact Or.inl rfl | exact Or.inr rfl) (by decide)), (by rintro A' s' H' ⟨_, _, _, _, _, _, _, _, _⟩ fp' pn' hr' rfl; exact sb_none), (by rintro A' s' H' ⟨_, _, _, _, _, _, _, _, _⟩ fp' pn' hr' rfl; exact se_not (schn (kx_of gK.symm hr') (se_int) (se_ix (kx_of gK.symm hr') (sv 3) (se_int) (fun _ _ => rfl)) (se_ix (kx_of gK.symm hr') (sv 3) (se_int) (fun _ _ => rfl)))), fun _ => rfl⟩ (si_any (kx_of gK.symm hr) (se_tup (sa_cons (se_fld (cs := [2]) gK.symm l_rise (sv 0)) (sa_cons (se_fld (cs := [2]) gK.symm l_going (sv 0)) (sa_nil))))) rfl n_any bt_any))
      (ss_one (sraise x_LoadError rfl tk_fn rfl))
      (ss_nil))))
def b_Rules_steps_for : Sv :=
  sRet (vGenD (itR2 (aC (vK (.int 1)) (aC (v2 oAdd (vV 1) (vK (.int 1))) (aN)))) (tvN 2) (tstB (vCh (oOrd .le) (oOrd .le) (v2 oMul (v2 oIx (vFld [2] "rise" (vV 0)) (vK (.int 0))) (vV 2)) (vV 1) (v2 oMul (v2 oIx (vFld [2] "rise" (vV 0)) (vK (.int 1))) (vV 2)))) (vV 2) [2] kTup)
def f_Rules_steps_for : F1 := fnF false 3 2 b_Rules_steps_for
theorem sc_Rules_steps_for : FnScope ["self", "height", "many"] ["self", "height"] (defScope (inClass (top 5) 1)) := ⟨rfl, rfl, rfl, by decide +kernel, rfl, by decide +kernel, by decide +kernel⟩
theorem ok_Rules_steps_for {P : Program} {w : World} {K : PySem.W.Frag} {mg : Str → Option Value} {base : Heap} {g : GL} (gK : g.K = K) {fd : FuncData} (F : FunD K "steps_for" "Rules.steps_for" (defArgs (inClass (top 5) 1)) (defBody (inClass (top 5) 1)) (defScope (inClass (top 5) 1)) [] [] (He.fAd K ("Rules", some "steps_for")) fd) (TB : LamX.TabB base mg (He.cT K ("Rules", some "steps_for")).1 (He.cT K ("Rules", some "steps_for")).2) (hT : (He.cT K ("Rules", some "steps_for")).2 ∈ g.T) (n_range : mg "range" = none) (n_tuple : mg "tuple" = none) (l_rise : ∀ c ∈ [2], Cls g.K (g.CT c) ∧ NoAttr g.K (g.CT c) "rise") : FnOk P w K mg base (L2.CX P w) 7 (He.fAd K ("Rules", some "steps_for")) fd ["self", "height"] (SpF g 2 f_Rules_steps_for) := by
  have nd : (["self", "height", "many"] : List Str).Nodup := by decide +kernel
  refine fn_ok false F sc_Rules_steps_for (fun A outer s H E hr => ?_)
  exact ss_one (ss_ret (se_tupG (k := 0) (own := [("many", 2)]) (gx_of nd (by decide) (hr.mono (by decide)) TB hT) ⟨blkOk_by (by kernel_rfl), rfl, rfl, (by rintro A' s' H' ⟨_, _, _, _, _, _, _, _, _⟩ fp' pn' hr' rfl; exact tg_name (i := 2) nd rfl (by first | exact Or.inl rfl | exact Or.inr rfl) (by decide)), (by rintro A' s' H' ⟨_, _, _, _, _, _, _, _, _⟩ fp' pn' hr' rfl; exact sb_one (tchn (kx_of gK.symm hr') (sMulE (kx_of gK.symm hr') (se_ix (kx_of gK.symm hr') (se_fld (cs := [2]) gK.symm l_rise (sv 0)) (se_int) (fun _ _ => rfl)) (sv 2)) (sv 1) (sMulE (kx_of gK.symm hr') (se_ix (kx_of gK.symm hr') (se_fld (cs := [2]) gK.symm l_rise (sv 0)) (se_int) (fun _ _ => rfl)) (sv 2)))), (by rintro A' s' H' ⟨_, _, _, _, _, _, _, _, _⟩ fp' pn' hr' rfl; exact sv 2), fun _ => rfl⟩ (si_range2 rfl n_range (sa_cons (se_int) (sa_cons (sAddE (kx_of gK.symm hr) (sv 1) (se_int)) (sa_nil)))) rfl n_tuple bt_tuple))
def b_Rules_goings_for : Sv :=
  sSeq (sIf (tstB (v2 (oEq false) (vV 2) (vK (.int 1))))
  (sRet (vTup (aC (vK (.int 0)) (aC (vK (.int 0)) (aN)))))
  (sNx))
  (sSeq (sPar 3 4 (aC (v2 oDiv (vV 1) (v2 oSub (vV 2) (vK (.int 1)))) (aC (v2 oMod (vV 1) (v2 oSub (vV 2) (vK (.int 1)))) (aN))))
  (sSeq (sAsg (vAnd (v2 (oOrd .le) (v2 oIx (vFld [2] "going" (vV 0)) (vK (.int 0))) (vV 3)) (v2 (oOrd .le) (v2 oAdd (vV 3) (vIf (tstB (v2 (oOrd .gt) (vV 4) (vK (.int 0)))) (vK (.int 1)) (vK (.int 0)))) (v2 oIx (vFld [2] "going" (vV 0)) (vK (.int 1))))) (gvN 5))
  (sRet (vIf (tstB (vV 5)) (vTup (aC (vV 3) (aC (vV 4) (aN)))) (vK .non)))))
def f_Rules_goings_for : F1 := fnF false 6 3 b_Rules_goings_for
theorem sc_Rules_goings_for : FnScope ["self", "length", "many", "going", "longer", "fits"] ["self", "length", "many"] (defScope (inClass (top 5) 2)) := ⟨rfl, rfl, rfl, by decide +kernel, rfl, by decide +kernel, by decide +kernel⟩
theorem ok_Rules_goings_for {P : Program} {w : World} {K : PySem.W.Frag} {mg : Str → Option Value} {base : Heap} {g : GL} (gK : g.K = K) {fd : FuncData} (F : FunD K "goings_for" "Rules.goings_for" (defArgs (inClass (top 5) 2)) (defBody (inClass (top 5) 2)) (defScope (inClass (top 5) 2)) [] [] (He.fAd K ("Rules", some "goings_for")) fd) (l_going : ∀ c ∈ [2], Cls g.K (g.CT c) ∧ NoAttr g.K (g.CT c) "going") : FnOk P w K mg base (L2.CX P w) 2 (He.fAd K ("Rules", some "goings_for")) fd ["self", "length", "many"] (SpF g 3 f_Rules_goings_for) := by
  have nd : (["self", "length", "many", "going", "longer", "fits"] : List Str).Nodup := by decide +kernel
  refine fn_ok false F sc_Rules_goings_for (fun A outer s H E hr => ?_)
  exact ss_cons (ss_if (tcmp (kx_of gK.symm hr) (sv 2) (se_int))
      (ss_one (ss_ret (se_tup (sa_cons (se_int) (sa_cons (se_int) (sa_nil))))))
      (ss_nil))
      (ss_cons (ss_par (i := 3) (j := 4) rfl nd rfl rfl (by decide) rfl rfl (sa_cons (sDivE (sv 1) (sSubE (sv 2) (se_int))) (sa_cons (sModE (sv 1) (sSubE (sv 2) (se_int))) (sa_nil))) (by rfl))
      (ss_cons (ss_set (i := 5) nd rfl (by first | exact Or.inl rfl | exact Or.inr rfl) (se_and (scmp (kx_of gK.symm hr) (se_ix (kx_of gK.symm hr) (se_fld (cs := [2]) gK.symm l_going (sv 0)) (se_int) (fun _ _ => rfl)) (sv 3)) (se_one (scmp (kx_of gK.symm hr) (sAddE (kx_of gK.symm hr) (sv 3) (se_if (tcmp (kx_of gK.symm hr) (sv 4) (se_int)) (se_int) (se_int))) (se_ix (kx_of gK.symm hr) (se_fld (cs := [2]) gK.symm l_going (sv 0)) (se_int) (fun _ _ => rfl))))))
      (ss_one (ss_ret (se_if (st_val (sv 5)) (se_tup (sa_cons (sv 3) (sa_cons (sv 4) (sa_nil)))) (se_non))))))
def b_Rules_rises_fit : Sv :=
  sSeq (sPar 3 4 (aC (v2 oDiv (vV 1) (vV 2)) (aC (v2 oMod (vV 1) (vV 2)) (aN))))
  (sRet (vAnd (v2 (oOrd .le) (v2 oIx (vFld [2] "rise" (vV 0)) (vK (.int 0))) (vV 3)) (v2 (oOrd .le) (v2 oAdd (vV 3) (vIf (tstB (v2 (oOrd .gt) (vV 4) (vK (.int 0)))) (vK (.int 1)) (vK (.int 0)))) (v2 oIx (vFld [2] "rise" (vV 0)) (vK (.int 1))))))
def f_Rules_rises_fit : F1 := fnF false 5 3 b_Rules_rises_fit
theorem sc_Rules_rises_fit : FnScope ["self", "height", "many", "rise", "higher"] ["self", "height", "many"] (defScope (inClass (top 5) 4)) := ⟨rfl, rfl, rfl, by decide +kernel, rfl, by decide +kernel, by decide +kernel⟩
theorem ok_Rules_rises_fit {P : Program} {w : World} {K : PySem.W.Frag} {mg : Str → Option Value} {base : Heap} {g : GL} (gK : g.K = K) {fd : FuncData} (F : FunD K "rises_fit" "Rules.rises_fit" (defArgs (inClass (top 5) 4)) (defBody (inClass (top 5) 4)) (defScope (inClass (top 5) 4)) [] [] (He.fAd K ("Rules", some "rises_fit")) fd) (l_rise : ∀ c ∈ [2], Cls g.K (g.CT c) ∧ NoAttr g.K (g.CT c) "rise") : FnOk P w K mg base (L2.CX P w) 2 (He.fAd K ("Rules", some "rises_fit")) fd ["self", "height", "many"] (SpF g 3 f_Rules_rises_fit) := by
  have nd : (["self", "height", "many", "rise", "higher"] : List Str).Nodup := by decide +kernel
  refine fn_ok false F sc_Rules_rises_fit (fun A outer s H E hr => ?_)
  exact ss_cons (ss_par (i := 3) (j := 4) rfl nd rfl rfl (by decide) rfl rfl (sa_cons (sDivE (sv 1) (sv 2)) (sa_cons (sModE (sv 1) (sv 2)) (sa_nil))) (by rfl))
      (ss_one (ss_ret (se_and (scmp (kx_of gK.symm hr) (se_ix (kx_of gK.symm hr) (se_fld (cs := [2]) gK.symm l_rise (sv 0)) (se_int) (fun _ _ => rfl)) (sv 3)) (se_one (scmp (kx_of gK.symm hr) (sAddE (kx_of gK.symm hr) (sv 3) (se_if (tcmp (kx_of gK.symm hr) (sv 4) (se_int)) (se_int) (se_int))) (se_ix (kx_of gK.symm hr) (se_fld (cs := [2]) gK.symm l_rise (sv 0)) (se_int) (fun _ _ => rfl)))))))
def b_heights : Sv :=
  sSeq (sPar 3 4 (aC (vLstM (aN)) (aC (vK (.int 0)) (aN))))
  (sSeq (sForI (itR1 (aC (vV 0) (aN))) (gvN 5)
  (sSeq (sAug 4 iAdd (v2 oAdd (vV 1) (vIf (tstB (v2 (oOrd .lt) (vV 5) (vV 2))) (vK (.int 1)) (vK (.int 0)))))
  (sDo (vMet isList mApp (vV 3) (aC (vV 4) (aN))))))
  (sRet (vCal fTup (aC (vV 3) (aN)))))
def f_heights : F1 := fnF false 6 3 b_heights
theorem sc_heights : FnScope ["many", "rise", "higher", "found", "here", "step"] ["many", "rise", "higher"] (defScope (top 6)) := ⟨rfl, rfl, rfl, by decide +kernel, rfl, by decide +kernel, by decide +kernel⟩
theorem ok_heights {P : Program} {w : World} {K : PySem.W.Frag} {mg : Str → Option Value} {base : Heap} {g : GL} (gK : g.K = K) {fd : FuncData} (F : FunD K "heights" "heights" (defArgs (top 6)) (defBody (top 6)) (defScope (top 6)) [] [] (He.fAd K ("heights", none)) fd) (n_range : mg "range" = none) (n_tuple : mg "tuple" = none) : FnOk P w K mg base (L2.CX P w) 2 (He.fAd K ("heights", none)) fd ["many", "rise", "higher"] (SpF g 3 f_heights) := by
  have nd : (["many", "rise", "higher", "found", "here", "step"] : List Str).Nodup := by decide +kernel
  refine fn_ok false F sc_heights (fun A outer s H E hr => ?_)
  exact ss_cons (ss_par (i := 3) (j := 4) rfl nd rfl rfl (by decide) rfl rfl (sa_cons (se_lstM (sa_nil)) (sa_cons (se_int) (sa_nil))) (by rfl))
      (ss_cons (ss_for po_fn rfl (si_range1 rfl n_range (sa_cons (sv 0) (sa_nil))) (sg_name (i := 5) nd rfl (by first | exact Or.inl rfl | exact Or.inr rfl))
      (ss_cons (ss_aug (i := 4) nd rfl (by first | exact Or.inl rfl | exact Or.inr rfl) (sAddE (kx_of gK.symm hr) (sv 1) (se_if (tcmp (kx_of gK.symm hr) (sv 5) (sv 2)) (se_int) (se_int))) (ir_add (kx_of gK.symm hr)))
      (ss_one (ss_do (se_met (kx_of gK.symm hr) PySem.F.plainAttrs_list PySem.F.slot_list_append PySem.F.type_list_append rm_app ty_list nm_app (sv 3) (sa_cons (sv 4) (sa_nil)))))))
      (ss_one (ss_ret (se_callTy (rc_tup (kx_of gK.symm hr)) nx_tup rfl n_tuple bt_tuple (sa_cons (sv 3) (sa_nil))))))
def b_edges_of : Sv :=
  sSeq (sPar3 5 6 7 (aC (vLstM (aC (vTup (aC (vK (.int 0)) (aC (vK (.int 0)) (aN)))) (aN))) (aC (vK (.int 0)) (aC (vFn f_heights (aC (vV 0) (aC (vV 1) (aC (vV 2) (aN)))) []) (aN)))))
  (sSeq (sForI (itR1 (aC (vV 0) (aN))) (gvN 8)
  (sSeq (sDo (vMet isList mApp (vV 5) (aC (vTup (aC (vV 6) (aC (v2 oIx (vV 7) (vV 8)) (aN)))) (aN))))
  (sIf (tstB (v2 (oOrd .lt) (v2 oAdd (vV 8) (vK (.int 1))) (vV 0)))
  (sSeq (sAug 6 iAdd (v2 oAdd (vV 3) (vIf (tstB (v2 (oOrd .lt) (vV 8) (vV 4))) (vK (.int 1)) (vK (.int 0)))))
  (sDo (vMet isList mApp (vV 5) (aC (vTup (aC (vV 6) (aC (v2 oIx (vV 7) (vV 8)) (aN)))) (aN)))))
  (sNx))))
  (sRet (vCal fTup (aC (vV 5) (aN)))))
def f_edges_of : F1 := fnF false 9 5 b_edges_of
theorem sc_edges_of : FnScope ["many", "rise", "higher", "going", "longer", "found", "x", "up", "step"] ["many", "rise", "higher", "going", "longer"] (defScope (top 7)) := ⟨rfl, rfl, rfl, by decide +kernel, rfl, by decide +kernel, by decide +kernel⟩
theorem ok_edges_of {P : Program} {w : World} {K : PySem.W.Frag} {mg : Str → Option Value} {base : Heap} {g : GL} (gK : g.K = K) {fd : FuncData} (F : FunD K "edges_of" "edges_of" (defArgs (top 7)) (defBody (top 7)) (defScope (top 7)) [] [] (He.fAd K ("edges_of", none)) fd) (n_range : mg "range" = none) (n_tuple : mg "tuple" = none) (f_heights_ : Cal2 P w K mg base g 2 "heights" 3 f_heights []) : FnOk P w K mg base (L2.CX P w) 3 (He.fAd K ("edges_of", none)) fd ["many", "rise", "higher", "going", "longer"] (SpF g 5 f_edges_of) := by
  have nd : (["many", "rise", "higher", "going", "longer", "found", "x", "up", "step"] : List Str).Nodup := by decide +kernel
  refine fn_ok false F sc_edges_of (fun A outer s H E hr => ?_)
  exact ss_cons (ss_par3 (i := 5) (j := 6) (l := 7) rfl nd rfl rfl rfl (by decide) (by decide) (by decide) rfl rfl rfl (sa_cons (se_lstM (sa_cons (se_tup (sa_cons (se_int) (sa_cons (se_int) (sa_nil)))) (sa_nil))) (sa_cons (se_int) (sa_cons (scall f_heights_ hr (by decide) rfl px_fn (sa_cons (sv 0) (sa_cons (sv 1) (sa_cons (sv 2) (sa_nil))))) (sa_nil)))) (by rfl))
      (ss_cons (ss_for po_fn rfl (si_range1 rfl n_range (sa_cons (sv 0) (sa_nil))) (sg_name (i := 8) nd rfl (by first | exact Or.inl rfl | exact Or.inr rfl))
      (ss_cons (ss_do (se_met (kx_of gK.symm hr) PySem.F.plainAttrs_list PySem.F.slot_list_append PySem.F.type_list_append rm_app ty_list nm_app (sv 5) (sa_cons (se_tup (sa_cons (sv 6) (sa_cons (se_ix (kx_of gK.symm hr) (sv 7) (sv 8) (fun _ _ => rfl)) (sa_nil)))) (sa_nil))))
      (ss_one (ss_if (tcmp (kx_of gK.symm hr) (sAddE (kx_of gK.symm hr) (sv 8) (se_int)) (sv 0))
      (ss_cons (ss_aug (i := 6) nd rfl (by first | exact Or.inl rfl | exact Or.inr rfl) (sAddE (kx_of gK.symm hr) (sv 3) (se_if (tcmp (kx_of gK.symm hr) (sv 8) (sv 4)) (se_int) (se_int))) (ir_add (kx_of gK.symm hr)))
      (ss_one (ss_do (se_met (kx_of gK.symm hr) PySem.F.plainAttrs_list PySem.F.slot_list_append PySem.F.type_list_append rm_app ty_list nm_app (sv 5) (sa_cons (se_tup (sa_cons (sv 6) (sa_cons (se_ix (kx_of gK.symm hr) (sv 7) (sv 8) (fun _ _ => rfl)) (sa_nil)))) (sa_nil))))))
      (ss_nil)))))
      (ss_one (ss_ret (se_callTy (rc_tup (kx_of gK.symm hr)) nx_tup rfl n_tuple bt_tuple (sa_cons (sv 5) (sa_nil))))))
def b_headroom : Sv :=
  sSeq (sIf (tstB (v2 (oOrd .ge) (vV 1) (vV 2)))
  (sRaise 1)
  (sNx))
  (sSeq (sAsg (vLstM (aN)) (gvN 4))
  (sSeq (sForI (itZ (aC (vV 0) (aC (vSl (vV 0) (poS (vK (.int 1))) (poN)) (aN)))) (gvT 2 (gsC (gvN 5) (gsC (gvN 6) (gsN))))
  (sIf (bAnd (tstB (v2 (oEq false) (v2 oIx (vV 5) (vK (.int 1))) (v2 oIx (vV 6) (vK (.int 1))))) (bAnd (tstB (v2 (oOrd .lt) (v2 oIx (vV 5) (vK (.int 0))) (vV 2))) (tstB (v2 (oOrd .lt) (vV 1) (v2 oIx (vV 6) (vK (.int 0)))))))
  (sDo (vMet isList mApp (vV 4) (aC (v2 oSub (vV 3) (v2 oIx (vV 5) (vK (.int 1)))) (aN))))
  (sNx)))
  (sRet (vIf (tstB (v2 (oEq true) (vV 4) (vLst (aN)))) (vCal (fBest false) (aC (vV 4) (aN))) (vK .non)))))
def f_headroom : F1 := fnF false 7 4 b_headroom
theorem sc_headroom : FnScope ["corners", "low", "high", "ceiling", "rooms", "one", "other"] ["corners", "low", "high", "ceiling"] (defScope (top 8)) := ⟨rfl, rfl, rfl, by decide +kernel, rfl, by decide +kernel, by decide +kernel⟩
theorem ok_headroom {P : Program} {w : World} {K : PySem.W.Frag} {mg : Str → Option Value} {base : Heap} {g : GL} (gK : g.K = K) {fd : FuncData} (F : FunD K "headroom" "headroom" (defArgs (top 8)) (defBody (top 8)) (defScope (top 8)) [] [] (He.fAd K ("headroom", none)) fd) (n_min : mg "min" = none) (n_zip : mg "zip" = none) (x_LoadError : ExF K mg g 1 "LoadError") : FnOk P w K mg base (L2.CX P w) 2 (He.fAd K ("headroom", none)) fd ["corners", "low", "high", "ceiling"] (SpF g 4 f_headroom) := by
  have nd : (["corners", "low", "high", "ceiling", "rooms", "one", "other"] : List Str).Nodup := by decide +kernel
  refine fn_ok false F sc_headroom (fun A outer s H E hr => ?_)
  exact ss_cons (ss_if (tcmp (kx_of gK.symm hr) (sv 1) (sv 2))
      (ss_one (sraise x_LoadError rfl tk_fn rfl))
      (ss_nil))
      (ss_cons (ss_set (i := 4) nd rfl (by first | exact Or.inl rfl | exact Or.inr rfl) (se_lstM (sa_nil)))
      (ss_cons (ss_for po_fn rfl (si_zip (kx_of gK.symm hr) rfl n_zip (sa_cons (sv 0) (sa_cons (se_sl (kx_of gK.symm hr) (sv 0) (so_some (se_int)) (so_none)) (sa_nil)))) (sg_tup (kx_of gK.symm hr) rfl (sgs_cons (sg_name (i := 5) nd rfl (by first | exact Or.inl rfl | exact Or.inr rfl)) (sgs_cons (sg_name (i := 6) nd rfl (by first | exact Or.inl rfl | exact Or.inr rfl)) (sgs_nil))))
      (ss_one (ss_if (PW.pt (sw_and (tcmp (kx_of gK.symm hr) (se_ix (kx_of gK.symm hr) (sv 5) (se_int) (fun _ _ => rfl)) (se_ix (kx_of gK.symm hr) (sv 6) (se_int) (fun _ _ => rfl))) (sw_and (tcmp (kx_of gK.symm hr) (se_ix (kx_of gK.symm hr) (sv 5) (se_int) (fun _ _ => rfl)) (sv 2)) (sw_and1 (tcmp (kx_of gK.symm hr) (sv 1) (se_ix (kx_of gK.symm hr) (sv 6) (se_int) (fun _ _ => rfl)))))))
      (ss_one (ss_do (se_met (kx_of gK.symm hr) PySem.F.plainAttrs_list PySem.F.slot_list_append PySem.F.type_list_append rm_app ty_list nm_app (sv 4) (sa_cons (sSubE (sv 3) (se_ix (kx_of gK.symm hr) (sv 5) (se_int) (fun _ _ => rfl))) (sa_nil)))))
      (ss_nil))))
      (ss_one (ss_ret (se_if (tcmp (kx_of gK.symm hr) (sv 4) (se_lst (sa_nil))) (se_callB (rc_min rfl (kx_of gK.symm hr)) nx_best rfl n_min bt_min (sa_cons (sv 4) (sa_nil))) (se_non))))))
def b__law_dice : Sv :=
  sSeq (sIf (tstB (vCh (oOrd .lt) (oOrd .lt) (v2 oSub (vK (.int 0)) (vK (.int 10))) (vV 0) (vK (.int 10))))
  (sRet (vLstM (aC (vCal fAbs (aC (vV 0) (aN))) (aC (vK (.int 0)) (aC (vK (.int 2)) (aN))))))
  (sNx))
  (sRet (vLstM (aC (vV 0) (aC (v2 oAdd (vK (.int 1)) (v2 oMod (vCal fInt (aC (vV 0) (aN))) (vK (.int 1009)))) (aC (vCal fInt (aC (v2 (oOrd .ge) (vV 0) (v2 oPow (vK (.int 10)) (vK (.int 18)))) (aN))) (aN))))))
def f__law_dice : F1 := fnF true 1 1 b__law_dice
theorem sc__law_dice : FnScope ["cell"] ["cell"] (defScope (top 10)) := ⟨rfl, rfl, rfl, by decide +kernel, rfl, by decide +kernel, by decide +kernel⟩
theorem ok__law_dice {P : Program} {w : World} {K : PySem.W.Frag} {mg : Str → Option Value} {base : Heap} {g : GL} (gK : g.K = K) {fd : FuncData} (F : FunD K "_law_dice" "_law_dice" (defArgs (top 10)) (defBody (top 10)) (defScope (top 10)) [] [] (He.fAd K ("_law_dice", none)) fd) (n_abs : mg "abs" = none) (n_int : mg "int" = none) : FnOk P w K mg base (L2.CX P w) 2 (He.fAd K ("_law_dice", none)) fd ["cell"] (SpF g 1 f__law_dice) := by
  have nd : (["cell"] : List Str).Nodup := by decide +kernel
  refine fn_ok true F sc__law_dice (fun A outer s H E hr => ?_)
  exact ss_cons (ss_if (tchn (kx_of gK.symm hr) (sSubE (se_int) (se_int)) (sv 0) (se_int))
      (ss_one (ss_ret (se_lstM (sa_cons (se_callB rc_abs nx_abs rfl n_abs bt_abs (sa_cons (sv 0) (sa_nil))) (sa_cons (se_int) (sa_cons (se_int) (sa_nil)))))))
      (ss_nil))
      (ss_one (ss_ret (se_lstM (sa_cons (sv 0) (sa_cons (sAddE (kx_of gK.symm hr) (se_int) (sModE (se_callTy rc_int nx_int rfl n_int bt_int (sa_cons (sv 0) (sa_nil))) (se_int))) (sa_cons (se_callTy rc_int nx_int rfl n_int bt_int (sa_cons (scmp (kx_of gK.symm hr) (sv 0) (sPowE (se_int) (se_int))) (sa_nil))) (sa_nil)))))))
def b__law_roll : Sv :=
  sSeq (sIf (bOr (tstB (v2 (oEq false) (v2 oIx (vV 0) (vK (.int 2))) (vK (.int 2)))) (bAnd (tstB (v2 (oEq false) (v2 oIx (vV 0) (vK (.int 2))) (vK (.int 1)))) (tstB (v2 (oOrd .gt) (v2 oIx (vV 0) (vK (.int 0))) (vK (.int 0))))))
  (sSeq (sAsg (v2 oMod (vCal fInt (aC (v2 oIx (vV 0) (vK (.int 0))) (aN))) (vV 1)) (gvN 2))
  (sSeq (sAsg (v2 oDiv (v2 oIx (vV 0) (vK (.int 0))) (vV 1)) (gvS (vV 0) (vK (.int 0))))
  (sRet (vV 2))))
  (sNx))
  (sSeq (sAsg (vK (.int 0)) (gvS (vV 0) (vK (.int 2))))
  (sSeq (sIf (tstB (v2 (oOrd .gt) (vV 1) (vK (.int 100000000))))
  (sRet (v2 oMod (vCal fInt (aC (v2 oAdd (v2 oMul (vBad) (vK (.int 100000000))) (vBad)) (aN))) (vV 1)))
  (sNx))
  (sSeq (sAsg (v2 oMod (vCal fInt (aC (v2 oAdd (v2 oAdd (v2 oMul (v2 oIx (vV 0) (vK (.int 0))) (vK (.int 48271))) (v2 oMul (v2 oIx (vV 0) (vK (.int 1))) (vK (.int 69621)))) (vK (.int 11))) (aN))) (vK (.int 2147483647))) (gvS (vV 0) (vK (.int 0))))
  (sSeq (sAsg (v2 oAdd (v2 oIx (vV 0) (vK (.int 1))) (vK (.int 1))) (gvS (vV 0) (vK (.int 1))))
  (sRet (v2 oMod (vCal fInt (aC (v2 oDiv (v2 oIx (vV 0) (vK (.int 0))) (vK (.int 7))) (aN))) (vV 1)))))))
def f__law_roll : F1 := fnF false 3 2 b__law_roll
theorem sc__law_roll : FnScope ["dice", "many", "found"] ["dice", "many"] (defScope (top 11)) := ⟨rfl, rfl, rfl, by decide +kernel, rfl, by decide +kernel, by decide +kernel⟩
theorem ok__law_roll {P : Program} {w : World} {K : PySem.W.Frag} {mg : Str → Option Value} {base : Heap} {g : GL} (gK : g.K = K) {fd : FuncData} (F : FunD K "_law_roll" "_law_roll" (defArgs (top 11)) (defBody (top 11)) (defScope (top 11)) [] [] (He.fAd K ("_law_roll", none)) fd) (n_int : mg "int" = none) : FnOk P w K mg base (L2.CX P w) 2 (He.fAd K ("_law_roll", none)) fd ["dice", "many"] (SpF g 2 f__law_roll) := by
  have nd : (["dice", "many", "found"] : List Str).Nodup := by decide +kernel
  refine fn_ok false F sc__law_roll (fun A outer s H E hr => ?_)
  exact ss_cons (ss_if (PW.pt (sw_or (tcmp (kx_of gK.symm hr) (se_ix (kx_of gK.symm hr) (sv 0) (se_int) (fun _ _ => rfl)) (se_int)) (sw_or1 (PW.pt (sw_and (tcmp (kx_of gK.symm hr) (se_ix (kx_of gK.symm hr) (sv 0) (se_int) (fun _ _ => rfl)) (se_int)) (sw_and1 (tcmp (kx_of gK.symm hr) (se_ix (kx_of gK.symm hr) (sv 0) (se_int) (fun _ _ => rfl)) (se_int))))))))
      (ss_cons (ss_set (i := 2) nd rfl (by first | exact Or.inl rfl | exact Or.inr rfl) (sModE (se_callTy rc_int nx_int rfl n_int bt_int (sa_cons (se_ix (kx_of gK.symm hr) (sv 0) (se_int) (fun _ _ => rfl)) (sa_nil))) (sv 1)))
      (ss_cons (ss_asg (sDivE (se_ix (kx_of gK.symm hr) (sv 0) (se_int) (fun _ _ => rfl)) (sv 1)) (sg_sub (sv 0) (se_int)))
      (ss_one (ss_ret (sv 2)))))
      (ss_nil))
      (ss_cons (ss_asg (se_int) (sg_sub (sv 0) (se_int)))
      (ss_cons (ss_if (tcmp (kx_of gK.symm hr) (sv 1) (se_int))
      (ss_one (ss_ret (sModE (se_callTy rc_int nx_int rfl n_int bt_int (sa_cons (sAddE (kx_of gK.symm hr) (sMulE (kx_of gK.symm hr) (se_bad) (se_int)) (se_bad)) (sa_nil))) (sv 1))))
      (ss_nil))
      (ss_cons (ss_asg (sModE (se_callTy rc_int nx_int rfl n_int bt_int (sa_cons (sAddE (kx_of gK.symm hr) (sAddE (kx_of gK.symm hr) (sMulE (kx_of gK.symm hr) (se_ix (kx_of gK.symm hr) (sv 0) (se_int) (fun _ _ => rfl)) (se_int)) (sMulE (kx_of gK.symm hr) (se_ix (kx_of gK.symm hr) (sv 0) (se_int) (fun _ _ => rfl)) (se_int))) (se_int)) (sa_nil))) (se_int)) (sg_sub (sv 0) (se_int)))
      (ss_cons (ss_asg (sAddE (kx_of gK.symm hr) (se_ix (kx_of gK.symm hr) (sv 0) (se_int) (fun _ _ => rfl)) (se_int)) (sg_sub (sv 0) (se_int)))
      (ss_one (ss_ret (sModE (se_callTy rc_int nx_int rfl n_int bt_int (sa_cons (sDivE (se_ix (kx_of gK.symm hr) (sv 0) (se_int) (fun _ _ => rfl)) (se_int)) (sa_nil))) (sv 1))))))))
def b__law_rounds : Sv :=
  sSeq (sAsg (vSl (vV 0) (poN) (poS (vV 1))) (gvN 2))
  (sSeq (sIf (tstB (v2 (oEq false) (vV 2) (vLst (aN))))
  (sAsg (vLst (aC (vK (.int 0)) (aN))) (gvN 2))
  (sNx))
  (sRet (vCmpM (itA (vV 2)) (tvN 3) (bYes) (vFn f__law_dice (aC (vV 3) (aN)) []) [3])))
def f__law_rounds : F1 := fnF true 4 2 b__law_rounds
theorem sc__law_rounds : FnScope ["script", "most", "cells", "cell"] ["script", "most"] (defScope (top 12)) := ⟨rfl, rfl, rfl, by decide +kernel, rfl, by decide +kernel, by decide +kernel⟩
theorem ok__law_rounds {P : Program} {w : World} {K : PySem.W.Frag} {mg : Str → Option Value} {base : Heap} {g : GL} (gK : g.K = K) {fd : FuncData} (F : FunD K "_law_rounds" "_law_rounds" (defArgs (top 12)) (defBody (top 12)) (defScope (top 12)) [] [] (He.fAd K ("_law_rounds", none)) fd) (f__law_dice_ : Cal2 P w K mg base g 2 "_law_dice" 1 f__law_dice []) : FnOk P w K mg base (L2.CX P w) 3 (He.fAd K ("_law_rounds", none)) fd ["script", "most"] (SpF g 2 f__law_rounds) := by
  have nd : (["script", "most", "cells", "cell"] : List Str).Nodup := by decide +kernel
  refine fn_ok true F sc__law_rounds (fun A outer s H E hr => ?_)
  exact ss_cons (ss_set (i := 2) nd rfl (by first | exact Or.inl rfl | exact Or.inr rfl) (se_sl (kx_of gK.symm hr) (sv 0) (so_none) (so_some (sv 1))))
      (ss_cons (ss_if (tcmp (kx_of gK.symm hr) (sv 2) (se_lst (sa_nil)))
      (ss_one (ss_set (i := 2) nd rfl (by first | exact Or.inl rfl | exact Or.inr rfl) (se_lst (sa_cons (se_int) (sa_nil)))))
      (ss_nil))
      (ss_one (ss_ret (se_lc (own := [("cell", 3)]) ok_cel rfl nd (si_any (kx_of gK.symm hr) (sv 2)) (blkOk_by (by kernel_rfl)) (fun _ _ _ _ _ => tg_name (i := 3) nd rfl (by first | exact Or.inl rfl | exact Or.inr rfl) (by decide)) (fun _ _ _ _ _ => sb_none) (fun _ _ _ _ _ => scall f__law_dice_ hr (by decide) rfl (passE0 rfl rfl) (sa_cons (sv 3) (sa_nil)))))))
def b_Rules_best : Sv :=
  sSeq (sAsg (vK .non) (gvN 3))
  (sSeq (sForI (itA (vMeth 2 "steps_for" f_Rules_steps_for (vV 0) (aC (vV 1) (aN)) [])) (gvN 4)
  (sSeq (sAsg (vMeth 2 "goings_for" f_Rules_goings_for (vV 0) (aC (vV 2) (aC (vV 4) (aN))) []) (gvN 5))
  (sIf (bAnd (tstB (v2 (oIs true) (vV 5) (vK .non))) (tstB (vMeth 2 "rises_fit" f_Rules_rises_fit (vV 0) (aC (vV 1) (aC (vV 4) (aN))) [])))
  (sSeq (sAsg (v2 oDiv (vV 1) (vV 4)) (gvN 6))
  (sSeq (sAsg (vCal fAbs (aC (v2 oSub (v2 oAdd (v2 oMul (vK (.int 2)) (vV 6)) (v2 oIx (vV 5) (vK (.int 0)))) (vK (.int 630))) (aN))) (gvN 7))
  (sIf (bOr (tstB (v2 (oIs false) (vV 3) (vK .non))) (tstB (v2 (oOrd .lt) (vV 7) (v2 oIx (vV 3) (vK (.int 0))))))
  (sAsg (vTup (aC (vV 7) (aC (vTup (aC (vV 4) (aC (vV 6) (aC (v2 oMod (vV 1) (vV 4)) (aC (v2 oIx (vV 5) (vK (.int 0))) (aC (v2 oIx (vV 5) (vK (.int 1))) (aN))))))) (aN)))) (gvN 3))
  (sNx))))
  (sNx))))
  (sSeq (sIf (tstB (v2 (oIs false) (vV 3) (vK .non)))
  (sRaise 1)
  (sNx))
  (sRet (v2 oIx (vV 3) (vK (.int 1))))))
def f_Rules_best : F1 := fnF false 8 3 b_Rules_best
theorem sc_Rules_best : FnScope ["self", "height", "length", "best", "many", "found", "rise", "far"] ["self", "height", "length"] (defScope (inClass (top 5) 3)) := ⟨rfl, rfl, rfl, by decide +kernel, rfl, by decide +kernel, by decide +kernel⟩
theorem ok_Rules_best {P : Program} {w : World} {K : PySem.W.Frag} {mg : Str → Option Value} {base : Heap} {g : GL} (gK : g.K = K) {fd : FuncData} (F : FunD K "best" "Rules.best" (defArgs (inClass (top 5) 3)) (defBody (inClass (top 5) 3)) (defScope (inClass (top 5) 3)) [] [] (He.fAd K ("Rules", some "best")) fd) (n_abs : mg "abs" = none) (c_STEP_SUM : ∃ t, mg "STEP_SUM" = some (.int 630 t)) (x_LoadError : ExF K mg g 1 "LoadError") (m_Rules_goings_for_ : Cal3 P w K mg base g 2 2 "goings_for" 3 f_Rules_goings_for []) (m_Rules_rises_fit_ : Cal3 P w K mg base g 2 2 "rises_fit" 3 f_Rules_rises_fit []) (m_Rules_steps_for_ : Cal3 P w K mg base g 7 2 "steps_for" 2 f_Rules_steps_for []) : FnOk P w K mg base (L2.CX P w) 8 (He.fAd K ("Rules", some "best")) fd ["self", "height", "length"] (SpF g 3 f_Rules_best) := by
  have nd : (["self", "height", "length", "best", "many", "found", "rise", "far"] : List Str).Nodup := by decide +kernel
  refine fn_ok false F sc_Rules_best (fun A outer s H E hr => ?_)
  exact ss_cons (ss_set (i := 3) nd rfl (by first | exact Or.inl rfl | exact Or.inr rfl) (se_non))
      (ss_cons (ss_for po_fn rfl (si_any (kx_of gK.symm hr) (smeth m_Rules_steps_for_ hr (by decide) px_fn (sv 0) (sa_cons (sv 1) (sa_nil)))) (sg_name (i := 4) nd rfl (by first | exact Or.inl rfl | exact Or.inr rfl))
      (ss_cons (ss_set (i := 5) nd rfl (by first | exact Or.inl rfl | exact Or.inr rfl) (smeth m_Rules_goings_for_ hr (by decide) px_fn (sv 0) (sa_cons (sv 2) (sa_cons (sv 4) (sa_nil)))))
      (ss_one (ss_if (PW.pt (sw_and (tcmp (kx_of gK.symm hr) (sv 5) (se_non)) (sw_and1 (st_val (smeth m_Rules_rises_fit_ hr (by decide) px_fn (sv 0) (sa_cons (sv 1) (sa_cons (sv 4) (sa_nil))))))))
      (ss_cons (ss_set (i := 6) nd rfl (by first | exact Or.inl rfl | exact Or.inr rfl) (sDivE (sv 1) (sv 4)))
      (ss_cons (ss_set (i := 7) nd rfl (by first | exact Or.inl rfl | exact Or.inr rfl) (se_callB rc_abs nx_abs rfl n_abs bt_abs (sa_cons (sSubE (sAddE (kx_of gK.symm hr) (sMulE (kx_of gK.symm hr) (se_int) (sv 6)) (se_ix (kx_of gK.symm hr) (sv 5) (se_int) (fun _ _ => rfl))) (sgint rfl c_STEP_SUM)) (sa_nil))))
      (ss_one (ss_if (PW.pt (sw_or (tcmp (kx_of gK.symm hr) (sv 3) (se_non)) (sw_or1 (tcmp (kx_of gK.symm hr) (sv 7) (se_ix (kx_of gK.symm hr) (sv 3) (se_int) (fun _ _ => rfl))))))
      (ss_one (ss_set (i := 3) nd rfl (by first | exact Or.inl rfl | exact Or.inr rfl) (se_tup (sa_cons (sv 7) (sa_cons (se_tup (sa_cons (sv 4) (sa_cons (sv 6) (sa_cons (sModE (sv 1) (sv 4)) (sa_cons (se_ix (kx_of gK.symm hr) (sv 5) (se_int) (fun _ _ => rfl)) (sa_cons (se_ix (kx_of gK.symm hr) (sv 5) (se_int) (fun _ _ => rfl)) (sa_nil))))))) (sa_nil))))))
      (ss_nil)))))
      (ss_nil)))))
      (ss_cons (ss_if (tcmp (kx_of gK.symm hr) (sv 3) (se_non))
      (ss_one (sraise x_LoadError rfl tk_fn rfl))
      (ss_nil))
      (ss_one (ss_ret (se_ix (kx_of gK.symm hr) (sv 3) (se_int) (fun _ _ => rfl))))))
end K09
end

section
set_option Elab.async false
set_option linter.all false
set_option maxRecDepth 100000
set_option maxHeartbeats 4100000
namespace K09
open PySem PySem.Spec PyProof.Rows L2 Iv
def T0 (K : PySem.W.Frag) : List Addr := [(He.cT K ("Rules", some "__init__")).2, (He.cT K ("Rules", some "steps_for")).2]
def q0 : Str := (envOfC "law" (defScope (top 14)) 0 0 .none).qual ++ "<lambda>"
def L0 (K : PySem.W.Frag) : List (Addr × Str) := [((He.cT K ("law", none)).2, q0)]
def CT0 (K : PySem.W.Frag) : Nat → Addr
  | 0 => He.ga K "WoodError"
  | 1 => He.ga K "LoadError"
  | 2 => He.ga K "Rules"
  | _ => 0
def gl (K : PySem.W.Frag) (lm : List LamD) : GL := { K := K, CT := CT0 K, T := T0 K, L := L0 K, lm := lm }
def cs0 (K : PySem.W.Frag) : List (Addr × Addr) := [He.cT K ("Rules", some "__init__"), He.cT K ("Rules", some "steps_for"), He.cT K ("law", none)]
theorem cs_t (K : PySem.W.Frag) : (cs0 K).map (·.2) = T0 K ++ [(He.cT K ("law", none)).2] := rfl
theorem t_in {K : PySem.W.Frag} {lm : List LamD} {P : Addr} (h : P ∈ (gl K lm).T) : P ∈ (cs0 K).map (·.2) := by rw [cs_t]; exact List.mem_append_left _ h
theorem l_in {K : PySem.W.Frag} {lm : List LamD} {q : Addr × Str} (h : q ∈ (gl K lm).L) : q.1 ∈ (cs0 K).map (·.2) := by rw [cs_t, List.mem_singleton.mp h]; exact List.mem_append_right _ (List.mem_singleton.mpr rfl)
theorem l_out {K : PySem.W.Frag} {lm : List LamD} {q : Addr × Str} (hd : ((cs0 K).map (·.2)).Nodup) (h : q ∈ (gl K lm).L) : q.1 ∉ (gl K lm).T := fun m => by
  rw [cs_t] at hd
  rw [List.mem_singleton.mp h] at m
  exact (List.nodup_append.mp hd).2.2 _ m _ (List.mem_singleton.mpr rfl) rfl
def lams_law : Nat → Ev D
  | 0 => vMake 2 f_Rules___init__ false (aC (vTup (aC (vK (.int 0)) (aC (vK (.int 1)) (aN)))) (aC (vTup (aC (vK (.int 1)) (aC (vK (.int 1)) (aN)))) (aN))) []
  | 1 => vMake 2 f_Rules___init__ false (aC (vTup (aC (vK (.int 2)) (aC (vK (.int 1)) (aN)))) (aC (vTup (aC (vK (.int 1)) (aC (vK (.int 1)) (aN)))) (aN))) []
  | 2 => vMake 2 f_Rules___init__ false (aC (vTup (aC (vK (.int 1)) (aC (vK (.int 1)) (aN)))) (aC (vTup (aC (vK (.int 0)) (aC (vK (.int 1)) (aN)))) (aN))) []
  | 3 => vMeth 2 "best" f_Rules_best (vV 28) (aC (vK (.int 10)) (aC (vK (.int 10)) (aN))) []
  | 4 => vFn f_headroom (aC (vLst (aN)) (aC (vK (.int 1)) (aC (vK (.int 1)) (aC (vK (.int 5)) (aN))))) []
  | _ => vBad
def b_law : Sv :=
  sSeq (sForI (itA (vFn f__law_rounds (aC (vV 0) (aC (vK (.int 1)) (aN))) [])) (gvN 1)
  (sSeq (sPar 2 3 (aC (v2 oAdd (vK (.int 1)) (vFn f__law_roll (aC (vV 1) (aC (vK (.int 200)) (aN))) [])) (aC (v2 oAdd (vK (.int 1)) (vFn f__law_roll (aC (vV 1) (aC (vK (.int 300)) (aN))) [])) (aN))))
  (sSeq (sAsg (vMake 2 f_Rules___init__ false (aC (vTup (aC (vV 2) (aC (v2 oAdd (vV 2) (vFn f__law_roll (aC (vV 1) (aC (vK (.int 60)) (aN))) [])) (aN)))) (aC (vTup (aC (vV 3) (aC (v2 oAdd (vV 3) (vFn f__law_roll (aC (vV 1) (aC (vK (.int 100)) (aN))) [])) (aN)))) (aN))) []) (gvN 4))
  (sSeq (sAsg (vTup (aC (v2 oAdd (vK (.int 1)) (vFn f__law_roll (aC (vV 1) (aC (vK (.int 400)) (aN))) [])) (aC (v2 oAdd (vK (.int 1)) (vFn f__law_roll (aC (vV 1) (aC (vK (.int 800)) (aN))) [])) (aN)))) (gvT 2 (gsC (gvN 5) (gsC (gvN 6) (gsN)))))
  (sSeq (sAsg (vFld [2] "rise" (vV 4)) (gvT 2 (gsC (gvN 7) (gsC (gvN 8) (gsN)))))
  (sSeq (sIf (tstB (v2 (oEq true) (vCal fList (aC (vMeth 2 "steps_for" f_Rules_steps_for (vV 4) (aC (vV 5) (aN)) []) (aN))) (vCmp (itR2 (aC (vK (.int 1)) (aC (v2 oAdd (vV 5) (vK (.int 1))) (aN)))) (tvN 10) (tstB (vCh (oOrd .le) (oOrd .le) (v2 oMul (vV 7) (vV 10)) (vV 5) (v2 oMul (vV 8) (vV 10)))) (vV 10) [10])))
  (sRet (vK (.bl false)))
  (sNx))
  (sSeq (sAsg (vLst (aN)) (gvN 9))
  (sSeq (sForI (itA (vCmp (itR2 (aC (vK (.int 1)) (aC (v2 oAdd (vV 5) (vK (.int 1))) (aN)))) (tvN 10) (tstB (vCh (oOrd .le) (oOrd .le) (v2 oMul (vV 7) (vV 10)) (vV 5) (v2 oMul (vV 8) (vV 10)))) (vV 10) [10])) (gvN 10)
  (sSeq (sAsg (vCmp (itR1 (aC (vV 10) (aN))) (tvN 30) (bYes) (v2 oAdd (v2 oDiv (vV 5) (vV 10)) (vCal fInt (aC (v2 (oOrd .lt) (vV 30) (v2 oMod (vV 5) (vV 10))) (aN)))) [30]) (gvN 11))
  (sIf (tstB (v2 (oEq false) (vCmp (itA (vV 11)) (tvN 34) (bNot (tstB (vCh (oOrd .le) (oOrd .le) (vV 7) (vV 34) (vV 8)))) (vV 34) [34]) (vLst (aN))))
  (sSeq (sAsg (vIf (tstB (v2 (oOrd .gt) (vV 10) (vK (.int 1)))) (vCmp (itR1 (aC (v2 oSub (vV 10) (vK (.int 1))) (aN))) (tvN 30) (bYes) (v2 oAdd (v2 oDiv (vV 6) (v2 oSub (vV 10) (vK (.int 1)))) (vCal fInt (aC (v2 (oOrd .lt) (vV 30) (v2 oMod (vV 6) (v2 oSub (vV 10) (vK (.int 1))))) (aN)))) [30]) (vLst (aN))) (gvN 12))
  (sSeq (sAsg (v2 (oEq false) (vCmp (itA (vV 12)) (tvN 35) (bNot (tstB (vCh (oOrd .le) (oOrd .le) (v2 oIx (vFld [2] "going" (vV 4)) (vK (.int 0))) (vV 35) (v2 oIx (vFld [2] "going" (vV 4)) (vK (.int 1)))))) (vV 35) [35]) (vLst (aN))) (gvN 13))
  (sSeq (sAsg (vTup (aC (vIf (tstB (v2 (oEq true) (vV 12) (vLst (aN)))) (vCal (fBest false) (aC (vV 12) (aN))) (vK (.int 0))) (aC (vIf (tstB (v2 (oOrd .gt) (vV 10) (vK (.int 1)))) (v2 oMod (vV 6) (v2 oSub (vV 10) (vK (.int 1)))) (vK (.int 0))) (aN)))) (gvN 14))
  (sSeq (sIf (tstB (v2 (oEq true) (vMeth 2 "goings_for" f_Rules_goings_for (vV 4) (aC (vV 6) (aC (vV 10) (aN))) []) (vIf (tstB (vV 13)) (vV 14) (vK .non))))
  (sRet (vK (.bl false)))
  (sNx))
  (sAsg (v2 oAdd (vV 9) (v2 oMul (vLst (aC (vTup (aC (vCal fAbs (aC (v2 oSub (v2 oAdd (v2 oMul (vK (.int 2)) (vCal (fBest false) (aC (vV 11) (aN)))) (v2 oIx (vV 14) (vK (.int 0)))) (vK (.int 630))) (aN))) (aC (vV 10) (aC (v2 oAdd (vTup (aC (vV 10) (aC (vCal (fBest false) (aC (vV 11) (aN))) (aC (v2 oMod (vV 5) (vV 10)) (aN))))) (vV 14)) (aN))))) (aN))) (vCal fInt (aC (vV 13) (aN))))) (gvN 9))))))
  (sNx))))
  (sSeq (sAsg (vTold 1 "LoadError" (vMeth 2 "best" f_Rules_best (vV 4) (aC (vV 5) (aC (vV 6) (aN))) [])) (gvN 15))
  (sSeq (sIf (tstB (v2 (oEq true) (vV 15) (vIf (tstB (v2 (oEq true) (vV 9) (vLst (aN)))) (v2 oIx (vCal (fBest false) (aC (vV 9) (aN))) (vK (.int 2))) (vK (.str "LoadError")))))
  (sRet (vK (.bl false)))
  (sNx))
  (sIf (tstB (v2 (oEq true) (vV 9) (vLst (aN))))
  (sSeq (sAsg (vV 15) (gvT 5 (gsC (gvN 10) (gsC (gvN 16) (gsC (gvN 17) (gsC (gvN 18) (gsC (gvN 19) (gsN))))))))
  (sSeq (sAsg (vCmp (itR1 (aC (vV 10) (aN))) (tvN 23) (bYes) (vCal fSum (aC (vCmp (itR1 (aC (v2 oAdd (vV 23) (vK (.int 1))) (aN))) (tvN 30) (bYes) (v2 oAdd (v2 oDiv (vV 5) (vV 10)) (vCal fInt (aC (v2 (oOrd .lt) (vV 30) (v2 oMod (vV 5) (vV 10))) (aN)))) [30]) (aN))) [23]) (gvN 20))
  (sSeq (sPar 21 22 (aC (vLst (aC (vTup (aC (vK (.int 0)) (aC (vK (.int 0)) (aN)))) (aN))) (aC (vK (.int 0)) (aN))))
  (sSeq (sForI (itR1 (aC (vV 10) (aN))) (gvN 23)
  (sSeq (sAsg (v2 oAdd (vV 21) (vLst (aC (vTup (aC (vV 22) (aC (v2 oIx (vV 20) (vV 23)) (aN)))) (aN)))) (gvN 21))
  (sIf (tstB (v2 (oOrd .lt) (v2 oAdd (vV 23) (vK (.int 1))) (vV 10)))
  (sSeq (sAsg (v2 oAdd (v2 oAdd (vV 22) (vV 18)) (vCal fInt (aC (v2 (oOrd .lt) (vV 23) (vV 19)) (aN)))) (gvN 22))
  (sAsg (v2 oAdd (vV 21) (vLst (aC (vTup (aC (vV 22) (aC (v2 oIx (vV 20) (vV 23)) (aN)))) (aN)))) (gvN 21)))
  (sNx))))
  (sSeq (sIf (bOr (tstB (v2 (oEq true) (vCal fList (aC (vFn f_heights (aC (vV 10) (aC (vV 16) (aC (vV 17) (aN)))) []) (aN))) (vV 20))) (bOr (tstB (v2 (oEq true) (vCal fList (aC (vFn f_edges_of (aC (vV 10) (aC (vV 16) (aC (vV 17) (aC (vV 18) (aC (vV 19) (aN)))))) []) (aN))) (vV 21))) (tstB (v2 (oEq true) (v2 oIx (vV 21) (v2 oSub (vCal fLen (aC (vV 21) (aN))) (vK (.int 1)))) (vTup (aC (vIf (tstB (v2 (oOrd .gt) (vV 10) (vK (.int 1)))) (vV 6) (vK (.int 0))) (aC (vV 5) (aN))))))))
  (sRet (vK (.bl false)))
  (sNx))
  (sSeq (sAsg (vFn f__law_roll (aC (vV 1) (aC (v2 oAdd (vV 6) (vK (.int 10))) (aN))) []) (gvN 24))
  (sSeq (sAsg (vTup (aC (v2 oAdd (v2 oAdd (vV 24) (vK (.int 1))) (vFn f__law_roll (aC (vV 1) (aC (vK (.int 500)) (aN))) [])) (aC (v2 oAdd (vV 5) (vFn f__law_roll (aC (vV 1) (aC (vK (.int 3000)) (aN))) [])) (aN)))) (gvT 2 (gsC (gvN 25) (gsC (gvN 26) (gsN)))))
  (sSeq (sAsg (vCmp (itZ (aC (vV 21) (aC (vSl (vV 21) (poS (vK (.int 1))) (poN)) (aN)))) (tvT 2 (tsC (tvN 31) (tsC (tvN 32) (tsN)))) (bAnd (tstB (v2 (oEq false) (v2 oIx (vV 31) (vK (.int 1))) (v2 oIx (vV 32) (vK (.int 1))))) (tstB (v2 (oOrd .lt) (vCal (fBest true) (aC (v2 oIx (vV 31) (vK (.int 0))) (aC (vV 24) (aN)))) (vCal (fBest false) (aC (v2 oIx (vV 32) (vK (.int 0))) (aC (vV 25) (aN))))))) (v2 oSub (vV 26) (v2 oIx (vV 31) (vK (.int 1)))) [31, 32]) (gvN 27))
  (sIf (tstB (v2 (oEq true) (vFn f_headroom (aC (vV 21) (aC (vV 24) (aC (vV 25) (aC (vV 26) (aN))))) []) (vIf (tstB (v2 (oEq true) (vV 27) (vLst (aN)))) (vCal (fBest false) (aC (vV 27) (aN))) (vK .non))))
  (sRet (vK (.bl false)))
  (sNx))))))))))
  (sNx))))))))))))
  (sSeq (sAsg (vMake 2 f_Rules___init__ false (aC (vTup (aC (vK (.int 150)) (aC (vK (.int 200)) (aN)))) (aC (vTup (aC (vK (.int 220)) (aC (vK (.int 320)) (aN)))) (aN))) []) (gvN 28))
  (sSeq (sAsg (vLst (aC (vK (.lam 0)) (aC (vK (.lam 1)) (aC (vK (.lam 2)) (aC (vK (.lam 3)) (aC (vK (.lam 4)) (aN))))))) (gvN 29))
  (sRet (vAnd (v2 (oEq false) (vCmp (itA (vV 29)) (tvN 33) (tstB (v2 (oEq true) (vToldL 33 [33] 1 "LoadError" lams_law) (vK (.str "LoadError")))) (vK (.int 1)) [33]) (vLst (aN))) (vAnd (v2 (oEq false) (vMeth 2 "best" f_Rules_best (vV 28) (aC (vK (.int 2700)) (aC (vK (.int 4000)) (aN))) []) (vTup (aC (vK (.int 15)) (aC (vK (.int 180)) (aC (vK (.int 0)) (aC (vK (.int 285)) (aC (vK (.int 10)) (aN)))))))) (vAnd (v2 (oEq false) (vK (.int 630)) (vK (.int 630))) (vAnd (vMeth 2 "rises_fit" f_Rules_rises_fit (vV 28) (aC (vK (.int 300)) (aC (vK (.int 2)) (aN))) []) (vAnd (vNot (vMeth 2 "rises_fit" f_Rules_rises_fit (vV 28) (aC (vK (.int 401)) (aC (vK (.int 2)) (aN))) [])) (v2 (oIs false) (vFn f_headroom (aC (vLst (aN)) (aC (vK (.int 1)) (aC (vK (.int 2)) (aC (vK (.int 5)) (aN))))) []) (vK .non))))))))))
theorem sc_law : FnScope ("script" :: "dice" :: "rise" :: "going" :: "rules" :: "height" :: "length" :: "low" :: "high" :: "stairs" :: "many" :: "parts" :: "treads" :: "good" :: "due" :: "best" :: "step" :: "higher" :: "wide" :: "longer" :: "tops" :: "corners" :: "x" :: "j" :: "first" :: "last" :: "ceiling" :: "rooms" :: "plain" :: "bad" :: "k" :: "one" :: "other" :: "f" :: "part" :: "tread" :: []) ["script"] (defScope (top 14)) := ⟨rfl, rfl, rfl, by decide +kernel, rfl, by decide +kernel, by decide +kernel⟩
theorem ok_law {P : Program} {w : World} {K : PySem.W.Frag} {mg : Str → Option Value} {base : Heap} {fd : FuncData} (F : FunD K "law" "law" (defArgs (top 14)) (defBody (top 14)) (defScope (top 14)) [] [] (He.fAd K ("law", none)) fd) (TB : LamX.TabB base mg (He.cT K ("law", none)).1 (He.cT K ("law", none)).2) (hd : ((cs0 K).map (·.2)).Nodup) (n_abs : mg "abs" = none) (n_int : mg "int" = none) (n_len : mg "len" = none) (n_list : mg "list" = none) (n_max : mg "max" = none) (n_min : mg "min" = none) (n_range : mg "range" = none) (n_sum : mg "sum" = none) (n_zip : mg "zip" = none) (c_STEP_SUM : ∃ t, mg "STEP_SUM" = some (.int 630 t)) (f__law_roll_ : ∀ lm, Cal2 P w K mg base (gl K lm) 2 "_law_roll" 2 f__law_roll []) (f__law_rounds_ : ∀ lm, Cal2 P w K mg base (gl K lm) 3 "_law_rounds" 2 f__law_rounds []) (f_edges_of_ : ∀ lm, Cal2 P w K mg base (gl K lm) 3 "edges_of" 5 f_edges_of []) (f_headroom_ : ∀ lm, Cal2 P w K mg base (gl K lm) 2 "headroom" 4 f_headroom []) (f_heights_ : ∀ lm, Cal2 P w K mg base (gl K lm) 2 "heights" 3 f_heights []) (l_going : ∀ lm, ∀ c ∈ [2], Cls (gl K lm).K ((gl K lm).CT c) ∧ NoAttr (gl K lm).K ((gl K lm).CT c) "going") (l_rise : ∀ lm, ∀ c ∈ [2], Cls (gl K lm).K ((gl K lm).CT c) ∧ NoAttr (gl K lm).K ((gl K lm).CT c) "rise") (m_Rules_best_ : ∀ lm, Cal3 P w K mg base (gl K lm) 8 2 "best" 3 f_Rules_best []) (m_Rules_goings_for_ : ∀ lm, Cal3 P w K mg base (gl K lm) 2 2 "goings_for" 3 f_Rules_goings_for []) (m_Rules_rises_fit_ : ∀ lm, Cal3 P w K mg base (gl K lm) 2 2 "rises_fit" 3 f_Rules_rises_fit []) (m_Rules_steps_for_ : ∀ lm, Cal3 P w K mg base (gl K lm) 7 2 "steps_for" 2 f_Rules_steps_for []) (k_Rules_ : ∀ lm, Cal4 P w K mg base (gl K lm) 7 2 "Rules" 3 f_Rules___init__ []) (td__law_told : ∀ lm, TolD K mg (gl K lm) "_law_told" "what" "LoadError" 1 "LoadError" ["what"] (defArgs (top 13)) (defScope (top 13)) (defBody (top 13)) (He.fAd K ("_law_told", none)))
    (law_true : ∀ ns : List Int, ns.length ≤ 63 → (∀ z ∈ ns, Builtin.Int.intBits z ≤ 1048576) → ∃ s, b_law (startE 36 [scrD ns]) [] = .rt (.p (.bl true)) s) : FnOk P w K mg base (L2.CX P w) 11 (He.fAd K ("law", none)) fd ["script"] (SpLaw K (cs0 K) 63) := by
  have nd : (("script" :: "dice" :: "rise" :: "going" :: "rules" :: "height" :: "length" :: "low" :: "high" :: "stairs" :: "many" :: "parts" :: "treads" :: "good" :: "due" :: "best" :: "step" :: "higher" :: "wide" :: "longer" :: "tops" :: "corners" :: "x" :: "j" :: "first" :: "last" :: "ceiling" :: "rooms" :: "plain" :: "bad" :: "k" :: "one" :: "other" :: "f" :: "part" :: "tread" :: []) : List Str).Nodup := by decide +kernel
  refine fn_law F sc_law law_true (fun A outer s H E hr => ?_)
  refine ⟨gl K (lmOf q0 (envOfC "law" (defScope (top 14)) s.heap.objs.size (He.fAd K ("law", none)) (.ref (He.codeOf K ("law", none)))).cells ((defBody (top 14)).getD 2 (.Pass ⟨0, 0, 0, 0⟩))), rfl, fun P hP => ?_, fun q hq => ?_, fun q hq => ?_, ?_⟩
  · exact t_in hP
  · exact l_in hq
  · exact l_out hd hq
  have gK : (gl K (lmOf q0 (envOfC "law" (defScope (top 14)) s.heap.objs.size (He.fAd K ("law", none)) (.ref (He.codeOf K ("law", none)))).cells ((defBody (top 14)).getD 2 (.Pass ⟨0, 0, 0, 0⟩)))).K = K := rfl
  have hmT : ((He.cT K ("law", none)).2, q0) ∈ L0 K := List.mem_singleton.mpr rfl
  have hu : ∀ p ∈ L0 K, p.1 = (He.cT K ("law", none)).2 → p.2 = q0 := fun p hp _ => by rw [List.mem_singleton.mp hp]
  exact ss_cons (ss_for po_fn rfl (si_any (kx_of gK.symm hr) (scall (f__law_rounds_ _) hr (by decide) rfl px_fn (sa_cons (sv 0) (sa_cons (se_int) (sa_nil))))) (sg_name (i := 1) nd rfl (by first | exact Or.inl rfl | exact Or.inr rfl))
      (ss_cons (ss_par (i := 2) (j := 3) rfl nd rfl rfl (by decide) rfl rfl (sa_cons (sAddE (kx_of gK.symm hr) (se_int) (scall (f__law_roll_ _) hr (by decide) rfl px_fn (sa_cons (sv 1) (sa_cons (se_int) (sa_nil))))) (sa_cons (sAddE (kx_of gK.symm hr) (se_int) (scall (f__law_roll_ _) hr (by decide) rfl px_fn (sa_cons (sv 1) (sa_cons (se_int) (sa_nil))))) (sa_nil))) (by rfl))
      (ss_cons (ss_set (i := 4) nd rfl (by first | exact Or.inl rfl | exact Or.inr rfl) (smake (keep := false) (k_Rules_ _) hr (by decide) rfl px_fn (sa_cons (se_tup (sa_cons (sv 2) (sa_cons (sAddE (kx_of gK.symm hr) (sv 2) (scall (f__law_roll_ _) hr (by decide) rfl px_fn (sa_cons (sv 1) (sa_cons (se_int) (sa_nil))))) (sa_nil)))) (sa_cons (se_tup (sa_cons (sv 3) (sa_cons (sAddE (kx_of gK.symm hr) (sv 3) (scall (f__law_roll_ _) hr (by decide) rfl px_fn (sa_cons (sv 1) (sa_cons (se_int) (sa_nil))))) (sa_nil)))) (sa_nil)))))
      (ss_cons (ss_asg (se_tup (sa_cons (sAddE (kx_of gK.symm hr) (se_int) (scall (f__law_roll_ _) hr (by decide) rfl px_fn (sa_cons (sv 1) (sa_cons (se_int) (sa_nil))))) (sa_cons (sAddE (kx_of gK.symm hr) (se_int) (scall (f__law_roll_ _) hr (by decide) rfl px_fn (sa_cons (sv 1) (sa_cons (se_int) (sa_nil))))) (sa_nil)))) (sg_tup (kx_of gK.symm hr) rfl (sgs_cons (sg_name (i := 5) nd rfl (by first | exact Or.inl rfl | exact Or.inr rfl)) (sgs_cons (sg_name (i := 6) nd rfl (by first | exact Or.inl rfl | exact Or.inr rfl)) (sgs_nil)))))
      (ss_cons (ss_asg (se_fld (cs := [2]) gK.symm (l_rise _) (sv 4)) (sg_tup (kx_of gK.symm hr) rfl (sgs_cons (sg_name (i := 7) nd rfl (by first | exact Or.inl rfl | exact Or.inr rfl)) (sgs_cons (sg_name (i := 8) nd rfl (by first | exact Or.inl rfl | exact Or.inr rfl)) (sgs_nil)))))
      (ss_cons (ss_if (tcmp (kx_of gK.symm hr) (se_callTy (rc_list (kx_of gK.symm hr)) nx_list rfl n_list bt_list (sa_cons (smeth (m_Rules_steps_for_ _) hr (by decide) px_fn (sv 4) (sa_cons (sv 5) (sa_nil))) (sa_nil))) (se_lc (own := [("many", 10)]) ok_lst rfl nd (si_range2 rfl n_range (sa_cons (se_int) (sa_cons (sAddE (kx_of gK.symm hr) (sv 5) (se_int)) (sa_nil)))) (blkOk_by (by kernel_rfl)) (fun _ _ _ _ _ => tg_name (i := 10) nd rfl (by first | exact Or.inl rfl | exact Or.inr rfl) (by decide)) (fun _ _ _ _ _ => sb_one (tchn (kx_of gK.symm hr) (sMulE (kx_of gK.symm hr) (sv 7) (sv 10)) (sv 5) (sMulE (kx_of gK.symm hr) (sv 8) (sv 10)))) (fun _ _ _ _ _ => sv 10)))
      (ss_one (ss_ret (se_bl)))
      (ss_nil))
      (ss_cons (ss_set (i := 9) nd rfl (by first | exact Or.inl rfl | exact Or.inr rfl) (se_lst (sa_nil)))
      (ss_cons (ss_for po_fn rfl (si_any (kx_of gK.symm hr) (se_lc (own := [("many", 10)]) ok_lst rfl nd (si_range2 rfl n_range (sa_cons (se_int) (sa_cons (sAddE (kx_of gK.symm hr) (sv 5) (se_int)) (sa_nil)))) (blkOk_by (by kernel_rfl)) (fun _ _ _ _ _ => tg_name (i := 10) nd rfl (by first | exact Or.inl rfl | exact Or.inr rfl) (by decide)) (fun _ _ _ _ _ => sb_one (tchn (kx_of gK.symm hr) (sMulE (kx_of gK.symm hr) (sv 7) (sv 10)) (sv 5) (sMulE (kx_of gK.symm hr) (sv 8) (sv 10)))) (fun _ _ _ _ _ => sv 10))) (sg_name (i := 10) nd rfl (by first | exact Or.inl rfl | exact Or.inr rfl))
      (ss_cons (ss_setLc (i := 11) rfl rfl (sw_true rfl rfl rfl (by decide +kernel)) (own := [("k", 30)]) ok_lst rfl nd (si_range1 rfl n_range (sa_cons (sv 10) (sa_nil))) (blkOk_by (by kernel_rfl)) (fun _ _ _ _ _ => tg_name (i := 30) nd rfl (by first | exact Or.inl rfl | exact Or.inr rfl) (by decide)) (fun _ _ _ _ _ => sb_none) (fun _ _ _ _ _ => sAddE (kx_of gK.symm hr) (sDivE (sv 5) (sv 10)) (se_callTy rc_int nx_int rfl n_int bt_int (sa_cons (scmp (kx_of gK.symm hr) (sv 30) (sModE (sv 5) (sv 10))) (sa_nil)))))
      (ss_one (ss_if (tcmp (kx_of gK.symm hr) (se_lc (own := [("part", 34)]) ok_lst rfl nd (si_any (kx_of gK.symm hr) (sv 11)) (blkOk_by (by kernel_rfl)) (fun _ _ _ _ _ => tg_name (i := 34) nd rfl (by first | exact Or.inl rfl | exact Or.inr rfl) (by decide)) (fun _ _ _ _ _ => sb_one (st_not (tchn (kx_of gK.symm hr) (sv 7) (sv 34) (sv 8)))) (fun _ _ _ _ _ => sv 34)) (se_lst (sa_nil)))
      (ss_cons (ss_set (i := 12) nd rfl (by first | exact Or.inl rfl | exact Or.inr rfl) (se_if (tcmp (kx_of gK.symm hr) (sv 10) (se_int)) (se_lc (own := [("k", 30)]) ok_lst rfl nd (si_range1 rfl n_range (sa_cons (sSubE (sv 10) (se_int)) (sa_nil))) (blkOk_by (by kernel_rfl)) (fun _ _ _ _ _ => tg_name (i := 30) nd rfl (by first | exact Or.inl rfl | exact Or.inr rfl) (by decide)) (fun _ _ _ _ _ => sb_none) (fun _ _ _ _ _ => sAddE (kx_of gK.symm hr) (sDivE (sv 6) (sSubE (sv 10) (se_int))) (se_callTy rc_int nx_int rfl n_int bt_int (sa_cons (scmp (kx_of gK.symm hr) (sv 30) (sModE (sv 6) (sSubE (sv 10) (se_int)))) (sa_nil))))) (se_lst (sa_nil))))
      (ss_cons (ss_set (i := 13) nd rfl (by first | exact Or.inl rfl | exact Or.inr rfl) (scmp (kx_of gK.symm hr) (se_lc (own := [("tread", 35)]) ok_lst rfl nd (si_any (kx_of gK.symm hr) (sv 12)) (blkOk_by (by kernel_rfl)) (fun _ _ _ _ _ => tg_name (i := 35) nd rfl (by first | exact Or.inl rfl | exact Or.inr rfl) (by decide)) (fun _ _ _ _ _ => sb_one (st_not (tchn (kx_of gK.symm hr) (se_ix (kx_of gK.symm hr) (se_fld (cs := [2]) gK.symm (l_going _) (sv 4)) (se_int) (fun _ _ => rfl)) (sv 35) (se_ix (kx_of gK.symm hr) (se_fld (cs := [2]) gK.symm (l_going _) (sv 4)) (se_int) (fun _ _ => rfl))))) (fun _ _ _ _ _ => sv 35)) (se_lst (sa_nil))))
      (ss_cons (ss_set (i := 14) nd rfl (by first | exact Or.inl rfl | exact Or.inr rfl) (se_tup (sa_cons (se_if (tcmp (kx_of gK.symm hr) (sv 12) (se_lst (sa_nil))) (se_callB (rc_min rfl (kx_of gK.symm hr)) nx_best rfl n_min bt_min (sa_cons (sv 12) (sa_nil))) (se_int)) (sa_cons (se_if (tcmp (kx_of gK.symm hr) (sv 10) (se_int)) (sModE (sv 6) (sSubE (sv 10) (se_int))) (se_int)) (sa_nil)))))
      (ss_cons (ss_if (tcmp (kx_of gK.symm hr) (smeth (m_Rules_goings_for_ _) hr (by decide) px_fn (sv 4) (sa_cons (sv 6) (sa_cons (sv 10) (sa_nil)))) (se_if (st_val (sv 13)) (sv 14) (se_non)))
      (ss_one (ss_ret (se_bl)))
      (ss_nil))
      (ss_one (ss_set (i := 9) nd rfl (by first | exact Or.inl rfl | exact Or.inr rfl) (sAddE (kx_of gK.symm hr) (sv 9) (sMulE (kx_of gK.symm hr) (se_lst (sa_cons (se_tup (sa_cons (se_callB rc_abs nx_abs rfl n_abs bt_abs (sa_cons (sSubE (sAddE (kx_of gK.symm hr) (sMulE (kx_of gK.symm hr) (se_int) (se_callB (rc_min rfl (kx_of gK.symm hr)) nx_best rfl n_min bt_min (sa_cons (sv 11) (sa_nil)))) (se_ix (kx_of gK.symm hr) (sv 14) (se_int) (fun _ _ => rfl))) (se_int)) (sa_nil))) (sa_cons (sv 10) (sa_cons (sAddE (kx_of gK.symm hr) (se_tup (sa_cons (sv 10) (sa_cons (se_callB (rc_min rfl (kx_of gK.symm hr)) nx_best rfl n_min bt_min (sa_cons (sv 11) (sa_nil))) (sa_cons (sModE (sv 5) (sv 10)) (sa_nil))))) (sv 14)) (sa_nil))))) (sa_nil))) (se_callTy rc_int nx_int rfl n_int bt_int (sa_cons (sv 13) (sa_nil)))))))))))
      (ss_nil)))))
      (ss_cons (ss_set (i := 15) nd rfl (by first | exact Or.inl rfl | exact Or.inr rfl) (se_told (k := 8) (td__law_told _) rfl TB rfl hmT hu (hr.mono (by decide)) (LamX.lamS_by (by kernel_rfl)) rfl (fun _ _ _ _ _ => rfl) (fun A' outer' s' H' E' f' c' hr' => smeth (m_Rules_best_ _) hr' (by decide) (px_lam rfl rfl) (sv 4 (hv := Or.inr (Or.inr rfl))) (sa_cons (sv 5 (hv := Or.inr (Or.inr rfl))) (sa_cons (sv 6 (hv := Or.inr (Or.inr rfl))) (sa_nil))))))
      (ss_cons (ss_if (tcmp (kx_of gK.symm hr) (sv 15) (se_if (tcmp (kx_of gK.symm hr) (sv 9) (se_lst (sa_nil))) (se_ix (kx_of gK.symm hr) (se_callB (rc_min rfl (kx_of gK.symm hr)) nx_best rfl n_min bt_min (sa_cons (sv 9) (sa_nil))) (se_int) (fun _ _ => rfl)) (se_str)))
      (ss_one (ss_ret (se_bl)))
      (ss_nil))
      (ss_one (ss_if (tcmp (kx_of gK.symm hr) (sv 9) (se_lst (sa_nil)))
      (ss_cons (ss_asg (sv 15) (sg_tup (kx_of gK.symm hr) rfl (sgs_cons (sg_name (i := 10) nd rfl (by first | exact Or.inl rfl | exact Or.inr rfl)) (sgs_cons (sg_name (i := 16) nd rfl (by first | exact Or.inl rfl | exact Or.inr rfl)) (sgs_cons (sg_name (i := 17) nd rfl (by first | exact Or.inl rfl | exact Or.inr rfl)) (sgs_cons (sg_name (i := 18) nd rfl (by first | exact Or.inl rfl | exact Or.inr rfl)) (sgs_cons (sg_name (i := 19) nd rfl (by first | exact Or.inl rfl | exact Or.inr rfl)) (sgs_nil))))))))
      (ss_cons (ss_setLc (i := 20) rfl rfl (sw_true rfl rfl rfl (by decide +kernel)) (own := [("j", 23)]) ok_lst rfl nd (si_range1 rfl n_range (sa_cons (sv 10) (sa_nil))) (blkOk_by (by kernel_rfl)) (fun _ _ _ _ _ => tg_name (i := 23) nd rfl (by first | exact Or.inl rfl | exact Or.inr rfl) (by decide)) (fun _ _ _ _ _ => sb_none) (fun _ _ _ _ _ => se_callB (rc_sum rfl (kx_of gK.symm hr)) nx_sum rfl n_sum bt_sum (sa_cons (se_lc (own := [("k", 30)]) ok_lst rfl nd (si_range1 rfl n_range (sa_cons (sAddE (kx_of gK.symm hr) (sv 23) (se_int)) (sa_nil))) (blkOk_by (by kernel_rfl)) (fun _ _ _ _ _ => tg_name (i := 30) nd rfl (by first | exact Or.inl rfl | exact Or.inr rfl) (by decide)) (fun _ _ _ _ _ => sb_none) (fun _ _ _ _ _ => sAddE (kx_of gK.symm hr) (sDivE (sv 5) (sv 10)) (se_callTy rc_int nx_int rfl n_int bt_int (sa_cons (scmp (kx_of gK.symm hr) (sv 30) (sModE (sv 5) (sv 10))) (sa_nil))))) (sa_nil))))
      (ss_cons (ss_par (i := 21) (j := 22) rfl nd rfl rfl (by decide) rfl rfl (sa_cons (se_lst (sa_cons (se_tup (sa_cons (se_int) (sa_cons (se_int) (sa_nil)))) (sa_nil))) (sa_cons (se_int) (sa_nil))) (by rfl))
      (ss_cons (ss_for po_fn rfl (si_range1 rfl n_range (sa_cons (sv 10) (sa_nil))) (sg_name (i := 23) nd rfl (by first | exact Or.inl rfl | exact Or.inr rfl))
      (ss_cons (ss_set (i := 21) nd rfl (by first | exact Or.inl rfl | exact Or.inr rfl) (sAddE (kx_of gK.symm hr) (sv 21) (se_lst (sa_cons (se_tup (sa_cons (sv 22) (sa_cons (se_ix (kx_of gK.symm hr) (sv 20) (sv 23) (fun _ _ => rfl)) (sa_nil)))) (sa_nil)))))
      (ss_one (ss_if (tcmp (kx_of gK.symm hr) (sAddE (kx_of gK.symm hr) (sv 23) (se_int)) (sv 10))
      (ss_cons (ss_set (i := 22) nd rfl (by first | exact Or.inl rfl | exact Or.inr rfl) (sAddE (kx_of gK.symm hr) (sAddE (kx_of gK.symm hr) (sv 22) (sv 18)) (se_callTy rc_int nx_int rfl n_int bt_int (sa_cons (scmp (kx_of gK.symm hr) (sv 23) (sv 19)) (sa_nil)))))
      (ss_one (ss_set (i := 21) nd rfl (by first | exact Or.inl rfl | exact Or.inr rfl) (sAddE (kx_of gK.symm hr) (sv 21) (se_lst (sa_cons (se_tup (sa_cons (sv 22) (sa_cons (se_ix (kx_of gK.symm hr) (sv 20) (sv 23) (fun _ _ => rfl)) (sa_nil)))) (sa_nil)))))))
      (ss_nil)))))
      (ss_cons (ss_if (PW.pt (sw_or (tcmp (kx_of gK.symm hr) (se_callTy (rc_list (kx_of gK.symm hr)) nx_list rfl n_list bt_list (sa_cons (scall (f_heights_ _) hr (by decide) rfl px_fn (sa_cons (sv 10) (sa_cons (sv 16) (sa_cons (sv 17) (sa_nil))))) (sa_nil))) (sv 20)) (sw_or (tcmp (kx_of gK.symm hr) (se_callTy (rc_list (kx_of gK.symm hr)) nx_list rfl n_list bt_list (sa_cons (scall (f_edges_of_ _) hr (by decide) rfl px_fn (sa_cons (sv 10) (sa_cons (sv 16) (sa_cons (sv 17) (sa_cons (sv 18) (sa_cons (sv 19) (sa_nil))))))) (sa_nil))) (sv 21)) (sw_or1 (tcmp (kx_of gK.symm hr) (se_ix (kx_of gK.symm hr) (sv 21) (sSubE (se_callB (rc_len (kx_of gK.symm hr)) nx_len rfl n_len bt_len (sa_cons (sv 21) (sa_nil))) (se_int)) (fun _ _ => rfl)) (se_tup (sa_cons (se_if (tcmp (kx_of gK.symm hr) (sv 10) (se_int)) (sv 6) (se_int)) (sa_cons (sv 5) (sa_nil)))))))))
      (ss_one (ss_ret (se_bl)))
      (ss_nil))
      (ss_cons (ss_set (i := 24) nd rfl (by first | exact Or.inl rfl | exact Or.inr rfl) (scall (f__law_roll_ _) hr (by decide) rfl px_fn (sa_cons (sv 1) (sa_cons (sAddE (kx_of gK.symm hr) (sv 6) (se_int)) (sa_nil)))))
      (ss_cons (ss_asg (se_tup (sa_cons (sAddE (kx_of gK.symm hr) (sAddE (kx_of gK.symm hr) (sv 24) (se_int)) (scall (f__law_roll_ _) hr (by decide) rfl px_fn (sa_cons (sv 1) (sa_cons (se_int) (sa_nil))))) (sa_cons (sAddE (kx_of gK.symm hr) (sv 5) (scall (f__law_roll_ _) hr (by decide) rfl px_fn (sa_cons (sv 1) (sa_cons (se_int) (sa_nil))))) (sa_nil)))) (sg_tup (kx_of gK.symm hr) rfl (sgs_cons (sg_name (i := 25) nd rfl (by first | exact Or.inl rfl | exact Or.inr rfl)) (sgs_cons (sg_name (i := 26) nd rfl (by first | exact Or.inl rfl | exact Or.inr rfl)) (sgs_nil)))))
      (ss_cons (ss_setLc (i := 27) rfl rfl (sw_true rfl rfl rfl (by decide +kernel)) (own := [("one", 31), ("other", 32)]) ok_lst rfl nd (si_zip (kx_of gK.symm hr) rfl n_zip (sa_cons (sv 21) (sa_cons (se_sl (kx_of gK.symm hr) (sv 21) (so_some (se_int)) (so_none)) (sa_nil)))) (blkOk_by (by kernel_rfl)) (fun _ _ _ _ _ => tg_tup (kx_of gK.symm hr) rfl (tgs_cons (tg_name (i := 31) nd rfl (by first | exact Or.inl rfl | exact Or.inr rfl) (by decide)) (tgs_cons (tg_name (i := 32) nd rfl (by first | exact Or.inl rfl | exact Or.inr rfl) (by decide)) (tgs_nil)))) (fun _ _ _ _ _ => sb_one (PW.pt (sw_and (tcmp (kx_of gK.symm hr) (se_ix (kx_of gK.symm hr) (sv 31) (se_int) (fun _ _ => rfl)) (se_ix (kx_of gK.symm hr) (sv 32) (se_int) (fun _ _ => rfl))) (sw_and1 (tcmp (kx_of gK.symm hr) (se_callB (rc_max rfl (kx_of gK.symm hr)) nx_best rfl n_max bt_max (sa_cons (se_ix (kx_of gK.symm hr) (sv 31) (se_int) (fun _ _ => rfl)) (sa_cons (sv 24) (sa_nil)))) (se_callB (rc_min rfl (kx_of gK.symm hr)) nx_best rfl n_min bt_min (sa_cons (se_ix (kx_of gK.symm hr) (sv 32) (se_int) (fun _ _ => rfl)) (sa_cons (sv 25) (sa_nil))))))))) (fun _ _ _ _ _ => sSubE (sv 26) (se_ix (kx_of gK.symm hr) (sv 31) (se_int) (fun _ _ => rfl))))
      (ss_one (ss_if (tcmp (kx_of gK.symm hr) (scall (f_headroom_ _) hr (by decide) rfl px_fn (sa_cons (sv 21) (sa_cons (sv 24) (sa_cons (sv 25) (sa_cons (sv 26) (sa_nil)))))) (se_if (tcmp (kx_of gK.symm hr) (sv 27) (se_lst (sa_nil))) (se_callB (rc_min rfl (kx_of gK.symm hr)) nx_best rfl n_min bt_min (sa_cons (sv 27) (sa_nil))) (se_non)))
      (ss_one (ss_ret (se_bl)))
      (ss_nil)))))))))))
      (ss_nil)))))))))))))
      (ss_cons (ss_set (i := 28) nd rfl (by first | exact Or.inl rfl | exact Or.inr rfl) (smake (keep := false) (k_Rules_ _) hr (by decide) rfl px_fn (sa_cons (se_tup (sa_cons (se_int) (sa_cons (se_int) (sa_nil)))) (sa_cons (se_tup (sa_cons (se_int) (sa_cons (se_int) (sa_nil)))) (sa_nil)))))
      (ss_cons (ss_set (i := 29) nd rfl (by first | exact Or.inl rfl | exact Or.inr rfl) (se_lst (sa_cons (se_lam 0 (by rfl) TB rfl hmT hu (LamX.lamS_by (by kernel_rfl)) rfl) (sa_cons (se_lam 1 (by rfl) TB rfl hmT hu (LamX.lamS_by (by kernel_rfl)) rfl) (sa_cons (se_lam 2 (by rfl) TB rfl hmT hu (LamX.lamS_by (by kernel_rfl)) rfl) (sa_cons (se_lam 3 (by rfl) TB rfl hmT hu (LamX.lamS_by (by kernel_rfl)) rfl) (sa_cons (se_lam 4 (by rfl) TB rfl hmT hu (LamX.lamS_by (by kernel_rfl)) rfl) (sa_nil))))))))
      (ss_one (ss_ret (se_and (scmp (kx_of gK.symm hr) (se_lcL (k := 8) (fs := 33) (own := [("f", 33)]) (td__law_told _) (kx_of gK.symm hr) ok_lst rfl nd (si_any (kx_of gK.symm hr) (sv 29)) (blkOk_by (by kernel_rfl)) (fun _ _ _ _ _ => tg_name (i := 33) nd rfl (by first | exact Or.inl rfl | exact Or.inr rfl) (by decide)) (fun _ _ _ _ _ => rfl) (fun _ _ _ _ _ => se_int) (hr.mono (by decide)) ⟨fun i d h => match i, h with | 0, h => (by obtain rfl := Option.some.inj h; exact ⟨rfl, rfl, LamX.lamS_by (by kernel_rfl), (fun _ _ _ _ _ => rfl), fun A' outer' s' H' E' f' c' hr' => smake (keep := false) (k_Rules_ _) hr' (by decide) rfl (px_lam rfl rfl) (sa_cons (se_tup (sa_cons (se_int) (sa_cons (se_int) (sa_nil)))) (sa_cons (se_tup (sa_cons (se_int) (sa_cons (se_int) (sa_nil)))) (sa_nil)))⟩) | 1, h => (by obtain rfl := Option.some.inj h; exact ⟨rfl, rfl, LamX.lamS_by (by kernel_rfl), (fun _ _ _ _ _ => rfl), fun A' outer' s' H' E' f' c' hr' => smake (keep := false) (k_Rules_ _) hr' (by decide) rfl (px_lam rfl rfl) (sa_cons (se_tup (sa_cons (se_int) (sa_cons (se_int) (sa_nil)))) (sa_cons (se_tup (sa_cons (se_int) (sa_cons (se_int) (sa_nil)))) (sa_nil)))⟩) | 2, h => (by obtain rfl := Option.some.inj h; exact ⟨rfl, rfl, LamX.lamS_by (by kernel_rfl), (fun _ _ _ _ _ => rfl), fun A' outer' s' H' E' f' c' hr' => smake (keep := false) (k_Rules_ _) hr' (by decide) rfl (px_lam rfl rfl) (sa_cons (se_tup (sa_cons (se_int) (sa_cons (se_int) (sa_nil)))) (sa_cons (se_tup (sa_cons (se_int) (sa_cons (se_int) (sa_nil)))) (sa_nil)))⟩) | 3, h => (by obtain rfl := Option.some.inj h; exact ⟨rfl, rfl, LamX.lamS_by (by kernel_rfl), (fun _ _ _ _ _ => rfl), fun A' outer' s' H' E' f' c' hr' => smeth (m_Rules_best_ _) hr' (by decide) (px_lam rfl rfl) (sv 28 (hv := Or.inr (Or.inr rfl))) (sa_cons (se_int) (sa_cons (se_int) (sa_nil)))⟩) | 4, h => (by obtain rfl := Option.some.inj h; exact ⟨rfl, rfl, LamX.lamS_by (by kernel_rfl), (fun _ _ _ _ _ => rfl), fun A' outer' s' H' E' f' c' hr' => scall (f_headroom_ _) hr' (by decide) rfl (px_lam rfl rfl) (sa_cons (se_lst (sa_nil)) (sa_cons (se_int) (sa_cons (se_int) (sa_cons (se_int) (sa_nil)))))⟩) | _+5, h => nomatch h⟩ rfl (fun _ _ _ _ _ => by first | exact Or.inl rfl | exact Or.inr (Or.inl rfl) | exact Or.inr (Or.inr rfl))) (se_lst (sa_nil))) (se_and (scmp (kx_of gK.symm hr) (smeth (m_Rules_best_ _) hr (by decide) px_fn (sv 28) (sa_cons (se_int) (sa_cons (se_int) (sa_nil)))) (se_tup (sa_cons (se_int) (sa_cons (se_int) (sa_cons (se_int) (sa_cons (se_int) (sa_cons (se_int) (sa_nil)))))))) (se_and (scmp (kx_of gK.symm hr) (sgint rfl c_STEP_SUM) (se_int)) (se_and (smeth (m_Rules_rises_fit_ _) hr (by decide) px_fn (sv 28) (sa_cons (se_int) (sa_cons (se_int) (sa_nil)))) (se_and (se_not (smeth (m_Rules_rises_fit_ _) hr (by decide) px_fn (sv 28) (sa_cons (se_int) (sa_cons (se_int) (sa_nil))))) (se_one (scmp (kx_of gK.symm hr) (scall (f_headroom_ _) hr (by decide) rfl px_fn (sa_cons (se_lst (sa_nil)) (sa_cons (se_int) (sa_cons (se_int) (sa_cons (se_int) (sa_nil)))))) (se_non))))))))))))
end K09
end

section
set_option Elab.async false
set_option linter.all false
set_option maxRecDepth 100000
set_option maxHeartbeats 4100000
namespace K09
open PySem PySem.Spec PyProof.Rows L2 Iv LamX
theorem facts (law_true : ∀ ns : List Int, ns.length ≤ 63 → (∀ z ∈ ns, Builtin.Int.intBits z ≤ 1048576) → ∃ s, b_law (startE 36 [scrD ns]) [] = .rt (.p (.bl true)) s)
    {w : World} {K : PySem.W.Frag} {h : Heap} {mg : Str → Option Value} {f : Addr} (X : K.In h) (G : h.Ns mainGlobals mg) (hfa : mg ("law" : Str) = some (.ref f)) (c : He.SaysX fa fn [] tf exq w h K) :
    LawAtS PySem.Challenge.rw_woodstack_k09_stairs_between_floors w K (L2.CX PySem.Challenge.rw_woodstack_k09_stairs_between_floors.prog w) 11 63 "script" mg f h := by
  obtain ⟨fd_Rules___init__, F_Rules___init__⟩ := c.t.d.def_ 0 (d := d_0) rfl
  have F_Rules___init__ : FunD K "__init__" "Rules.__init__" (defArgs (inClass (top 5) 0)) (defBody (inClass (top 5) 0)) (defScope (inClass (top 5) 0)) [] [] (He.fAd K ("Rules", some "__init__")) fd_Rules___init__ := F_Rules___init__
  obtain ⟨fd_Rules_steps_for, F_Rules_steps_for⟩ := c.t.d.def_ 1 (d := d_1) rfl
  have F_Rules_steps_for : FunD K "steps_for" "Rules.steps_for" (defArgs (inClass (top 5) 1)) (defBody (inClass (top 5) 1)) (defScope (inClass (top 5) 1)) [] [] (He.fAd K ("Rules", some "steps_for")) fd_Rules_steps_for := F_Rules_steps_for
  obtain ⟨fd_Rules_goings_for, F_Rules_goings_for⟩ := c.t.d.def_ 2 (d := d_2) rfl
  have F_Rules_goings_for : FunD K "goings_for" "Rules.goings_for" (defArgs (inClass (top 5) 2)) (defBody (inClass (top 5) 2)) (defScope (inClass (top 5) 2)) [] [] (He.fAd K ("Rules", some "goings_for")) fd_Rules_goings_for := F_Rules_goings_for
  obtain ⟨fd_Rules_best, F_Rules_best⟩ := c.t.d.def_ 3 (d := d_3) rfl
  have F_Rules_best : FunD K "best" "Rules.best" (defArgs (inClass (top 5) 3)) (defBody (inClass (top 5) 3)) (defScope (inClass (top 5) 3)) [] [] (He.fAd K ("Rules", some "best")) fd_Rules_best := F_Rules_best
  obtain ⟨fd_Rules_rises_fit, F_Rules_rises_fit⟩ := c.t.d.def_ 4 (d := d_4) rfl
  have F_Rules_rises_fit : FunD K "rises_fit" "Rules.rises_fit" (defArgs (inClass (top 5) 4)) (defBody (inClass (top 5) 4)) (defScope (inClass (top 5) 4)) [] [] (He.fAd K ("Rules", some "rises_fit")) fd_Rules_rises_fit := F_Rules_rises_fit
  obtain ⟨fd_heights, F_heights⟩ := c.t.d.def_ 5 (d := d_5) rfl
  have F_heights : FunD K "heights" "heights" (defArgs (top 6)) (defBody (top 6)) (defScope (top 6)) [] [] (He.fAd K ("heights", none)) fd_heights := F_heights
  obtain ⟨fd_edges_of, F_edges_of⟩ := c.t.d.def_ 6 (d := d_6) rfl
  have F_edges_of : FunD K "edges_of" "edges_of" (defArgs (top 7)) (defBody (top 7)) (defScope (top 7)) [] [] (He.fAd K ("edges_of", none)) fd_edges_of := F_edges_of
  obtain ⟨fd_headroom, F_headroom⟩ := c.t.d.def_ 7 (d := d_7) rfl
  have F_headroom : FunD K "headroom" "headroom" (defArgs (top 8)) (defBody (top 8)) (defScope (top 8)) [] [] (He.fAd K ("headroom", none)) fd_headroom := F_headroom
  obtain ⟨fd__law_dice, F__law_dice⟩ := c.t.d.def_ 8 (d := d_8) rfl
  have F__law_dice : FunD K "_law_dice" "_law_dice" (defArgs (top 10)) (defBody (top 10)) (defScope (top 10)) [] [] (He.fAd K ("_law_dice", none)) fd__law_dice := F__law_dice
  obtain ⟨fd__law_roll, F__law_roll⟩ := c.t.d.def_ 9 (d := d_9) rfl
  have F__law_roll : FunD K "_law_roll" "_law_roll" (defArgs (top 11)) (defBody (top 11)) (defScope (top 11)) [] [] (He.fAd K ("_law_roll", none)) fd__law_roll := F__law_roll
  obtain ⟨fd__law_rounds, F__law_rounds⟩ := c.t.d.def_ 10 (d := d_10) rfl
  have F__law_rounds : FunD K "_law_rounds" "_law_rounds" (defArgs (top 12)) (defBody (top 12)) (defScope (top 12)) [] [] (He.fAd K ("_law_rounds", none)) fd__law_rounds := F__law_rounds
  obtain ⟨fd__law_told, F__law_told⟩ := c.t.d.def_ 11 (d := d_11) rfl
  have F__law_told : FunD K "_law_told" "_law_told" (defArgs (top 13)) (defBody (top 13)) (defScope (top 13)) [] [] (He.fAd K ("_law_told", none)) fd__law_told := F__law_told
  obtain ⟨fd_law, F_law⟩ := c.t.d.def_ 12 (d := d_12) rfl
  have F_law : FunD K "law" "law" (defArgs (top 14)) (defBody (top 14)) (defScope (top 14)) [] [] (He.fAd K ("law", none)) fd_law := F_law
  have g_heights := He.glo_ok X G (c.t.d.fact 0 (f := .glo "heights") rfl)
  have g_edges_of := He.glo_ok X G (c.t.d.fact 1 (f := .glo "edges_of") rfl)
  have g_headroom := He.glo_ok X G (c.t.d.fact 2 (f := .glo "headroom") rfl)
  have g__law_dice := He.glo_ok X G (c.t.d.fact 3 (f := .glo "_law_dice") rfl)
  have g__law_roll := He.glo_ok X G (c.t.d.fact 4 (f := .glo "_law_roll") rfl)
  have g__law_rounds := He.glo_ok X G (c.t.d.fact 5 (f := .glo "_law_rounds") rfl)
  have g__law_told := He.glo_ok X G (c.t.d.fact 6 (f := .glo "_law_told") rfl)
  have g_law := He.glo_ok X G (c.t.d.fact 7 (f := .glo "law") rfl)
  have g_LoadError := He.glo_ok X G (c.t.d.fact 8 (f := .glo "LoadError") rfl)
  have g_Rules := He.glo_ok X G (c.t.d.fact 9 (f := .glo "Rules") rfl)
  have c_STEP_SUM := He.int_ok X G (c.t.d.fact 10 (f := .int "STEP_SUM" 630) rfl)
  have e_LoadError := He.exc_ok (c.t.d.fact 11 (f := .exc "LoadError") rfl)
  have m_LoadError := He.exm_ok (c.t.d.fact 12 (f := .exm "LoadError" "LoadError" true) rfl)
  have cl_Rules := He.cls_ok (c.t.d.fact 13 (f := .cls "Rules") rfl)
  have na_Rules_rise := He.noat_ok (c.t.d.fact 14 (f := .noat "Rules" "rise") rfl)
  have na_Rules_going := He.noat_ok (c.t.d.fact 15 (f := .noat "Rules" "going") rfl)
  have me_Rules_steps_for := He.meth_ok (c.t.d.fact 16 (f := .meth "Rules" "steps_for") rfl)
  have me_Rules_goings_for := He.meth_ok (c.t.d.fact 17 (f := .meth "Rules" "goings_for") rfl)
  have me_Rules_best := He.meth_ok (c.t.d.fact 18 (f := .meth "Rules" "best") rfl)
  have me_Rules_rises_fit := He.meth_ok (c.t.d.fact 19 (f := .meth "Rules" "rises_fit") rfl)
  have mk_Rules := He.mkr_ok (c.t.d.fact 20 (f := .mkr "Rules") rfl)
  have n_abs := He.free_ok X G (c.t.d.fact 21 (f := .free "abs") rfl)
  have n_any := He.free_ok X G (c.t.d.fact 22 (f := .free "any") rfl)
  have n_int := He.free_ok X G (c.t.d.fact 23 (f := .free "int") rfl)
  have n_len := He.free_ok X G (c.t.d.fact 24 (f := .free "len") rfl)
  have n_list := He.free_ok X G (c.t.d.fact 25 (f := .free "list") rfl)
  have n_max := He.free_ok X G (c.t.d.fact 26 (f := .free "max") rfl)
  have n_min := He.free_ok X G (c.t.d.fact 27 (f := .free "min") rfl)
  have n_range := He.free_ok X G (c.t.d.fact 28 (f := .free "range") rfl)
  have n_sum := He.free_ok X G (c.t.d.fact 29 (f := .free "sum") rfl)
  have n_tuple := He.free_ok X G (c.t.d.fact 30 (f := .free "tuple") rfl)
  have n_zip := He.free_ok X G (c.t.d.fact 31 (f := .free "zip") rfl)
  have hf := hfa.symm.trans g_law
  cases hf
  have hd : ((cs0 K).map (·.2)).Nodup := of_decide_eq_true c.more
  refine ⟨fd_law, cs0 K, SpLaw K (cs0 K) 63, fun p hp => ?_, fun p hp => ?_, fun p hp => ?_, fun s v => FunD.bindsA (ps := ["script"]) F_law (fun _ _ _ _ _ _ us hl => match us, hl with | [_], _ => rfl) s [v] rfl, fun H a ns hl hz hT hS => ⟨a, ns, rfl, hS, hT, hl, hz, fun _ => rfl⟩, fun base X1 G1 TBs => ?_⟩
  · obtain ⟨d, hd, rfl⟩ := List.mem_map.mp (show p ∈ tf.map (He.cT K) from hp)
    exact c.empty d hd
  · obtain ⟨d, hd, rfl⟩ := List.mem_map.mp (show p ∈ tf.map (He.cT K) from hp)
    exact c.out d hd
  · obtain ⟨d, hd, rfl⟩ := List.mem_map.mp (show p ∈ tf.map (He.cT K) from hp)
    exact PySem.W.codeHd_of_K X (c.hd d hd)
  have x_LoadError : ∀ lm, ExF K mg (gl K lm) 1 "LoadError" := fun lm => ⟨g_LoadError, e_LoadError.1, e_LoadError.2.1, e_LoadError.2.2.1, e_LoadError.2.2.2⟩
  have l_rise : ∀ lm, ∀ c ∈ [2], Cls (gl K lm).K ((gl K lm).CT c) ∧ NoAttr (gl K lm).K ((gl K lm).CT c) "rise" := fun lm c hc => by
    simp only [List.mem_cons, List.not_mem_nil, or_false] at hc
    rcases hc with rfl
    · exact ⟨cl_Rules, na_Rules_rise⟩
  have l_going : ∀ lm, ∀ c ∈ [2], Cls (gl K lm).K ((gl K lm).CT c) ∧ NoAttr (gl K lm).K ((gl K lm).CT c) "going" := fun lm c hc => by
    simp only [List.mem_cons, List.not_mem_nil, or_false] at hc
    rcases hc with rfl
    · exact ⟨cl_Rules, na_Rules_going⟩
  have TB_Rules___init__ := TBs (He.cT K ("Rules", some "__init__")) (List.mem_cons_self)
  have TB_Rules_steps_for := TBs (He.cT K ("Rules", some "steps_for")) (List.mem_cons_of_mem _ (List.mem_cons_self))
  have TB_law := TBs (He.cT K ("law", none)) (List.mem_cons_of_mem _ (List.mem_cons_of_mem _ (List.mem_cons_self)))
  have k_Rules_ : ∀ lm, Cal4 PySem.Challenge.rw_woodstack_k09_stairs_between_floors.prog w K mg base (gl K lm) 7 2 "Rules" 3 f_Rules___init__ [] := fun lm => ⟨⟨_, _, _, _, _, (ok_Rules___init__ (K := K) (g := gl K lm) rfl F_Rules___init__ TB_Rules___init__ (List.mem_cons_self) n_any n_tuple (x_LoadError lm) (l_going lm) (l_rise lm)), mk_Rules, g_Rules, (FunD.bindsN (ps := ["self", "rise", "going"]) F_Rules___init__ fun _ _ _ _ _ _ us hl => match us, hl with | [_, _, _], _ => rfl), .nil, .nil⟩, fnF_len⟩
  have m_Rules_steps_for_ : ∀ lm, Cal3 PySem.Challenge.rw_woodstack_k09_stairs_between_floors.prog w K mg base (gl K lm) 7 2 "steps_for" 2 f_Rules_steps_for [] := fun lm => ⟨cl_Rules, ⟨_, _, _, _, _, (ok_Rules_steps_for (K := K) (g := gl K lm) rfl F_Rules_steps_for TB_Rules_steps_for (List.mem_cons_of_mem _ (List.mem_cons_self)) n_range n_tuple (l_rise lm)), me_Rules_steps_for, (FunD.bindsN (ps := ["self", "height"]) F_Rules_steps_for fun _ _ _ _ _ _ us hl => match us, hl with | [_, _], _ => rfl), .nil, .nil⟩, fnF_len⟩
  have m_Rules_goings_for_ : ∀ lm, Cal3 PySem.Challenge.rw_woodstack_k09_stairs_between_floors.prog w K mg base (gl K lm) 2 2 "goings_for" 3 f_Rules_goings_for [] := fun lm => ⟨cl_Rules, ⟨_, _, _, _, _, (ok_Rules_goings_for (K := K) (g := gl K lm) rfl F_Rules_goings_for (l_going lm)), me_Rules_goings_for, (FunD.bindsN (ps := ["self", "length", "many"]) F_Rules_goings_for fun _ _ _ _ _ _ us hl => match us, hl with | [_, _, _], _ => rfl), .nil, .nil⟩, fnF_len⟩
  have m_Rules_rises_fit_ : ∀ lm, Cal3 PySem.Challenge.rw_woodstack_k09_stairs_between_floors.prog w K mg base (gl K lm) 2 2 "rises_fit" 3 f_Rules_rises_fit [] := fun lm => ⟨cl_Rules, ⟨_, _, _, _, _, (ok_Rules_rises_fit (K := K) (g := gl K lm) rfl F_Rules_rises_fit (l_rise lm)), me_Rules_rises_fit, (FunD.bindsN (ps := ["self", "height", "many"]) F_Rules_rises_fit fun _ _ _ _ _ _ us hl => match us, hl with | [_, _, _], _ => rfl), .nil, .nil⟩, fnF_len⟩
  have f_heights_ : ∀ lm, Cal2 PySem.Challenge.rw_woodstack_k09_stairs_between_floors.prog w K mg base (gl K lm) 2 "heights" 3 f_heights [] := fun lm => cal_of (N := ["many", "rise", "higher", "found", "here", "step"]) F_heights (ok_heights (K := K) (g := gl K lm) rfl F_heights n_range n_tuple) g_heights (FunD.bindsN (ps := ["many", "rise", "higher"]) F_heights fun _ _ _ _ _ _ us hl => match us, hl with | [_, _, _], _ => rfl)
  have f_edges_of_ : ∀ lm, Cal2 PySem.Challenge.rw_woodstack_k09_stairs_between_floors.prog w K mg base (gl K lm) 3 "edges_of" 5 f_edges_of [] := fun lm => cal_of (N := ["many", "rise", "higher", "going", "longer", "found", "x", "up", "step"]) F_edges_of (ok_edges_of (K := K) (g := gl K lm) rfl F_edges_of n_range n_tuple (f_heights_ lm)) g_edges_of (FunD.bindsN (ps := ["many", "rise", "higher", "going", "longer"]) F_edges_of fun _ _ _ _ _ _ us hl => match us, hl with | [_, _, _, _, _], _ => rfl)
  have f_headroom_ : ∀ lm, Cal2 PySem.Challenge.rw_woodstack_k09_stairs_between_floors.prog w K mg base (gl K lm) 2 "headroom" 4 f_headroom [] := fun lm => cal_of (N := ["corners", "low", "high", "ceiling", "rooms", "one", "other"]) F_headroom (ok_headroom (K := K) (g := gl K lm) rfl F_headroom n_min n_zip (x_LoadError lm)) g_headroom (FunD.bindsN (ps := ["corners", "low", "high", "ceiling"]) F_headroom fun _ _ _ _ _ _ us hl => match us, hl with | [_, _, _, _], _ => rfl)
  have f__law_dice_ : ∀ lm, Cal2 PySem.Challenge.rw_woodstack_k09_stairs_between_floors.prog w K mg base (gl K lm) 2 "_law_dice" 1 f__law_dice [] := fun lm => cal_of (N := ["cell"]) F__law_dice (ok__law_dice (K := K) (g := gl K lm) rfl F__law_dice n_abs n_int) g__law_dice (FunD.bindsN (ps := ["cell"]) F__law_dice fun _ _ _ _ _ _ us hl => match us, hl with | [_], _ => rfl)
  have f__law_roll_ : ∀ lm, Cal2 PySem.Challenge.rw_woodstack_k09_stairs_between_floors.prog w K mg base (gl K lm) 2 "_law_roll" 2 f__law_roll [] := fun lm => cal_of (N := ["dice", "many", "found"]) F__law_roll (ok__law_roll (K := K) (g := gl K lm) rfl F__law_roll n_int) g__law_roll (FunD.bindsN (ps := ["dice", "many"]) F__law_roll fun _ _ _ _ _ _ us hl => match us, hl with | [_, _], _ => rfl)
  have f__law_rounds_ : ∀ lm, Cal2 PySem.Challenge.rw_woodstack_k09_stairs_between_floors.prog w K mg base (gl K lm) 3 "_law_rounds" 2 f__law_rounds [] := fun lm => cal_of (N := ["script", "most", "cells", "cell"]) F__law_rounds (ok__law_rounds (K := K) (g := gl K lm) rfl F__law_rounds (f__law_dice_ lm)) g__law_rounds (FunD.bindsN (ps := ["script", "most"]) F__law_rounds fun _ _ _ _ _ _ us hl => match us, hl with | [_, _], _ => rfl)
  have m_Rules_best_ : ∀ lm, Cal3 PySem.Challenge.rw_woodstack_k09_stairs_between_floors.prog w K mg base (gl K lm) 8 2 "best" 3 f_Rules_best [] := fun lm => ⟨cl_Rules, ⟨_, _, _, _, _, (ok_Rules_best (K := K) (g := gl K lm) rfl F_Rules_best n_abs c_STEP_SUM (x_LoadError lm) (m_Rules_goings_for_ lm) (m_Rules_rises_fit_ lm) (m_Rules_steps_for_ lm)), me_Rules_best, (FunD.bindsN (ps := ["self", "height", "length"]) F_Rules_best fun _ _ _ _ _ _ us hl => match us, hl with | [_, _, _], _ => rfl), .nil, .nil⟩, fnF_len⟩
  have td__law_told : ∀ lm, TolD K mg (gl K lm) "_law_told" "what" "LoadError" 1 "LoadError" ["what"] (defArgs (top 13)) (defScope (top 13)) (defBody (top 13)) (He.fAd K ("_law_told", none)) := fun lm =>
    told_of F__law_told g__law_told (fun _ _ _ _ _ _ us hl => match us, hl with | [_], _ => rfl) ⟨rfl, rfl, rfl, by decide +kernel, rfl, by decide +kernel, by decide +kernel⟩ rfl (.inl rfl) rfl (x_LoadError lm) rfl ⟨_, _, _, _, _, _, _, _, _, rfl⟩ m_LoadError
  exact ok_law F_law TB_law hd n_abs n_int n_len n_list n_max n_min n_range n_sum n_zip c_STEP_SUM f__law_roll_ f__law_rounds_ f_edges_of_ f_headroom_ f_heights_ l_going l_rise m_Rules_best_ m_Rules_goings_for_ m_Rules_rises_fit_ m_Rules_steps_for_ k_Rules_ td__law_told law_true
end K09
end

section
set_option Elab.async false
set_option linter.all false
set_option maxRecDepth 100000
set_option maxHeartbeats 4100000
open PySem PySem.W PySem.Calls PyProof.Rows
theorem k09_of (law_true : ∀ ns : List Int, ns.length ≤ 63 → (∀ z ∈ ns, Builtin.Int.intBits z ≤ 1048576) → ∃ s, K09.b_law (Iv.startE 36 [Iv.scrD ns]) [] = .rt (.p (.bl true)) s) : PySem.Challenge.rw_woodstack_k09_stairs_between_floors.Holds := by
  w_on; o_law
  refine HandSHeadRun.head_any (r := K09.R) (q := view K09.R.prog [14]) (H := K09.hk) (ob := K09.ob) (M := 2000) (loose := K09.names) (d := HandSHeadRun.topDef K09.R.prog 14) (kwd := []) K09.ob_eq
    (by kernel_rfl) (fun s => by kernel_rfl) K09.run (by kernel_rfl) (by kernel_rfl) (by kernel_rfl) (by rfl) (by first | assumption | decide +kernel) (by decide +kernel) ⟨rfl, rfl, rfl, rfl, rfl, by decide +kernel⟩ ?hw ?hc
  case hw => w_witness2
  case hc =>
    refine LamX.walk_ofTsE (l := PySem.Challenge.rw_woodstack_k09_stairs_between_floors) (n := 63) (k := 11) (x := "script") (CX := fun w => L2.CX K09.R.prog w) rfl (by decide) (by kernel_rfl) ⟨rfl, by decide, by decide⟩ ?F (fun w H s e s' z => ?_)
    · intro w mg fa h Y G hmg0
      obtain ⟨K, KX, c⟩ := Y
      have e : (HandSHeadRun.topDef K09.R.prog 14).name = ("law" : PySem.Str) := by kernel_rfl
      exact ⟨K, KX, K09.facts law_true KX G (e ▸ hmg0) c⟩
    · unfold L2.CX at z
      obtain ⟨_, _, _, _, _, _, _, _, _, _, _, _, z⟩ := z
      exact z
end

section
set_option linter.all false
set_option maxHeartbeats 4100000
set_option maxRecDepth 10000
open PySem L2 Iv K09
def dC (a b m : Int) : Cell := .lst [.p (.int a), .p (.int b), .p (.int m)]
theorem roll_two (rest : Store) (a b : Int) (many : Int) (h : 0 < many) (h2 : many.natAbs.log2 < 9000) : f__law_roll [.ref 0, .p (.int many)] (dC a b 2 :: rest) = .ok (.p (.int (a % many))) (dC (a / many) b 2 :: rest) := by
  simp [bnd_ok, fnF, startE, sSeq, sIf, sAsg, sRet, sNx, sAug, bOr, bAnd, bNot, tstB, v2, vV, vK, aC, aN, vCal, vU, oIx, oEq, oOrd, oAdd, oSub, oMul, oDiv, oMod, see, seeC, pEq, fInt, fAbs, gvN, gvS, L2.atI, L2.ixN, f__law_roll, b__law_roll, dC, h, h2, oSet, retF]
theorem roll_one (rest : Store) (a b : Int) (many : Int) (ha : 0 < a) (h : 0 < many) (h2 : many.natAbs.log2 < 9000) : f__law_roll [.ref 0, .p (.int many)] (dC a b 1 :: rest) = .ok (.p (.int (a % many))) (dC (a / many) b 1 :: rest) := by
  simp [bnd_ok, fnF, startE, sSeq, sIf, sAsg, sRet, sNx, sAug, bOr, bAnd, bNot, tstB, v2, vV, vK, aC, aN, vCal, vU, oIx, oEq, oOrd, oAdd, oSub, oMul, oDiv, oMod, see, seeC, pEq, fInt, fAbs, gvN, gvS, L2.atI, L2.ixN, f__law_roll, b__law_roll, dC, h, h2, oSet, retF, ordI, ha]
def lcg (a b : Int) : Int := (a * 48271 + b * 69621 + 11) % 2147483647
theorem roll_zero (rest : Store) (a b m : Int) (many : Int) (hm : m = 0 ∨ (m = 1 ∧ a ≤ 0)) (h : 0 < many) (h2 : many ≤ 100000000) : f__law_roll [.ref 0, .p (.int many)] (dC a b m :: rest) = .ok (.p (.int (lcg a b / 7 % many))) (dC (lcg a b) (b + 1) 0 :: rest) := by
  have s1 : mulOk a 48271 = true := by simp [mulOk, smallI]
  have s2 : mulOk b 69621 = true := by simp [mulOk, smallI]
  have l7 : Nat.log2 7 < 9000 := by decide +kernel
  have h3 : ¬ 100000000 < many := by omega
  rcases hm with rfl | ⟨rfl, ha⟩
  · simp [bnd_ok, fnF, startE, sSeq, sIf, sAsg, sRet, sNx, sAug, bOr, bAnd, bNot, tstB, v2, vV, vK, aC, aN, vCal, vU, oIx, oEq, oOrd, oAdd, oSub, oMul, oDiv, oMod, see, seeC, pEq, fInt, fAbs, gvN, gvS, L2.atI, L2.ixN, f__law_roll, b__law_roll, dC, h, h2, oSet, retF, ordI, s1, s2, h3, l7, lcg]
  · have h4 : ¬ 0 < a := by omega
    simp [bnd_ok, fnF, startE, sSeq, sIf, sAsg, sRet, sNx, sAug, bOr, bAnd, bNot, tstB, v2, vV, vK, aC, aN, vCal, vU, oIx, oEq, oOrd, oAdd, oSub, oMul, oDiv, oMod, see, seeC, pEq, fInt, fAbs, gvN, gvS, L2.atI, L2.ixN, f__law_roll, b__law_roll, dC, h, h2, oSet, retF, ordI, s1, s2, h3, h4, l7, lcg]
def okM (m : Int) : Prop := m = 0 ∨ m = 1 ∨ m = 2
/-- a roll: whatever the dice are, a number below `many`, and dice again -/
theorem roll_any (rest : Store) (a b m many : Int) (hm : okM m) (h : 0 < many) (h2 : many ≤ 100000000) (h3 : many.natAbs.log2 < 9000) :
    ∃ r a' b' m', f__law_roll [.ref 0, .p (.int many)] (dC a b m :: rest) = .ok (.p (.int r)) (dC a' b' m' :: rest) ∧ 0 ≤ r ∧ r < many ∧ okM m' := by
  have lo : ∀ x : Int, 0 ≤ x % many := fun x => Int.emod_nonneg x (by omega)
  have hi : ∀ x : Int, x % many < many := fun x => Int.emod_lt_of_pos x h
  obtain rfl | rfl | rfl := hm
  · exact ⟨_, _, _, _, roll_zero rest a b 0 many (.inl rfl) h h2, lo _, hi _, .inl rfl⟩
  · by_cases ha : 0 < a
    · exact ⟨_, _, _, _, roll_one rest a b many ha h h3, lo _, hi _, .inr (.inl rfl)⟩
    · exact ⟨_, _, _, _, roll_zero rest a b 1 many (.inr ⟨rfl, by omega⟩) h h2, lo _, hi _, .inl rfl⟩
  · exact ⟨_, _, _, _, roll_two rest a b many h h3, lo _, hi _, .inr (.inr rfl)⟩

theorem dice_nil (c : Int) : ∃ a b m, f__law_dice [.p (.int c)] [] = .ok (.ref 0) [dC a b m] ∧ okM m := by
  have sz : 3 ≤ szLine := by decide
  have p18 : smallI 10 = true := by decide
  by_cases h1 : -10 < c <;> by_cases h2 : c < 10
  · exact ⟨if c < 0 then -c else c, 0, 2, by simp [bnd_ok, fnF, startE, sSeq, sIf, sAsg, sRet, sNx, sAug, bOr, bAnd, bNot, tstB, v2, vV, vK, aC, aN, vCal, vU, oIx, oEq, oOrd, oAdd, oSub, oMul, oDiv, oMod, see, seeC, pEq, fInt, fAbs, gvN, gvS, L2.atI, L2.ixN, f__law_dice, b__law_dice, dC, retF, ordI, vLstM, kCel, vCh, h1, h2, sz], .inr (.inr rfl)⟩
  all_goals
    by_cases h3 : (1000000000000000000 : Int) ≤ c
    · exact ⟨c, 1 + c % 1009, 1, by simp [bnd_ok, fnF, startE, sSeq, sIf, sAsg, sRet, sNx, sAug, bOr, bAnd, bNot, tstB, v2, vV, vK, aC, aN, vCal, vU, oIx, oEq, oOrd, oAdd, oSub, oMul, oDiv, oMod, see, seeC, pEq, fInt, fAbs, gvN, gvS, L2.atI, L2.ixN, f__law_dice, b__law_dice, dC, retF, ordI, vLstM, kCel, vCh, h1, h2, h3, sz, oPow, p18], .inr (.inl rfl)⟩
    · exact ⟨c, 1 + c % 1009, 0, by simp [bnd_ok, fnF, startE, sSeq, sIf, sAsg, sRet, sNx, sAug, bOr, bAnd, bNot, tstB, v2, vV, vK, aC, aN, vCal, vU, oIx, oEq, oOrd, oAdd, oSub, oMul, oDiv, oMod, see, seeC, pEq, fInt, fAbs, gvN, gvS, L2.atI, L2.ixN, f__law_dice, b__law_dice, dC, retF, ordI, vLstM, kCel, vCh, h1, h2, h3, sz, oPow, p18], .inl rfl⟩
theorem pEq_nil0 : pEq (.lst []) (.lst []) = some true := pEq_self rfl
theorem pEq_one (i : Int) : pEq (.lst [.int i]) (.lst []) = some false := by rfl
theorem rounds_ok (ns : List Int) : ∃ a b m, f__law_rounds [scrD ns, .p (.int 1)] [] = .ok (.ref 1) [dC a b m, .lst [.ref 0]] ∧ okM m := by
  have main : ∀ c : Int, (oSl (scrD ns) none (some 1) [] = .ok (.p (.lst [.int c])) [] ∨ (oSl (scrD ns) none (some 1) [] = .ok (.p (.lst [])) [] ∧ c = 0)) → ∃ a b m, f__law_rounds [scrD ns, .p (.int 1)] [] = .ok (.ref 1) [dC a b m, .lst [.ref 0]] ∧ okM m := by
    intro c h
    obtain ⟨a, b, m, e, k⟩ := dice_nil c
    refine ⟨a, b, m, ?_, k⟩
    have pn : pEq (.lst []) (.lst []) = some true := pEq_self rfl
    have p1 := pEq_one c
    rcases h with h | ⟨h, rfl⟩
    · simp (disch := omega) only [bnd_ok, bnd_exc, fnF, startE, sSeq, sIf, sAsg, sRet, sNx, sAug, sPar, sDo, sRaise, bOr, bAnd, bNot, bYes, tstB, v2, vV, vK, aC, aN, vCal, vU, vIf, vCh, vAnd, vFn, oIx, oAdd, oSub, oMul, oDiv, oMod, oNeg, see, seeC, fInt, fAbs_int, fMax_int, fMin_int, ordI_int, retF_same, excF_same, gvN, gvS, gvT, gsC, gsN, iAdd, L2.atI, L2.ixN, mulOk_l, mulOk_r, log_ok, le_t, le_f, lt_t, lt_f, gt_t, gt_f, ge_t, ge_f, List.getElem?_cons_zero, List.getElem?_cons_succ, List.set_cons_zero, List.set_cons_succ, List.length_cons, List.length_nil, List.map_cons, List.map_nil, List.cons_append, List.nil_append, List.append_nil, List.replicate_succ, List.replicate_zero, Nat.zero_add, Nat.reduceAdd, Nat.reduceSub, Nat.reduceLT, Nat.reduceLeDiff, Int.reduceLT, Int.reduceLE, Int.reduceAdd, Int.reduceSub, Int.reduceMul, Int.reduceNeg, decide_true, decide_false, Bool.not_true, Bool.not_false, reduceCtorEq, ↓reduceIte, and_self, and_true, true_and, if_true, if_false, Bool.false_eq_true, if_pos, if_neg, Int.reduceToNat, Int.toNat_zero, Int.toNat_one, Option.bind_some, Option.map_some, pAll, pAll_map, seqP_lst, seqP_tup, seqP_scr, vTup, vLst, vLstM, szLine_eq, vMet, isList, mApp, last_get, last_set, List.length_map, List.length_append, seeC, oIs, Option.map, f__law_rounds, b__law_rounds, vSl, poN, poS, h, oEq, pn, p1, vCmpD, itA, wipE, compL, getI, endI, tvN, e, kCel]
    · simp (disch := omega) only [bnd_ok, bnd_exc, fnF, startE, sSeq, sIf, sAsg, sRet, sNx, sAug, sPar, sDo, sRaise, bOr, bAnd, bNot, bYes, tstB, v2, vV, vK, aC, aN, vCal, vU, vIf, vCh, vAnd, vFn, oIx, oAdd, oSub, oMul, oDiv, oMod, oNeg, see, seeC, fInt, fAbs_int, fMax_int, fMin_int, ordI_int, retF_same, excF_same, gvN, gvS, gvT, gsC, gsN, iAdd, L2.atI, L2.ixN, mulOk_l, mulOk_r, log_ok, le_t, le_f, lt_t, lt_f, gt_t, gt_f, ge_t, ge_f, List.getElem?_cons_zero, List.getElem?_cons_succ, List.set_cons_zero, List.set_cons_succ, List.length_cons, List.length_nil, List.map_cons, List.map_nil, List.cons_append, List.nil_append, List.append_nil, List.replicate_succ, List.replicate_zero, Nat.zero_add, Nat.reduceAdd, Nat.reduceSub, Nat.reduceLT, Nat.reduceLeDiff, Int.reduceLT, Int.reduceLE, Int.reduceAdd, Int.reduceSub, Int.reduceMul, Int.reduceNeg, decide_true, decide_false, Bool.not_true, Bool.not_false, reduceCtorEq, ↓reduceIte, and_self, and_true, true_and, if_true, if_false, Bool.false_eq_true, if_pos, if_neg, Int.reduceToNat, Int.toNat_zero, Int.toNat_one, Option.bind_some, Option.map_some, pAll, pAll_map, seqP_lst, seqP_tup, seqP_scr, vTup, vLst, vLstM, szLine_eq, vMet, isList, mApp, last_get, last_set, List.length_map, List.length_append, seeC, oIs, Option.map, f__law_rounds, b__law_rounds, vSl, poN, poS, h, oEq, pn, p1, vCmpD, itA, wipE, compL, getI, endI, tvN, e, kCel]
  cases ns with
  | nil => exact main 0 (.inr ⟨rfl, rfl⟩)
  | cons c ns => exact main c (.inl (by
      have h1 : min (1 : Int).toNat ((c :: ns).map P.int).length - 0 = 1 := by simp
      simp only [oSl, scrD, see, cutL, HT.sIx, List.drop_zero, if_neg (show ¬ (1 : Int) < 0 by decide), h1, List.map_cons]
      rfl))
end

section
set_option linter.all false
set_option maxHeartbeats 4100000
set_option maxRecDepth 10000
open PySem L2 Iv K09
def RU (a b c d : Int) : P := .obj 2 [("rise", .tup [.int a, .int b]), ("going", .tup [.int c, .int d])]
theorem ru_rise (a b c d : Int) (s : Store) : getF [2] "rise" (.p (RU a b c d)) s = .ok (.p (.tup [.int a, .int b])) s := by rfl
theorem ru_going (a b c d : Int) (s : Store) : getF [2] "going" (.p (RU a b c d)) s = .ok (.p (.tup [.int c, .int d])) s := by rfl
theorem ru_steps (a b c d : Int) (s : Store) : isObj 2 "steps_for" (.p (RU a b c d)) s = true := by rfl
theorem ru_goings (a b c d : Int) (s : Store) : isObj 2 "goings_for" (.p (RU a b c d)) s = true := by rfl
theorem ru_fit (a b c d : Int) (s : Store) : isObj 2 "rises_fit" (.p (RU a b c d)) s = true := by rfl
theorem ru_best (a b c d : Int) (s : Store) : isObj 2 "best" (.p (RU a b c d)) s = true := by rfl
theorem put1 (x : D) : putD "rise" x [] = [(("rise" : Str), x)] := rfl
theorem put2 (x y : D) : putD "going" y [(("rise" : Str), x)] = [(("rise" : Str), x), (("going" : Str), y)] := by rfl
theorem cell_rise (x : D) (s : Store) (c : Cell) (h : c = .obj 2 [("rise", x)]) : getF [2] "rise" (.ref s.length) (s ++ [c]) = .ok x (s ++ [c]) := by
  subst h; unfold getF; simp only [last_get]; rfl
theorem cell_rise2 (x y : D) (s : Store) : getF [2] "rise" (.ref s.length) (s ++ [.obj 2 [("rise", x), ("going", y)]]) = .ok x (s ++ [.obj 2 [("rise", x), ("going", y)]]) := by
  unfold getF; simp only [last_get]; rfl
theorem cell_going (x y : D) (s : Store) : getF [2] "going" (.ref s.length) (s ++ [.obj 2 [("rise", x), ("going", y)]]) = .ok y (s ++ [.obj 2 [("rise", x), ("going", y)]]) := by
  unfold getF; simp only [last_get]; rfl
theorem mem2 : (2 : Nat) ∈ [2] := by decide
theorem init_ok {a b c d : Int} (s : Store) : f_Rules___init__ [.ref s.length, .p (.tup [.int a, .int b]), .p (.tup [.int c, .int d])] (s ++ [.obj 2 []]) =
    if 0 < a ∧ a ≤ b ∧ 0 < c ∧ c ≤ d then .ok (.p .non) (s ++ [.obj 2 [("rise", .p (.tup [.int a, .int b])), ("going", .p (.tup [.int c, .int d]))]]) else .exc 1 (s ++ [.obj 2 [("rise", .p (.tup [.int a, .int b])), ("going", .p (.tup [.int c, .int d]))]]) := by
  have e : ∀ t : Store, t = s ++ [.obj 2 [("rise", .p (.tup [.int a, .int b])), ("going", .p (.tup [.int c, .int d]))]] → retF (s ++ [Cell.obj 2 []]).length (.p .non) t = .ok (.p .non) t := fun t h => retF_len (by subst h; simp)
  have e2 : ∀ t : Store, t = s ++ [.obj 2 [("rise", .p (.tup [.int a, .int b])), ("going", .p (.tup [.int c, .int d]))]] → excF (s ++ [Cell.obj 2 []]).length 1 t = .exc 1 t := fun t h => excF_len (by subst h; simp)
  have e := e _ rfl
  have e2 := e2 _ rfl
  simp only [List.length_append, List.length_cons, List.length_nil, Nat.zero_add] at e e2
  have l0 : (([] : List (Str × D)).length < 1000) := by decide
  have l1 : ∀ x : Str × D, ([x].length < 1000) := fun _ => by simp
  by_cases h1 : 0 < a <;> by_cases h2 : a ≤ b <;> by_cases h3 : 0 < c <;> by_cases h4 : c ≤ d
  all_goals
    have hc : (0 < a ∧ a ≤ b ∧ 0 < c ∧ c ≤ d) ↔ (0 < a ∧ a ≤ b ∧ 0 < c ∧ c ≤ d) := Iff.rfl
    simp (disch := omega) only [bnd_ok, bnd_exc, fnF, startE, sSeq, sIf, sAsg, sRet, sNx, sAug, sPar, sDo, sRaise, bOr, bAnd, bNot, bYes, tstB, v2, vV, vK, aC, aN, vCal, vU, vIf, vCh, vAnd, vFn, oIx, oAdd, oSub, oMul, oDiv, oMod, oNeg, see, seeC, fInt, fAbs_int, fMax_int, fMin_int, ordI_int, retF_same, excF_same, gvN, gvS, gvT, gsC, gsN, iAdd, L2.atI, L2.ixN, mulOk_l, mulOk_r, log_ok, le_t, le_f, lt_t, lt_f, gt_t, gt_f, ge_t, ge_f, List.getElem?_cons_zero, List.getElem?_cons_succ, List.set_cons_zero, List.set_cons_succ, List.length_cons, List.length_nil, List.map_cons, List.map_nil, List.cons_append, List.nil_append, List.append_nil, List.replicate_succ, List.replicate_zero, Nat.zero_add, Nat.reduceAdd, Nat.reduceSub, Nat.reduceLT, Nat.reduceLeDiff, Int.reduceLT, Int.reduceLE, Int.reduceAdd, Int.reduceSub, Int.reduceMul, Int.reduceNeg, decide_true, decide_false, Bool.not_true, Bool.not_false, reduceCtorEq, ↓reduceIte, and_self, and_true, true_and, if_true, if_false, Bool.false_eq_true, if_pos, if_neg, Int.reduceToNat, Int.toNat_zero, Int.toNat_one, Option.bind_some, Option.map_some, pAll, pAll_map, seqP_lst, seqP_tup, seqP_scr, vTup, vLst, vLstM, szLine_eq, vMet, isList, mApp, last_get, last_set, List.length_map, List.length_append, seeC, oIs, Option.map, f_Rules___init__, b_Rules___init__, sSetF, fTup, put1, put2, mem2, vAnyG, itA, vFld, cell_rise2, cell_going, tvN, vNot, wipE, anyL, getI, endI, vMeth, Nat.reduceEqDiff, e, e2]

theorem rules_ok {a b c d : Int} (ha : 0 < a) (hb : a ≤ b) (hc : 0 < c) (hd : c ≤ d) (fa : Ev (List D)) (δ : Iv.Env) (s s1 : Store) (w : WfS s1) (hf : fa δ s = .ok [.p (.tup [.int a, .int b]), .p (.tup [.int c, .int d])] s1) :
    vMake 2 f_Rules___init__ false fa [] δ s = .ok (.p (RU a b c d)) s1 := by
  have i := init_ok (a := a) (b := b) (c := c) (d := d) s1
  rw [if_pos ⟨ha, hb, hc, hd⟩] at i
  have r := retF_cell (c := .obj 2 [("rise", .p (.tup [.int a, .int b])), ("going", .p (.tup [.int c, .int d]))]) (x := RU a b c d) w rfl
  simp (disch := omega) only [bnd_ok, bnd_exc, fnF, startE, sSeq, sIf, sAsg, sRet, sNx, sAug, sPar, sDo, sRaise, bOr, bAnd, bNot, bYes, tstB, v2, vV, vK, aC, aN, vCal, vU, vIf, vCh, vAnd, vFn, oIx, oAdd, oSub, oMul, oDiv, oMod, oNeg, see, seeC, fInt, fAbs_int, fMax_int, fMin_int, ordI_int, retF_same, excF_same, gvN, gvS, gvT, gsC, gsN, iAdd, L2.atI, L2.ixN, mulOk_l, mulOk_r, log_ok, le_t, le_f, lt_t, lt_f, gt_t, gt_f, ge_t, ge_f, List.getElem?_cons_zero, List.getElem?_cons_succ, List.set_cons_zero, List.set_cons_succ, List.length_cons, List.length_nil, List.map_cons, List.map_nil, List.cons_append, List.nil_append, List.append_nil, List.replicate_succ, List.replicate_zero, Nat.zero_add, Nat.reduceAdd, Nat.reduceSub, Nat.reduceLT, Nat.reduceLeDiff, Int.reduceLT, Int.reduceLE, Int.reduceAdd, Int.reduceSub, Int.reduceMul, Int.reduceNeg, decide_true, decide_false, Bool.not_true, Bool.not_false, reduceCtorEq, ↓reduceIte, and_self, and_true, true_and, if_true, if_false, Bool.false_eq_true, if_pos, if_neg, Int.reduceToNat, Int.toNat_zero, Int.toNat_one, Option.bind_some, Option.map_some, pAll, pAll_map, seqP_lst, seqP_tup, seqP_scr, vTup, vLst, vLstM, szLine_eq, vMet, isList, mApp, last_get, last_set, List.length_map, List.length_append, seeC, oIs, Option.map, vMake, hf, i, r]
theorem rules_bad {a b c d : Int} (h : ¬ (0 < a ∧ a ≤ b ∧ 0 < c ∧ c ≤ d)) (fa : Ev (List D)) (δ : Iv.Env) (s s1 : Store) (w : WfS s1) (hf : fa δ s = .ok [.p (.tup [.int a, .int b]), .p (.tup [.int c, .int d])] s1) :
    vMake 2 f_Rules___init__ false fa [] δ s = .exc 1 s1 := by
  have i := init_ok (a := a) (b := b) (c := c) (d := d) s1
  rw [if_neg h] at i
  have r := excF_own w 1 [.obj 2 [("rise", .p (.tup [.int a, .int b])), ("going", .p (.tup [.int c, .int d]))]]
  simp (disch := omega) only [bnd_ok, bnd_exc, fnF, startE, sSeq, sIf, sAsg, sRet, sNx, sAug, sPar, sDo, sRaise, bOr, bAnd, bNot, bYes, tstB, v2, vV, vK, aC, aN, vCal, vU, vIf, vCh, vAnd, vFn, oIx, oAdd, oSub, oMul, oDiv, oMod, oNeg, see, seeC, fInt, fAbs_int, fMax_int, fMin_int, ordI_int, retF_same, excF_same, gvN, gvS, gvT, gsC, gsN, iAdd, L2.atI, L2.ixN, mulOk_l, mulOk_r, log_ok, le_t, le_f, lt_t, lt_f, gt_t, gt_f, ge_t, ge_f, List.getElem?_cons_zero, List.getElem?_cons_succ, List.set_cons_zero, List.set_cons_succ, List.length_cons, List.length_nil, List.map_cons, List.map_nil, List.cons_append, List.nil_append, List.append_nil, List.replicate_succ, List.replicate_zero, Nat.zero_add, Nat.reduceAdd, Nat.reduceSub, Nat.reduceLT, Nat.reduceLeDiff, Int.reduceLT, Int.reduceLE, Int.reduceAdd, Int.reduceSub, Int.reduceMul, Int.reduceNeg, decide_true, decide_false, Bool.not_true, Bool.not_false, reduceCtorEq, ↓reduceIte, and_self, and_true, true_and, if_true, if_false, Bool.false_eq_true, if_pos, if_neg, Int.reduceToNat, Int.toNat_zero, Int.toNat_one, Option.bind_some, Option.map_some, pAll, pAll_map, seqP_lst, seqP_tup, seqP_scr, vTup, vLst, vLstM, szLine_eq, vMet, isList, mApp, last_get, last_set, List.length_map, List.length_append, seeC, oIs, Option.map, vMake, hf, i, r]
end

section
set_option linter.all false
set_option maxHeartbeats 4100000
set_option maxRecDepth 10000
open PySem L2 Iv K09
def stepB (a b h : Int) (m : Int) : Bool := decide (a * m ≤ h) && decide (h ≤ b * m)
def steps (a b h : Int) : List Int := (itv 1 (h + 1 - 1).toNat).filter (stepB a b h)
theorem steps_ok {a b c d h : Int} (s : Store) (ha : 0 < a) (ha2 : a ≤ 1000) (hb : 0 < b) (hb2 : b ≤ 1000) (h1 : 0 ≤ h) (h2 : h ≤ 100000) :
    f_Rules_steps_for [.p (RU a b c d), .p (.int h)] s = .ok (.p (.tup ((steps a b h).map .int))) s := by
  have e := compL_gen (t := tvN 2) (c := tstB (vCh (oOrd .le) (oOrd .le) (v2 oMul (v2 oIx (vFld [2] "rise" (vV 0)) (vK (.int 0))) (vV 2)) (vV 1) (v2 oMul (v2 oIx (vFld [2] "rise" (vV 0)) (vK (.int 1))) (vV 2)))) (e := vV 2)
    (δ0 := [some (.p (RU a b c d)), some (.p (.int h)), none]) (st := s) (itv 1 (h + 1 - 1).toNat) P.int (stepB a b h) P.int (fun m hm => by
      have hm := itv_mem.mp hm
      refine ⟨_, rfl, ?_, fun _ => rfl⟩
      by_cases c1 : a * m ≤ h <;> by_cases c2 : h ≤ b * m <;> simp (disch := omega) only [bnd_ok, bnd_exc, fnF, startE, sSeq, sIf, sAsg, sRet, sNx, sAug, sPar, sDo, sRaise, bOr, bAnd, bNot, bYes, tstB, v2, vV, vK, aC, aN, vCal, vU, vIf, vCh, vAnd, vFn, oIx, oAdd, oSub, oMul, oDiv, oMod, oNeg, see, seeC, fInt, fAbs_int, fMax_int, fMin_int, ordI_int, retF_same, excF_same, gvN, gvS, gvT, gsC, gsN, iAdd, L2.atI, L2.ixN, mulOk_l, mulOk_r, log_ok, le_t, le_f, lt_t, lt_f, gt_t, gt_f, ge_t, ge_f, List.getElem?_cons_zero, List.getElem?_cons_succ, List.set_cons_zero, List.set_cons_succ, List.length_cons, List.length_nil, List.map_cons, List.map_nil, List.cons_append, List.nil_append, List.append_nil, List.replicate_succ, List.replicate_zero, Nat.zero_add, Nat.reduceAdd, Nat.reduceSub, Nat.reduceLT, Nat.reduceLeDiff, Int.reduceLT, Int.reduceLE, Int.reduceAdd, Int.reduceSub, Int.reduceMul, Int.reduceNeg, decide_true, decide_false, Bool.not_true, Bool.not_false, reduceCtorEq, ↓reduceIte, and_self, and_true, true_and, if_true, if_false, Bool.false_eq_true, if_pos, if_neg, Int.reduceToNat, Int.toNat_zero, Int.toNat_one, Option.bind_some, Option.map_some, pAll, pAll_map, seqP_lst, seqP_tup, seqP_scr, vTup, vLst, vLstM, szLine_eq, vMet, isList, mApp, last_get, last_set, List.length_map, List.length_append, seeC, oIs, Option.map, vFld, ru_rise, stepB, Bool.and_true, Bool.and_false, Bool.false_and, Bool.true_and, c1, c2])
  have r : -1000000000000 ≤ (1 : Int) ∧ (1 : Int) < 1000000000000 ∧ -1000000000000 ≤ h + 1 ∧ h + 1 < 1000000000000 := by omega
  have l1 : (itv 1 (h + 1 - 1).toNat).length ≤ 1000000 := by rw [itv_len]; omega
  have l2 : (steps a b h).length ≤ 1000000 := Nat.le_trans (List.length_filter_le _ _) l1
  rw [show (itv 1 (h + 1 - 1).toNat).filter (stepB a b h) = steps a b h from rfl] at e
  simp (disch := omega) only [bnd_ok, bnd_exc, fnF, startE, sSeq, sIf, sAsg, sRet, sNx, sAug, sPar, sDo, sRaise, bOr, bAnd, bNot, bYes, tstB, v2, vV, vK, aC, aN, vCal, vU, vIf, vCh, vAnd, vFn, oIx, oAdd, oSub, oMul, oDiv, oMod, oNeg, see, seeC, fInt, fAbs_int, fMax_int, fMin_int, ordI_int, retF_same, excF_same, gvN, gvS, gvT, gsC, gsN, iAdd, L2.atI, L2.ixN, mulOk_l, mulOk_r, log_ok, le_t, le_f, lt_t, lt_f, gt_t, gt_f, ge_t, ge_f, List.getElem?_cons_zero, List.getElem?_cons_succ, List.set_cons_zero, List.set_cons_succ, List.length_cons, List.length_nil, List.map_cons, List.map_nil, List.cons_append, List.nil_append, List.append_nil, List.replicate_succ, List.replicate_zero, Nat.zero_add, Nat.reduceAdd, Nat.reduceSub, Nat.reduceLT, Nat.reduceLeDiff, Int.reduceLT, Int.reduceLE, Int.reduceAdd, Int.reduceSub, Int.reduceMul, Int.reduceNeg, decide_true, decide_false, Bool.not_true, Bool.not_false, reduceCtorEq, ↓reduceIte, and_self, and_true, true_and, if_true, if_false, Bool.false_eq_true, if_pos, if_neg, Int.reduceToNat, Int.toNat_zero, Int.toNat_one, Option.bind_some, Option.map_some, pAll, pAll_map, seqP_lst, seqP_tup, seqP_scr, vTup, vLst, vLstM, szLine_eq, vMet, isList, mApp, last_get, last_set, List.length_map, List.length_append, seeC, oIs, Option.map, f_Rules_steps_for, b_Rules_steps_for, vGenD, itR2, r, rng_itv, wipE, e, kTup, itv_len]
/-- the numbers of rises as the law tells them -/
theorem lsteps_ok {a b h : Int} (ha : 0 < a) (ha2 : a ≤ 1000) (hb : 0 < b) (hb2 : b ≤ 1000) (h1 : 0 ≤ h) (h2 : h ≤ 100000) (δ : Iv.Env) (s : Store) (hl : δ.length = 36) (g5 : δ[5]? = some (some (.p (.int h)))) (g7 : δ[7]? = some (some (.p (.int a)))) (g8 : δ[8]? = some (some (.p (.int b)))) :
    vCmp (itR2 (aC (vK (.int 1)) (aC (v2 oAdd (vV 5) (vK (.int 1))) (aN)))) (tvN 10) (tstB (vCh (oOrd .le) (oOrd .le) (v2 oMul (vV 7) (vV 10)) (vV 5) (v2 oMul (vV 8) (vV 10)))) (vV 10) [10] δ s = .ok (.p (.lst ((steps a b h).map .int))) s := by
  have e := compL_gen (t := tvN 10) (c := tstB (vCh (oOrd .le) (oOrd .le) (v2 oMul (vV 7) (vV 10)) (vV 5) (v2 oMul (vV 8) (vV 10)))) (e := vV 10)
    (δ0 := wipE δ [10]) (st := s) (itv 1 (h + 1 - 1).toNat) P.int (stepB a b h) P.int (fun m hm => by
      have hm := itv_mem.mp hm
      have k5 : ((wipE δ [10]).set 10 (some (.p (.int m))))[5]? = some (some (.p (.int h))) := by simp [wipE, g5]
      have k7 : ((wipE δ [10]).set 10 (some (.p (.int m))))[7]? = some (some (.p (.int a))) := by simp [wipE, g7]
      have k8 : ((wipE δ [10]).set 10 (some (.p (.int m))))[8]? = some (some (.p (.int b))) := by simp [wipE, g8]
      have k10 : ((wipE δ [10]).set 10 (some (D.p (.int m))))[10]? = some (some (.p (.int m))) := by simp [wipE, hl]
      refine ⟨_, rfl, ?_, fun _ => by simp (disch := omega) only [bnd_ok, bnd_exc, fnF, startE, sSeq, sIf, sAsg, sRet, sNx, sAug, sPar, sDo, sRaise, bOr, bAnd, bNot, bYes, tstB, v2, vV, vK, aC, aN, vCal, vU, vIf, vCh, vAnd, vFn, oIx, oAdd, oSub, oMul, oDiv, oMod, oNeg, see, seeC, fInt, fAbs_int, fMax_int, fMin_int, ordI_int, retF_same, excF_same, gvN, gvS, gvT, gsC, gsN, iAdd, L2.atI, L2.ixN, mulOk_l, mulOk_r, log_ok, le_t, le_f, lt_t, lt_f, gt_t, gt_f, ge_t, ge_f, List.getElem?_cons_zero, List.getElem?_cons_succ, List.set_cons_zero, List.set_cons_succ, List.length_cons, List.length_nil, List.map_cons, List.map_nil, List.cons_append, List.nil_append, List.append_nil, List.replicate_succ, List.replicate_zero, Nat.zero_add, Nat.reduceAdd, Nat.reduceSub, Nat.reduceLT, Nat.reduceLeDiff, Int.reduceLT, Int.reduceLE, Int.reduceAdd, Int.reduceSub, Int.reduceMul, Int.reduceNeg, decide_true, decide_false, Bool.not_true, Bool.not_false, reduceCtorEq, ↓reduceIte, and_self, and_true, true_and, if_true, if_false, Bool.false_eq_true, if_pos, if_neg, Int.reduceToNat, Int.toNat_zero, Int.toNat_one, Option.bind_some, Option.map_some, pAll, pAll_map, seqP_lst, seqP_tup, seqP_scr, vTup, vLst, vLstM, szLine_eq, vMet, isList, mApp, last_get, last_set, List.length_map, List.length_append, seeC, oIs, Option.map, k10]⟩
      by_cases c1 : a * m ≤ h <;> by_cases c2 : h ≤ b * m <;> simp (disch := omega) only [bnd_ok, bnd_exc, fnF, startE, sSeq, sIf, sAsg, sRet, sNx, sAug, sPar, sDo, sRaise, bOr, bAnd, bNot, bYes, tstB, v2, vV, vK, aC, aN, vCal, vU, vIf, vCh, vAnd, vFn, oIx, oAdd, oSub, oMul, oDiv, oMod, oNeg, see, seeC, fInt, fAbs_int, fMax_int, fMin_int, ordI_int, retF_same, excF_same, gvN, gvS, gvT, gsC, gsN, iAdd, L2.atI, L2.ixN, mulOk_l, mulOk_r, log_ok, le_t, le_f, lt_t, lt_f, gt_t, gt_f, ge_t, ge_f, List.getElem?_cons_zero, List.getElem?_cons_succ, List.set_cons_zero, List.set_cons_succ, List.length_cons, List.length_nil, List.map_cons, List.map_nil, List.cons_append, List.nil_append, List.append_nil, List.replicate_succ, List.replicate_zero, Nat.zero_add, Nat.reduceAdd, Nat.reduceSub, Nat.reduceLT, Nat.reduceLeDiff, Int.reduceLT, Int.reduceLE, Int.reduceAdd, Int.reduceSub, Int.reduceMul, Int.reduceNeg, decide_true, decide_false, Bool.not_true, Bool.not_false, reduceCtorEq, ↓reduceIte, and_self, and_true, true_and, if_true, if_false, Bool.false_eq_true, if_pos, if_neg, Int.reduceToNat, Int.toNat_zero, Int.toNat_one, Option.bind_some, Option.map_some, pAll, pAll_map, seqP_lst, seqP_tup, seqP_scr, vTup, vLst, vLstM, szLine_eq, vMet, isList, mApp, last_get, last_set, List.length_map, List.length_append, seeC, oIs, Option.map, k5, k7, k8, k10, stepB, Bool.and_true, Bool.and_false, Bool.false_and, Bool.true_and, c1, c2])
  have r : -1000000000000 ≤ (1 : Int) ∧ (1 : Int) < 1000000000000 ∧ -1000000000000 ≤ h + 1 ∧ h + 1 < 1000000000000 := by omega
  rw [show (itv 1 (h + 1 - 1).toNat).filter (stepB a b h) = steps a b h from rfl] at e
  simp (disch := omega) only [bnd_ok, bnd_exc, fnF, startE, sSeq, sIf, sAsg, sRet, sNx, sAug, sPar, sDo, sRaise, bOr, bAnd, bNot, bYes, tstB, v2, vV, vK, aC, aN, vCal, vU, vIf, vCh, vAnd, vFn, oIx, oAdd, oSub, oMul, oDiv, oMod, oNeg, see, seeC, fInt, fAbs_int, fMax_int, fMin_int, ordI_int, retF_same, excF_same, gvN, gvS, gvT, gsC, gsN, iAdd, L2.atI, L2.ixN, mulOk_l, mulOk_r, log_ok, le_t, le_f, lt_t, lt_f, gt_t, gt_f, ge_t, ge_f, List.getElem?_cons_zero, List.getElem?_cons_succ, List.set_cons_zero, List.set_cons_succ, List.length_cons, List.length_nil, List.map_cons, List.map_nil, List.cons_append, List.nil_append, List.append_nil, List.replicate_succ, List.replicate_zero, Nat.zero_add, Nat.reduceAdd, Nat.reduceSub, Nat.reduceLT, Nat.reduceLeDiff, Int.reduceLT, Int.reduceLE, Int.reduceAdd, Int.reduceSub, Int.reduceMul, Int.reduceNeg, decide_true, decide_false, Bool.not_true, Bool.not_false, reduceCtorEq, ↓reduceIte, and_self, and_true, true_and, if_true, if_false, Bool.false_eq_true, if_pos, if_neg, Int.reduceToNat, Int.toNat_zero, Int.toNat_one, Option.bind_some, Option.map_some, pAll, pAll_map, seqP_lst, seqP_tup, seqP_scr, vTup, vLst, vLstM, szLine_eq, vMet, isList, mApp, last_get, last_set, List.length_map, List.length_append, seeC, oIs, Option.map, vCmpD, itR2, r, g5, rng_itv, e, kLst, itv_len]
def one01 (r : Int) : Int := if 0 < r then 1 else 0
def fitB (a b h m : Int) : Bool := decide (a ≤ h / m) && decide (h / m + one01 (h % m) ≤ b)
theorem fit_ok {a b c d h m : Int} (s : Store) (hm : 0 < m) (hm2 : m ≤ 1000000) : f_Rules_rises_fit [.p (RU a b c d), .p (.int h), .p (.int m)] s = .ok (.p (.bl (fitB a b h m))) s := by
  by_cases c1 : a ≤ h / m <;> by_cases c2 : 0 < h % m <;> by_cases c3 : h / m + one01 (h % m) ≤ b
  all_goals
    have c3' := c3
    simp only [one01, c2, if_true, if_false] at c3'
    simp (disch := omega) only [bnd_ok, bnd_exc, fnF, startE, sSeq, sIf, sAsg, sRet, sNx, sAug, sPar, sDo, sRaise, bOr, bAnd, bNot, bYes, tstB, v2, vV, vK, aC, aN, vCal, vU, vIf, vCh, vAnd, vFn, oIx, oAdd, oSub, oMul, oDiv, oMod, oNeg, see, seeC, fInt, fAbs_int, fMax_int, fMin_int, ordI_int, retF_same, excF_same, gvN, gvS, gvT, gsC, gsN, iAdd, L2.atI, L2.ixN, mulOk_l, mulOk_r, log_ok, le_t, le_f, lt_t, lt_f, gt_t, gt_f, ge_t, ge_f, List.getElem?_cons_zero, List.getElem?_cons_succ, List.set_cons_zero, List.set_cons_succ, List.length_cons, List.length_nil, List.map_cons, List.map_nil, List.cons_append, List.nil_append, List.append_nil, List.replicate_succ, List.replicate_zero, Nat.zero_add, Nat.reduceAdd, Nat.reduceSub, Nat.reduceLT, Nat.reduceLeDiff, Int.reduceLT, Int.reduceLE, Int.reduceAdd, Int.reduceSub, Int.reduceMul, Int.reduceNeg, decide_true, decide_false, Bool.not_true, Bool.not_false, reduceCtorEq, ↓reduceIte, and_self, and_true, true_and, if_true, if_false, Bool.false_eq_true, if_pos, if_neg, Int.reduceToNat, Int.toNat_zero, Int.toNat_one, Option.bind_some, Option.map_some, pAll, pAll_map, seqP_lst, seqP_tup, seqP_scr, vTup, vLst, vLstM, szLine_eq, vMet, isList, mApp, last_get, last_set, List.length_map, List.length_append, seeC, oIs, Option.map, f_Rules_rises_fit, b_Rules_rises_fit, vFld, ru_rise, fitB, c1, c3, Bool.and_true, Bool.and_false, Bool.false_and, Bool.true_and]
def goP (c d l m : Int) : Option (Int × Int) := if m = 1 then some (0, 0) else if c ≤ l / (m - 1) ∧ l / (m - 1) + one01 (l % (m - 1)) ≤ d then some (l / (m - 1), l % (m - 1)) else none
def encG (o : Option (Int × Int)) : P := match o with
  | none => .non
  | some x => .tup [.int x.1, .int x.2]
theorem go_ok {a b c d l m : Int} (s : Store) (hm : 0 < m) (hm2 : m ≤ 1000000) : f_Rules_goings_for [.p (RU a b c d), .p (.int l), .p (.int m)] s = .ok (.p (encG (goP c d l m))) s := by
  by_cases c0 : m = 1
  · subst c0
    simp (disch := omega) only [bnd_ok, bnd_exc, fnF, startE, sSeq, sIf, sAsg, sRet, sNx, sAug, sPar, sDo, sRaise, bOr, bAnd, bNot, bYes, tstB, v2, vV, vK, aC, aN, vCal, vU, vIf, vCh, vAnd, vFn, oIx, oAdd, oSub, oMul, oDiv, oMod, oNeg, see, seeC, fInt, fAbs_int, fMax_int, fMin_int, ordI_int, retF_same, excF_same, gvN, gvS, gvT, gsC, gsN, iAdd, L2.atI, L2.ixN, mulOk_l, mulOk_r, log_ok, le_t, le_f, lt_t, lt_f, gt_t, gt_f, ge_t, ge_f, List.getElem?_cons_zero, List.getElem?_cons_succ, List.set_cons_zero, List.set_cons_succ, List.length_cons, List.length_nil, List.map_cons, List.map_nil, List.cons_append, List.nil_append, List.append_nil, List.replicate_succ, List.replicate_zero, Nat.zero_add, Nat.reduceAdd, Nat.reduceSub, Nat.reduceLT, Nat.reduceLeDiff, Int.reduceLT, Int.reduceLE, Int.reduceAdd, Int.reduceSub, Int.reduceMul, Int.reduceNeg, decide_true, decide_false, Bool.not_true, Bool.not_false, reduceCtorEq, ↓reduceIte, and_self, and_true, true_and, if_true, if_false, Bool.false_eq_true, if_pos, if_neg, Int.reduceToNat, Int.toNat_zero, Int.toNat_one, Option.bind_some, Option.map_some, pAll, pAll_map, seqP_lst, seqP_tup, seqP_scr, vTup, vLst, vLstM, szLine_eq, vMet, isList, mApp, last_get, last_set, List.length_map, List.length_append, seeC, oIs, Option.map, f_Rules_goings_for, b_Rules_goings_for, oEq_int, goP, encG, eq_self]
  · have c0' : 0 < m - 1 := by omega
    by_cases c1 : c ≤ l / (m - 1) <;> by_cases c2 : 0 < l % (m - 1) <;> by_cases c3 : l / (m - 1) + one01 (l % (m - 1)) ≤ d
    all_goals
      have c3' := c3
      simp only [one01, c2, if_true, if_false] at c3'
      simp (disch := omega) only [bnd_ok, bnd_exc, fnF, startE, sSeq, sIf, sAsg, sRet, sNx, sAug, sPar, sDo, sRaise, bOr, bAnd, bNot, bYes, tstB, v2, vV, vK, aC, aN, vCal, vU, vIf, vCh, vAnd, vFn, oIx, oAdd, oSub, oMul, oDiv, oMod, oNeg, see, seeC, fInt, fAbs_int, fMax_int, fMin_int, ordI_int, retF_same, excF_same, gvN, gvS, gvT, gsC, gsN, iAdd, L2.atI, L2.ixN, mulOk_l, mulOk_r, log_ok, le_t, le_f, lt_t, lt_f, gt_t, gt_f, ge_t, ge_f, List.getElem?_cons_zero, List.getElem?_cons_succ, List.set_cons_zero, List.set_cons_succ, List.length_cons, List.length_nil, List.map_cons, List.map_nil, List.cons_append, List.nil_append, List.append_nil, List.replicate_succ, List.replicate_zero, Nat.zero_add, Nat.reduceAdd, Nat.reduceSub, Nat.reduceLT, Nat.reduceLeDiff, Int.reduceLT, Int.reduceLE, Int.reduceAdd, Int.reduceSub, Int.reduceMul, Int.reduceNeg, decide_true, decide_false, Bool.not_true, Bool.not_false, reduceCtorEq, ↓reduceIte, and_self, and_true, true_and, if_true, if_false, Bool.false_eq_true, if_pos, if_neg, Int.reduceToNat, Int.toNat_zero, Int.toNat_one, Option.bind_some, Option.map_some, pAll, pAll_map, seqP_lst, seqP_tup, seqP_scr, vTup, vLst, vLstM, szLine_eq, vMet, isList, mApp, last_get, last_set, List.length_map, List.length_append, seeC, oIs, Option.map, f_Rules_goings_for, b_Rules_goings_for, oEq_int, goP, vFld, ru_going, c0, c1, c3, encG]
end

section
set_option linter.all false
set_option maxHeartbeats 4100000
set_option maxRecDepth 10000
open PySem L2 Iv K09
structure Rw where
  far : Int
  m : Int
  q : Int
  r : Int
  w : Int
  l : Int
def rowOf (a b c d h l m : Int) : Option Rw := if fitB a b h m = true then (goP c d l m).map fun g => ⟨absI (2 * (h / m) + g.1 - 630), m, h / m, h % m, g.1, g.2⟩ else none
def rowsL (a b c d h l : Int) : List Rw := (steps a b h).filterMap (rowOf a b c d h l)
def nf (x : Rw) : Int := -x.far
def enc5 (x : Rw) : P := .tup [.int x.m, .int x.q, .int x.r, .int x.w, .int x.l]
def encF (o : Option Rw) : P := match o with
  | none => .non
  | some x => .tup [.int x.far, enc5 x]
def pickO (o : Option Rw) (n : Option Rw) : Option Rw := match n with
  | none => o
  | some x => pick nf o x
theorem nf_lt (x y : Rw) : nf x < nf y ↔ y.far < x.far := by unfold nf; omega
theorem best_step (a b c d h l m : Int) (s : Store) (hm : 0 < m) (hm2 : m ≤ 1000000) (o : Option Rw) (z4 z5 z6 z7 : Option D) :
    ∃ y5 y6 y7, (sSeq (sAsg (vMeth 2 "goings_for" f_Rules_goings_for (vV 0) (aC (vV 2) (aC (vV 4) (aN))) []) (gvN 5)) (sIf (bAnd (tstB (v2 (oIs true) (vV 5) (vK .non))) (tstB (vMeth 2 "rises_fit" f_Rules_rises_fit (vV 0) (aC (vV 1) (aC (vV 4) (aN))) []))) (sSeq (sAsg (v2 oDiv (vV 1) (vV 4)) (gvN 6)) (sSeq (sAsg (vCal fAbs (aC (v2 oSub (v2 oAdd (v2 oMul (vK (.int 2)) (vV 6)) (v2 oIx (vV 5) (vK (.int 0)))) (vK (.int 630))) (aN))) (gvN 7)) (sIf (bOr (tstB (v2 (oIs false) (vV 3) (vK .non))) (tstB (v2 (oOrd .lt) (vV 7) (v2 oIx (vV 3) (vK (.int 0)))))) (sAsg (vTup (aC (vV 7) (aC (vTup (aC (vV 4) (aC (vV 6) (aC (v2 oMod (vV 1) (vV 4)) (aC (v2 oIx (vV 5) (vK (.int 0))) (aC (v2 oIx (vV 5) (vK (.int 1))) (aN))))))) (aN)))) (gvN 3)) (sNx)))) (sNx)))
      [some (.p (RU a b c d)), some (.p (.int h)), some (.p (.int l)), some (.p (encF o)), some (.p (.int m)), z5, z6, z7] s =
    .nx [some (.p (RU a b c d)), some (.p (.int h)), some (.p (.int l)), some (.p (encF (pickO o (rowOf a b c d h l m)))), some (.p (.int m)), y5, y6, y7] s := by
  have g := go_ok (a := a) (b := b) (c := c) (d := d) (l := l) s hm hm2
  have f := fit_ok (a := a) (b := b) (c := c) (d := d) (h := h) s hm hm2
  unfold rowOf
  cases hg : goP c d l m with
  | none =>
    rw [hg] at g
    refine ⟨some (.p .non), z6, z7, ?_⟩
    by_cases hf : fitB a b h m = true <;> simp (disch := omega) only [bnd_ok, bnd_exc, fnF, startE, sSeq, sIf, sAsg, sRet, sNx, sAug, sPar, sDo, sRaise, bOr, bAnd, bNot, bYes, tstB, v2, vV, vK, aC, aN, vCal, vU, vIf, vCh, vAnd, vFn, oIx, oAdd, oSub, oMul, oDiv, oMod, oNeg, see, seeC, fInt, fAbs_int, fMax_int, fMin_int, ordI_int, retF_same, excF_same, gvN, gvS, gvT, gsC, gsN, iAdd, L2.atI, L2.ixN, mulOk_l, mulOk_r, log_ok, le_t, le_f, lt_t, lt_f, gt_t, gt_f, ge_t, ge_f, List.getElem?_cons_zero, List.getElem?_cons_succ, List.set_cons_zero, List.set_cons_succ, List.length_cons, List.length_nil, List.map_cons, List.map_nil, List.cons_append, List.nil_append, List.append_nil, List.replicate_succ, List.replicate_zero, Nat.zero_add, Nat.reduceAdd, Nat.reduceSub, Nat.reduceLT, Nat.reduceLeDiff, Int.reduceLT, Int.reduceLE, Int.reduceAdd, Int.reduceSub, Int.reduceMul, Int.reduceNeg, decide_true, decide_false, Bool.not_true, Bool.not_false, reduceCtorEq, ↓reduceIte, and_self, and_true, true_and, if_true, if_false, Bool.false_eq_true, if_pos, if_neg, Int.reduceToNat, Int.toNat_zero, Int.toNat_one, Option.bind_some, Option.map_some, pAll, pAll_map, seqP_lst, seqP_tup, seqP_scr, vTup, vLst, vLstM, szLine_eq, vMet, isList, mApp, last_get, last_set, List.length_map, List.length_append, seeC, oIs, Option.map, vMeth, ru_goings, g, encG, Option.map_none, hf, pickO]
  | some x =>
    rw [hg] at g
    by_cases hf : fitB a b h m = true
    · rw [hf] at f
      cases o with
      | none =>
        refine ⟨some (.p (.tup [.int x.1, .int x.2])), some (.p (.int (h / m))), some (.p (.int (absI (2 * (h / m) + x.1 - 630)))), ?_⟩
        simp (disch := omega) only [bnd_ok, bnd_exc, fnF, startE, sSeq, sIf, sAsg, sRet, sNx, sAug, sPar, sDo, sRaise, bOr, bAnd, bNot, bYes, tstB, v2, vV, vK, aC, aN, vCal, vU, vIf, vCh, vAnd, vFn, oIx, oAdd, oSub, oMul, oDiv, oMod, oNeg, see, seeC, fInt, fAbs_int, fMax_int, fMin_int, ordI_int, retF_same, excF_same, gvN, gvS, gvT, gsC, gsN, iAdd, L2.atI, L2.ixN, mulOk_l, mulOk_r, log_ok, le_t, le_f, lt_t, lt_f, gt_t, gt_f, ge_t, ge_f, List.getElem?_cons_zero, List.getElem?_cons_succ, List.set_cons_zero, List.set_cons_succ, List.length_cons, List.length_nil, List.map_cons, List.map_nil, List.cons_append, List.nil_append, List.append_nil, List.replicate_succ, List.replicate_zero, Nat.zero_add, Nat.reduceAdd, Nat.reduceSub, Nat.reduceLT, Nat.reduceLeDiff, Int.reduceLT, Int.reduceLE, Int.reduceAdd, Int.reduceSub, Int.reduceMul, Int.reduceNeg, decide_true, decide_false, Bool.not_true, Bool.not_false, reduceCtorEq, ↓reduceIte, and_self, and_true, true_and, if_true, if_false, Bool.false_eq_true, if_pos, if_neg, Int.reduceToNat, Int.toNat_zero, Int.toNat_one, Option.bind_some, Option.map_some, pAll, pAll_map, seqP_lst, seqP_tup, seqP_scr, vTup, vLst, vLstM, szLine_eq, vMet, isList, mApp, last_get, last_set, List.length_map, List.length_append, seeC, oIs, Option.map, vMeth, ru_goings, ru_fit, g, f, encG, hf, pickO, pick, encF, enc5]
      | some y =>
        refine ⟨some (.p (.tup [.int x.1, .int x.2])), some (.p (.int (h / m))), some (.p (.int (absI (2 * (h / m) + x.1 - 630)))), ?_⟩
        by_cases c1 : absI (2 * (h / m) + x.1 - 630) < y.far
        · have c2 := (nf_lt y ⟨absI (2 * (h / m) + x.1 - 630), m, h / m, h % m, x.1, x.2⟩).mpr c1
          simp (disch := omega) only [bnd_ok, bnd_exc, fnF, startE, sSeq, sIf, sAsg, sRet, sNx, sAug, sPar, sDo, sRaise, bOr, bAnd, bNot, bYes, tstB, v2, vV, vK, aC, aN, vCal, vU, vIf, vCh, vAnd, vFn, oIx, oAdd, oSub, oMul, oDiv, oMod, oNeg, see, seeC, fInt, fAbs_int, fMax_int, fMin_int, ordI_int, retF_same, excF_same, gvN, gvS, gvT, gsC, gsN, iAdd, L2.atI, L2.ixN, mulOk_l, mulOk_r, log_ok, le_t, le_f, lt_t, lt_f, gt_t, gt_f, ge_t, ge_f, List.getElem?_cons_zero, List.getElem?_cons_succ, List.set_cons_zero, List.set_cons_succ, List.length_cons, List.length_nil, List.map_cons, List.map_nil, List.cons_append, List.nil_append, List.append_nil, List.replicate_succ, List.replicate_zero, Nat.zero_add, Nat.reduceAdd, Nat.reduceSub, Nat.reduceLT, Nat.reduceLeDiff, Int.reduceLT, Int.reduceLE, Int.reduceAdd, Int.reduceSub, Int.reduceMul, Int.reduceNeg, decide_true, decide_false, Bool.not_true, Bool.not_false, reduceCtorEq, ↓reduceIte, and_self, and_true, true_and, if_true, if_false, Bool.false_eq_true, if_pos, if_neg, Int.reduceToNat, Int.toNat_zero, Int.toNat_one, Option.bind_some, Option.map_some, pAll, pAll_map, seqP_lst, seqP_tup, seqP_scr, vTup, vLst, vLstM, szLine_eq, vMet, isList, mApp, last_get, last_set, List.length_map, List.length_append, seeC, oIs, Option.map, vMeth, ru_goings, ru_fit, g, f, encG, hf, pickO, pick, encF, enc5, c2]
        · have c2 : ¬ nf y < nf ⟨absI (2 * (h / m) + x.1 - 630), m, h / m, h % m, x.1, x.2⟩ := fun z => c1 ((nf_lt _ _).mp z)
          simp (disch := omega) only [bnd_ok, bnd_exc, fnF, startE, sSeq, sIf, sAsg, sRet, sNx, sAug, sPar, sDo, sRaise, bOr, bAnd, bNot, bYes, tstB, v2, vV, vK, aC, aN, vCal, vU, vIf, vCh, vAnd, vFn, oIx, oAdd, oSub, oMul, oDiv, oMod, oNeg, see, seeC, fInt, fAbs_int, fMax_int, fMin_int, ordI_int, retF_same, excF_same, gvN, gvS, gvT, gsC, gsN, iAdd, L2.atI, L2.ixN, mulOk_l, mulOk_r, log_ok, le_t, le_f, lt_t, lt_f, gt_t, gt_f, ge_t, ge_f, List.getElem?_cons_zero, List.getElem?_cons_succ, List.set_cons_zero, List.set_cons_succ, List.length_cons, List.length_nil, List.map_cons, List.map_nil, List.cons_append, List.nil_append, List.append_nil, List.replicate_succ, List.replicate_zero, Nat.zero_add, Nat.reduceAdd, Nat.reduceSub, Nat.reduceLT, Nat.reduceLeDiff, Int.reduceLT, Int.reduceLE, Int.reduceAdd, Int.reduceSub, Int.reduceMul, Int.reduceNeg, decide_true, decide_false, Bool.not_true, Bool.not_false, reduceCtorEq, ↓reduceIte, and_self, and_true, true_and, if_true, if_false, Bool.false_eq_true, if_pos, if_neg, Int.reduceToNat, Int.toNat_zero, Int.toNat_one, Option.bind_some, Option.map_some, pAll, pAll_map, seqP_lst, seqP_tup, seqP_scr, vTup, vLst, vLstM, szLine_eq, vMet, isList, mApp, last_get, last_set, List.length_map, List.length_append, seeC, oIs, Option.map, vMeth, ru_goings, ru_fit, g, f, encG, hf, pickO, pick, encF, enc5, c2]
    · have hf' : fitB a b h m = false := by simpa using hf
      rw [hf'] at f
      refine ⟨some (.p (.tup [.int x.1, .int x.2])), z6, z7, ?_⟩
      simp (disch := omega) only [bnd_ok, bnd_exc, fnF, startE, sSeq, sIf, sAsg, sRet, sNx, sAug, sPar, sDo, sRaise, bOr, bAnd, bNot, bYes, tstB, v2, vV, vK, aC, aN, vCal, vU, vIf, vCh, vAnd, vFn, oIx, oAdd, oSub, oMul, oDiv, oMod, oNeg, see, seeC, fInt, fAbs_int, fMax_int, fMin_int, ordI_int, retF_same, excF_same, gvN, gvS, gvT, gsC, gsN, iAdd, L2.atI, L2.ixN, mulOk_l, mulOk_r, log_ok, le_t, le_f, lt_t, lt_f, gt_t, gt_f, ge_t, ge_f, List.getElem?_cons_zero, List.getElem?_cons_succ, List.set_cons_zero, List.set_cons_succ, List.length_cons, List.length_nil, List.map_cons, List.map_nil, List.cons_append, List.nil_append, List.append_nil, List.replicate_succ, List.replicate_zero, Nat.zero_add, Nat.reduceAdd, Nat.reduceSub, Nat.reduceLT, Nat.reduceLeDiff, Int.reduceLT, Int.reduceLE, Int.reduceAdd, Int.reduceSub, Int.reduceMul, Int.reduceNeg, decide_true, decide_false, Bool.not_true, Bool.not_false, reduceCtorEq, ↓reduceIte, and_self, and_true, true_and, if_true, if_false, Bool.false_eq_true, if_pos, if_neg, Int.reduceToNat, Int.toNat_zero, Int.toNat_one, Option.bind_some, Option.map_some, pAll, pAll_map, seqP_lst, seqP_tup, seqP_scr, vTup, vLst, vLstM, szLine_eq, vMet, isList, mApp, last_get, last_set, List.length_map, List.length_append, seeC, oIs, Option.map, vMeth, ru_goings, ru_fit, g, f, encG, hf', pickO]
theorem fm_snoc (a b c d h l : Int) (xs : List Int) (m : Int) (f : Option Rw) (hf : f = amax nf (xs.filterMap (rowOf a b c d h l))) : pickO f (rowOf a b c d h l m) = amax nf ((xs ++ [m]).filterMap (rowOf a b c d h l)) := by
  subst hf
  rw [List.filterMap_append]
  cases e : rowOf a b c d h l m with
  | none => simp [e, pickO]
  | some x =>
    have : List.filterMap (rowOf a b c d h l) [m] = [x] := by simp [e]
    rw [this, amax_snoc]
    rfl
theorem best_ok {a b c d h l : Int} (s : Store) (ha : 0 < a) (ha2 : a ≤ 1000) (hb : 0 < b) (hb2 : b ≤ 1000) (h1 : 0 ≤ h) (h2 : h ≤ 100000) :
    f_Rules_best [.p (RU a b c d), .p (.int h), .p (.int l)] s = match amax nf (rowsL a b c d h l) with
      | some x => .ok (.p (enc5 x)) s
      | none => .exc 1 s := by
  obtain ⟨δ', st', e, rfl, z4, z5, z6, z7, rfl⟩ := for_data (t := gvN 4) (b := (sSeq (sAsg (vMeth 2 "goings_for" f_Rules_goings_for (vV 0) (aC (vV 2) (aC (vV 4) (aN))) []) (gvN 5)) (sIf (bAnd (tstB (v2 (oIs true) (vV 5) (vK .non))) (tstB (vMeth 2 "rises_fit" f_Rules_rises_fit (vV 0) (aC (vV 1) (aC (vV 4) (aN))) []))) (sSeq (sAsg (v2 oDiv (vV 1) (vV 4)) (gvN 6)) (sSeq (sAsg (vCal fAbs (aC (v2 oSub (v2 oAdd (v2 oMul (vK (.int 2)) (vV 6)) (v2 oIx (vV 5) (vK (.int 0)))) (vK (.int 630))) (aN))) (gvN 7)) (sIf (bOr (tstB (v2 (oIs false) (vV 3) (vK .non))) (tstB (v2 (oOrd .lt) (vV 7) (v2 oIx (vV 3) (vK (.int 0)))))) (sAsg (vTup (aC (vV 7) (aC (vTup (aC (vV 4) (aC (vV 6) (aC (v2 oMod (vV 1) (vV 4)) (aC (v2 oIx (vV 5) (vK (.int 0))) (aC (v2 oIx (vV 5) (vK (.int 1))) (aN))))))) (aN)))) (gvN 3)) (sNx)))) (sNx))))
    (steps a b h) P.int (fun j δ st => st = s ∧ ∃ z4 z5 z6 z7, δ = [some (.p (RU a b c d)), some (.p (.int h)), some (.p (.int l)), some (.p (encF (amax nf (((steps a b h).take j).filterMap (rowOf a b c d h l))))), z4, z5, z6, z7])
    (δ := [some (.p (RU a b c d)), some (.p (.int h)), some (.p (.int l)), some (.p .non), none, none, none, none]) (st := s) (by
      rintro j m δ st hj ⟨rfl, z4, z5, z6, z7, rfl⟩
      have hm := itv_mem.mp (List.mem_filter.mp (List.mem_of_getElem? hj)).1
      obtain ⟨y5, y6, y7, e⟩ := best_step a b c d h l m st (by omega) (by omega) (amax nf (((steps a b h).take j).filterMap (rowOf a b c d h l))) z4 z5 z6 z7
      refine ⟨_, _, _, _, rfl, e, rfl, some (.p (.int m)), y5, y6, y7, ?_⟩
      rw [take_snoc hj, ← fm_snoc a b c d h l _ m _ rfl]) ⟨rfl, none, none, none, none, rfl⟩
  rw [List.take_length, show List.filterMap (rowOf a b c d h l) (steps a b h) = rowsL a b c d h l from rfl] at e
  have st := steps_ok (c := c) (d := d) st' ha ha2 hb hb2 h1 h2
  cases ho : amax nf (rowsL a b c d h l) with
  | none =>
    rw [ho] at e
    simp (disch := omega) only [bnd_ok, bnd_exc, fnF, startE, sSeq, sIf, sAsg, sRet, sNx, sAug, sPar, sDo, sRaise, bOr, bAnd, bNot, bYes, tstB, v2, vV, vK, aC, aN, vCal, vU, vIf, vCh, vAnd, vFn, oIx, oAdd, oSub, oMul, oDiv, oMod, oNeg, see, seeC, fInt, fAbs_int, fMax_int, fMin_int, ordI_int, retF_same, excF_same, gvN, gvS, gvT, gsC, gsN, iAdd, L2.atI, L2.ixN, mulOk_l, mulOk_r, log_ok, le_t, le_f, lt_t, lt_f, gt_t, gt_f, ge_t, ge_f, List.getElem?_cons_zero, List.getElem?_cons_succ, List.set_cons_zero, List.set_cons_succ, List.length_cons, List.length_nil, List.map_cons, List.map_nil, List.cons_append, List.nil_append, List.append_nil, List.replicate_succ, List.replicate_zero, Nat.zero_add, Nat.reduceAdd, Nat.reduceSub, Nat.reduceLT, Nat.reduceLeDiff, Int.reduceLT, Int.reduceLE, Int.reduceAdd, Int.reduceSub, Int.reduceMul, Int.reduceNeg, decide_true, decide_false, Bool.not_true, Bool.not_false, reduceCtorEq, ↓reduceIte, and_self, and_true, true_and, if_true, if_false, Bool.false_eq_true, if_pos, if_neg, Int.reduceToNat, Int.toNat_zero, Int.toNat_one, Option.bind_some, Option.map_some, pAll, pAll_map, seqP_lst, seqP_tup, seqP_scr, vTup, vLst, vLstM, szLine_eq, vMet, isList, mApp, last_get, last_set, List.length_map, List.length_append, seeC, oIs, Option.map, f_Rules_best, b_Rules_best, sForI, itA, vMeth, ru_steps, st, e, encF]
  | some x =>
    rw [ho] at e
    simp (disch := omega) only [bnd_ok, bnd_exc, fnF, startE, sSeq, sIf, sAsg, sRet, sNx, sAug, sPar, sDo, sRaise, bOr, bAnd, bNot, bYes, tstB, v2, vV, vK, aC, aN, vCal, vU, vIf, vCh, vAnd, vFn, oIx, oAdd, oSub, oMul, oDiv, oMod, oNeg, see, seeC, fInt, fAbs_int, fMax_int, fMin_int, ordI_int, retF_same, excF_same, gvN, gvS, gvT, gsC, gsN, iAdd, L2.atI, L2.ixN, mulOk_l, mulOk_r, log_ok, le_t, le_f, lt_t, lt_f, gt_t, gt_f, ge_t, ge_f, List.getElem?_cons_zero, List.getElem?_cons_succ, List.set_cons_zero, List.set_cons_succ, List.length_cons, List.length_nil, List.map_cons, List.map_nil, List.cons_append, List.nil_append, List.append_nil, List.replicate_succ, List.replicate_zero, Nat.zero_add, Nat.reduceAdd, Nat.reduceSub, Nat.reduceLT, Nat.reduceLeDiff, Int.reduceLT, Int.reduceLE, Int.reduceAdd, Int.reduceSub, Int.reduceMul, Int.reduceNeg, decide_true, decide_false, Bool.not_true, Bool.not_false, reduceCtorEq, ↓reduceIte, and_self, and_true, true_and, if_true, if_false, Bool.false_eq_true, if_pos, if_neg, Int.reduceToNat, Int.toNat_zero, Int.toNat_one, Option.bind_some, Option.map_some, pAll, pAll_map, seqP_lst, seqP_tup, seqP_scr, vTup, vLst, vLstM, szLine_eq, vMet, isList, mApp, last_get, last_set, List.length_map, List.length_append, seeC, oIs, Option.map, f_Rules_best, b_Rules_best, sForI, itA, vMeth, ru_steps, st, e, encF, enc5]
end

section
set_option linter.all false
set_option maxHeartbeats 4100000
set_option maxRecDepth 10000
open PySem L2 Iv K09
def partsL (x n : Int) : List Int := (itv 0 n.toNat).map fun k => x / n + (if k < x % n then 1 else 0)
theorem partsL_ne {x n : Int} (hn : 0 < n) : partsL x n ≠ [] := by
  unfold partsL
  intro e
  have := congrArg List.length e
  simp [itv_len] at this
  omega
theorem partsL_mem {x n p : Int} (hn : 0 < n) : p ∈ partsL x n ↔ p = x / n ∨ (p = x / n + 1 ∧ 0 < x % n) := by
  have h1 := Int.emod_nonneg x (show n ≠ 0 by omega)
  have h2 := Int.emod_lt_of_pos x hn
  unfold partsL
  rw [List.mem_map]
  constructor
  · rintro ⟨k, hk, rfl⟩
    have hk := itv_mem.mp hk
    split
    · exact .inr ⟨rfl, by omega⟩
    · exact .inl (by omega)
  · rintro (rfl | ⟨rfl, h⟩)
    · exact ⟨n - 1, itv_mem.mpr (by omega), by rw [if_neg (by omega)]; omega⟩
    · exact ⟨0, itv_mem.mpr (by omega), by rw [if_pos h]⟩
theorem partsL_min {x n : Int} (hn : 0 < n) : minL (partsL x n) = x / n := by
  obtain ⟨h1, h2⟩ := minL_mem (partsL_ne (x := x) hn)
  have h3 := h2 (x / n) ((partsL_mem hn).mpr (.inl rfl))
  rcases (partsL_mem hn).mp h1 with h | ⟨h, _⟩ <;> omega
def outB (lo hi p : Int) : Bool := !(decide (lo ≤ p) && decide (p ≤ hi))
theorem parts_fit {x n lo hi : Int} (hn : 0 < n) : ((partsL x n).filter (outB lo hi)).isEmpty = (decide (lo ≤ x / n) && decide (x / n + one01 (x % n) ≤ hi)) := by
  have hiff : ((partsL x n).filter (outB lo hi)) = [] ↔ (lo ≤ x / n ∧ x / n + one01 (x % n) ≤ hi) := by
    rw [List.filter_eq_nil_iff]
    constructor
    · intro h
      have a := h (x / n) ((partsL_mem hn).mpr (.inl rfl))
      simp only [outB, Bool.not_eq_true, Bool.not_eq_false', Bool.and_eq_true, decide_eq_true_eq] at a
      refine ⟨a.1, ?_⟩
      unfold one01
      split
      · rename_i hr
        have b := h (x / n + 1) ((partsL_mem hn).mpr (.inr ⟨rfl, hr⟩))
        simp only [outB, Bool.not_eq_true, Bool.not_eq_false', Bool.and_eq_true, decide_eq_true_eq] at b
        exact b.2
      · omega
    · rintro ⟨a, b⟩ p hp
      simp only [outB, Bool.not_eq_true, Bool.not_eq_false', Bool.and_eq_true, decide_eq_true_eq]
      unfold one01 at b
      rcases (partsL_mem hn).mp hp with rfl | ⟨rfl, hr⟩
      · split at b <;> omega
      · rw [if_pos hr] at b; omega
  cases hb : ((partsL x n).filter (outB lo hi)).isEmpty with
  | true =>
    have := hiff.mp (List.isEmpty_iff.mp hb)
    simp [this]
  | false =>
    have : ¬ (lo ≤ x / n ∧ x / n + one01 (x % n) ≤ hi) := fun z => by
      have := hiff.mpr z
      rw [this] at hb; cases hb
    by_cases c : lo ≤ x / n
    · have : ¬ (x / n + one01 (x % n) ≤ hi) := fun z => this ⟨c, z⟩
      simp [this]
    · simp [c]
theorem lparts_ok {h m : Int} (hm : 0 < m) (hm2 : m ≤ 100000) (δ : Iv.Env) (s : Store) (hl : δ.length = 36) (g5 : δ[5]? = some (some (.p (.int h)))) (g10 : δ[10]? = some (some (.p (.int m)))) :
    vCmp (itR1 (aC (vV 10) (aN))) (tvN 30) (bYes) (v2 oAdd (v2 oDiv (vV 5) (vV 10)) (vCal fInt (aC (v2 (oOrd .lt) (vV 30) (v2 oMod (vV 5) (vV 10))) (aN)))) [30] δ s = .ok (.p (.lst ((partsL h m).map .int))) s := by
  have e := compL_all (t := tvN 30) (e := v2 oAdd (v2 oDiv (vV 5) (vV 10)) (vCal fInt (aC (v2 (oOrd .lt) (vV 30) (v2 oMod (vV 5) (vV 10))) (aN)))) (δ0 := wipE δ [30]) (st := s) (itv 0 m.toNat) P.int (fun k => P.int (h / m + (if k < h % m then 1 else 0))) (fun k hk => by
    have k5 : ((wipE δ [30]).set 30 (some (.p (.int k))))[5]? = some (some (.p (.int h))) := by simp [wipE, g5]
    have k10 : ((wipE δ [30]).set 30 (some (.p (.int k))))[10]? = some (some (.p (.int m))) := by simp [wipE, g10]
    have k30 : ((wipE δ [30]).set 30 (some (D.p (.int k))))[30]? = some (some (.p (.int k))) := by simp [wipE, hl]
    refine ⟨_, rfl, ?_⟩
    by_cases c : k < h % m <;> simp (disch := omega) only [bnd_ok, bnd_exc, fnF, startE, sSeq, sIf, sAsg, sRet, sNx, sAug, sPar, sDo, sRaise, bOr, bAnd, bNot, bYes, tstB, v2, vV, vK, aC, aN, vCal, vU, vIf, vCh, vAnd, vFn, oIx, oAdd, oSub, oMul, oDiv, oMod, oNeg, see, seeC, fInt, fAbs_int, fMax_int, fMin_int, ordI_int, retF_same, excF_same, gvN, gvS, gvT, gsC, gsN, iAdd, L2.atI, L2.ixN, mulOk_l, mulOk_r, log_ok, le_t, le_f, lt_t, lt_f, gt_t, gt_f, ge_t, ge_f, List.getElem?_cons_zero, List.getElem?_cons_succ, List.set_cons_zero, List.set_cons_succ, List.length_cons, List.length_nil, List.map_cons, List.map_nil, List.cons_append, List.nil_append, List.append_nil, List.replicate_succ, List.replicate_zero, Nat.zero_add, Nat.reduceAdd, Nat.reduceSub, Nat.reduceLT, Nat.reduceLeDiff, Int.reduceLT, Int.reduceLE, Int.reduceAdd, Int.reduceSub, Int.reduceMul, Int.reduceNeg, decide_true, decide_false, Bool.not_true, Bool.not_false, reduceCtorEq, ↓reduceIte, and_self, and_true, true_and, if_true, if_false, Bool.false_eq_true, if_pos, if_neg, Int.reduceToNat, Int.toNat_zero, Int.toNat_one, Option.bind_some, Option.map_some, pAll, pAll_map, seqP_lst, seqP_tup, seqP_scr, vTup, vLst, vLstM, szLine_eq, vMet, isList, mApp, last_get, last_set, List.length_map, List.length_append, seeC, oIs, Option.map, k5, k10, k30, c])
  have r : -1000000000000 ≤ m ∧ m < 1000000000000 := by omega
  have q : (itv 0 m.toNat).map (fun k => P.int (h / m + (if k < h % m then 1 else 0))) = (partsL h m).map P.int := by unfold partsL; rw [List.map_map]; rfl
  rw [q] at e
  simp (disch := omega) only [bnd_ok, bnd_exc, fnF, startE, sSeq, sIf, sAsg, sRet, sNx, sAug, sPar, sDo, sRaise, bOr, bAnd, bNot, bYes, tstB, v2, vV, vK, aC, aN, vCal, vU, vIf, vCh, vAnd, vFn, oIx, oAdd, oSub, oMul, oDiv, oMod, oNeg, see, seeC, fInt, fAbs_int, fMax_int, fMin_int, ordI_int, retF_same, excF_same, gvN, gvS, gvT, gsC, gsN, iAdd, L2.atI, L2.ixN, mulOk_l, mulOk_r, log_ok, le_t, le_f, lt_t, lt_f, gt_t, gt_f, ge_t, ge_f, List.getElem?_cons_zero, List.getElem?_cons_succ, List.set_cons_zero, List.set_cons_succ, List.length_cons, List.length_nil, List.map_cons, List.map_nil, List.cons_append, List.nil_append, List.append_nil, List.replicate_succ, List.replicate_zero, Nat.zero_add, Nat.reduceAdd, Nat.reduceSub, Nat.reduceLT, Nat.reduceLeDiff, Int.reduceLT, Int.reduceLE, Int.reduceAdd, Int.reduceSub, Int.reduceMul, Int.reduceNeg, decide_true, decide_false, Bool.not_true, Bool.not_false, reduceCtorEq, ↓reduceIte, and_self, and_true, true_and, if_true, if_false, Bool.false_eq_true, if_pos, if_neg, Int.reduceToNat, Int.toNat_zero, Int.toNat_one, Option.bind_some, Option.map_some, pAll, pAll_map, seqP_lst, seqP_tup, seqP_scr, vTup, vLst, vLstM, szLine_eq, vMet, isList, mApp, last_get, last_set, List.length_map, List.length_append, seeC, oIs, Option.map, vCmpD, itR1, r, g10, rng_itv0, e, kLst, itv_len]
theorem ltreads_ok {l m : Int} (hm : 1 < m) (hm2 : m ≤ 100000) (δ : Iv.Env) (s : Store) (hl : δ.length = 36) (g6 : δ[6]? = some (some (.p (.int l)))) (g10 : δ[10]? = some (some (.p (.int m)))) :
    vCmp (itR1 (aC (v2 oSub (vV 10) (vK (.int 1))) (aN))) (tvN 30) (bYes) (v2 oAdd (v2 oDiv (vV 6) (v2 oSub (vV 10) (vK (.int 1)))) (vCal fInt (aC (v2 (oOrd .lt) (vV 30) (v2 oMod (vV 6) (v2 oSub (vV 10) (vK (.int 1))))) (aN)))) [30] δ s = .ok (.p (.lst ((partsL l (m - 1)).map .int))) s := by
  have e := compL_all (t := tvN 30) (e := v2 oAdd (v2 oDiv (vV 6) (v2 oSub (vV 10) (vK (.int 1)))) (vCal fInt (aC (v2 (oOrd .lt) (vV 30) (v2 oMod (vV 6) (v2 oSub (vV 10) (vK (.int 1))))) (aN)))) (δ0 := wipE δ [30]) (st := s) (itv 0 (m - 1).toNat) P.int (fun k => P.int (l / (m - 1) + (if k < l % (m - 1) then 1 else 0))) (fun k hk => by
    have k6 : ((wipE δ [30]).set 30 (some (.p (.int k))))[6]? = some (some (.p (.int l))) := by simp [wipE, g6]
    have k10 : ((wipE δ [30]).set 30 (some (.p (.int k))))[10]? = some (some (.p (.int m))) := by simp [wipE, g10]
    have k30 : ((wipE δ [30]).set 30 (some (D.p (.int k))))[30]? = some (some (.p (.int k))) := by simp [wipE, hl]
    refine ⟨_, rfl, ?_⟩
    by_cases c : k < l % (m - 1) <;> simp (disch := omega) only [bnd_ok, bnd_exc, fnF, startE, sSeq, sIf, sAsg, sRet, sNx, sAug, sPar, sDo, sRaise, bOr, bAnd, bNot, bYes, tstB, v2, vV, vK, aC, aN, vCal, vU, vIf, vCh, vAnd, vFn, oIx, oAdd, oSub, oMul, oDiv, oMod, oNeg, see, seeC, fInt, fAbs_int, fMax_int, fMin_int, ordI_int, retF_same, excF_same, gvN, gvS, gvT, gsC, gsN, iAdd, L2.atI, L2.ixN, mulOk_l, mulOk_r, log_ok, le_t, le_f, lt_t, lt_f, gt_t, gt_f, ge_t, ge_f, List.getElem?_cons_zero, List.getElem?_cons_succ, List.set_cons_zero, List.set_cons_succ, List.length_cons, List.length_nil, List.map_cons, List.map_nil, List.cons_append, List.nil_append, List.append_nil, List.replicate_succ, List.replicate_zero, Nat.zero_add, Nat.reduceAdd, Nat.reduceSub, Nat.reduceLT, Nat.reduceLeDiff, Int.reduceLT, Int.reduceLE, Int.reduceAdd, Int.reduceSub, Int.reduceMul, Int.reduceNeg, decide_true, decide_false, Bool.not_true, Bool.not_false, reduceCtorEq, ↓reduceIte, and_self, and_true, true_and, if_true, if_false, Bool.false_eq_true, if_pos, if_neg, Int.reduceToNat, Int.toNat_zero, Int.toNat_one, Option.bind_some, Option.map_some, pAll, pAll_map, seqP_lst, seqP_tup, seqP_scr, vTup, vLst, vLstM, szLine_eq, vMet, isList, mApp, last_get, last_set, List.length_map, List.length_append, seeC, oIs, Option.map, k6, k10, k30, c])
  have r : -1000000000000 ≤ m - 1 ∧ m - 1 < 1000000000000 := by omega
  have q : (itv 0 (m - 1).toNat).map (fun k => P.int (l / (m - 1) + (if k < l % (m - 1) then 1 else 0))) = (partsL l (m - 1)).map P.int := by unfold partsL; rw [List.map_map]; rfl
  rw [q] at e
  simp (disch := omega) only [bnd_ok, bnd_exc, fnF, startE, sSeq, sIf, sAsg, sRet, sNx, sAug, sPar, sDo, sRaise, bOr, bAnd, bNot, bYes, tstB, v2, vV, vK, aC, aN, vCal, vU, vIf, vCh, vAnd, vFn, oIx, oAdd, oSub, oMul, oDiv, oMod, oNeg, see, seeC, fInt, fAbs_int, fMax_int, fMin_int, ordI_int, retF_same, excF_same, gvN, gvS, gvT, gsC, gsN, iAdd, L2.atI, L2.ixN, mulOk_l, mulOk_r, log_ok, le_t, le_f, lt_t, lt_f, gt_t, gt_f, ge_t, ge_f, List.getElem?_cons_zero, List.getElem?_cons_succ, List.set_cons_zero, List.set_cons_succ, List.length_cons, List.length_nil, List.map_cons, List.map_nil, List.cons_append, List.nil_append, List.append_nil, List.replicate_succ, List.replicate_zero, Nat.zero_add, Nat.reduceAdd, Nat.reduceSub, Nat.reduceLT, Nat.reduceLeDiff, Int.reduceLT, Int.reduceLE, Int.reduceAdd, Int.reduceSub, Int.reduceMul, Int.reduceNeg, decide_true, decide_false, Bool.not_true, Bool.not_false, reduceCtorEq, ↓reduceIte, and_self, and_true, true_and, if_true, if_false, Bool.false_eq_true, if_pos, if_neg, Int.reduceToNat, Int.toNat_zero, Int.toNat_one, Option.bind_some, Option.map_some, pAll, pAll_map, seqP_lst, seqP_tup, seqP_scr, vTup, vLst, vLstM, szLine_eq, vMet, isList, mApp, last_get, last_set, List.length_map, List.length_append, seeC, oIs, Option.map, vCmpD, itR1, r, g10, rng_itv0, e, kLst, itv_len]
theorem loutR_ok {lo hi : Int} (xs : List Int) (hx : xs.length ≤ 100000) (δ : Iv.Env) (s : Store) (hl : δ.length = 36) (g7 : δ[7]? = some (some (.p (.int lo)))) (g8 : δ[8]? = some (some (.p (.int hi)))) (g11 : δ[11]? = some (some (.p (.lst (xs.map .int))))) :
    vCmp (itA (vV 11)) (tvN 34) (bNot (tstB (vCh (oOrd .le) (oOrd .le) (vV 7) (vV 34) (vV 8)))) (vV 34) [34] δ s = .ok (.p (.lst ((xs.filter (outB lo hi)).map .int))) s := by
  have e := compL_gen (t := tvN 34) (c := bNot (tstB (vCh (oOrd .le) (oOrd .le) (vV 7) (vV 34) (vV 8)))) (e := vV 34) (δ0 := wipE δ [34]) (st := s) xs P.int (outB lo hi) P.int (fun k hk => by
    have k7 : ((wipE δ [34]).set 34 (some (.p (.int k))))[7]? = some (some (.p (.int lo))) := by simp [wipE, g7]
    have k8 : ((wipE δ [34]).set 34 (some (.p (.int k))))[8]? = some (some (.p (.int hi))) := by simp [wipE, g8]
    have k34 : ((wipE δ [34]).set 34 (some (D.p (.int k))))[34]? = some (some (.p (.int k))) := by simp [wipE, hl]
    refine ⟨_, rfl, ?_, fun _ => by simp (disch := omega) only [bnd_ok, bnd_exc, fnF, startE, sSeq, sIf, sAsg, sRet, sNx, sAug, sPar, sDo, sRaise, bOr, bAnd, bNot, bYes, tstB, v2, vV, vK, aC, aN, vCal, vU, vIf, vCh, vAnd, vFn, oIx, oAdd, oSub, oMul, oDiv, oMod, oNeg, see, seeC, fInt, fAbs_int, fMax_int, fMin_int, ordI_int, retF_same, excF_same, gvN, gvS, gvT, gsC, gsN, iAdd, L2.atI, L2.ixN, mulOk_l, mulOk_r, log_ok, le_t, le_f, lt_t, lt_f, gt_t, gt_f, ge_t, ge_f, List.getElem?_cons_zero, List.getElem?_cons_succ, List.set_cons_zero, List.set_cons_succ, List.length_cons, List.length_nil, List.map_cons, List.map_nil, List.cons_append, List.nil_append, List.append_nil, List.replicate_succ, List.replicate_zero, Nat.zero_add, Nat.reduceAdd, Nat.reduceSub, Nat.reduceLT, Nat.reduceLeDiff, Int.reduceLT, Int.reduceLE, Int.reduceAdd, Int.reduceSub, Int.reduceMul, Int.reduceNeg, decide_true, decide_false, Bool.not_true, Bool.not_false, reduceCtorEq, ↓reduceIte, and_self, and_true, true_and, if_true, if_false, Bool.false_eq_true, if_pos, if_neg, Int.reduceToNat, Int.toNat_zero, Int.toNat_one, Option.bind_some, Option.map_some, pAll, pAll_map, seqP_lst, seqP_tup, seqP_scr, vTup, vLst, vLstM, szLine_eq, vMet, isList, mApp, last_get, last_set, List.length_map, List.length_append, seeC, oIs, Option.map, k34]⟩
    by_cases c1 : lo ≤ k <;> by_cases c2 : k ≤ hi <;> simp (disch := omega) only [bnd_ok, bnd_exc, fnF, startE, sSeq, sIf, sAsg, sRet, sNx, sAug, sPar, sDo, sRaise, bOr, bAnd, bNot, bYes, tstB, v2, vV, vK, aC, aN, vCal, vU, vIf, vCh, vAnd, vFn, oIx, oAdd, oSub, oMul, oDiv, oMod, oNeg, see, seeC, fInt, fAbs_int, fMax_int, fMin_int, ordI_int, retF_same, excF_same, gvN, gvS, gvT, gsC, gsN, iAdd, L2.atI, L2.ixN, mulOk_l, mulOk_r, log_ok, le_t, le_f, lt_t, lt_f, gt_t, gt_f, ge_t, ge_f, List.getElem?_cons_zero, List.getElem?_cons_succ, List.set_cons_zero, List.set_cons_succ, List.length_cons, List.length_nil, List.map_cons, List.map_nil, List.cons_append, List.nil_append, List.append_nil, List.replicate_succ, List.replicate_zero, Nat.zero_add, Nat.reduceAdd, Nat.reduceSub, Nat.reduceLT, Nat.reduceLeDiff, Int.reduceLT, Int.reduceLE, Int.reduceAdd, Int.reduceSub, Int.reduceMul, Int.reduceNeg, decide_true, decide_false, Bool.not_true, Bool.not_false, reduceCtorEq, ↓reduceIte, and_self, and_true, true_and, if_true, if_false, Bool.false_eq_true, if_pos, if_neg, Int.reduceToNat, Int.toNat_zero, Int.toNat_one, Option.bind_some, Option.map_some, pAll, pAll_map, seqP_lst, seqP_tup, seqP_scr, vTup, vLst, vLstM, szLine_eq, vMet, isList, mApp, last_get, last_set, List.length_map, List.length_append, seeC, oIs, Option.map, k7, k8, k34, c1, c2, outB, Bool.and_true, Bool.and_false, Bool.false_and, Bool.true_and])
  simp (disch := omega) only [bnd_ok, bnd_exc, fnF, startE, sSeq, sIf, sAsg, sRet, sNx, sAug, sPar, sDo, sRaise, bOr, bAnd, bNot, bYes, tstB, v2, vV, vK, aC, aN, vCal, vU, vIf, vCh, vAnd, vFn, oIx, oAdd, oSub, oMul, oDiv, oMod, oNeg, see, seeC, fInt, fAbs_int, fMax_int, fMin_int, ordI_int, retF_same, excF_same, gvN, gvS, gvT, gsC, gsN, iAdd, L2.atI, L2.ixN, mulOk_l, mulOk_r, log_ok, le_t, le_f, lt_t, lt_f, gt_t, gt_f, ge_t, ge_f, List.getElem?_cons_zero, List.getElem?_cons_succ, List.set_cons_zero, List.set_cons_succ, List.length_cons, List.length_nil, List.map_cons, List.map_nil, List.cons_append, List.nil_append, List.append_nil, List.replicate_succ, List.replicate_zero, Nat.zero_add, Nat.reduceAdd, Nat.reduceSub, Nat.reduceLT, Nat.reduceLeDiff, Int.reduceLT, Int.reduceLE, Int.reduceAdd, Int.reduceSub, Int.reduceMul, Int.reduceNeg, decide_true, decide_false, Bool.not_true, Bool.not_false, reduceCtorEq, ↓reduceIte, and_self, and_true, true_and, if_true, if_false, Bool.false_eq_true, if_pos, if_neg, Int.reduceToNat, Int.toNat_zero, Int.toNat_one, Option.bind_some, Option.map_some, pAll, pAll_map, seqP_lst, seqP_tup, seqP_scr, vTup, vLst, vLstM, szLine_eq, vMet, isList, mApp, last_get, last_set, List.length_map, List.length_append, seeC, oIs, Option.map, vCmpD, itA, g11, e, kLst]
theorem loutG_ok {a b c d : Int} (xs : List Int) (hx : xs.length ≤ 100000) (δ : Iv.Env) (s : Store) (hl : δ.length = 36) (g4 : δ[4]? = some (some (.p (RU a b c d)))) (g12 : δ[12]? = some (some (.p (.lst (xs.map .int))))) :
    vCmp (itA (vV 12)) (tvN 35) (bNot (tstB (vCh (oOrd .le) (oOrd .le) (v2 oIx (vFld [2] "going" (vV 4)) (vK (.int 0))) (vV 35) (v2 oIx (vFld [2] "going" (vV 4)) (vK (.int 1)))))) (vV 35) [35] δ s = .ok (.p (.lst ((xs.filter (outB c d)).map .int))) s := by
  have e := compL_gen (t := tvN 35) (c := bNot (tstB (vCh (oOrd .le) (oOrd .le) (v2 oIx (vFld [2] "going" (vV 4)) (vK (.int 0))) (vV 35) (v2 oIx (vFld [2] "going" (vV 4)) (vK (.int 1)))))) (e := vV 35) (δ0 := wipE δ [35]) (st := s) xs P.int (outB c d) P.int (fun k hk => by
    have k4 : ((wipE δ [35]).set 35 (some (.p (.int k))))[4]? = some (some (.p (RU a b c d))) := by simp [wipE, g4]
    have k35 : ((wipE δ [35]).set 35 (some (D.p (.int k))))[35]? = some (some (.p (.int k))) := by simp [wipE, hl]
    refine ⟨_, rfl, ?_, fun _ => by simp (disch := omega) only [bnd_ok, bnd_exc, fnF, startE, sSeq, sIf, sAsg, sRet, sNx, sAug, sPar, sDo, sRaise, bOr, bAnd, bNot, bYes, tstB, v2, vV, vK, aC, aN, vCal, vU, vIf, vCh, vAnd, vFn, oIx, oAdd, oSub, oMul, oDiv, oMod, oNeg, see, seeC, fInt, fAbs_int, fMax_int, fMin_int, ordI_int, retF_same, excF_same, gvN, gvS, gvT, gsC, gsN, iAdd, L2.atI, L2.ixN, mulOk_l, mulOk_r, log_ok, le_t, le_f, lt_t, lt_f, gt_t, gt_f, ge_t, ge_f, List.getElem?_cons_zero, List.getElem?_cons_succ, List.set_cons_zero, List.set_cons_succ, List.length_cons, List.length_nil, List.map_cons, List.map_nil, List.cons_append, List.nil_append, List.append_nil, List.replicate_succ, List.replicate_zero, Nat.zero_add, Nat.reduceAdd, Nat.reduceSub, Nat.reduceLT, Nat.reduceLeDiff, Int.reduceLT, Int.reduceLE, Int.reduceAdd, Int.reduceSub, Int.reduceMul, Int.reduceNeg, decide_true, decide_false, Bool.not_true, Bool.not_false, reduceCtorEq, ↓reduceIte, and_self, and_true, true_and, if_true, if_false, Bool.false_eq_true, if_pos, if_neg, Int.reduceToNat, Int.toNat_zero, Int.toNat_one, Option.bind_some, Option.map_some, pAll, pAll_map, seqP_lst, seqP_tup, seqP_scr, vTup, vLst, vLstM, szLine_eq, vMet, isList, mApp, last_get, last_set, List.length_map, List.length_append, seeC, oIs, Option.map, k35]⟩
    by_cases c1 : c ≤ k <;> by_cases c2 : k ≤ d <;> simp (disch := omega) only [bnd_ok, bnd_exc, fnF, startE, sSeq, sIf, sAsg, sRet, sNx, sAug, sPar, sDo, sRaise, bOr, bAnd, bNot, bYes, tstB, v2, vV, vK, aC, aN, vCal, vU, vIf, vCh, vAnd, vFn, oIx, oAdd, oSub, oMul, oDiv, oMod, oNeg, see, seeC, fInt, fAbs_int, fMax_int, fMin_int, ordI_int, retF_same, excF_same, gvN, gvS, gvT, gsC, gsN, iAdd, L2.atI, L2.ixN, mulOk_l, mulOk_r, log_ok, le_t, le_f, lt_t, lt_f, gt_t, gt_f, ge_t, ge_f, List.getElem?_cons_zero, List.getElem?_cons_succ, List.set_cons_zero, List.set_cons_succ, List.length_cons, List.length_nil, List.map_cons, List.map_nil, List.cons_append, List.nil_append, List.append_nil, List.replicate_succ, List.replicate_zero, Nat.zero_add, Nat.reduceAdd, Nat.reduceSub, Nat.reduceLT, Nat.reduceLeDiff, Int.reduceLT, Int.reduceLE, Int.reduceAdd, Int.reduceSub, Int.reduceMul, Int.reduceNeg, decide_true, decide_false, Bool.not_true, Bool.not_false, reduceCtorEq, ↓reduceIte, and_self, and_true, true_and, if_true, if_false, Bool.false_eq_true, if_pos, if_neg, Int.reduceToNat, Int.toNat_zero, Int.toNat_one, Option.bind_some, Option.map_some, pAll, pAll_map, seqP_lst, seqP_tup, seqP_scr, vTup, vLst, vLstM, szLine_eq, vMet, isList, mApp, last_get, last_set, List.length_map, List.length_append, seeC, oIs, Option.map, k4, k35, vFld, ru_going, c1, c2, outB, Bool.and_true, Bool.and_false, Bool.false_and, Bool.true_and])
  simp (disch := omega) only [bnd_ok, bnd_exc, fnF, startE, sSeq, sIf, sAsg, sRet, sNx, sAug, sPar, sDo, sRaise, bOr, bAnd, bNot, bYes, tstB, v2, vV, vK, aC, aN, vCal, vU, vIf, vCh, vAnd, vFn, oIx, oAdd, oSub, oMul, oDiv, oMod, oNeg, see, seeC, fInt, fAbs_int, fMax_int, fMin_int, ordI_int, retF_same, excF_same, gvN, gvS, gvT, gsC, gsN, iAdd, L2.atI, L2.ixN, mulOk_l, mulOk_r, log_ok, le_t, le_f, lt_t, lt_f, gt_t, gt_f, ge_t, ge_f, List.getElem?_cons_zero, List.getElem?_cons_succ, List.set_cons_zero, List.set_cons_succ, List.length_cons, List.length_nil, List.map_cons, List.map_nil, List.cons_append, List.nil_append, List.append_nil, List.replicate_succ, List.replicate_zero, Nat.zero_add, Nat.reduceAdd, Nat.reduceSub, Nat.reduceLT, Nat.reduceLeDiff, Int.reduceLT, Int.reduceLE, Int.reduceAdd, Int.reduceSub, Int.reduceMul, Int.reduceNeg, decide_true, decide_false, Bool.not_true, Bool.not_false, reduceCtorEq, ↓reduceIte, and_self, and_true, true_and, if_true, if_false, Bool.false_eq_true, if_pos, if_neg, Int.reduceToNat, Int.toNat_zero, Int.toNat_one, Option.bind_some, Option.map_some, pAll, pAll_map, seqP_lst, seqP_tup, seqP_scr, vTup, vLst, vLstM, szLine_eq, vMet, isList, mApp, last_get, last_set, List.length_map, List.length_append, seeC, oIs, Option.map, vCmpD, itA, g12, e, kLst]
end

section
set_option linter.all false
set_option maxHeartbeats 4100000
set_option maxRecDepth 10000
open PySem L2 Iv K09
def T_1 : Sv := sPar 2 3 (aC (v2 oAdd (vK (.int 1)) (vFn f__law_roll (aC (vV 1) (aC (vK (.int 200)) (aN))) [])) (aC (v2 oAdd (vK (.int 1)) (vFn f__law_roll (aC (vV 1) (aC (vK (.int 300)) (aN))) [])) (aN)))
def T_2 : Sv := sAsg (vMake 2 f_Rules___init__ false (aC (vTup (aC (vV 2) (aC (v2 oAdd (vV 2) (vFn f__law_roll (aC (vV 1) (aC (vK (.int 60)) (aN))) [])) (aN)))) (aC (vTup (aC (vV 3) (aC (v2 oAdd (vV 3) (vFn f__law_roll (aC (vV 1) (aC (vK (.int 100)) (aN))) [])) (aN)))) (aN))) []) (gvN 4)
def T_3 : Sv := sAsg (vTup (aC (v2 oAdd (vK (.int 1)) (vFn f__law_roll (aC (vV 1) (aC (vK (.int 400)) (aN))) [])) (aC (v2 oAdd (vK (.int 1)) (vFn f__law_roll (aC (vV 1) (aC (vK (.int 800)) (aN))) [])) (aN)))) (gvT 2 (gsC (gvN 5) (gsC (gvN 6) (gsN))))
def T_4 : Sv := sAsg (vFld [2] "rise" (vV 4)) (gvT 2 (gsC (gvN 7) (gsC (gvN 8) (gsN))))
def T_5 : Sv := sIf (tstB (v2 (oEq true) (vCal fList (aC (vMeth 2 "steps_for" f_Rules_steps_for (vV 4) (aC (vV 5) (aN)) []) (aN))) (vCmp (itR2 (aC (vK (.int 1)) (aC (v2 oAdd (vV 5) (vK (.int 1))) (aN)))) (tvN 10) (tstB (vCh (oOrd .le) (oOrd .le) (v2 oMul (vV 7) (vV 10)) (vV 5) (v2 oMul (vV 8) (vV 10)))) (vV 10) [10]))) (sRet (vK (.bl false))) (sNx)
def T_6 : Sv := sAsg (vLst (aN)) (gvN 9)
def U_1 : Sv := sAsg (vCmp (itR1 (aC (vV 10) (aN))) (tvN 30) (bYes) (v2 oAdd (v2 oDiv (vV 5) (vV 10)) (vCal fInt (aC (v2 (oOrd .lt) (vV 30) (v2 oMod (vV 5) (vV 10))) (aN)))) [30]) (gvN 11)
def U_2 : Sv := sAsg (vIf (tstB (v2 (oOrd .gt) (vV 10) (vK (.int 1)))) (vCmp (itR1 (aC (v2 oSub (vV 10) (vK (.int 1))) (aN))) (tvN 30) (bYes) (v2 oAdd (v2 oDiv (vV 6) (v2 oSub (vV 10) (vK (.int 1)))) (vCal fInt (aC (v2 (oOrd .lt) (vV 30) (v2 oMod (vV 6) (v2 oSub (vV 10) (vK (.int 1))))) (aN)))) [30]) (vLst (aN))) (gvN 12)
def U_3 : Sv := sAsg (v2 (oEq false) (vCmp (itA (vV 12)) (tvN 35) (bNot (tstB (vCh (oOrd .le) (oOrd .le) (v2 oIx (vFld [2] "going" (vV 4)) (vK (.int 0))) (vV 35) (v2 oIx (vFld [2] "going" (vV 4)) (vK (.int 1)))))) (vV 35) [35]) (vLst (aN))) (gvN 13)
def U_4 : Sv := sAsg (vTup (aC (vIf (tstB (v2 (oEq true) (vV 12) (vLst (aN)))) (vCal (fBest false) (aC (vV 12) (aN))) (vK (.int 0))) (aC (vIf (tstB (v2 (oOrd .gt) (vV 10) (vK (.int 1)))) (v2 oMod (vV 6) (v2 oSub (vV 10) (vK (.int 1)))) (vK (.int 0))) (aN)))) (gvN 14)
def U_5 : Sv := sIf (tstB (v2 (oEq true) (vMeth 2 "goings_for" f_Rules_goings_for (vV 4) (aC (vV 6) (aC (vV 10) (aN))) []) (vIf (tstB (vV 13)) (vV 14) (vK .non)))) (sRet (vK (.bl false))) (sNx)
def U_6 : Sv := sAsg (v2 oAdd (vV 9) (v2 oMul (vLst (aC (vTup (aC (vCal fAbs (aC (v2 oSub (v2 oAdd (v2 oMul (vK (.int 2)) (vCal (fBest false) (aC (vV 11) (aN)))) (v2 oIx (vV 14) (vK (.int 0)))) (vK (.int 630))) (aN))) (aC (vV 10) (aC (v2 oAdd (vTup (aC (vV 10) (aC (vCal (fBest false) (aC (vV 11) (aN))) (aC (v2 oMod (vV 5) (vV 10)) (aN))))) (vV 14)) (aN))))) (aN))) (vCal fInt (aC (vV 13) (aN))))) (gvN 9)
def uB : Sv := sSeq U_1 (sIf (tstB (v2 (oEq false) (vCmp (itA (vV 11)) (tvN 34) (bNot (tstB (vCh (oOrd .le) (oOrd .le) (vV 7) (vV 34) (vV 8)))) (vV 34) [34]) (vLst (aN)))) (sSeq U_2 (sSeq U_3 (sSeq U_4 (sSeq U_5 U_6)))) (sNx))
def T_7 : Sv := sForI (itA (vCmp (itR2 (aC (vK (.int 1)) (aC (v2 oAdd (vV 5) (vK (.int 1))) (aN)))) (tvN 10) (tstB (vCh (oOrd .le) (oOrd .le) (v2 oMul (vV 7) (vV 10)) (vV 5) (v2 oMul (vV 8) (vV 10)))) (vV 10) [10])) (gvN 10) uB
def T_8 : Sv := sAsg (vTold 1 "LoadError" (vMeth 2 "best" f_Rules_best (vV 4) (aC (vV 5) (aC (vV 6) (aN))) [])) (gvN 15)
def T_9 : Sv := sIf (tstB (v2 (oEq true) (vV 15) (vIf (tstB (v2 (oEq true) (vV 9) (vLst (aN)))) (v2 oIx (vCal (fBest false) (aC (vV 9) (aN))) (vK (.int 2))) (vK (.str "LoadError"))))) (sRet (vK (.bl false))) (sNx)
def V_1 : Sv := sAsg (vV 15) (gvT 5 (gsC (gvN 10) (gsC (gvN 16) (gsC (gvN 17) (gsC (gvN 18) (gsC (gvN 19) (gsN)))))))
def V_2 : Sv := sAsg (vCmp (itR1 (aC (vV 10) (aN))) (tvN 23) (bYes) (vCal fSum (aC (vCmp (itR1 (aC (v2 oAdd (vV 23) (vK (.int 1))) (aN))) (tvN 30) (bYes) (v2 oAdd (v2 oDiv (vV 5) (vV 10)) (vCal fInt (aC (v2 (oOrd .lt) (vV 30) (v2 oMod (vV 5) (vV 10))) (aN)))) [30]) (aN))) [23]) (gvN 20)
def V_3 : Sv := sPar 21 22 (aC (vLst (aC (vTup (aC (vK (.int 0)) (aC (vK (.int 0)) (aN)))) (aN))) (aC (vK (.int 0)) (aN)))
def W_4_1 : Sv := sAsg (v2 oAdd (vV 21) (vLst (aC (vTup (aC (vV 22) (aC (v2 oIx (vV 20) (vV 23)) (aN)))) (aN)))) (gvN 21)
def W_4_2 : Sv := sIf (tstB (v2 (oOrd .lt) (v2 oAdd (vV 23) (vK (.int 1))) (vV 10))) (sSeq (sAsg (v2 oAdd (v2 oAdd (vV 22) (vV 18)) (vCal fInt (aC (v2 (oOrd .lt) (vV 23) (vV 19)) (aN)))) (gvN 22)) (sAsg (v2 oAdd (vV 21) (vLst (aC (vTup (aC (vV 22) (aC (v2 oIx (vV 20) (vV 23)) (aN)))) (aN)))) (gvN 21))) (sNx)
def V_4 : Sv := sForI (itR1 (aC (vV 10) (aN))) (gvN 23) (sSeq W_4_1 (W_4_2))
def V_5 : Sv := sIf (bOr (tstB (v2 (oEq true) (vCal fList (aC (vFn f_heights (aC (vV 10) (aC (vV 16) (aC (vV 17) (aN)))) []) (aN))) (vV 20))) (bOr (tstB (v2 (oEq true) (vCal fList (aC (vFn f_edges_of (aC (vV 10) (aC (vV 16) (aC (vV 17) (aC (vV 18) (aC (vV 19) (aN)))))) []) (aN))) (vV 21))) (tstB (v2 (oEq true) (v2 oIx (vV 21) (v2 oSub (vCal fLen (aC (vV 21) (aN))) (vK (.int 1)))) (vTup (aC (vIf (tstB (v2 (oOrd .gt) (vV 10) (vK (.int 1)))) (vV 6) (vK (.int 0))) (aC (vV 5) (aN)))))))) (sRet (vK (.bl false))) (sNx)
def V_6 : Sv := sAsg (vFn f__law_roll (aC (vV 1) (aC (v2 oAdd (vV 6) (vK (.int 10))) (aN))) []) (gvN 24)
def V_7 : Sv := sAsg (vTup (aC (v2 oAdd (v2 oAdd (vV 24) (vK (.int 1))) (vFn f__law_roll (aC (vV 1) (aC (vK (.int 500)) (aN))) [])) (aC (v2 oAdd (vV 5) (vFn f__law_roll (aC (vV 1) (aC (vK (.int 3000)) (aN))) [])) (aN)))) (gvT 2 (gsC (gvN 25) (gsC (gvN 26) (gsN))))
def V_8 : Sv := sAsg (vCmp (itZ (aC (vV 21) (aC (vSl (vV 21) (poS (vK (.int 1))) (poN)) (aN)))) (tvT 2 (tsC (tvN 31) (tsC (tvN 32) (tsN)))) (bAnd (tstB (v2 (oEq false) (v2 oIx (vV 31) (vK (.int 1))) (v2 oIx (vV 32) (vK (.int 1))))) (tstB (v2 (oOrd .lt) (vCal (fBest true) (aC (v2 oIx (vV 31) (vK (.int 0))) (aC (vV 24) (aN)))) (vCal (fBest false) (aC (v2 oIx (vV 32) (vK (.int 0))) (aC (vV 25) (aN))))))) (v2 oSub (vV 26) (v2 oIx (vV 31) (vK (.int 1)))) [31, 32]) (gvN 27)
def V_9 : Sv := sIf (tstB (v2 (oEq true) (vFn f_headroom (aC (vV 21) (aC (vV 24) (aC (vV 25) (aC (vV 26) (aN))))) []) (vIf (tstB (v2 (oEq true) (vV 27) (vLst (aN)))) (vCal (fBest false) (aC (vV 27) (aN))) (vK .non)))) (sRet (vK (.bl false))) (sNx)
def vB : Sv := sSeq V_1 (sSeq V_2 (sSeq V_3 (sSeq V_4 (sSeq V_5 (sSeq V_6 (sSeq V_7 (sSeq V_8 (V_9))))))))
def T_10 : Sv := sIf (tstB (v2 (oEq true) (vV 9) (vLst (aN)))) vB (sNx)
def b_round : Sv := sSeq T_1 (sSeq T_2 (sSeq T_3 (sSeq T_4 (sSeq T_5 (sSeq T_6 (sSeq T_7 (sSeq T_8 (sSeq T_9 (T_10)))))))))
def E_1 : Sv := sAsg (vMake 2 f_Rules___init__ false (aC (vTup (aC (vK (.int 150)) (aC (vK (.int 200)) (aN)))) (aC (vTup (aC (vK (.int 220)) (aC (vK (.int 320)) (aN)))) (aN))) []) (gvN 28)
def E_2 : Sv := sAsg (vLst (aC (vK (.lam 0)) (aC (vK (.lam 1)) (aC (vK (.lam 2)) (aC (vK (.lam 3)) (aC (vK (.lam 4)) (aN))))))) (gvN 29)
def E_3 : Sv := sRet (vAnd (v2 (oEq false) (vCmp (itA (vV 29)) (tvN 33) (tstB (v2 (oEq true) (vToldL 33 [33] 1 "LoadError" lams_law) (vK (.str "LoadError")))) (vK (.int 1)) [33]) (vLst (aN))) (vAnd (v2 (oEq false) (vMeth 2 "best" f_Rules_best (vV 28) (aC (vK (.int 2700)) (aC (vK (.int 4000)) (aN))) []) (vTup (aC (vK (.int 15)) (aC (vK (.int 180)) (aC (vK (.int 0)) (aC (vK (.int 285)) (aC (vK (.int 10)) (aN)))))))) (vAnd (v2 (oEq false) (vK (.int 630)) (vK (.int 630))) (vAnd (vMeth 2 "rises_fit" f_Rules_rises_fit (vV 28) (aC (vK (.int 300)) (aC (vK (.int 2)) (aN))) []) (vAnd (vNot (vMeth 2 "rises_fit" f_Rules_rises_fit (vV 28) (aC (vK (.int 401)) (aC (vK (.int 2)) (aN))) [])) (v2 (oIs false) (vFn f_headroom (aC (vLst (aN)) (aC (vK (.int 1)) (aC (vK (.int 2)) (aC (vK (.int 5)) (aN))))) []) (vK .non)))))))
def b_end : Sv := sSeq E_1 (sSeq E_2 E_3)
theorem b_law_eq : b_law = sSeq (sForI (itA (vFn f__law_rounds (aC (vV 0) (aC (vK (.int 1)) (aN))) [])) (gvN 1) b_round) b_end := rfl
abbrev I (i : Int) : Option D := some (.p (.int i))
def encS (x : Rw) : P := .tup [.int x.far, .int x.m, enc5 x]
def stairs (xs : List Rw) : Option D := some (.p (.lst (xs.map encS)))
def addO (xs : List Rw) (o : Option Rw) : List Rw := match o with
  | none => xs
  | some x => xs ++ [x]
theorem isE {xs : List Int} : ((xs.map P.int).isEmpty) = xs.isEmpty := by cases xs <;> rfl
theorem due_ok (c d l m : Int) (hm : 0 < m) (hm2 : m ≤ 100000) : ∃ tr : List Int, ∃ du : Int × Int, tr.length ≤ 100000 ∧
    (∀ (δ : Iv.Env) (s : Store), δ.length = 36 → δ[6]? = some (some (.p (.int l))) → δ[10]? = some (some (.p (.int m))) →
      vIf (tstB (v2 (oOrd .gt) (vV 10) (vK (.int 1)))) (vCmp (itR1 (aC (v2 oSub (vV 10) (vK (.int 1))) (aN))) (tvN 30) (bYes) (v2 oAdd (v2 oDiv (vV 6) (v2 oSub (vV 10) (vK (.int 1)))) (vCal fInt (aC (v2 (oOrd .lt) (vV 30) (v2 oMod (vV 6) (v2 oSub (vV 10) (vK (.int 1))))) (aN)))) [30]) (vLst (aN)) δ s = .ok (.p (.lst (tr.map .int))) s) ∧
    (∀ (δ : Iv.Env) (s : Store), δ.length = 36 → δ[6]? = some (some (.p (.int l))) → δ[10]? = some (some (.p (.int m))) → δ[12]? = some (some (.p (.lst (tr.map .int)))) →
      vTup (aC (vIf (tstB (v2 (oEq true) (vV 12) (vLst (aN)))) (vCal (fBest false) (aC (vV 12) (aN))) (vK (.int 0))) (aC (vIf (tstB (v2 (oOrd .gt) (vV 10) (vK (.int 1)))) (v2 oMod (vV 6) (v2 oSub (vV 10) (vK (.int 1)))) (vK (.int 0))) (aN))) δ s = .ok (.p (.tup [.int du.1, .int du.2])) s) ∧
    goP c d l m = (if (tr.filter (outB c d)).isEmpty = true then some du else none) := by
  by_cases h1 : m = 1
  · subst h1
    refine ⟨[], (0, 0), by simp, ?_, ?_, by simp [goP]⟩
    · intro δ s hl g6 g10
      simp (disch := omega) only [bnd_ok, bnd_exc, fnF, startE, sSeq, sIf, sAsg, sRet, sNx, sAug, sPar, sDo, sRaise, bOr, bAnd, bNot, bYes, tstB, v2, vV, vK, aC, aN, vCal, vU, vIf, vCh, vAnd, vFn, oIx, oAdd, oSub, oMul, oDiv, oMod, oNeg, see, seeC, fInt, fAbs_int, fMax_int, fMin_int, ordI_int, retF_same, excF_same, gvN, gvS, gvT, gsC, gsN, iAdd, L2.atI, L2.ixN, mulOk_l, mulOk_r, log_ok, le_t, le_f, lt_t, lt_f, gt_t, gt_f, ge_t, ge_f, List.getElem?_cons_zero, List.getElem?_cons_succ, List.set_cons_zero, List.set_cons_succ, List.length_cons, List.length_nil, List.map_cons, List.map_nil, List.cons_append, List.nil_append, List.append_nil, List.replicate_succ, List.replicate_zero, Nat.zero_add, Nat.reduceAdd, Nat.reduceSub, Nat.reduceLT, Nat.reduceLeDiff, Int.reduceLT, Int.reduceLE, Int.reduceAdd, Int.reduceSub, Int.reduceMul, Int.reduceNeg, decide_true, decide_false, Bool.not_true, Bool.not_false, reduceCtorEq, ↓reduceIte, and_self, and_true, true_and, if_true, if_false, Bool.false_eq_true, if_pos, if_neg, Int.reduceToNat, Int.toNat_zero, Int.toNat_one, Option.bind_some, Option.map_some, pAll, pAll_map, seqP_lst, seqP_tup, seqP_scr, vTup, vLst, vLstM, szLine_eq, vMet, isList, mApp, last_get, last_set, List.length_map, List.length_append, seeC, oIs, Option.map, g6, g10]
    · intro δ s hl g6 g10 g12
      have pn : pEq (.lst []) (.lst []) = some true := pEq_self rfl
      simp (disch := omega) only [bnd_ok, bnd_exc, fnF, startE, sSeq, sIf, sAsg, sRet, sNx, sAug, sPar, sDo, sRaise, bOr, bAnd, bNot, bYes, tstB, v2, vV, vK, aC, aN, vCal, vU, vIf, vCh, vAnd, vFn, oIx, oAdd, oSub, oMul, oDiv, oMod, oNeg, see, seeC, fInt, fAbs_int, fMax_int, fMin_int, ordI_int, retF_same, excF_same, gvN, gvS, gvT, gsC, gsN, iAdd, L2.atI, L2.ixN, mulOk_l, mulOk_r, log_ok, le_t, le_f, lt_t, lt_f, gt_t, gt_f, ge_t, ge_f, List.getElem?_cons_zero, List.getElem?_cons_succ, List.set_cons_zero, List.set_cons_succ, List.length_cons, List.length_nil, List.map_cons, List.map_nil, List.cons_append, List.nil_append, List.append_nil, List.replicate_succ, List.replicate_zero, Nat.zero_add, Nat.reduceAdd, Nat.reduceSub, Nat.reduceLT, Nat.reduceLeDiff, Int.reduceLT, Int.reduceLE, Int.reduceAdd, Int.reduceSub, Int.reduceMul, Int.reduceNeg, decide_true, decide_false, Bool.not_true, Bool.not_false, reduceCtorEq, ↓reduceIte, and_self, and_true, true_and, if_true, if_false, Bool.false_eq_true, if_pos, if_neg, Int.reduceToNat, Int.toNat_zero, Int.toNat_one, Option.bind_some, Option.map_some, pAll, pAll_map, seqP_lst, seqP_tup, seqP_scr, vTup, vLst, vLstM, szLine_eq, vMet, isList, mApp, last_get, last_set, List.length_map, List.length_append, seeC, oIs, Option.map, g6, g10, g12, oEq, pn]
  · have h2 : 1 < m := by omega
    refine ⟨partsL l (m - 1), (l / (m - 1), l % (m - 1)), ?_, ?_, ?_, ?_⟩
    · unfold partsL; rw [List.length_map, itv_len]; omega
    · intro δ s hl g6 g10
      have q := ltreads_ok h2 hm2 δ s hl g6 g10
      simp (disch := omega) only [bnd_ok, bnd_exc, fnF, startE, sSeq, sIf, sAsg, sRet, sNx, sAug, sPar, sDo, sRaise, bOr, bAnd, bNot, bYes, tstB, v2, vV, vK, aC, aN, vCal, vU, vIf, vCh, vAnd, vFn, oIx, oAdd, oSub, oMul, oDiv, oMod, oNeg, see, seeC, fInt, fAbs_int, fMax_int, fMin_int, ordI_int, retF_same, excF_same, gvN, gvS, gvT, gsC, gsN, iAdd, L2.atI, L2.ixN, mulOk_l, mulOk_r, log_ok, le_t, le_f, lt_t, lt_f, gt_t, gt_f, ge_t, ge_f, List.getElem?_cons_zero, List.getElem?_cons_succ, List.set_cons_zero, List.set_cons_succ, List.length_cons, List.length_nil, List.map_cons, List.map_nil, List.cons_append, List.nil_append, List.append_nil, List.replicate_succ, List.replicate_zero, Nat.zero_add, Nat.reduceAdd, Nat.reduceSub, Nat.reduceLT, Nat.reduceLeDiff, Int.reduceLT, Int.reduceLE, Int.reduceAdd, Int.reduceSub, Int.reduceMul, Int.reduceNeg, decide_true, decide_false, Bool.not_true, Bool.not_false, reduceCtorEq, ↓reduceIte, and_self, and_true, true_and, if_true, if_false, Bool.false_eq_true, if_pos, if_neg, Int.reduceToNat, Int.toNat_zero, Int.toNat_one, Option.bind_some, Option.map_some, pAll, pAll_map, seqP_lst, seqP_tup, seqP_scr, vTup, vLst, vLstM, szLine_eq, vMet, isList, mApp, last_get, last_set, List.length_map, List.length_append, seeC, oIs, Option.map, g10, q]
    · intro δ s hl g6 g10 g12
      have ne := partsL_ne (x := l) (n := m - 1) (by omega)
      have pn := pEq_nil (xs := (partsL l (m - 1)).map P.int) (okDs_ints _ _)
      have ie : ((partsL l (m - 1)).map P.int).isEmpty = false := by cases h : partsL l (m - 1) with
        | nil => exact absurd h ne
        | cons _ _ => rfl
      rw [ie] at pn
      have mn := fMin_ints (d := .p (.lst ((partsL l (m - 1)).map P.int))) (s := s) (xs := partsL l (m - 1)) rfl rfl ne
      rw [partsL_min (by omega)] at mn
      simp (disch := omega) only [bnd_ok, bnd_exc, fnF, startE, sSeq, sIf, sAsg, sRet, sNx, sAug, sPar, sDo, sRaise, bOr, bAnd, bNot, bYes, tstB, v2, vV, vK, aC, aN, vCal, vU, vIf, vCh, vAnd, vFn, oIx, oAdd, oSub, oMul, oDiv, oMod, oNeg, see, seeC, fInt, fAbs_int, fMax_int, fMin_int, ordI_int, retF_same, excF_same, gvN, gvS, gvT, gsC, gsN, iAdd, L2.atI, L2.ixN, mulOk_l, mulOk_r, log_ok, le_t, le_f, lt_t, lt_f, gt_t, gt_f, ge_t, ge_f, List.getElem?_cons_zero, List.getElem?_cons_succ, List.set_cons_zero, List.set_cons_succ, List.length_cons, List.length_nil, List.map_cons, List.map_nil, List.cons_append, List.nil_append, List.append_nil, List.replicate_succ, List.replicate_zero, Nat.zero_add, Nat.reduceAdd, Nat.reduceSub, Nat.reduceLT, Nat.reduceLeDiff, Int.reduceLT, Int.reduceLE, Int.reduceAdd, Int.reduceSub, Int.reduceMul, Int.reduceNeg, decide_true, decide_false, Bool.not_true, Bool.not_false, reduceCtorEq, ↓reduceIte, and_self, and_true, true_and, if_true, if_false, Bool.false_eq_true, if_pos, if_neg, Int.reduceToNat, Int.toNat_zero, Int.toNat_one, Option.bind_some, Option.map_some, pAll, pAll_map, seqP_lst, seqP_tup, seqP_scr, vTup, vLst, vLstM, szLine_eq, vMet, isList, mApp, last_get, last_set, List.length_map, List.length_append, seeC, oIs, Option.map, g6, g10, g12, oEq, pn, mn]
    · rw [parts_fit (by omega)]
      unfold goP
      rw [if_neg h1]
      by_cases c1 : c ≤ l / (m - 1) <;> by_cases c2 : l / (m - 1) + one01 (l % (m - 1)) ≤ d <;> simp [c1, c2]
theorem uB_ok (sc o1 o2 o3 : Option D) (a b c d h l m : Int) (hm : 0 < m) (hm2 : m ≤ 100000) (xs : List Rw) (hx : xs.length ≤ 100000) (s : Store) (o11 o12 o13 o14 : Option D) (rest : List (Option D)) (hr : rest.length = 21) :
    ∃ p11 p12 p13 p14, uB (sc :: o1 :: o2 :: o3 :: some (.p (RU a b c d)) :: I h :: I l :: I a :: I b :: stairs xs :: I m :: o11 :: o12 :: o13 :: o14 :: rest) s =
      .nx (sc :: o1 :: o2 :: o3 :: some (.p (RU a b c d)) :: I h :: I l :: I a :: I b :: stairs (addO xs (rowOf a b c d h l m)) :: I m :: p11 :: p12 :: p13 :: p14 :: rest) s := by
  have q1 := lparts_ok (h := h) hm hm2 (sc :: o1 :: o2 :: o3 :: some (.p (RU a b c d)) :: I h :: I l :: I a :: I b :: stairs xs :: I m :: o11 :: o12 :: o13 :: o14 :: rest) s (by simp; omega) rfl rfl
  have f1 : U_1 (sc :: o1 :: o2 :: o3 :: some (.p (RU a b c d)) :: I h :: I l :: I a :: I b :: stairs xs :: I m :: o11 :: o12 :: o13 :: o14 :: rest) s = .nx (sc :: o1 :: o2 :: o3 :: some (.p (RU a b c d)) :: I h :: I l :: I a :: I b :: stairs xs :: I m :: some (.p (.lst ((partsL h m).map .int))) :: o12 :: o13 :: o14 :: rest) s := by simp (disch := omega) only [bnd_ok, bnd_exc, fnF, startE, sSeq, sIf, sAsg, sRet, sNx, sAug, sPar, sDo, sRaise, bOr, bAnd, bNot, bYes, tstB, v2, vV, vK, aC, aN, vCal, vU, vIf, vCh, vAnd, vFn, oIx, oAdd, oSub, oMul, oDiv, oMod, oNeg, see, seeC, fInt, fAbs_int, fMax_int, fMin_int, ordI_int, retF_same, excF_same, gvN, gvS, gvT, gsC, gsN, iAdd, L2.atI, L2.ixN, mulOk_l, mulOk_r, log_ok, le_t, le_f, lt_t, lt_f, gt_t, gt_f, ge_t, ge_f, List.getElem?_cons_zero, List.getElem?_cons_succ, List.set_cons_zero, List.set_cons_succ, List.length_cons, List.length_nil, List.map_cons, List.map_nil, List.cons_append, List.nil_append, List.append_nil, List.replicate_succ, List.replicate_zero, Nat.zero_add, Nat.reduceAdd, Nat.reduceSub, Nat.reduceLT, Nat.reduceLeDiff, Int.reduceLT, Int.reduceLE, Int.reduceAdd, Int.reduceSub, Int.reduceMul, Int.reduceNeg, decide_true, decide_false, Bool.not_true, Bool.not_false, reduceCtorEq, ↓reduceIte, and_self, and_true, true_and, if_true, if_false, Bool.false_eq_true, if_pos, if_neg, Int.reduceToNat, Int.toNat_zero, Int.toNat_one, Option.bind_some, Option.map_some, pAll, pAll_map, seqP_lst, seqP_tup, seqP_scr, vTup, vLst, vLstM, szLine_eq, vMet, isList, mApp, last_get, last_set, List.length_map, List.length_append, seeC, oIs, Option.map, U_1, q1]
  have pl : (partsL h m).length ≤ 100000 := by unfold partsL; rw [List.length_map, itv_len]; omega
  have q2 := loutR_ok (lo := a) (hi := b) (partsL h m) pl (sc :: o1 :: o2 :: o3 :: some (.p (RU a b c d)) :: I h :: I l :: I a :: I b :: stairs xs :: I m :: some (.p (.lst ((partsL h m).map .int))) :: o12 :: o13 :: o14 :: rest) s (by simp; omega) rfl rfl rfl
  have pn := pEq_nil (xs := ((partsL h m).filter (outB a b)).map P.int) (okDs_ints _ _)
  rw [isE, parts_fit hm] at pn
  have pn : pEq (.lst (((partsL h m).filter (outB a b)).map P.int)) (.lst []) = some (fitB a b h m) := pn
  unfold uB
  rw [seqn f1]
  unfold rowOf
  cases hf : fitB a b h m with
  | false =>
    rw [hf] at pn
    refine ⟨some (.p (.lst ((partsL h m).map .int))), o12, o13, o14, ?_⟩
    simp (disch := omega) only [bnd_ok, bnd_exc, fnF, startE, sSeq, sIf, sAsg, sRet, sNx, sAug, sPar, sDo, sRaise, bOr, bAnd, bNot, bYes, tstB, v2, vV, vK, aC, aN, vCal, vU, vIf, vCh, vAnd, vFn, oIx, oAdd, oSub, oMul, oDiv, oMod, oNeg, see, seeC, fInt, fAbs_int, fMax_int, fMin_int, ordI_int, retF_same, excF_same, gvN, gvS, gvT, gsC, gsN, iAdd, L2.atI, L2.ixN, mulOk_l, mulOk_r, log_ok, le_t, le_f, lt_t, lt_f, gt_t, gt_f, ge_t, ge_f, List.getElem?_cons_zero, List.getElem?_cons_succ, List.set_cons_zero, List.set_cons_succ, List.length_cons, List.length_nil, List.map_cons, List.map_nil, List.cons_append, List.nil_append, List.append_nil, List.replicate_succ, List.replicate_zero, Nat.zero_add, Nat.reduceAdd, Nat.reduceSub, Nat.reduceLT, Nat.reduceLeDiff, Int.reduceLT, Int.reduceLE, Int.reduceAdd, Int.reduceSub, Int.reduceMul, Int.reduceNeg, decide_true, decide_false, Bool.not_true, Bool.not_false, reduceCtorEq, ↓reduceIte, and_self, and_true, true_and, if_true, if_false, Bool.false_eq_true, if_pos, if_neg, Int.reduceToNat, Int.toNat_zero, Int.toNat_one, Option.bind_some, Option.map_some, pAll, pAll_map, seqP_lst, seqP_tup, seqP_scr, vTup, vLst, vLstM, szLine_eq, vMet, isList, mApp, last_get, last_set, List.length_map, List.length_append, seeC, oIs, Option.map, q2, oEq, pn, addO]
  | true =>
    rw [hf] at pn
    obtain ⟨tr, du, t0, t1, t2, t3⟩ := due_ok c d l m hm hm2
    have g := go_ok (a := a) (b := b) (c := c) (d := d) (l := l) s hm (by omega)
    have f2 : U_2 (sc :: o1 :: o2 :: o3 :: some (.p (RU a b c d)) :: I h :: I l :: I a :: I b :: stairs xs :: I m :: some (.p (.lst ((partsL h m).map .int))) :: o12 :: o13 :: o14 :: rest) s = .nx (sc :: o1 :: o2 :: o3 :: some (.p (RU a b c d)) :: I h :: I l :: I a :: I b :: stairs xs :: I m :: some (.p (.lst ((partsL h m).map .int))) :: some (.p (.lst (tr.map .int))) :: o13 :: o14 :: rest) s := by
      unfold U_2 sAsg
      rw [t1 _ s (by simp; omega) rfl rfl]
      rfl
    have q3 := loutG_ok (a := a) (b := b) (c := c) (d := d) tr t0 (sc :: o1 :: o2 :: o3 :: some (.p (RU a b c d)) :: I h :: I l :: I a :: I b :: stairs xs :: I m :: some (.p (.lst ((partsL h m).map .int))) :: some (.p (.lst (tr.map .int))) :: o13 :: o14 :: rest) s (by simp; omega) rfl rfl
    have pn2 := pEq_nil (xs := (tr.filter (outB c d)).map P.int) (okDs_ints _ _)
    rw [isE] at pn2
    have f3 : U_3 (sc :: o1 :: o2 :: o3 :: some (.p (RU a b c d)) :: I h :: I l :: I a :: I b :: stairs xs :: I m :: some (.p (.lst ((partsL h m).map .int))) :: some (.p (.lst (tr.map .int))) :: o13 :: o14 :: rest) s = .nx (sc :: o1 :: o2 :: o3 :: some (.p (RU a b c d)) :: I h :: I l :: I a :: I b :: stairs xs :: I m :: some (.p (.lst ((partsL h m).map .int))) :: some (.p (.lst (tr.map .int))) :: some (.p (.bl (tr.filter (outB c d)).isEmpty)) :: o14 :: rest) s := by
      simp (disch := omega) only [bnd_ok, bnd_exc, fnF, startE, sSeq, sIf, sAsg, sRet, sNx, sAug, sPar, sDo, sRaise, bOr, bAnd, bNot, bYes, tstB, v2, vV, vK, aC, aN, vCal, vU, vIf, vCh, vAnd, vFn, oIx, oAdd, oSub, oMul, oDiv, oMod, oNeg, see, seeC, fInt, fAbs_int, fMax_int, fMin_int, ordI_int, retF_same, excF_same, gvN, gvS, gvT, gsC, gsN, iAdd, L2.atI, L2.ixN, mulOk_l, mulOk_r, log_ok, le_t, le_f, lt_t, lt_f, gt_t, gt_f, ge_t, ge_f, List.getElem?_cons_zero, List.getElem?_cons_succ, List.set_cons_zero, List.set_cons_succ, List.length_cons, List.length_nil, List.map_cons, List.map_nil, List.cons_append, List.nil_append, List.append_nil, List.replicate_succ, List.replicate_zero, Nat.zero_add, Nat.reduceAdd, Nat.reduceSub, Nat.reduceLT, Nat.reduceLeDiff, Int.reduceLT, Int.reduceLE, Int.reduceAdd, Int.reduceSub, Int.reduceMul, Int.reduceNeg, decide_true, decide_false, Bool.not_true, Bool.not_false, reduceCtorEq, ↓reduceIte, and_self, and_true, true_and, if_true, if_false, Bool.false_eq_true, if_pos, if_neg, Int.reduceToNat, Int.toNat_zero, Int.toNat_one, Option.bind_some, Option.map_some, pAll, pAll_map, seqP_lst, seqP_tup, seqP_scr, vTup, vLst, vLstM, szLine_eq, vMet, isList, mApp, last_get, last_set, List.length_map, List.length_append, seeC, oIs, Option.map, U_3, q3, oEq, pn2]
    have f4 : U_4 (sc :: o1 :: o2 :: o3 :: some (.p (RU a b c d)) :: I h :: I l :: I a :: I b :: stairs xs :: I m :: some (.p (.lst ((partsL h m).map .int))) :: some (.p (.lst (tr.map .int))) :: some (.p (.bl (tr.filter (outB c d)).isEmpty)) :: o14 :: rest) s = .nx (sc :: o1 :: o2 :: o3 :: some (.p (RU a b c d)) :: I h :: I l :: I a :: I b :: stairs xs :: I m :: some (.p (.lst ((partsL h m).map .int))) :: some (.p (.lst (tr.map .int))) :: some (.p (.bl (tr.filter (outB c d)).isEmpty)) :: some (.p (.tup [.int du.1, .int du.2])) :: rest) s := by
      unfold U_4 sAsg
      rw [t2 _ s (by simp; omega) rfl rfl rfl]
      rfl
    rw [t3] at g ⊢
    have ne := partsL_ne (x := h) (n := m) hm
    have mn := fMin_ints (d := .p (.lst ((partsL h m).map P.int))) (s := s) (xs := partsL h m) rfl rfl ne
    rw [partsL_min hm] at mn
    refine ⟨some (.p (.lst ((partsL h m).map .int))), some (.p (.lst (tr.map .int))), some (.p (.bl (tr.filter (outB c d)).isEmpty)), some (.p (.tup [.int du.1, .int du.2])), ?_⟩
    simp (disch := omega) only [bnd_ok, bnd_exc, fnF, startE, sSeq, sIf, sAsg, sRet, sNx, sAug, sPar, sDo, sRaise, bOr, bAnd, bNot, bYes, tstB, v2, vV, vK, aC, aN, vCal, vU, vIf, vCh, vAnd, vFn, oIx, oAdd, oSub, oMul, oDiv, oMod, oNeg, see, seeC, fInt, fAbs_int, fMax_int, fMin_int, ordI_int, retF_same, excF_same, gvN, gvS, gvT, gsC, gsN, iAdd, L2.atI, L2.ixN, mulOk_l, mulOk_r, log_ok, le_t, le_f, lt_t, lt_f, gt_t, gt_f, ge_t, ge_f, List.getElem?_cons_zero, List.getElem?_cons_succ, List.set_cons_zero, List.set_cons_succ, List.length_cons, List.length_nil, List.map_cons, List.map_nil, List.cons_append, List.nil_append, List.append_nil, List.replicate_succ, List.replicate_zero, Nat.zero_add, Nat.reduceAdd, Nat.reduceSub, Nat.reduceLT, Nat.reduceLeDiff, Int.reduceLT, Int.reduceLE, Int.reduceAdd, Int.reduceSub, Int.reduceMul, Int.reduceNeg, decide_true, decide_false, Bool.not_true, Bool.not_false, reduceCtorEq, ↓reduceIte, and_self, and_true, true_and, if_true, if_false, Bool.false_eq_true, if_pos, if_neg, Int.reduceToNat, Int.toNat_zero, Int.toNat_one, Option.bind_some, Option.map_some, pAll, pAll_map, seqP_lst, seqP_tup, seqP_scr, vTup, vLst, vLstM, szLine_eq, vMet, isList, mApp, last_get, last_set, List.length_map, List.length_append, seeC, oIs, Option.map, q2, oEq, pn]
    have fx : ∀ k, sSeq U_2 (sSeq U_3 (sSeq U_4 k)) (sc :: o1 :: o2 :: o3 :: some (.p (RU a b c d)) :: I h :: I l :: I a :: I b :: stairs xs :: I m :: some (.p (.lst ((partsL h m).map .int))) :: o12 :: o13 :: o14 :: rest) s = k (sc :: o1 :: o2 :: o3 :: some (.p (RU a b c d)) :: I h :: I l :: I a :: I b :: stairs xs :: I m :: some (.p (.lst ((partsL h m).map .int))) :: some (.p (.lst (tr.map .int))) :: some (.p (.bl (tr.filter (outB c d)).isEmpty)) :: some (.p (.tup [.int du.1, .int du.2])) :: rest) s := fun k => by
      rw [seqn f2, seqn f3, seqn f4]
    have fx := fx (sSeq U_5 U_6)
    simp only [sSeq] at fx ⊢
    rw [fx]
    have p5 : pEq (.tup [.int du.1, .int du.2]) (.tup [.int du.1, .int du.2]) = some true := pEq_self rfl
    have p6 : pEq .non .non = some true := pEq_self rfl
    cases ht : (tr.filter (outB c d)).isEmpty with
    | true =>
      simp only [ht, if_true] at g ⊢
      simp (disch := omega) only [bnd_ok, bnd_exc, fnF, startE, sSeq, sIf, sAsg, sRet, sNx, sAug, sPar, sDo, sRaise, bOr, bAnd, bNot, bYes, tstB, v2, vV, vK, aC, aN, vCal, vU, vIf, vCh, vAnd, vFn, oIx, oAdd, oSub, oMul, oDiv, oMod, oNeg, see, seeC, fInt, fAbs_int, fMax_int, fMin_int, ordI_int, retF_same, excF_same, gvN, gvS, gvT, gsC, gsN, iAdd, L2.atI, L2.ixN, mulOk_l, mulOk_r, log_ok, le_t, le_f, lt_t, lt_f, gt_t, gt_f, ge_t, ge_f, List.getElem?_cons_zero, List.getElem?_cons_succ, List.set_cons_zero, List.set_cons_succ, List.length_cons, List.length_nil, List.map_cons, List.map_nil, List.cons_append, List.nil_append, List.append_nil, List.replicate_succ, List.replicate_zero, Nat.zero_add, Nat.reduceAdd, Nat.reduceSub, Nat.reduceLT, Nat.reduceLeDiff, Int.reduceLT, Int.reduceLE, Int.reduceAdd, Int.reduceSub, Int.reduceMul, Int.reduceNeg, decide_true, decide_false, Bool.not_true, Bool.not_false, reduceCtorEq, ↓reduceIte, and_self, and_true, true_and, if_true, if_false, Bool.false_eq_true, if_pos, if_neg, Int.reduceToNat, Int.toNat_zero, Int.toNat_one, Option.bind_some, Option.map_some, pAll, pAll_map, seqP_lst, seqP_tup, seqP_scr, vTup, vLst, vLstM, szLine_eq, vMet, isList, mApp, last_get, last_set, List.length_map, List.length_append, seeC, oIs, Option.map, U_5, vMeth, ru_goings, g, encG, oEq, p5, U_6, mn, stairs, addO, List.map_append, List.flatten_cons, List.flatten_nil, encS, enc5]
    | false =>
      simp only [ht, Bool.false_eq_true, if_false] at g ⊢
      simp (disch := omega) only [bnd_ok, bnd_exc, fnF, startE, sSeq, sIf, sAsg, sRet, sNx, sAug, sPar, sDo, sRaise, bOr, bAnd, bNot, bYes, tstB, v2, vV, vK, aC, aN, vCal, vU, vIf, vCh, vAnd, vFn, oIx, oAdd, oSub, oMul, oDiv, oMod, oNeg, see, seeC, fInt, fAbs_int, fMax_int, fMin_int, ordI_int, retF_same, excF_same, gvN, gvS, gvT, gsC, gsN, iAdd, L2.atI, L2.ixN, mulOk_l, mulOk_r, log_ok, le_t, le_f, lt_t, lt_f, gt_t, gt_f, ge_t, ge_f, List.getElem?_cons_zero, List.getElem?_cons_succ, List.set_cons_zero, List.set_cons_succ, List.length_cons, List.length_nil, List.map_cons, List.map_nil, List.cons_append, List.nil_append, List.append_nil, List.replicate_succ, List.replicate_zero, Nat.zero_add, Nat.reduceAdd, Nat.reduceSub, Nat.reduceLT, Nat.reduceLeDiff, Int.reduceLT, Int.reduceLE, Int.reduceAdd, Int.reduceSub, Int.reduceMul, Int.reduceNeg, decide_true, decide_false, Bool.not_true, Bool.not_false, reduceCtorEq, ↓reduceIte, and_self, and_true, true_and, if_true, if_false, Bool.false_eq_true, if_pos, if_neg, Int.reduceToNat, Int.toNat_zero, Int.toNat_one, Option.bind_some, Option.map_some, pAll, pAll_map, seqP_lst, seqP_tup, seqP_scr, vTup, vLst, vLstM, szLine_eq, vMet, isList, mApp, last_get, last_set, List.length_map, List.length_append, seeC, oIs, Option.map, U_5, vMeth, ru_goings, g, encG, oEq, p6, U_6, mn, stairs, addO, List.flatten_cons, List.flatten_nil]

theorem addO_fm (f : Int → Option Rw) (xs : List Int) (m : Int) : addO (xs.filterMap f) (f m) = (xs ++ [m]).filterMap f := by
  rw [List.filterMap_append]
  cases e : f m <;> simp [e, addO]
theorem T7_ok (sc o1 o2 o3 : Option D) (a b c d h l : Int) (ha : 0 < a) (ha2 : a ≤ 1000) (hb : 0 < b) (hb2 : b ≤ 1000) (h1 : 0 ≤ h) (h2 : h ≤ 10000) (s : Store) (o10 o11 o12 o13 o14 : Option D) (rest : List (Option D)) (hr : rest.length = 21) :
    ∃ p10 p11 p12 p13 p14, T_7 (sc :: o1 :: o2 :: o3 :: some (.p (RU a b c d)) :: I h :: I l :: I a :: I b :: stairs [] :: o10 :: o11 :: o12 :: o13 :: o14 :: rest) s =
      .nx (sc :: o1 :: o2 :: o3 :: some (.p (RU a b c d)) :: I h :: I l :: I a :: I b :: stairs (rowsL a b c d h l) :: p10 :: p11 :: p12 :: p13 :: p14 :: rest) s := by
  have q := lsteps_ok ha ha2 hb hb2 h1 (by omega) (sc :: o1 :: o2 :: o3 :: some (.p (RU a b c d)) :: I h :: I l :: I a :: I b :: stairs [] :: o10 :: o11 :: o12 :: o13 :: o14 :: rest) s (by simp; omega) rfl rfl rfl
  obtain ⟨δ', st', e, rfl, p10, p11, p12, p13, p14, rfl⟩ := for_data (t := gvN 10) (b := uB) (steps a b h) P.int
    (fun j δ st => st = s ∧ ∃ p10 p11 p12 p13 p14, δ = (sc :: o1 :: o2 :: o3 :: some (.p (RU a b c d)) :: I h :: I l :: I a :: I b :: stairs (((steps a b h).take j).filterMap (rowOf a b c d h l)) :: p10 :: p11 :: p12 :: p13 :: p14 :: rest))
    (δ := sc :: o1 :: o2 :: o3 :: some (.p (RU a b c d)) :: I h :: I l :: I a :: I b :: stairs [] :: o10 :: o11 :: o12 :: o13 :: o14 :: rest) (st := s) (by
      rintro j m δ st hj ⟨rfl, p10, p11, p12, p13, p14, rfl⟩
      have hm := itv_mem.mp (List.mem_filter.mp (List.mem_of_getElem? hj)).1
      have hlen : (((steps a b h).take j).filterMap (rowOf a b c d h l)).length ≤ 100000 := by
        refine Nat.le_trans (List.length_filterMap_le _ _) ?_
        rw [List.length_take]
        refine Nat.le_trans (Nat.min_le_right _ _) ?_
        refine Nat.le_trans (List.length_filter_le _ _) ?_
        rw [itv_len]; omega
      obtain ⟨y11, y12, y13, y14, e⟩ := uB_ok sc o1 o2 o3 a b c d h l m (by omega) (by omega) (((steps a b h).take j).filterMap (rowOf a b c d h l)) hlen st p11 p12 p13 p14 rest hr
      refine ⟨_, _, _, _, rfl, e, rfl, I m, y11, y12, y13, y14, ?_⟩
      rw [take_snoc hj, addO_fm]) ⟨rfl, o10, o11, o12, o13, o14, rfl⟩
  rw [List.take_length, show List.filterMap (rowOf a b c d h l) (steps a b h) = rowsL a b c d h l from rfl] at e
  refine ⟨p10, p11, p12, p13, p14, ?_⟩
  simp (disch := omega) only [bnd_ok, bnd_exc, fnF, startE, sSeq, sIf, sAsg, sRet, sNx, sAug, sPar, sDo, sRaise, bOr, bAnd, bNot, bYes, tstB, v2, vV, vK, aC, aN, vCal, vU, vIf, vCh, vAnd, vFn, oIx, oAdd, oSub, oMul, oDiv, oMod, oNeg, see, seeC, fInt, fAbs_int, fMax_int, fMin_int, ordI_int, retF_same, excF_same, gvN, gvS, gvT, gsC, gsN, iAdd, L2.atI, L2.ixN, mulOk_l, mulOk_r, log_ok, le_t, le_f, lt_t, lt_f, gt_t, gt_f, ge_t, ge_f, List.getElem?_cons_zero, List.getElem?_cons_succ, List.set_cons_zero, List.set_cons_succ, List.length_cons, List.length_nil, List.map_cons, List.map_nil, List.cons_append, List.nil_append, List.append_nil, List.replicate_succ, List.replicate_zero, Nat.zero_add, Nat.reduceAdd, Nat.reduceSub, Nat.reduceLT, Nat.reduceLeDiff, Int.reduceLT, Int.reduceLE, Int.reduceAdd, Int.reduceSub, Int.reduceMul, Int.reduceNeg, decide_true, decide_false, Bool.not_true, Bool.not_false, reduceCtorEq, ↓reduceIte, and_self, and_true, true_and, if_true, if_false, Bool.false_eq_true, if_pos, if_neg, Int.reduceToNat, Int.toNat_zero, Int.toNat_one, Option.bind_some, Option.map_some, pAll, pAll_map, seqP_lst, seqP_tup, seqP_scr, vTup, vLst, vLstM, szLine_eq, vMet, isList, mApp, last_get, last_set, List.length_map, List.length_append, seeC, oIs, Option.map, T_7, sForI, itA, q, e]
end

section
set_option linter.all false
set_option maxHeartbeats 4100000
set_option maxRecDepth 10000
open PySem L2 Iv K09
theorem ilt (x y : Int) : PyProof.Rows.itemOrd.blt (Sum.inl x) (Sum.inl y) = decide (x < y) := rfl
theorem lt_encS (x y : Rw) (h : x.m < y.m) : PySem.W.dataLt (encS y).toD (encS x).toD = decide (y.far < x.far) := by
  have h1 : ¬ (y.m < x.m) := by omega
  unfold encS enc5
  simp only [P.toD, P.toDs, PySem.W.dataLt_tuple, PySem.W.keyToksAll, PySem.W.keyToks, List.cons_append, List.nil_append]
  show (decide ((1 : Int) < 1) || (!decide ((1 : Int) < 1) && (decide (y.far < x.far) || (!decide (x.far < y.far) && (decide ((1 : Int) < 1) || (!decide ((1 : Int) < 1) && (decide (y.m < x.m) || (!decide (x.m < y.m) && _)))))))) = _
  simp [h, h1]
theorem fold_min2 : ∀ (xs : List Rw) (a : Rw), (∀ y ∈ xs, a.m < y.m) → xs.Pairwise (fun x y => x.m < y.m) → ∃ b, bestP false (encS a) (xs.map encS) = encS b ∧ xs.foldl (pick nf) (some a) = some b
  | [], a, _, _ => ⟨a, rfl, rfl⟩
  | y :: ys, a, h1, h2 => by
    have h3 := h1 y (List.mem_cons_self ..)
    have h4 := List.pairwise_cons.mp h2
    have e := lt_encS a y h3
    by_cases c : y.far < a.far
    · obtain ⟨b, q1, q2⟩ := fold_min2 ys y h4.1 h4.2
      refine ⟨b, ?_, ?_⟩
      · unfold bestP at q1 ⊢
        rw [List.map_cons, List.foldl_cons]
        simp only [Bool.false_eq_true, if_false, e, c, decide_true, if_true]
        simpa using q1
      · rw [List.foldl_cons, ← q2]
        unfold pick
        simp only [(nf_lt a y).mpr c, if_true]
    · obtain ⟨b, q1, q2⟩ := fold_min2 ys a (fun z hz => h1 z (List.mem_cons_of_mem _ hz)) h4.2
      refine ⟨b, ?_, ?_⟩
      · unfold bestP at q1 ⊢
        rw [List.map_cons, List.foldl_cons]
        simp only [Bool.false_eq_true, if_false, e, c, decide_false]
        simpa using q1
      · rw [List.foldl_cons, ← q2]
        unfold pick
        have : ¬ nf a < nf y := fun z => c ((nf_lt a y).mp z)
        simp only [this, if_false]
theorem okS (n : Nat) (hn : 2 ≤ n) (x : Rw) : okD n (encS x) = true := by
  match n, hn with
  | n + 2, _ => rfl
theorem alikeS (xs : List Rw) : alikeP (xs.map encS) = true := by
  unfold alikeP
  rw [List.all_map, List.all_eq_true]
  intro x hx
  have h1 : SeqAt.shaped (encS x).toD = true := okD_shaped (n := 60) (by decide) (okS _ (by decide) x)
  simp only [Function.comp, h1, Bool.true_and, Bool.and_eq_true]
  refine ⟨rfl, ?_⟩
  rw [List.all_map, List.all_eq_true]
  intro y hy
  rfl
theorem fMin_stairs (xs : List Rw) (x : Rw) (h : amax nf xs = some x) (hp : xs.Pairwise (fun x y => x.m < y.m)) (s : Store) : fBest false [.p (.lst (xs.map encS))] s = .ok (.p (encS x)) s := by
  cases xs with
  | nil => cases h
  | cons a ys =>
    have h4 := List.pairwise_cons.mp hp
    obtain ⟨b, q1, q2⟩ := fold_min2 ys a h4.1 h4.2
    have e : amax nf (a :: ys) = some b := by
      unfold amax
      rw [List.foldl_cons]
      exact q2
    rw [h] at e
    cases e
    have al := alikeS (a :: ys)
    rw [List.map_cons] at al ⊢
    unfold fBest
    simp only [see, seqP_lst, al, if_true, q1]
theorem itv_pw (lo : Int) : ∀ n, (itv lo n).Pairwise (· < ·)
  | 0 => List.Pairwise.nil
  | n + 1 => by
    rw [itv_succ, List.pairwise_append]
    refine ⟨itv_pw lo n, List.pairwise_singleton _ _, fun x hx y hy => ?_⟩
    have := itv_mem.mp hx
    rw [List.mem_singleton.mp hy]
    omega
theorem rowOf_m {a b c d h l m : Int} {x : Rw} (e : rowOf a b c d h l m = some x) : x.m = m := by
  unfold rowOf at e
  split at e
  · cases hg : goP c d l m with
    | none => rw [hg] at e; cases e
    | some g => rw [hg] at e; cases e; rfl
  · cases e
theorem rows_pw (a b c d h l : Int) : (rowsL a b c d h l).Pairwise (fun x y => x.m < y.m) := by
  unfold rowsL
  rw [List.pairwise_filterMap]
  have : (steps a b h).Pairwise (· < ·) := (itv_pw 1 _).filter _
  refine this.imp fun hxy x hx y hy => ?_
  rw [rowOf_m hx, rowOf_m hy]
  exact hxy
theorem rows_mem {a b c d h l : Int} {x : Rw} (hx : x ∈ rowsL a b c d h l) : ∃ m, m ∈ steps a b h ∧ rowOf a b c d h l m = some x := by
  unfold rowsL at hx
  obtain ⟨m, h1, h2⟩ := List.mem_filterMap.mp hx
  exact ⟨m, h1, h2⟩
end

section
set_option linter.all false
set_option maxHeartbeats 4100000
set_option maxRecDepth 10000
open PySem L2 Iv K09
def cum (q r : Int) (j : Nat) : Int := j * q + (if (j : Int) ≤ r then (j : Int) else r)
theorem cum_zero {q r : Int} (hr : 0 ≤ r) : cum q r 0 = 0 := by unfold cum; simp [hr]
theorem cum_succ {q r : Int} (hr : 0 ≤ r) (j : Nat) : cum q r (j + 1) = cum q r j + (q + (if (j : Int) < r then 1 else 0)) := by
  unfold cum
  have : ((j + 1 : Nat) : Int) * q = j * q + q := by push_cast; grind
  rw [this]
  split <;> split <;> split <;> omega
theorem cum_bnd {q r : Int} (hq : 0 ≤ q) (hq2 : q ≤ 1000000) (hr : 0 ≤ r) (j : Nat) (hj : j ≤ 100000) : 0 ≤ cum q r j ∧ cum q r j ≤ 1000000000000 := by
  have h1 : 0 ≤ (j : Int) * q := Int.mul_nonneg (by omega) hq
  have h2 : (j : Int) * q ≤ 100000 * 1000000 := Int.mul_le_mul (by omega) hq2 hq (by omega)
  unfold cum
  split <;> omega
def tops (q r : Int) (n : Nat) : List Int := (List.range n).map fun j => cum q r (j + 1)
theorem tops_succ (q r : Int) (n : Nat) : tops q r (n + 1) = tops q r n ++ [cum q r (n + 1)] := by unfold tops; rw [List.range_succ]; simp
theorem tops_len (q r : Int) (n : Nat) : (tops q r n).length = n := by simp [tops]
theorem tops_get {q r : Int} {n j : Nat} (h : j < n) : (tops q r n)[j]? = some (cum q r (j + 1)) := by simp [tops, h]
theorem wfP {s : Store} (w : WfS s) (xs : List P) : WfS (s ++ [.lst (xs.map .p)]) := w.snoc (wfC_ps _ _)
theorem heights_ok {m q r : Int} (s : Store) (w : WfS s) (hm : 0 ≤ m) (hm2 : m ≤ 100000) (hr : 0 ≤ r) : f_heights [.p (.int m), .p (.int q), .p (.int r)] s = .ok (.p (.tup ((tops q r m.toNat).map .int))) s := by
  obtain ⟨δ', st', e, rfl, z, rfl⟩ := for_range (t := gvN 5) (b := (sSeq (sAug 4 iAdd (v2 oAdd (vV 1) (vIf (tstB (v2 (oOrd .lt) (vV 5) (vV 2))) (vK (.int 1)) (vK (.int 0))))) (sDo (vMet isList mApp (vV 3) (aC (vV 4) (aN))))))
    (n := m.toNat) (f := fun i : Nat => D.p (.int (i : Nat)))
    (fun j δ st => st = s ++ [.lst (((tops q r j).map P.int).map D.p)] ∧ ∃ z, δ = [some (.p (.int m)), some (.p (.int q)), some (.p (.int r)), some (.ref s.length), some (.p (.int (cum q r j))), z])
    (δ := [some (.p (.int m)), some (.p (.int q)), some (.p (.int r)), some (.ref s.length), some (.p (.int 0)), none]) (st := s ++ [.lst []]) (by
      rintro j δ st hj ⟨rfl, z, rfl⟩
      refine ⟨_, _, [some (.p (.int m)), some (.p (.int q)), some (.p (.int r)), some (.ref s.length), some (.p (.int (cum q r (j + 1)))), some (.p (.int j))], s ++ [.lst (((tops q r (j + 1)).map P.int).map D.p)], rfl, ?_, rfl, _, rfl⟩
      rw [tops_succ, cum_succ hr]
      by_cases c : (j : Int) < r <;> simp (disch := omega) only [bnd_ok, bnd_exc, fnF, startE, sSeq, sIf, sAsg, sRet, sNx, sAug, sPar, sDo, sRaise, bOr, bAnd, bNot, bYes, tstB, v2, vV, vK, aC, aN, vCal, vU, vIf, vCh, vAnd, vFn, oIx, oAdd, oSub, oMul, oDiv, oMod, oNeg, see, seeC, fInt, fAbs_int, fMax_int, fMin_int, ordI_int, retF_same, excF_same, gvN, gvS, gvT, gsC, gsN, iAdd, L2.atI, L2.ixN, mulOk_l, mulOk_r, log_ok, le_t, le_f, lt_t, lt_f, gt_t, gt_f, ge_t, ge_f, List.getElem?_cons_zero, List.getElem?_cons_succ, List.set_cons_zero, List.set_cons_succ, List.length_cons, List.length_nil, List.map_cons, List.map_nil, List.cons_append, List.nil_append, List.append_nil, List.replicate_succ, List.replicate_zero, Nat.zero_add, Nat.reduceAdd, Nat.reduceSub, Nat.reduceLT, Nat.reduceLeDiff, Int.reduceLT, Int.reduceLE, Int.reduceAdd, Int.reduceSub, Int.reduceMul, Int.reduceNeg, decide_true, decide_false, Bool.not_true, Bool.not_false, reduceCtorEq, ↓reduceIte, and_self, and_true, true_and, if_true, if_false, Bool.false_eq_true, if_pos, if_neg, Int.reduceToNat, Int.toNat_zero, Int.toNat_one, Option.bind_some, Option.map_some, pAll, pAll_map, seqP_lst, seqP_tup, seqP_scr, vTup, vLst, vLstM, szLine_eq, vMet, isList, mApp, last_get, last_set, List.length_map, List.length_append, seeC, oIs, Option.map, c, tops_len, List.map_append]) ⟨rfl, none, by rw [cum_zero hr]⟩
  have r1 : -1000000000000 ≤ m ∧ m < 1000000000000 := by omega
  have ro := retF_own w (.tup ((tops q r m.toNat).map .int)) [.lst (((tops q r m.toNat).map P.int).map D.p)]
  simp (disch := omega) only [bnd_ok, bnd_exc, fnF, startE, sSeq, sIf, sAsg, sRet, sNx, sAug, sPar, sDo, sRaise, bOr, bAnd, bNot, bYes, tstB, v2, vV, vK, aC, aN, vCal, vU, vIf, vCh, vAnd, vFn, oIx, oAdd, oSub, oMul, oDiv, oMod, oNeg, see, seeC, fInt, fAbs_int, fMax_int, fMin_int, ordI_int, retF_same, excF_same, gvN, gvS, gvT, gsC, gsN, iAdd, L2.atI, L2.ixN, mulOk_l, mulOk_r, log_ok, le_t, le_f, lt_t, lt_f, gt_t, gt_f, ge_t, ge_f, List.getElem?_cons_zero, List.getElem?_cons_succ, List.set_cons_zero, List.set_cons_succ, List.length_cons, List.length_nil, List.map_cons, List.map_nil, List.cons_append, List.nil_append, List.append_nil, List.replicate_succ, List.replicate_zero, Nat.zero_add, Nat.reduceAdd, Nat.reduceSub, Nat.reduceLT, Nat.reduceLeDiff, Int.reduceLT, Int.reduceLE, Int.reduceAdd, Int.reduceSub, Int.reduceMul, Int.reduceNeg, decide_true, decide_false, Bool.not_true, Bool.not_false, reduceCtorEq, ↓reduceIte, and_self, and_true, true_and, if_true, if_false, Bool.false_eq_true, if_pos, if_neg, Int.reduceToNat, Int.toNat_zero, Int.toNat_one, Option.bind_some, Option.map_some, pAll, pAll_map, seqP_lst, seqP_tup, seqP_scr, vTup, vLst, vLstM, szLine_eq, vMet, isList, mApp, last_get, last_set, List.length_map, List.length_append, seeC, oIs, Option.map, f_heights, b_heights, sForI, itR1, r1, e, List.length_range, fTup, ro]
abbrev Pt := Int × Int
def encT (p : Pt) : P := .tup [.int p.1, .int p.2]
/-- the corners -/
def crn (q r w l : Int) (n : Nat) : Nat → List Pt
  | 0 => [(0, 0)]
  | j + 1 => crn q r w l n j ++ ((cum w l j, cum q r (j + 1)) :: (if j + 1 < n then [(cum w l (j + 1), cum q r (j + 1))] else []))
theorem crn_len (q r w l : Int) (n : Nat) : ∀ j, (crn q r w l n j).length ≤ 1 + 2 * j
  | 0 => by simp [crn]
  | j + 1 => by
    have := crn_len q r w l n j
    unfold crn
    rw [List.length_append, List.length_cons]
    split <;> simp <;> omega
theorem edges_ok {m q r wd l : Int} (s : Store) (w : WfS s) (hm : 0 ≤ m) (hm2 : m ≤ 100000) (hr : 0 ≤ r) (hl : 0 ≤ l) :
    f_edges_of [.p (.int m), .p (.int q), .p (.int r), .p (.int wd), .p (.int l)] s = .ok (.p (.tup ((crn q r wd l m.toNat m.toNat).map encT))) s := by
  obtain ⟨δ', st', e, rfl, x, z, rfl⟩ := for_range (t := gvN 8) (b := (sSeq (sDo (vMet isList mApp (vV 5) (aC (vTup (aC (vV 6) (aC (v2 oIx (vV 7) (vV 8)) (aN)))) (aN)))) (sIf (tstB (v2 (oOrd .lt) (v2 oAdd (vV 8) (vK (.int 1))) (vV 0))) (sSeq (sAug 6 iAdd (v2 oAdd (vV 3) (vIf (tstB (v2 (oOrd .lt) (vV 8) (vV 4))) (vK (.int 1)) (vK (.int 0))))) (sDo (vMet isList mApp (vV 5) (aC (vTup (aC (vV 6) (aC (v2 oIx (vV 7) (vV 8)) (aN)))) (aN))))) (sNx))))
    (n := m.toNat) (f := fun i : Nat => D.p (.int (i : Nat)))
    (fun j δ st => st = s ++ [.lst (((crn q r wd l m.toNat j).map encT).map D.p)] ∧ ∃ x z, δ = [some (.p (.int m)), some (.p (.int q)), some (.p (.int r)), some (.p (.int wd)), some (.p (.int l)), some (.ref s.length), (if j = m.toNat then x else some (.p (.int (cum wd l j)))), some (.p (.tup ((tops q r m.toNat).map .int))), z])
    (δ := [some (.p (.int m)), some (.p (.int q)), some (.p (.int r)), some (.p (.int wd)), some (.p (.int l)), some (.ref s.length), some (.p (.int 0)), some (.p (.tup ((tops q r m.toNat).map .int))), none]) (st := s ++ [.lst [.p (.tup [.int 0, .int 0])]]) (by
      rintro j δ st hj ⟨rfl, x, z, rfl⟩
      have hx : (if j = m.toNat then x else some (D.p (.int (cum wd l j)))) = some (.p (.int (cum wd l j))) := if_neg (by omega)
      rw [hx]
      have hcl := crn_len q r wd l m.toNat j
      have up : L2.atI ((tops q r m.toNat).map P.int) (j : Int) = some (.int (cum q r (j + 1))) := Iv.atI_nat (by rw [List.getElem?_map, tops_get hj]; rfl)
      have ux : ∀ t : Store, oIx (.p (.tup ((tops q r m.toNat).map P.int))) (.p (.int (j : Nat))) t = .ok (.p (.int (cum q r (j + 1)))) t := fun t => by unfold oIx; simp only [seqP_tup, up]
      by_cases c : j + 1 < m.toNat
      · refine ⟨_, _, [some (.p (.int m)), some (.p (.int q)), some (.p (.int r)), some (.p (.int wd)), some (.p (.int l)), some (.ref s.length), some (.p (.int (cum wd l (j + 1)))), some (.p (.tup ((tops q r m.toNat).map .int))), some (.p (.int j))], s ++ [.lst (((crn q r wd l m.toNat (j + 1)).map encT).map D.p)], rfl, ?_, rfl, none, _, by rw [if_neg (by omega)]⟩
        have e1 : crn q r wd l m.toNat (j + 1) = crn q r wd l m.toNat j ++ [(cum wd l j, cum q r (j + 1)), (cum wd l (j + 1), cum q r (j + 1))] := by rw [crn, if_pos c]
        rw [e1]
        have c2 := cum_succ hl (q := wd) j
        rw [c2]
        by_cases d : (j : Int) < l <;> simp (disch := omega) only [bnd_ok, bnd_exc, fnF, startE, sSeq, sIf, sAsg, sRet, sNx, sAug, sPar, sDo, sRaise, bOr, bAnd, bNot, bYes, tstB, v2, vV, vK, aC, aN, vCal, vU, vIf, vCh, vAnd, vFn, oIx, oAdd, oSub, oMul, oDiv, oMod, oNeg, see, seeC, fInt, fAbs_int, fMax_int, fMin_int, ordI_int, retF_same, excF_same, gvN, gvS, gvT, gsC, gsN, iAdd, L2.atI, L2.ixN, mulOk_l, mulOk_r, log_ok, le_t, le_f, lt_t, lt_f, gt_t, gt_f, ge_t, ge_f, List.getElem?_cons_zero, List.getElem?_cons_succ, List.set_cons_zero, List.set_cons_succ, List.length_cons, List.length_nil, List.map_cons, List.map_nil, List.cons_append, List.nil_append, List.append_nil, List.replicate_succ, List.replicate_zero, Nat.zero_add, Nat.reduceAdd, Nat.reduceSub, Nat.reduceLT, Nat.reduceLeDiff, Int.reduceLT, Int.reduceLE, Int.reduceAdd, Int.reduceSub, Int.reduceMul, Int.reduceNeg, decide_true, decide_false, Bool.not_true, Bool.not_false, reduceCtorEq, ↓reduceIte, and_self, and_true, true_and, if_true, if_false, Bool.false_eq_true, if_pos, if_neg, Int.reduceToNat, Int.toNat_zero, Int.toNat_one, Option.bind_some, Option.map_some, pAll, pAll_map, seqP_lst, seqP_tup, seqP_scr, vTup, vLst, vLstM, szLine_eq, vMet, isList, mApp, last_get, last_set, List.length_map, List.length_append, seeC, oIs, Option.map, tops_len, Int.toNat_natCast, List.getElem?_map, tops_get, encT, List.map_append, List.append_assoc, d]
      · refine ⟨_, _, [some (.p (.int m)), some (.p (.int q)), some (.p (.int r)), some (.p (.int wd)), some (.p (.int l)), some (.ref s.length), some (.p (.int (cum wd l j))), some (.p (.tup ((tops q r m.toNat).map .int))), some (.p (.int j))], s ++ [.lst (((crn q r wd l m.toNat (j + 1)).map encT).map D.p)], rfl, ?_, rfl, some (.p (.int (cum wd l j))), _, by rw [if_pos (by omega)]⟩
        have e1 : crn q r wd l m.toNat (j + 1) = crn q r wd l m.toNat j ++ [(cum wd l j, cum q r (j + 1))] := by rw [crn, if_neg c]
        rw [e1]
        simp (disch := omega) only [bnd_ok, bnd_exc, fnF, startE, sSeq, sIf, sAsg, sRet, sNx, sAug, sPar, sDo, sRaise, bOr, bAnd, bNot, bYes, tstB, v2, vV, vK, aC, aN, vCal, vU, vIf, vCh, vAnd, vFn, oIx, oAdd, oSub, oMul, oDiv, oMod, oNeg, see, seeC, fInt, fAbs_int, fMax_int, fMin_int, ordI_int, retF_same, excF_same, gvN, gvS, gvT, gsC, gsN, iAdd, L2.atI, L2.ixN, mulOk_l, mulOk_r, log_ok, le_t, le_f, lt_t, lt_f, gt_t, gt_f, ge_t, ge_f, List.getElem?_cons_zero, List.getElem?_cons_succ, List.set_cons_zero, List.set_cons_succ, List.length_cons, List.length_nil, List.map_cons, List.map_nil, List.cons_append, List.nil_append, List.append_nil, List.replicate_succ, List.replicate_zero, Nat.zero_add, Nat.reduceAdd, Nat.reduceSub, Nat.reduceLT, Nat.reduceLeDiff, Int.reduceLT, Int.reduceLE, Int.reduceAdd, Int.reduceSub, Int.reduceMul, Int.reduceNeg, decide_true, decide_false, Bool.not_true, Bool.not_false, reduceCtorEq, ↓reduceIte, and_self, and_true, true_and, if_true, if_false, Bool.false_eq_true, if_pos, if_neg, Int.reduceToNat, Int.toNat_zero, Int.toNat_one, Option.bind_some, Option.map_some, pAll, pAll_map, seqP_lst, seqP_tup, seqP_scr, vTup, vLst, vLstM, szLine_eq, vMet, isList, mApp, last_get, last_set, List.length_map, List.length_append, seeC, oIs, Option.map, tops_len, Int.toNat_natCast, List.getElem?_map, tops_get, encT, List.map_append]) ⟨rfl, some (.p (.int 0)), none, by rw [cum_zero hl]; split <;> rfl⟩
  have r1 : -1000000000000 ≤ m ∧ m < 1000000000000 := by omega
  have ro := retF_own w (.tup ((crn q r wd l m.toNat m.toNat).map encT)) [.lst (((crn q r wd l m.toNat m.toNat).map encT).map D.p)]
  have hh := heights_ok (m := m) (q := q) (r := r) (s ++ [.lst [.p (.tup [.int 0, .int 0])]]) (wfP w [.tup [.int 0, .int 0]]) hm hm2 hr
  simp (disch := omega) only [bnd_ok, bnd_exc, fnF, startE, sSeq, sIf, sAsg, sRet, sNx, sAug, sPar, sDo, sRaise, bOr, bAnd, bNot, bYes, tstB, v2, vV, vK, aC, aN, vCal, vU, vIf, vCh, vAnd, vFn, oIx, oAdd, oSub, oMul, oDiv, oMod, oNeg, see, seeC, fInt, fAbs_int, fMax_int, fMin_int, ordI_int, retF_same, excF_same, gvN, gvS, gvT, gsC, gsN, iAdd, L2.atI, L2.ixN, mulOk_l, mulOk_r, log_ok, le_t, le_f, lt_t, lt_f, gt_t, gt_f, ge_t, ge_f, List.getElem?_cons_zero, List.getElem?_cons_succ, List.set_cons_zero, List.set_cons_succ, List.length_cons, List.length_nil, List.map_cons, List.map_nil, List.cons_append, List.nil_append, List.append_nil, List.replicate_succ, List.replicate_zero, Nat.zero_add, Nat.reduceAdd, Nat.reduceSub, Nat.reduceLT, Nat.reduceLeDiff, Int.reduceLT, Int.reduceLE, Int.reduceAdd, Int.reduceSub, Int.reduceMul, Int.reduceNeg, decide_true, decide_false, Bool.not_true, Bool.not_false, reduceCtorEq, ↓reduceIte, and_self, and_true, true_and, if_true, if_false, Bool.false_eq_true, if_pos, if_neg, Int.reduceToNat, Int.toNat_zero, Int.toNat_one, Option.bind_some, Option.map_some, pAll, pAll_map, seqP_lst, seqP_tup, seqP_scr, vTup, vLst, vLstM, szLine_eq, vMet, isList, mApp, last_get, last_set, List.length_map, List.length_append, seeC, oIs, Option.map, f_edges_of, b_edges_of, sPar3, hh, sForI, itR1, r1, e, List.length_range, fTup, ro]
end

section
set_option linter.all false
set_option maxHeartbeats 4100000
set_option maxRecDepth 10000
open PySem L2 Iv K09
theorem cutL_tail {α : Type} (xs : List α) : cutL xs (some 1) none = xs.drop 1 := by
  unfold cutL HT.sIx
  dsimp only
  rw [if_neg (by decide)]
  cases xs with
  | nil => rfl
  | cons x xs =>
    have : min (1 : Int).toNat (x :: xs).length = 1 := by simp
    rw [this]
    simp
def prs (C : List Pt) : List (Pt × Pt) := C.zip (C.drop 1)
def encPP (z : Pt × Pt) : P := .tup [encT z.1, encT z.2]
theorem zipP_prs (C : List Pt) : zipP (C.map encT) ((C.drop 1).map encT) = (prs C).map encPP := by
  unfold zipP prs
  rw [List.zip_map, List.map_map]
  rfl
theorem prs_len (C : List Pt) : (prs C).length ≤ C.length := by unfold prs; rw [List.length_zip]; omega
def roomP (f la : Int) (z : Pt × Pt) : Bool := decide (z.1.2 = z.2.2) && (decide (z.1.1 < la) && decide (f < z.2.1))
def lroomP (f la : Int) (z : Pt × Pt) : Bool := decide (z.1.2 = z.2.2) && decide (maxI z.1.1 f < minI z.2.1 la)
def rooms (p : Pt × Pt → Bool) (ce : Int) (C : List Pt) : List Int := ((prs C).filter p).map fun z => ce - z.1.2
def minO (xs : List Int) : P := if xs = [] then .non else .int (minL xs)
theorem zip_it (C : List Pt) (fa : Ev (List D)) (δ : Iv.Env) (s : Store) (h : fa δ s = .ok [.p (.lst (C.map encT)), .p (.lst ((C.drop 1).map encT))] s) : itZ fa δ s = .ok ⟨((prs C).map encPP).map .p, none⟩ s := by
  unfold itZ
  rw [h]
  simp only [bnd_ok, zip2, lstP, zipP_prs]
theorem room_step (co : Option D) (f la ce : Int) (z : Pt × Pt) (s : Store) (acc : List Int) (ha : acc.length ≤ 500000) :
    sIf (bAnd (tstB (v2 (oEq false) (v2 oIx (vV 5) (vK (.int 1))) (v2 oIx (vV 6) (vK (.int 1))))) (bAnd (tstB (v2 (oOrd .lt) (v2 oIx (vV 5) (vK (.int 0))) (vV 2))) (tstB (v2 (oOrd .lt) (vV 1) (v2 oIx (vV 6) (vK (.int 0))))))) (sDo (vMet isList mApp (vV 4) (aC (v2 oSub (vV 3) (v2 oIx (vV 5) (vK (.int 1)))) (aN)))) (sNx)
      [co, I f, I la, I ce, some (.ref s.length), some (.p (encT z.1)), some (.p (encT z.2))] (s ++ [.lst ((acc.map P.int).map D.p)]) =
    .nx [co, I f, I la, I ce, some (.ref s.length), some (.p (encT z.1)), some (.p (encT z.2))] (s ++ [.lst (((if roomP f la z = true then acc ++ [ce - z.1.2] else acc).map P.int).map D.p)]) := by
  obtain ⟨⟨x, y⟩, ⟨x', y'⟩⟩ := z
  by_cases c1 : y = y' <;> by_cases c2 : x < la <;> by_cases c3 : f < x' <;> simp (disch := omega) only [bnd_ok, bnd_exc, fnF, startE, sSeq, sIf, sAsg, sRet, sNx, sAug, sPar, sDo, sRaise, bOr, bAnd, bNot, bYes, tstB, v2, vV, vK, aC, aN, vCal, vU, vIf, vCh, vAnd, vFn, oIx, oAdd, oSub, oMul, oDiv, oMod, oNeg, see, seeC, fInt, fAbs_int, fMax_int, fMin_int, ordI_int, retF_same, excF_same, gvN, gvS, gvT, gsC, gsN, iAdd, L2.atI, L2.ixN, mulOk_l, mulOk_r, log_ok, le_t, le_f, lt_t, lt_f, gt_t, gt_f, ge_t, ge_f, List.getElem?_cons_zero, List.getElem?_cons_succ, List.set_cons_zero, List.set_cons_succ, List.length_cons, List.length_nil, List.map_cons, List.map_nil, List.cons_append, List.nil_append, List.append_nil, List.replicate_succ, List.replicate_zero, Nat.zero_add, Nat.reduceAdd, Nat.reduceSub, Nat.reduceLT, Nat.reduceLeDiff, Int.reduceLT, Int.reduceLE, Int.reduceAdd, Int.reduceSub, Int.reduceMul, Int.reduceNeg, decide_true, decide_false, Bool.not_true, Bool.not_false, reduceCtorEq, ↓reduceIte, and_self, and_true, true_and, if_true, if_false, Bool.false_eq_true, if_pos, if_neg, Int.reduceToNat, Int.toNat_zero, Int.toNat_one, Option.bind_some, Option.map_some, pAll, pAll_map, seqP_lst, seqP_tup, seqP_scr, vTup, vLst, vLstM, szLine_eq, vMet, isList, mApp, last_get, last_set, List.length_map, List.length_append, seeC, oIs, Option.map, encT, oEq, pEq_int, roomP, c1, c2, c3, Bool.and_true, Bool.and_false, Bool.true_and, List.map_append]
theorem headroom_ok {f la ce : Int} (C : List Pt) (hC : C.length ≤ 500000) (s : Store) (w : WfS s) (h : f < la) :
    f_headroom [.p (.lst (C.map encT)), .p (.int f), .p (.int la), .p (.int ce)] s = .ok (.p (minO (rooms (roomP f la) ce C))) s := by
  have hp := prs_len C
  obtain ⟨δ', st', e, rfl, y, z, rfl⟩ := for_data (t := gvT 2 (gsC (gvN 5) (gsC (gvN 6) (gsN)))) (b := sIf (bAnd (tstB (v2 (oEq false) (v2 oIx (vV 5) (vK (.int 1))) (v2 oIx (vV 6) (vK (.int 1))))) (bAnd (tstB (v2 (oOrd .lt) (v2 oIx (vV 5) (vK (.int 0))) (vV 2))) (tstB (v2 (oOrd .lt) (vV 1) (v2 oIx (vV 6) (vK (.int 0))))))) (sDo (vMet isList mApp (vV 4) (aC (v2 oSub (vV 3) (v2 oIx (vV 5) (vK (.int 1)))) (aN)))) (sNx))
    (prs C) encPP
    (fun j δ st => st = s ++ [.lst ((((((prs C).take j).filter (roomP f la)).map fun z => ce - z.1.2).map P.int).map D.p)] ∧ ∃ y z, δ = [some (.p (.lst (C.map encT))), I f, I la, I ce, some (.ref s.length), y, z])
    (δ := [some (.p (.lst (C.map encT))), I f, I la, I ce, some (.ref s.length), none, none]) (st := s ++ [.lst []]) (by
      rintro j x δ st hj ⟨rfl, y, z, rfl⟩
      have hl : ((((prs C).take j).filter (roomP f la)).map fun z => ce - z.1.2).length ≤ 500000 := by
        rw [List.length_map]
        refine Nat.le_trans (List.length_filter_le _ _) ?_
        rw [List.length_take]; omega
      refine ⟨_, _, _, _, rfl, room_step _ f la ce x s _ hl, ?_, _, _, rfl⟩
      rw [take_snoc hj, List.filter_append]
      cases hx : roomP f la x <;> simp [hx]) ⟨rfl, none, none, rfl⟩
  rw [List.take_length, show (((prs C).filter (roomP f la)).map fun z => ce - z.1.2) = rooms (roomP f la) ce C from rfl] at e
  have hs : oSl (.p (.lst (C.map encT))) (some 1) none (s ++ [.lst []]) = .ok (.p (.lst ((C.drop 1).map encT))) (s ++ [.lst []]) := by
    unfold oSl
    simp only [see, cutL_tail, List.map_drop]
  have it := zip_it C (aC (vV 0) (aC (vSl (vV 0) (poS (vK (.int 1))) (poN)) (aN))) [some (.p (.lst (C.map encT))), I f, I la, I ce, some (.ref s.length), none, none] (s ++ [.lst []]) (by simp (disch := omega) only [bnd_ok, bnd_exc, fnF, startE, sSeq, sIf, sAsg, sRet, sNx, sAug, sPar, sDo, sRaise, bOr, bAnd, bNot, bYes, tstB, v2, vV, vK, aC, aN, vCal, vU, vIf, vCh, vAnd, vFn, oIx, oAdd, oSub, oMul, oDiv, oMod, oNeg, see, seeC, fInt, fAbs_int, fMax_int, fMin_int, ordI_int, retF_same, excF_same, gvN, gvS, gvT, gsC, gsN, iAdd, L2.atI, L2.ixN, mulOk_l, mulOk_r, log_ok, le_t, le_f, lt_t, lt_f, gt_t, gt_f, ge_t, ge_f, List.getElem?_cons_zero, List.getElem?_cons_succ, List.set_cons_zero, List.set_cons_succ, List.length_cons, List.length_nil, List.map_cons, List.map_nil, List.cons_append, List.nil_append, List.append_nil, List.replicate_succ, List.replicate_zero, Nat.zero_add, Nat.reduceAdd, Nat.reduceSub, Nat.reduceLT, Nat.reduceLeDiff, Int.reduceLT, Int.reduceLE, Int.reduceAdd, Int.reduceSub, Int.reduceMul, Int.reduceNeg, decide_true, decide_false, Bool.not_true, Bool.not_false, reduceCtorEq, ↓reduceIte, and_self, and_true, true_and, if_true, if_false, Bool.false_eq_true, if_pos, if_neg, Int.reduceToNat, Int.toNat_zero, Int.toNat_one, Option.bind_some, Option.map_some, pAll, pAll_map, seqP_lst, seqP_tup, seqP_scr, vTup, vLst, vLstM, szLine_eq, vMet, isList, mApp, last_get, last_set, List.length_map, List.length_append, seeC, oIs, Option.map, vSl, poS, poN, hs])
  generalize rooms (roomP f la) ce C = rs at *
  have pn := pEq_nil (xs := rs.map P.int) (okDs_ints _ _)
  by_cases c : rs = []
  · subst c
    rw [List.map_nil] at pn
    have ro := retF_own w .non [.lst []]
    simp (disch := omega) only [bnd_ok, bnd_exc, fnF, startE, sSeq, sIf, sAsg, sRet, sNx, sAug, sPar, sDo, sRaise, bOr, bAnd, bNot, bYes, tstB, v2, vV, vK, aC, aN, vCal, vU, vIf, vCh, vAnd, vFn, oIx, oAdd, oSub, oMul, oDiv, oMod, oNeg, see, seeC, fInt, fAbs_int, fMax_int, fMin_int, ordI_int, retF_same, excF_same, gvN, gvS, gvT, gsC, gsN, iAdd, L2.atI, L2.ixN, mulOk_l, mulOk_r, log_ok, le_t, le_f, lt_t, lt_f, gt_t, gt_f, ge_t, ge_f, List.getElem?_cons_zero, List.getElem?_cons_succ, List.set_cons_zero, List.set_cons_succ, List.length_cons, List.length_nil, List.map_cons, List.map_nil, List.cons_append, List.nil_append, List.append_nil, List.replicate_succ, List.replicate_zero, Nat.zero_add, Nat.reduceAdd, Nat.reduceSub, Nat.reduceLT, Nat.reduceLeDiff, Int.reduceLT, Int.reduceLE, Int.reduceAdd, Int.reduceSub, Int.reduceMul, Int.reduceNeg, decide_true, decide_false, Bool.not_true, Bool.not_false, reduceCtorEq, ↓reduceIte, and_self, and_true, true_and, if_true, if_false, Bool.false_eq_true, if_pos, if_neg, Int.reduceToNat, Int.toNat_zero, Int.toNat_one, Option.bind_some, Option.map_some, pAll, pAll_map, seqP_lst, seqP_tup, seqP_scr, vTup, vLst, vLstM, szLine_eq, vMet, isList, mApp, last_get, last_set, List.length_map, List.length_append, seeC, oIs, Option.map, f_headroom, b_headroom, sForI, it, e, oEq, pn, List.isEmpty_nil, ro, minO]
  · have ie : (rs.map P.int).isEmpty = false := by cases rs <;> simp at c ⊢
    rw [ie] at pn
    have mn := fMin_ints (d := .ref s.length) (s := s ++ [.lst ((rs.map P.int).map D.p)]) (x := .lst (rs.map P.int)) (xs := rs) (by simp only [see, last_get, seeC, pAll_map, Option.map_some]) rfl c
    have ro := retF_own w (.int (minL rs)) [.lst ((rs.map P.int).map D.p)]
    simp (disch := omega) only [bnd_ok, bnd_exc, fnF, startE, sSeq, sIf, sAsg, sRet, sNx, sAug, sPar, sDo, sRaise, bOr, bAnd, bNot, bYes, tstB, v2, vV, vK, aC, aN, vCal, vU, vIf, vCh, vAnd, vFn, oIx, oAdd, oSub, oMul, oDiv, oMod, oNeg, see, seeC, fInt, fAbs_int, fMax_int, fMin_int, ordI_int, retF_same, excF_same, gvN, gvS, gvT, gsC, gsN, iAdd, L2.atI, L2.ixN, mulOk_l, mulOk_r, log_ok, le_t, le_f, lt_t, lt_f, gt_t, gt_f, ge_t, ge_f, List.getElem?_cons_zero, List.getElem?_cons_succ, List.set_cons_zero, List.set_cons_succ, List.length_cons, List.length_nil, List.map_cons, List.map_nil, List.cons_append, List.nil_append, List.append_nil, List.replicate_succ, List.replicate_zero, Nat.zero_add, Nat.reduceAdd, Nat.reduceSub, Nat.reduceLT, Nat.reduceLeDiff, Int.reduceLT, Int.reduceLE, Int.reduceAdd, Int.reduceSub, Int.reduceMul, Int.reduceNeg, decide_true, decide_false, Bool.not_true, Bool.not_false, reduceCtorEq, ↓reduceIte, and_self, and_true, true_and, if_true, if_false, Bool.false_eq_true, if_pos, if_neg, Int.reduceToNat, Int.toNat_zero, Int.toNat_one, Option.bind_some, Option.map_some, pAll, pAll_map, seqP_lst, seqP_tup, seqP_scr, vTup, vLst, vLstM, szLine_eq, vMet, isList, mApp, last_get, last_set, List.length_map, List.length_append, seeC, oIs, Option.map, f_headroom, b_headroom, sForI, it, e, oEq, pn, mn, ro, minO, c]
theorem headroom_bad {f la ce : Int} (x : D) (s : Store) (h : la ≤ f) : f_headroom [x, .p (.int f), .p (.int la), .p (.int ce)] s = .exc 1 s := by
  simp (disch := omega) only [bnd_ok, bnd_exc, fnF, startE, sSeq, sIf, sAsg, sRet, sNx, sAug, sPar, sDo, sRaise, bOr, bAnd, bNot, bYes, tstB, v2, vV, vK, aC, aN, vCal, vU, vIf, vCh, vAnd, vFn, oIx, oAdd, oSub, oMul, oDiv, oMod, oNeg, see, seeC, fInt, fAbs_int, fMax_int, fMin_int, ordI_int, retF_same, excF_same, gvN, gvS, gvT, gsC, gsN, iAdd, L2.atI, L2.ixN, mulOk_l, mulOk_r, log_ok, le_t, le_f, lt_t, lt_f, gt_t, gt_f, ge_t, ge_f, List.getElem?_cons_zero, List.getElem?_cons_succ, List.set_cons_zero, List.set_cons_succ, List.length_cons, List.length_nil, List.map_cons, List.map_nil, List.cons_append, List.nil_append, List.append_nil, List.replicate_succ, List.replicate_zero, Nat.zero_add, Nat.reduceAdd, Nat.reduceSub, Nat.reduceLT, Nat.reduceLeDiff, Int.reduceLT, Int.reduceLE, Int.reduceAdd, Int.reduceSub, Int.reduceMul, Int.reduceNeg, decide_true, decide_false, Bool.not_true, Bool.not_false, reduceCtorEq, ↓reduceIte, and_self, and_true, true_and, if_true, if_false, Bool.false_eq_true, if_pos, if_neg, Int.reduceToNat, Int.toNat_zero, Int.toNat_one, Option.bind_some, Option.map_some, pAll, pAll_map, seqP_lst, seqP_tup, seqP_scr, vTup, vLst, vLstM, szLine_eq, vMet, isList, mApp, last_get, last_set, List.length_map, List.length_append, seeC, oIs, Option.map, f_headroom, b_headroom]
end

section
set_option linter.all false
set_option maxHeartbeats 4100000
set_option maxRecDepth 10000
open PySem L2 Iv K09
def adj {α : Type} (R : α → α → Prop) : List α → Prop
  | [] => True
  | [_] => True
  | x :: y :: r => R x y ∧ adj R (y :: r)
theorem adj_snoc {α : Type} {R : α → α → Prop} : ∀ (pre : List α) (x y : α), adj R (pre ++ [x]) → R x y → adj R (pre ++ [x, y])
  | [], x, y, _, h => ⟨h, trivial⟩
  | [a], x, y, g, h => ⟨g.1, h, trivial⟩
  | a :: b :: t, x, y, g, h => ⟨g.1, adj_snoc (b :: t) x y g.2 h⟩
theorem adj_zip {α : Type} {R : α → α → Prop} : ∀ (C : List α), adj R C → ∀ z ∈ C.zip (C.drop 1), R z.1 z.2
  | [], _, z, hz => by simp at hz
  | [x], _, z, hz => by simp at hz
  | x :: y :: r, g, z, hz => by
    simp only [List.drop_succ_cons, List.drop_zero, List.zip_cons_cons, List.mem_cons] at hz
    rcases hz with rfl | hz
    · exact g.1
    · exact adj_zip (y :: r) g.2 z (by simpa using hz)
def RR (p p' : Pt) : Prop := p.2 = p'.2 → p.1 < p'.1
theorem cum_lt {q r : Int} (hq : 1 ≤ q) (hr : 0 ≤ r) (j : Nat) : cum q r j < cum q r (j + 1) := by
  rw [cum_succ hr]; split <;> omega
theorem crn_adj {q r w l : Int} {n : Nat} (hq : 1 ≤ q) (hr : 0 ≤ r) (hl : 0 ≤ l) (hw : 1 ≤ w ∨ n ≤ 1) : ∀ j, j ≤ n → adj RR (crn q r w l n j) ∧ (j < n → ∃ pre, crn q r w l n j = pre ++ [(cum w l j, cum q r j)]) ∧ (0 < n → j = n → ∃ pre, crn q r w l n j = pre ++ [(cum w l (n - 1), cum q r n)])
  | 0, _ => ⟨trivial, fun _ => ⟨[], by rw [cum_zero hr, cum_zero hl]; rfl⟩, fun h0 h1 => by omega⟩
  | j + 1, hj => by
    obtain ⟨h1, h2, h3⟩ := crn_adj hq hr hl hw j (by omega)
    obtain ⟨pre, e⟩ := h2 (by omega)
    have c := cum_lt hq hr j
    have a1 : adj RR (pre ++ [(cum w l j, cum q r j), (cum w l j, cum q r (j + 1))]) := adj_snoc pre _ _ (e ▸ h1) (fun z => by simp only at z; omega)
    unfold crn
    by_cases d : j + 1 < n
    · rw [if_pos d, e]
      have w1 : 1 ≤ w := by rcases hw with h | h <;> omega
      have c2 := cum_lt w1 hl j
      refine ⟨?_, fun _ => ⟨pre ++ [(cum w l j, cum q r j), (cum w l j, cum q r (j + 1))], by simp⟩, fun _ h => by omega⟩
      have a2 := adj_snoc (R := RR) (pre ++ [(cum w l j, cum q r j)]) (cum w l j, cum q r (j + 1)) (cum w l (j + 1), cum q r (j + 1)) (by simpa using a1) (fun _ => c2)
      simpa using a2
    · rw [if_neg d, e]
      refine ⟨by simpa using a1, fun h => by omega, fun _ h => ⟨pre ++ [(cum w l j, cum q r j)], ?_⟩⟩
      have : n - 1 = j := by omega
      rw [this, ← h]
      first | done | simp
theorem rooms_eq {q r w l f la ce : Int} {n : Nat} (hq : 1 ≤ q) (hr : 0 ≤ r) (hl : 0 ≤ l) (hw : 1 ≤ w ∨ n ≤ 1) (h : f < la) : rooms (roomP f la) ce (crn q r w l n n) = rooms (lroomP f la) ce (crn q r w l n n) := by
  unfold rooms
  congr 1
  refine List.filter_congr fun z hz => ?_
  have := adj_zip _ (crn_adj hq hr hl hw n (Nat.le_refl _)).1 z hz
  unfold roomP lroomP
  by_cases c : z.1.2 = z.2.2
  · have d := this c
    have : (z.1.1 < la ∧ f < z.2.1) ↔ (maxI z.1.1 f < minI z.2.1 la) := by
      unfold maxI minI
      split <;> split <;> omega
    by_cases c2 : maxI z.1.1 f < minI z.2.1 la
    · have := this.mpr c2; simp [c, c2, this]
    · have hn : ¬ (z.1.1 < la ∧ f < z.2.1) := fun k => c2 (this.mp k)
      by_cases c3 : z.1.1 < la
      · have : ¬ f < z.2.1 := fun k => hn ⟨c3, k⟩
        simp [c, c2, this]
      · simp [c, c2, c3]
  · simp [c]
theorem cum_full {x n : Int} (hn : 0 < n) : cum (x / n) (x % n) n.toNat = x := by
  have h2 := Int.emod_lt_of_pos x hn
  have h3 := Int.emod_nonneg x (show n ≠ 0 by omega)
  have en : ((n.toNat : Nat) : Int) = n := by omega
  unfold cum
  rw [en]
  have := Int.mul_ediv_add_emod x n
  split <;> omega
theorem cum_sum (q r : Int) (hr : 0 ≤ r) : ∀ n : Nat, ((itv 0 n).map fun k => q + (if k < r then 1 else 0)).sum = cum q r n
  | 0 => by rw [cum_zero hr]; rfl
  | n + 1 => by
    rw [itv_succ, List.map_append, List.sum_append, cum_sum q r hr n, cum_succ hr]
    simp
theorem fSum_ints (xs : List Int) (s : Store) : fSum [.p (.lst (xs.map .int))] s = .ok (.p (.int xs.sum)) s := by
  have : allInt (xs.map .int) = some xs := by have := allInt_map (fun x : Int => x) xs; simpa using this
  unfold fSum
  simp only [see, this]
theorem lsum_ok {h m k : Int} (hm : 0 < m) (hm2 : m ≤ 100000) (hk : 0 ≤ k) (hk2 : k ≤ 100000) (fa : Ev (List D)) (δ : Iv.Env) (s : Store) (hf : fa δ s = .ok [.p (.int k)] s) (hl : δ.length = 36) (g5 : δ[5]? = some (some (.p (.int h)))) (g10 : δ[10]? = some (some (.p (.int m)))) :
    vCmp (itR1 fa) (tvN 30) (bYes) (v2 oAdd (v2 oDiv (vV 5) (vV 10)) (vCal fInt (aC (v2 (oOrd .lt) (vV 30) (v2 oMod (vV 5) (vV 10))) (aN)))) [30] δ s = .ok (.p (.lst (((itv 0 k.toNat).map fun i => h / m + (if i < h % m then 1 else 0)).map .int))) s := by
  have e := compL_all (t := tvN 30) (e := v2 oAdd (v2 oDiv (vV 5) (vV 10)) (vCal fInt (aC (v2 (oOrd .lt) (vV 30) (v2 oMod (vV 5) (vV 10))) (aN)))) (δ0 := wipE δ [30]) (st := s) (itv 0 k.toNat) P.int (fun i => P.int (h / m + (if i < h % m then 1 else 0))) (fun i hi => by
    have k5 : ((wipE δ [30]).set 30 (some (.p (.int i))))[5]? = some (some (.p (.int h))) := by simp [wipE, g5]
    have k10 : ((wipE δ [30]).set 30 (some (.p (.int i))))[10]? = some (some (.p (.int m))) := by simp [wipE, g10]
    have k30 : ((wipE δ [30]).set 30 (some (D.p (.int i))))[30]? = some (some (.p (.int i))) := by simp [wipE, hl]
    refine ⟨_, rfl, ?_⟩
    by_cases c : i < h % m <;> simp (disch := omega) only [bnd_ok, bnd_exc, fnF, startE, sSeq, sIf, sAsg, sRet, sNx, sAug, sPar, sDo, sRaise, bOr, bAnd, bNot, bYes, tstB, v2, vV, vK, aC, aN, vCal, vU, vIf, vCh, vAnd, vFn, oIx, oAdd, oSub, oMul, oDiv, oMod, oNeg, see, seeC, fInt, fAbs_int, fMax_int, fMin_int, ordI_int, retF_same, excF_same, gvN, gvS, gvT, gsC, gsN, iAdd, L2.atI, L2.ixN, mulOk_l, mulOk_r, log_ok, le_t, le_f, lt_t, lt_f, gt_t, gt_f, ge_t, ge_f, List.getElem?_cons_zero, List.getElem?_cons_succ, List.set_cons_zero, List.set_cons_succ, List.length_cons, List.length_nil, List.map_cons, List.map_nil, List.cons_append, List.nil_append, List.append_nil, List.replicate_succ, List.replicate_zero, Nat.zero_add, Nat.reduceAdd, Nat.reduceSub, Nat.reduceLT, Nat.reduceLeDiff, Int.reduceLT, Int.reduceLE, Int.reduceAdd, Int.reduceSub, Int.reduceMul, Int.reduceNeg, decide_true, decide_false, Bool.not_true, Bool.not_false, reduceCtorEq, ↓reduceIte, and_self, and_true, true_and, if_true, if_false, Bool.false_eq_true, if_pos, if_neg, Int.reduceToNat, Int.toNat_zero, Int.toNat_one, Option.bind_some, Option.map_some, pAll, pAll_map, seqP_lst, seqP_tup, seqP_scr, vTup, vLst, vLstM, szLine_eq, vMet, isList, mApp, last_get, last_set, List.length_map, List.length_append, seeC, oIs, Option.map, k5, k10, k30, c])
  have r : -1000000000000 ≤ k ∧ k < 1000000000000 := by omega
  have q : (itv 0 k.toNat).map (fun i => P.int (h / m + (if i < h % m then 1 else 0))) = ((itv 0 k.toNat).map fun i => h / m + (if i < h % m then 1 else 0)).map P.int := by rw [List.map_map]; rfl
  rw [q] at e
  simp (disch := omega) only [bnd_ok, bnd_exc, fnF, startE, sSeq, sIf, sAsg, sRet, sNx, sAug, sPar, sDo, sRaise, bOr, bAnd, bNot, bYes, tstB, v2, vV, vK, aC, aN, vCal, vU, vIf, vCh, vAnd, vFn, oIx, oAdd, oSub, oMul, oDiv, oMod, oNeg, see, seeC, fInt, fAbs_int, fMax_int, fMin_int, ordI_int, retF_same, excF_same, gvN, gvS, gvT, gsC, gsN, iAdd, L2.atI, L2.ixN, mulOk_l, mulOk_r, log_ok, le_t, le_f, lt_t, lt_f, gt_t, gt_f, ge_t, ge_f, List.getElem?_cons_zero, List.getElem?_cons_succ, List.set_cons_zero, List.set_cons_succ, List.length_cons, List.length_nil, List.map_cons, List.map_nil, List.cons_append, List.nil_append, List.append_nil, List.replicate_succ, List.replicate_zero, Nat.zero_add, Nat.reduceAdd, Nat.reduceSub, Nat.reduceLT, Nat.reduceLeDiff, Int.reduceLT, Int.reduceLE, Int.reduceAdd, Int.reduceSub, Int.reduceMul, Int.reduceNeg, decide_true, decide_false, Bool.not_true, Bool.not_false, reduceCtorEq, ↓reduceIte, and_self, and_true, true_and, if_true, if_false, Bool.false_eq_true, if_pos, if_neg, Int.reduceToNat, Int.toNat_zero, Int.toNat_one, Option.bind_some, Option.map_some, pAll, pAll_map, seqP_lst, seqP_tup, seqP_scr, vTup, vLst, vLstM, szLine_eq, vMet, isList, mApp, last_get, last_set, List.length_map, List.length_append, seeC, oIs, Option.map, vCmpD, itR1, r, hf, rng_itv0, e, kLst, itv_len]
theorem V2_ok {h m : Int} (hm : 0 < m) (hm2 : m ≤ 10000) (hh : 0 ≤ h) (δ : Iv.Env) (s : Store) (hl : δ.length = 36) (g5 : δ[5]? = some (some (.p (.int h)))) (g10 : δ[10]? = some (some (.p (.int m)))) :
    V_2 δ s = .nx (δ.set 20 (some (.p (.lst ((tops (h / m) (h % m) m.toNat).map .int))))) s := by
  have hr := Int.emod_nonneg h (show m ≠ 0 by omega)
  have e := compL_all (t := tvN 23) (e := vCal fSum (aC (vCmp (itR1 (aC (v2 oAdd (vV 23) (vK (.int 1))) (aN))) (tvN 30) (bYes) (v2 oAdd (v2 oDiv (vV 5) (vV 10)) (vCal fInt (aC (v2 (oOrd .lt) (vV 30) (v2 oMod (vV 5) (vV 10))) (aN)))) [30]) (aN))) (δ0 := wipE δ [23]) (st := s) (itv 0 m.toNat) P.int (fun j => P.int (cum (h / m) (h % m) (j.toNat + 1))) (fun j hj => by
    have hj := itv_mem.mp hj
    have k5 : ((wipE δ [23]).set 23 (some (.p (.int j))))[5]? = some (some (.p (.int h))) := by simp [wipE, g5]
    have k10 : ((wipE δ [23]).set 23 (some (.p (.int j))))[10]? = some (some (.p (.int m))) := by simp [wipE, g10]
    have k23 : ((wipE δ [23]).set 23 (some (D.p (.int j))))[23]? = some (some (.p (.int j))) := by simp [wipE, hl]
    have kl : ((wipE δ [23]).set 23 (some (D.p (.int j)))).length = 36 := by simp [wipE, hl]
    have ls := lsum_ok (k := j + 1) hm (by omega) (by omega) (by omega) (aC (v2 oAdd (vV 23) (vK (.int 1))) (aN)) _ s (by simp (disch := omega) only [bnd_ok, bnd_exc, fnF, startE, sSeq, sIf, sAsg, sRet, sNx, sAug, sPar, sDo, sRaise, bOr, bAnd, bNot, bYes, tstB, v2, vV, vK, aC, aN, vCal, vU, vIf, vCh, vAnd, vFn, oIx, oAdd, oSub, oMul, oDiv, oMod, oNeg, see, seeC, fInt, fAbs_int, fMax_int, fMin_int, ordI_int, retF_same, excF_same, gvN, gvS, gvT, gsC, gsN, iAdd, L2.atI, L2.ixN, mulOk_l, mulOk_r, log_ok, le_t, le_f, lt_t, lt_f, gt_t, gt_f, ge_t, ge_f, List.getElem?_cons_zero, List.getElem?_cons_succ, List.set_cons_zero, List.set_cons_succ, List.length_cons, List.length_nil, List.map_cons, List.map_nil, List.cons_append, List.nil_append, List.append_nil, List.replicate_succ, List.replicate_zero, Nat.zero_add, Nat.reduceAdd, Nat.reduceSub, Nat.reduceLT, Nat.reduceLeDiff, Int.reduceLT, Int.reduceLE, Int.reduceAdd, Int.reduceSub, Int.reduceMul, Int.reduceNeg, decide_true, decide_false, Bool.not_true, Bool.not_false, reduceCtorEq, ↓reduceIte, and_self, and_true, true_and, if_true, if_false, Bool.false_eq_true, if_pos, if_neg, Int.reduceToNat, Int.toNat_zero, Int.toNat_one, Option.bind_some, Option.map_some, pAll, pAll_map, seqP_lst, seqP_tup, seqP_scr, vTup, vLst, vLstM, szLine_eq, vMet, isList, mApp, last_get, last_set, List.length_map, List.length_append, seeC, oIs, Option.map, k23]) kl k5 k10
    refine ⟨_, rfl, ?_⟩
    have sm := fSum_ints ((itv 0 (j + 1).toNat).map fun i => h / m + (if i < h % m then 1 else 0)) s
    rw [cum_sum _ _ hr, show (j + 1).toNat = j.toNat + 1 by omega] at sm
    rw [show (j + 1).toNat = j.toNat + 1 by omega] at ls
    simp (disch := omega) only [bnd_ok, bnd_exc, fnF, startE, sSeq, sIf, sAsg, sRet, sNx, sAug, sPar, sDo, sRaise, bOr, bAnd, bNot, bYes, tstB, v2, vV, vK, aC, aN, vCal, vU, vIf, vCh, vAnd, vFn, oIx, oAdd, oSub, oMul, oDiv, oMod, oNeg, see, seeC, fInt, fAbs_int, fMax_int, fMin_int, ordI_int, retF_same, excF_same, gvN, gvS, gvT, gsC, gsN, iAdd, L2.atI, L2.ixN, mulOk_l, mulOk_r, log_ok, le_t, le_f, lt_t, lt_f, gt_t, gt_f, ge_t, ge_f, List.getElem?_cons_zero, List.getElem?_cons_succ, List.set_cons_zero, List.set_cons_succ, List.length_cons, List.length_nil, List.map_cons, List.map_nil, List.cons_append, List.nil_append, List.append_nil, List.replicate_succ, List.replicate_zero, Nat.zero_add, Nat.reduceAdd, Nat.reduceSub, Nat.reduceLT, Nat.reduceLeDiff, Int.reduceLT, Int.reduceLE, Int.reduceAdd, Int.reduceSub, Int.reduceMul, Int.reduceNeg, decide_true, decide_false, Bool.not_true, Bool.not_false, reduceCtorEq, ↓reduceIte, and_self, and_true, true_and, if_true, if_false, Bool.false_eq_true, if_pos, if_neg, Int.reduceToNat, Int.toNat_zero, Int.toNat_one, Option.bind_some, Option.map_some, pAll, pAll_map, seqP_lst, seqP_tup, seqP_scr, vTup, vLst, vLstM, szLine_eq, vMet, isList, mApp, last_get, last_set, List.length_map, List.length_append, seeC, oIs, Option.map, ls, sm])
  have r : -1000000000000 ≤ m ∧ m < 1000000000000 := by omega
  have q : (itv 0 m.toNat).map (fun j => P.int (cum (h / m) (h % m) (j.toNat + 1))) = (tops (h / m) (h % m) m.toNat).map P.int := by
    unfold tops itv
    rw [List.map_map]; rw [List.map_map]
    refine List.map_congr_left fun j _ => ?_
    simp only [Function.comp]
    rw [show (0 + (j : Int)).toNat = j by omega]
  rw [q] at e
  simp (disch := omega) only [bnd_ok, bnd_exc, fnF, startE, sSeq, sIf, sAsg, sRet, sNx, sAug, sPar, sDo, sRaise, bOr, bAnd, bNot, bYes, tstB, v2, vV, vK, aC, aN, vCal, vU, vIf, vCh, vAnd, vFn, oIx, oAdd, oSub, oMul, oDiv, oMod, oNeg, see, seeC, fInt, fAbs_int, fMax_int, fMin_int, ordI_int, retF_same, excF_same, gvN, gvS, gvT, gsC, gsN, iAdd, L2.atI, L2.ixN, mulOk_l, mulOk_r, log_ok, le_t, le_f, lt_t, lt_f, gt_t, gt_f, ge_t, ge_f, List.getElem?_cons_zero, List.getElem?_cons_succ, List.set_cons_zero, List.set_cons_succ, List.length_cons, List.length_nil, List.map_cons, List.map_nil, List.cons_append, List.nil_append, List.append_nil, List.replicate_succ, List.replicate_zero, Nat.zero_add, Nat.reduceAdd, Nat.reduceSub, Nat.reduceLT, Nat.reduceLeDiff, Int.reduceLT, Int.reduceLE, Int.reduceAdd, Int.reduceSub, Int.reduceMul, Int.reduceNeg, decide_true, decide_false, Bool.not_true, Bool.not_false, reduceCtorEq, ↓reduceIte, and_self, and_true, true_and, if_true, if_false, Bool.false_eq_true, if_pos, if_neg, Int.reduceToNat, Int.toNat_zero, Int.toNat_one, Option.bind_some, Option.map_some, pAll, pAll_map, seqP_lst, seqP_tup, seqP_scr, vTup, vLst, vLstM, szLine_eq, vMet, isList, mApp, last_get, last_set, List.length_map, List.length_append, seeC, oIs, Option.map, V_2, vCmpD, itR1, r, g10, rng_itv0, e, kLst, itv_len]
end

section
set_option linter.all false
set_option maxHeartbeats 4100000
set_option maxRecDepth 10000
open PySem L2 Iv K09
theorem V1_ok (x : Rw) (o0 o1 o2 o3 o4 o5 o6 o7 o8 o9 o10 o11 o12 o13 o14 o16 o17 o18 o19 : Option D) (rest : List (Option D)) (s : Store) :
    V_1 (o0 :: o1 :: o2 :: o3 :: o4 :: o5 :: o6 :: o7 :: o8 :: o9 :: o10 :: o11 :: o12 :: o13 :: o14 :: some (.p (enc5 x)) :: o16 :: o17 :: o18 :: o19 :: rest) s =
      .nx (o0 :: o1 :: o2 :: o3 :: o4 :: o5 :: o6 :: o7 :: o8 :: o9 :: I x.m :: o11 :: o12 :: o13 :: o14 :: some (.p (enc5 x)) :: I x.q :: I x.r :: I x.w :: I x.l :: rest) s := by
  simp (disch := omega) only [bnd_ok, bnd_exc, fnF, startE, sSeq, sIf, sAsg, sRet, sNx, sAug, sPar, sDo, sRaise, bOr, bAnd, bNot, bYes, tstB, v2, vV, vK, aC, aN, vCal, vU, vIf, vCh, vAnd, vFn, oIx, oAdd, oSub, oMul, oDiv, oMod, oNeg, see, seeC, fInt, fAbs_int, fMax_int, fMin_int, ordI_int, retF_same, excF_same, gvN, gvS, gvT, gsC, gsN, iAdd, L2.atI, L2.ixN, mulOk_l, mulOk_r, log_ok, le_t, le_f, lt_t, lt_f, gt_t, gt_f, ge_t, ge_f, List.getElem?_cons_zero, List.getElem?_cons_succ, List.set_cons_zero, List.set_cons_succ, List.length_cons, List.length_nil, List.map_cons, List.map_nil, List.cons_append, List.nil_append, List.append_nil, List.replicate_succ, List.replicate_zero, Nat.zero_add, Nat.reduceAdd, Nat.reduceSub, Nat.reduceLT, Nat.reduceLeDiff, Int.reduceLT, Int.reduceLE, Int.reduceAdd, Int.reduceSub, Int.reduceMul, Int.reduceNeg, decide_true, decide_false, Bool.not_true, Bool.not_false, reduceCtorEq, ↓reduceIte, and_self, and_true, true_and, if_true, if_false, Bool.false_eq_true, if_pos, if_neg, Int.reduceToNat, Int.toNat_zero, Int.toNat_one, Option.bind_some, Option.map_some, pAll, pAll_map, seqP_lst, seqP_tup, seqP_scr, vTup, vLst, vLstM, szLine_eq, vMet, isList, mApp, last_get, last_set, List.length_map, List.length_append, seeC, oIs, Option.map, V_1, enc5]
theorem V3_ok (o0 o1 o2 o3 o4 o5 o6 o7 o8 o9 o10 o11 o12 o13 o14 o15 o16 o17 o18 o19 o20 o21 o22 : Option D) (rest : List (Option D)) (s : Store) :
    V_3 (o0 :: o1 :: o2 :: o3 :: o4 :: o5 :: o6 :: o7 :: o8 :: o9 :: o10 :: o11 :: o12 :: o13 :: o14 :: o15 :: o16 :: o17 :: o18 :: o19 :: o20 :: o21 :: o22 :: rest) s =
      .nx (o0 :: o1 :: o2 :: o3 :: o4 :: o5 :: o6 :: o7 :: o8 :: o9 :: o10 :: o11 :: o12 :: o13 :: o14 :: o15 :: o16 :: o17 :: o18 :: o19 :: o20 :: some (.p (.lst [.tup [.int 0, .int 0]])) :: I 0 :: rest) s := by
  simp (disch := omega) only [bnd_ok, bnd_exc, fnF, startE, sSeq, sIf, sAsg, sRet, sNx, sAug, sPar, sDo, sRaise, bOr, bAnd, bNot, bYes, tstB, v2, vV, vK, aC, aN, vCal, vU, vIf, vCh, vAnd, vFn, oIx, oAdd, oSub, oMul, oDiv, oMod, oNeg, see, seeC, fInt, fAbs_int, fMax_int, fMin_int, ordI_int, retF_same, excF_same, gvN, gvS, gvT, gsC, gsN, iAdd, L2.atI, L2.ixN, mulOk_l, mulOk_r, log_ok, le_t, le_f, lt_t, lt_f, gt_t, gt_f, ge_t, ge_f, List.getElem?_cons_zero, List.getElem?_cons_succ, List.set_cons_zero, List.set_cons_succ, List.length_cons, List.length_nil, List.map_cons, List.map_nil, List.cons_append, List.nil_append, List.append_nil, List.replicate_succ, List.replicate_zero, Nat.zero_add, Nat.reduceAdd, Nat.reduceSub, Nat.reduceLT, Nat.reduceLeDiff, Int.reduceLT, Int.reduceLE, Int.reduceAdd, Int.reduceSub, Int.reduceMul, Int.reduceNeg, decide_true, decide_false, Bool.not_true, Bool.not_false, reduceCtorEq, ↓reduceIte, and_self, and_true, true_and, if_true, if_false, Bool.false_eq_true, if_pos, if_neg, Int.reduceToNat, Int.toNat_zero, Int.toNat_one, Option.bind_some, Option.map_some, pAll, pAll_map, seqP_lst, seqP_tup, seqP_scr, vTup, vLst, vLstM, szLine_eq, vMet, isList, mApp, last_get, last_set, List.length_map, List.length_append, seeC, oIs, Option.map, V_3]
theorem V4_ok {m q r wd l : Int} (hm : 0 ≤ m) (hm2 : m ≤ 10000) (hl : 0 ≤ l) (o0 o1 o2 o3 o4 o5 o6 o7 o8 o9 o11 o12 o13 o14 o15 o16 o17 o23 : Option D) (rest : List (Option D)) (s : Store) :
    ∃ z22 z23, V_4 (o0 :: o1 :: o2 :: o3 :: o4 :: o5 :: o6 :: o7 :: o8 :: o9 :: I m :: o11 :: o12 :: o13 :: o14 :: o15 :: o16 :: o17 :: I wd :: I l :: some (.p (.lst ((tops q r m.toNat).map .int))) :: some (.p (.lst [.tup [.int 0, .int 0]])) :: I 0 :: o23 :: rest) s =
      .nx (o0 :: o1 :: o2 :: o3 :: o4 :: o5 :: o6 :: o7 :: o8 :: o9 :: I m :: o11 :: o12 :: o13 :: o14 :: o15 :: o16 :: o17 :: I wd :: I l :: some (.p (.lst ((tops q r m.toNat).map .int))) :: some (.p (.lst ((crn q r wd l m.toNat m.toNat).map encT))) :: z22 :: z23 :: rest) s := by
  obtain ⟨δ', st', e, rfl, x, z, rfl⟩ := for_range (t := gvN 23) (b := sSeq W_4_1 (W_4_2)) (n := m.toNat) (f := fun i : Nat => D.p (.int (i : Nat)))
    (fun j δ st => st = s ∧ ∃ x z, δ = (o0 :: o1 :: o2 :: o3 :: o4 :: o5 :: o6 :: o7 :: o8 :: o9 :: I m :: o11 :: o12 :: o13 :: o14 :: o15 :: o16 :: o17 :: I wd :: I l :: some (.p (.lst ((tops q r m.toNat).map .int))) :: some (.p (.lst ((crn q r wd l m.toNat j).map encT))) :: (if j = m.toNat then x else I (cum wd l j)) :: z :: rest))
    (δ := o0 :: o1 :: o2 :: o3 :: o4 :: o5 :: o6 :: o7 :: o8 :: o9 :: I m :: o11 :: o12 :: o13 :: o14 :: o15 :: o16 :: o17 :: I wd :: I l :: some (.p (.lst ((tops q r m.toNat).map .int))) :: some (.p (.lst [.tup [.int 0, .int 0]])) :: I 0 :: o23 :: rest) (st := s) (by
      rintro j δ st hj ⟨rfl, x, z, rfl⟩
      have hx : (if j = m.toNat then x else I (cum wd l j)) = I (cum wd l j) := if_neg (by omega)
      rw [hx]
      have hcl := crn_len q r wd l m.toNat j
      by_cases c : j + 1 < m.toNat
      · refine ⟨_, _, (o0 :: o1 :: o2 :: o3 :: o4 :: o5 :: o6 :: o7 :: o8 :: o9 :: I m :: o11 :: o12 :: o13 :: o14 :: o15 :: o16 :: o17 :: I wd :: I l :: some (.p (.lst ((tops q r m.toNat).map .int))) :: some (.p (.lst ((crn q r wd l m.toNat (j + 1)).map encT))) :: I (cum wd l (j + 1)) :: I j :: rest), st, rfl, ?_, rfl, none, _, by rw [if_neg (by omega)]⟩
        have e1 : crn q r wd l m.toNat (j + 1) = crn q r wd l m.toNat j ++ [(cum wd l j, cum q r (j + 1)), (cum wd l (j + 1), cum q r (j + 1))] := by rw [crn, if_pos c]
        rw [e1]
        have c2 := cum_succ hl (q := wd) j
        rw [c2]
        by_cases d : (j : Int) < l <;> simp (disch := omega) only [bnd_ok, bnd_exc, fnF, startE, sSeq, sIf, sAsg, sRet, sNx, sAug, sPar, sDo, sRaise, bOr, bAnd, bNot, bYes, tstB, v2, vV, vK, aC, aN, vCal, vU, vIf, vCh, vAnd, vFn, oIx, oAdd, oSub, oMul, oDiv, oMod, oNeg, see, seeC, fInt, fAbs_int, fMax_int, fMin_int, ordI_int, retF_same, excF_same, gvN, gvS, gvT, gsC, gsN, iAdd, L2.atI, L2.ixN, mulOk_l, mulOk_r, log_ok, le_t, le_f, lt_t, lt_f, gt_t, gt_f, ge_t, ge_f, List.getElem?_cons_zero, List.getElem?_cons_succ, List.set_cons_zero, List.set_cons_succ, List.length_cons, List.length_nil, List.map_cons, List.map_nil, List.cons_append, List.nil_append, List.append_nil, List.replicate_succ, List.replicate_zero, Nat.zero_add, Nat.reduceAdd, Nat.reduceSub, Nat.reduceLT, Nat.reduceLeDiff, Int.reduceLT, Int.reduceLE, Int.reduceAdd, Int.reduceSub, Int.reduceMul, Int.reduceNeg, decide_true, decide_false, Bool.not_true, Bool.not_false, reduceCtorEq, ↓reduceIte, and_self, and_true, true_and, if_true, if_false, Bool.false_eq_true, if_pos, if_neg, Int.reduceToNat, Int.toNat_zero, Int.toNat_one, Option.bind_some, Option.map_some, pAll, pAll_map, seqP_lst, seqP_tup, seqP_scr, vTup, vLst, vLstM, szLine_eq, vMet, isList, mApp, last_get, last_set, List.length_map, List.length_append, seeC, oIs, Option.map, W_4_1, W_4_2, tops_len, Int.toNat_natCast, List.getElem?_map, tops_get, encT, List.map_append, List.append_assoc, d, Int.add_assoc]
      · refine ⟨_, _, (o0 :: o1 :: o2 :: o3 :: o4 :: o5 :: o6 :: o7 :: o8 :: o9 :: I m :: o11 :: o12 :: o13 :: o14 :: o15 :: o16 :: o17 :: I wd :: I l :: some (.p (.lst ((tops q r m.toNat).map .int))) :: some (.p (.lst ((crn q r wd l m.toNat (j + 1)).map encT))) :: I (cum wd l j) :: I j :: rest), st, rfl, ?_, rfl, I (cum wd l j), _, by rw [if_pos (by omega)]⟩
        have e1 : crn q r wd l m.toNat (j + 1) = crn q r wd l m.toNat j ++ [(cum wd l j, cum q r (j + 1))] := by rw [crn, if_neg c]
        rw [e1]
        simp (disch := omega) only [bnd_ok, bnd_exc, fnF, startE, sSeq, sIf, sAsg, sRet, sNx, sAug, sPar, sDo, sRaise, bOr, bAnd, bNot, bYes, tstB, v2, vV, vK, aC, aN, vCal, vU, vIf, vCh, vAnd, vFn, oIx, oAdd, oSub, oMul, oDiv, oMod, oNeg, see, seeC, fInt, fAbs_int, fMax_int, fMin_int, ordI_int, retF_same, excF_same, gvN, gvS, gvT, gsC, gsN, iAdd, L2.atI, L2.ixN, mulOk_l, mulOk_r, log_ok, le_t, le_f, lt_t, lt_f, gt_t, gt_f, ge_t, ge_f, List.getElem?_cons_zero, List.getElem?_cons_succ, List.set_cons_zero, List.set_cons_succ, List.length_cons, List.length_nil, List.map_cons, List.map_nil, List.cons_append, List.nil_append, List.append_nil, List.replicate_succ, List.replicate_zero, Nat.zero_add, Nat.reduceAdd, Nat.reduceSub, Nat.reduceLT, Nat.reduceLeDiff, Int.reduceLT, Int.reduceLE, Int.reduceAdd, Int.reduceSub, Int.reduceMul, Int.reduceNeg, decide_true, decide_false, Bool.not_true, Bool.not_false, reduceCtorEq, ↓reduceIte, and_self, and_true, true_and, if_true, if_false, Bool.false_eq_true, if_pos, if_neg, Int.reduceToNat, Int.toNat_zero, Int.toNat_one, Option.bind_some, Option.map_some, pAll, pAll_map, seqP_lst, seqP_tup, seqP_scr, vTup, vLst, vLstM, szLine_eq, vMet, isList, mApp, last_get, last_set, List.length_map, List.length_append, seeC, oIs, Option.map, W_4_1, W_4_2, tops_len, Int.toNat_natCast, List.getElem?_map, tops_get, encT, List.map_append, List.append_assoc]) ⟨rfl, I 0, o23, by rw [cum_zero hl]; split <;> rfl⟩
  refine ⟨x, z, ?_⟩
  have r1 : -1000000000000 ≤ m ∧ m < 1000000000000 := by omega
  have hi : (if m.toNat = m.toNat then x else I (cum wd l m.toNat)) = x := if_pos rfl
  rw [hi] at e
  simp (disch := omega) only [bnd_ok, bnd_exc, fnF, startE, sSeq, sIf, sAsg, sRet, sNx, sAug, sPar, sDo, sRaise, bOr, bAnd, bNot, bYes, tstB, v2, vV, vK, aC, aN, vCal, vU, vIf, vCh, vAnd, vFn, oIx, oAdd, oSub, oMul, oDiv, oMod, oNeg, see, seeC, fInt, fAbs_int, fMax_int, fMin_int, ordI_int, retF_same, excF_same, gvN, gvS, gvT, gsC, gsN, iAdd, L2.atI, L2.ixN, mulOk_l, mulOk_r, log_ok, le_t, le_f, lt_t, lt_f, gt_t, gt_f, ge_t, ge_f, List.getElem?_cons_zero, List.getElem?_cons_succ, List.set_cons_zero, List.set_cons_succ, List.length_cons, List.length_nil, List.map_cons, List.map_nil, List.cons_append, List.nil_append, List.append_nil, List.replicate_succ, List.replicate_zero, Nat.zero_add, Nat.reduceAdd, Nat.reduceSub, Nat.reduceLT, Nat.reduceLeDiff, Int.reduceLT, Int.reduceLE, Int.reduceAdd, Int.reduceSub, Int.reduceMul, Int.reduceNeg, decide_true, decide_false, Bool.not_true, Bool.not_false, reduceCtorEq, ↓reduceIte, and_self, and_true, true_and, if_true, if_false, Bool.false_eq_true, if_pos, if_neg, Int.reduceToNat, Int.toNat_zero, Int.toNat_one, Option.bind_some, Option.map_some, pAll, pAll_map, seqP_lst, seqP_tup, seqP_scr, vTup, vLst, vLstM, szLine_eq, vMet, isList, mApp, last_get, last_set, List.length_map, List.length_append, seeC, oIs, Option.map, V_4, sForI, itR1, r1, e, List.length_range]
theorem okTs (n : Nat) (xs : List Pt) : okDs (n + 1) (xs.map encT) = true := okDs_all _ _ fun x hx => by
  obtain ⟨p, _, rfl⟩ := List.mem_map.mp hx
  rfl
theorem fLen_lst (xs : List P) (s : Store) : fLen [.p (.lst xs)] s = .ok (.p (.int xs.length)) s := rfl
theorem V5_ok {m q r wd l h ln : Int} (hm : 0 < m) (hm2 : m ≤ 10000) (hq : 1 ≤ q) (hr : 0 ≤ r) (hl : 0 ≤ l) (hw : 1 ≤ wd ∨ m.toNat ≤ 1) (hh : cum q r m.toNat = h) (hln : cum wd l (m.toNat - 1) = if 1 < m then ln else 0) (o0 o1 o2 o3 o4 o7 o8 o9 o11 o12 o13 o14 o15 o22 o23 : Option D) (rest : List (Option D)) (s : Store) (w : WfS s) :
    V_5 (o0 :: o1 :: o2 :: o3 :: o4 :: I h :: I ln :: o7 :: o8 :: o9 :: I m :: o11 :: o12 :: o13 :: o14 :: o15 :: I q :: I r :: I wd :: I l :: some (.p (.lst ((tops q r m.toNat).map .int))) :: some (.p (.lst ((crn q r wd l m.toNat m.toNat).map encT))) :: o22 :: o23 :: rest) s =
      .nx (o0 :: o1 :: o2 :: o3 :: o4 :: I h :: I ln :: o7 :: o8 :: o9 :: I m :: o11 :: o12 :: o13 :: o14 :: o15 :: I q :: I r :: I wd :: I l :: some (.p (.lst ((tops q r m.toNat).map .int))) :: some (.p (.lst ((crn q r wd l m.toNat m.toNat).map encT))) :: o22 :: o23 :: rest) s := by
  have h1 := heights_ok (m := m) (q := q) (r := r) s w (by omega) (by omega) hr
  have h2 := edges_ok (m := m) (q := q) (r := r) (wd := wd) (l := l) s w (by omega) (by omega) hr hl
  have p1 : pEq (.lst ((tops q r m.toNat).map .int)) (.lst ((tops q r m.toNat).map .int)) = some true := pEq_self (lst_ints _)
  have p2 : pEq (.lst ((crn q r wd l m.toNat m.toNat).map encT)) (.lst ((crn q r wd l m.toNat m.toNat).map encT)) = some true := pEq_self (by unfold okD; exact okTs 58 _)
  obtain ⟨pre, e⟩ := (crn_adj hq hr hl hw m.toNat (Nat.le_refl _)).2.2 (by omega) rfl
  rw [hh, hln] at e
  have g : L2.atI ((crn q r wd l m.toNat m.toNat).map encT) (((crn q r wd l m.toNat m.toNat).map encT).length - 1 : Int) = some (encT (if 1 < m then ln else 0, h)) := by
    rw [show ((((crn q r wd l m.toNat m.toNat).map encT).length : Int) - 1) = ((((crn q r wd l m.toNat m.toNat).map encT).length - 1 : Nat) : Int) by rw [e]; simp]
    refine Iv.atI_nat ?_
    rw [e]
    simp
  have gx : ∀ t : Store, oIx (.p (.lst ((crn q r wd l m.toNat m.toNat).map encT))) (.p (.int (((crn q r wd l m.toNat m.toNat).map encT).length - 1 : Int))) t = .ok (.p (encT (if 1 < m then ln else 0, h))) t := fun t => by unfold oIx; simp only [seqP_lst, g]
  have p3 : pEq (encT (if 1 < m then ln else 0, h)) (encT (if 1 < m then ln else 0, h)) = some true := pEq_self rfl
  have lx : ∀ t : Store, fLen [.p (.lst ((crn q r wd l m.toNat m.toNat).map encT))] t = .ok (.p (.int ((crn q r wd l m.toNat m.toNat).map encT).length)) t := fun t => rfl
  generalize crn q r wd l m.toNat m.toNat = C at *
  generalize tops q r m.toNat = T at *
  simp only [V_5, sIf, bOr, tstB, Iv.v2, vCal, vFn, vV, vK, aC, aN, bnd_ok, List.getElem?_cons_zero, List.getElem?_cons_succ, h1, h2, List.cons_append, List.nil_append, List.append_nil, fList, see, seqP_tup, oEq, p1, p2, lx, oSub, gx, vIf, vTup, if_true, Bool.not_true, Bool.false_eq_true, if_false]
  have p4 : ∀ z : Int, pEq (.tup [.int z, .int h]) (.tup [.int z, .int h]) = some true := fun z => pEq_self rfl
  by_cases c : 1 < m
  · simp only [if_pos c] at p3 ⊢
    simp (disch := omega) only [bnd_ok, bnd_exc, fnF, startE, sSeq, sIf, sAsg, sRet, sNx, sAug, sPar, sDo, sRaise, bOr, bAnd, bNot, bYes, tstB, v2, vV, vK, aC, aN, vCal, vU, vIf, vCh, vAnd, vFn, oIx, oAdd, oSub, oMul, oDiv, oMod, oNeg, see, seeC, fInt, fAbs_int, fMax_int, fMin_int, ordI_int, retF_same, excF_same, gvN, gvS, gvT, gsC, gsN, iAdd, L2.atI, L2.ixN, mulOk_l, mulOk_r, log_ok, le_t, le_f, lt_t, lt_f, gt_t, gt_f, ge_t, ge_f, List.getElem?_cons_zero, List.getElem?_cons_succ, List.set_cons_zero, List.set_cons_succ, List.length_cons, List.length_nil, List.map_cons, List.map_nil, List.cons_append, List.nil_append, List.append_nil, List.replicate_succ, List.replicate_zero, Nat.zero_add, Nat.reduceAdd, Nat.reduceSub, Nat.reduceLT, Nat.reduceLeDiff, Int.reduceLT, Int.reduceLE, Int.reduceAdd, Int.reduceSub, Int.reduceMul, Int.reduceNeg, decide_true, decide_false, Bool.not_true, Bool.not_false, reduceCtorEq, ↓reduceIte, and_self, and_true, true_and, if_true, if_false, Bool.false_eq_true, if_pos, if_neg, Int.reduceToNat, Int.toNat_zero, Int.toNat_one, Option.bind_some, Option.map_some, pAll, pAll_map, seqP_lst, seqP_tup, seqP_scr, vTup, vLst, vLstM, szLine_eq, vMet, isList, mApp, last_get, last_set, List.length_map, List.length_append, seeC, oIs, Option.map, c, p4, encT]
  · simp only [if_neg c] at p3 ⊢
    simp (disch := omega) only [bnd_ok, bnd_exc, fnF, startE, sSeq, sIf, sAsg, sRet, sNx, sAug, sPar, sDo, sRaise, bOr, bAnd, bNot, bYes, tstB, v2, vV, vK, aC, aN, vCal, vU, vIf, vCh, vAnd, vFn, oIx, oAdd, oSub, oMul, oDiv, oMod, oNeg, see, seeC, fInt, fAbs_int, fMax_int, fMin_int, ordI_int, retF_same, excF_same, gvN, gvS, gvT, gsC, gsN, iAdd, L2.atI, L2.ixN, mulOk_l, mulOk_r, log_ok, le_t, le_f, lt_t, lt_f, gt_t, gt_f, ge_t, ge_f, List.getElem?_cons_zero, List.getElem?_cons_succ, List.set_cons_zero, List.set_cons_succ, List.length_cons, List.length_nil, List.map_cons, List.map_nil, List.cons_append, List.nil_append, List.append_nil, List.replicate_succ, List.replicate_zero, Nat.zero_add, Nat.reduceAdd, Nat.reduceSub, Nat.reduceLT, Nat.reduceLeDiff, Int.reduceLT, Int.reduceLE, Int.reduceAdd, Int.reduceSub, Int.reduceMul, Int.reduceNeg, decide_true, decide_false, Bool.not_true, Bool.not_false, reduceCtorEq, ↓reduceIte, and_self, and_true, true_and, if_true, if_false, Bool.false_eq_true, if_pos, if_neg, Int.reduceToNat, Int.toNat_zero, Int.toNat_one, Option.bind_some, Option.map_some, pAll, pAll_map, seqP_lst, seqP_tup, seqP_scr, vTup, vLst, vLstM, szLine_eq, vMet, isList, mApp, last_get, last_set, List.length_map, List.length_append, seeC, oIs, Option.map, c, p4, encT]
theorem V6_ok (o0 : Option D) (a b m0 ln : Int) (hm : okM m0) (hl : 0 ≤ ln) (hl2 : ln ≤ 100000) (cs : List Cell) (o2 o3 o4 o5 o7 o8 o9 o10 o11 o12 o13 o14 o15 o16 o17 o18 o19 o20 o21 o22 o23 o24 : Option D) (rest : List (Option D)) :
    ∃ a' b' m' F, V_6 (o0 :: some (.ref 0) :: o2 :: o3 :: o4 :: o5 :: I ln :: o7 :: o8 :: o9 :: o10 :: o11 :: o12 :: o13 :: o14 :: o15 :: o16 :: o17 :: o18 :: o19 :: o20 :: o21 :: o22 :: o23 :: o24 :: rest) (dC a b m0 :: cs) =
      .nx (o0 :: some (.ref 0) :: o2 :: o3 :: o4 :: o5 :: I ln :: o7 :: o8 :: o9 :: o10 :: o11 :: o12 :: o13 :: o14 :: o15 :: o16 :: o17 :: o18 :: o19 :: o20 :: o21 :: o22 :: o23 :: I F :: rest) (dC a' b' m' :: cs) ∧ okM m' := by
  obtain ⟨r1, a1, b1, m1, e1, p1, q1, k1⟩ := roll_any cs a b m0 (ln + 10) hm (by omega) (by omega) (log_ok (by omega) (by omega))
  refine ⟨a1, b1, m1, r1, ?_, k1⟩
  simp (disch := omega) only [bnd_ok, bnd_exc, fnF, startE, sSeq, sIf, sAsg, sRet, sNx, sAug, sPar, sDo, sRaise, bOr, bAnd, bNot, bYes, tstB, v2, vV, vK, aC, aN, vCal, vU, vIf, vCh, vAnd, vFn, oIx, oAdd, oSub, oMul, oDiv, oMod, oNeg, see, seeC, fInt, fAbs_int, fMax_int, fMin_int, ordI_int, retF_same, excF_same, gvN, gvS, gvT, gsC, gsN, iAdd, L2.atI, L2.ixN, mulOk_l, mulOk_r, log_ok, le_t, le_f, lt_t, lt_f, gt_t, gt_f, ge_t, ge_f, List.getElem?_cons_zero, List.getElem?_cons_succ, List.set_cons_zero, List.set_cons_succ, List.length_cons, List.length_nil, List.map_cons, List.map_nil, List.cons_append, List.nil_append, List.append_nil, List.replicate_succ, List.replicate_zero, Nat.zero_add, Nat.reduceAdd, Nat.reduceSub, Nat.reduceLT, Nat.reduceLeDiff, Int.reduceLT, Int.reduceLE, Int.reduceAdd, Int.reduceSub, Int.reduceMul, Int.reduceNeg, decide_true, decide_false, Bool.not_true, Bool.not_false, reduceCtorEq, ↓reduceIte, and_self, and_true, true_and, if_true, if_false, Bool.false_eq_true, if_pos, if_neg, Int.reduceToNat, Int.toNat_zero, Int.toNat_one, Option.bind_some, Option.map_some, pAll, pAll_map, seqP_lst, seqP_tup, seqP_scr, vTup, vLst, vLstM, szLine_eq, vMet, isList, mApp, last_get, last_set, List.length_map, List.length_append, seeC, oIs, Option.map, V_6, e1]
theorem V7_ok (o0 : Option D) (a b m0 h F : Int) (hm : okM m0) (cs : List Cell) (o2 o3 o4 o6 o7 o8 o9 o10 o11 o12 o13 o14 o15 o16 o17 o18 o19 o20 o21 o22 o23 o25 o26 : Option D) (rest : List (Option D)) :
    ∃ a' b' m' L C, V_7 (o0 :: some (.ref 0) :: o2 :: o3 :: o4 :: I h :: o6 :: o7 :: o8 :: o9 :: o10 :: o11 :: o12 :: o13 :: o14 :: o15 :: o16 :: o17 :: o18 :: o19 :: o20 :: o21 :: o22 :: o23 :: I F :: o25 :: o26 :: rest) (dC a b m0 :: cs) =
      .nx (o0 :: some (.ref 0) :: o2 :: o3 :: o4 :: I h :: o6 :: o7 :: o8 :: o9 :: o10 :: o11 :: o12 :: o13 :: o14 :: o15 :: o16 :: o17 :: o18 :: o19 :: o20 :: o21 :: o22 :: o23 :: I F :: I L :: I C :: rest) (dC a' b' m' :: cs) ∧ okM m' ∧ F < L := by
  obtain ⟨r1, a1, b1, m1, e1, p1, q1, k1⟩ := roll_any cs a b m0 500 hm (by omega) (by omega) (log_ok (by omega) (by omega))
  obtain ⟨r2, a2, b2, m2, e2, p2, q2, k2⟩ := roll_any cs a1 b1 m1 3000 k1 (by omega) (by omega) (log_ok (by omega) (by omega))
  refine ⟨a2, b2, m2, F + 1 + r1, h + r2, ?_, k2, by omega⟩
  simp (disch := omega) only [bnd_ok, bnd_exc, fnF, startE, sSeq, sIf, sAsg, sRet, sNx, sAug, sPar, sDo, sRaise, bOr, bAnd, bNot, bYes, tstB, v2, vV, vK, aC, aN, vCal, vU, vIf, vCh, vAnd, vFn, oIx, oAdd, oSub, oMul, oDiv, oMod, oNeg, see, seeC, fInt, fAbs_int, fMax_int, fMin_int, ordI_int, retF_same, excF_same, gvN, gvS, gvT, gsC, gsN, iAdd, L2.atI, L2.ixN, mulOk_l, mulOk_r, log_ok, le_t, le_f, lt_t, lt_f, gt_t, gt_f, ge_t, ge_f, List.getElem?_cons_zero, List.getElem?_cons_succ, List.set_cons_zero, List.set_cons_succ, List.length_cons, List.length_nil, List.map_cons, List.map_nil, List.cons_append, List.nil_append, List.append_nil, List.replicate_succ, List.replicate_zero, Nat.zero_add, Nat.reduceAdd, Nat.reduceSub, Nat.reduceLT, Nat.reduceLeDiff, Int.reduceLT, Int.reduceLE, Int.reduceAdd, Int.reduceSub, Int.reduceMul, Int.reduceNeg, decide_true, decide_false, Bool.not_true, Bool.not_false, reduceCtorEq, ↓reduceIte, and_self, and_true, true_and, if_true, if_false, Bool.false_eq_true, if_pos, if_neg, Int.reduceToNat, Int.toNat_zero, Int.toNat_one, Option.bind_some, Option.map_some, pAll, pAll_map, seqP_lst, seqP_tup, seqP_scr, vTup, vLst, vLstM, szLine_eq, vMet, isList, mApp, last_get, last_set, List.length_map, List.length_append, seeC, oIs, Option.map, V_7, e1, e2]
theorem V8_ok (C : List Pt) (hC : C.length ≤ 500000) (f la ce : Int) (δ : Iv.Env) (s : Store) (hl : δ.length = 36) (g21 : δ[21]? = some (some (.p (.lst (C.map encT))))) (g24 : δ[24]? = some (I f)) (g25 : δ[25]? = some (I la)) (g26 : δ[26]? = some (I ce)) :
    V_8 δ s = .nx (δ.set 27 (some (.p (.lst ((rooms (lroomP f la) ce C).map .int))))) s := by
  have hp := prs_len C
  have hs : oSl (.p (.lst (C.map encT))) (some 1) none s = .ok (.p (.lst ((C.drop 1).map encT))) s := by
    unfold oSl
    simp only [see, cutL_tail, List.map_drop]
  have it := zip_it C (aC (vV 21) (aC (vSl (vV 21) (poS (vK (.int 1))) (poN)) (aN))) δ s (by simp (disch := omega) only [bnd_ok, bnd_exc, fnF, startE, sSeq, sIf, sAsg, sRet, sNx, sAug, sPar, sDo, sRaise, bOr, bAnd, bNot, bYes, tstB, v2, vV, vK, aC, aN, vCal, vU, vIf, vCh, vAnd, vFn, oIx, oAdd, oSub, oMul, oDiv, oMod, oNeg, see, seeC, fInt, fAbs_int, fMax_int, fMin_int, ordI_int, retF_same, excF_same, gvN, gvS, gvT, gsC, gsN, iAdd, L2.atI, L2.ixN, mulOk_l, mulOk_r, log_ok, le_t, le_f, lt_t, lt_f, gt_t, gt_f, ge_t, ge_f, List.getElem?_cons_zero, List.getElem?_cons_succ, List.set_cons_zero, List.set_cons_succ, List.length_cons, List.length_nil, List.map_cons, List.map_nil, List.cons_append, List.nil_append, List.append_nil, List.replicate_succ, List.replicate_zero, Nat.zero_add, Nat.reduceAdd, Nat.reduceSub, Nat.reduceLT, Nat.reduceLeDiff, Int.reduceLT, Int.reduceLE, Int.reduceAdd, Int.reduceSub, Int.reduceMul, Int.reduceNeg, decide_true, decide_false, Bool.not_true, Bool.not_false, reduceCtorEq, ↓reduceIte, and_self, and_true, true_and, if_true, if_false, Bool.false_eq_true, if_pos, if_neg, Int.reduceToNat, Int.toNat_zero, Int.toNat_one, Option.bind_some, Option.map_some, pAll, pAll_map, seqP_lst, seqP_tup, seqP_scr, vTup, vLst, vLstM, szLine_eq, vMet, isList, mApp, last_get, last_set, List.length_map, List.length_append, seeC, oIs, Option.map, vSl, poS, poN, hs, g21])
  have e := compL_gen (t := tvT 2 (tsC (tvN 31) (tsC (tvN 32) (tsN)))) (c := bAnd (tstB (v2 (oEq false) (v2 oIx (vV 31) (vK (.int 1))) (v2 oIx (vV 32) (vK (.int 1))))) (tstB (v2 (oOrd .lt) (vCal (fBest true) (aC (v2 oIx (vV 31) (vK (.int 0))) (aC (vV 24) (aN)))) (vCal (fBest false) (aC (v2 oIx (vV 32) (vK (.int 0))) (aC (vV 25) (aN))))))) (e := v2 oSub (vV 26) (v2 oIx (vV 31) (vK (.int 1))))
    (δ0 := wipE δ [31, 32]) (st := s) (prs C) encPP (lroomP f la) (fun z => P.int (ce - z.1.2)) (fun z hz => by
      have w36 : (wipE δ [31, 32]).length = 36 := by simp [wipE, hl]
      have w24 : (wipE δ [31, 32])[24]? = some (I f) := by simp [wipE, g24]
      have w25 : (wipE δ [31, 32])[25]? = some (I la) := by simp [wipE, g25]
      have w26 : (wipE δ [31, 32])[26]? = some (I ce) := by simp [wipE, g26]
      generalize wipE δ [31, 32] = δ0 at *
      obtain ⟨⟨x, y⟩, ⟨x', y'⟩⟩ := z
      have k31 : ((δ0.set 31 (some (D.p (.tup [.int x, .int y])))).set 32 (some (D.p (.tup [.int x', .int y']))))[31]? = some (some (.p (.tup [.int x, .int y]))) := by simp [w36]
      have k32 : ((δ0.set 31 (some (D.p (.tup [.int x, .int y])))).set 32 (some (D.p (.tup [.int x', .int y']))))[32]? = some (some (.p (.tup [.int x', .int y']))) := by simp [w36]
      have k24 : ((δ0.set 31 (some (D.p (.tup [.int x, .int y])))).set 32 (some (D.p (.tup [.int x', .int y']))))[24]? = some (I f) := by simp [w24]
      have k25 : ((δ0.set 31 (some (D.p (.tup [.int x, .int y])))).set 32 (some (D.p (.tup [.int x', .int y']))))[25]? = some (I la) := by simp [w25]
      have k26 : ((δ0.set 31 (some (D.p (.tup [.int x, .int y])))).set 32 (some (D.p (.tup [.int x', .int y']))))[26]? = some (I ce) := by simp [w26]
      refine ⟨(δ0.set 31 (some (D.p (.tup [.int x, .int y])))).set 32 (some (D.p (.tup [.int x', .int y']))), rfl, ?_, fun _ => ?_⟩
      · by_cases c1 : y = y'
        · subst c1
          by_cases c2 : maxI x f < minI x' la <;> simp (disch := omega) only [bnd_ok, bnd_exc, fnF, startE, sSeq, sIf, sAsg, sRet, sNx, sAug, sPar, sDo, sRaise, bOr, bAnd, bNot, bYes, tstB, v2, vV, vK, aC, aN, vCal, vU, vIf, vCh, vAnd, vFn, oIx, oAdd, oSub, oMul, oDiv, oMod, oNeg, see, seeC, fInt, fAbs_int, fMax_int, fMin_int, ordI_int, retF_same, excF_same, gvN, gvS, gvT, gsC, gsN, iAdd, L2.atI, L2.ixN, mulOk_l, mulOk_r, log_ok, le_t, le_f, lt_t, lt_f, gt_t, gt_f, ge_t, ge_f, List.getElem?_cons_zero, List.getElem?_cons_succ, List.set_cons_zero, List.set_cons_succ, List.length_cons, List.length_nil, List.map_cons, List.map_nil, List.cons_append, List.nil_append, List.append_nil, List.replicate_succ, List.replicate_zero, Nat.zero_add, Nat.reduceAdd, Nat.reduceSub, Nat.reduceLT, Nat.reduceLeDiff, Int.reduceLT, Int.reduceLE, Int.reduceAdd, Int.reduceSub, Int.reduceMul, Int.reduceNeg, decide_true, decide_false, Bool.not_true, Bool.not_false, reduceCtorEq, ↓reduceIte, and_self, and_true, true_and, if_true, if_false, Bool.false_eq_true, if_pos, if_neg, Int.reduceToNat, Int.toNat_zero, Int.toNat_one, Option.bind_some, Option.map_some, pAll, pAll_map, seqP_lst, seqP_tup, seqP_scr, vTup, vLst, vLstM, szLine_eq, vMet, isList, mApp, last_get, last_set, List.length_map, List.length_append, seeC, oIs, Option.map, k31, k32, k24, k25, oEq, pEq_int, lroomP, eq_self, c2, Bool.and_true, Bool.and_false, Bool.true_and, Bool.false_and]
        · simp (disch := omega) only [bnd_ok, bnd_exc, fnF, startE, sSeq, sIf, sAsg, sRet, sNx, sAug, sPar, sDo, sRaise, bOr, bAnd, bNot, bYes, tstB, v2, vV, vK, aC, aN, vCal, vU, vIf, vCh, vAnd, vFn, oIx, oAdd, oSub, oMul, oDiv, oMod, oNeg, see, seeC, fInt, fAbs_int, fMax_int, fMin_int, ordI_int, retF_same, excF_same, gvN, gvS, gvT, gsC, gsN, iAdd, L2.atI, L2.ixN, mulOk_l, mulOk_r, log_ok, le_t, le_f, lt_t, lt_f, gt_t, gt_f, ge_t, ge_f, List.getElem?_cons_zero, List.getElem?_cons_succ, List.set_cons_zero, List.set_cons_succ, List.length_cons, List.length_nil, List.map_cons, List.map_nil, List.cons_append, List.nil_append, List.append_nil, List.replicate_succ, List.replicate_zero, Nat.zero_add, Nat.reduceAdd, Nat.reduceSub, Nat.reduceLT, Nat.reduceLeDiff, Int.reduceLT, Int.reduceLE, Int.reduceAdd, Int.reduceSub, Int.reduceMul, Int.reduceNeg, decide_true, decide_false, Bool.not_true, Bool.not_false, reduceCtorEq, ↓reduceIte, and_self, and_true, true_and, if_true, if_false, Bool.false_eq_true, if_pos, if_neg, Int.reduceToNat, Int.toNat_zero, Int.toNat_one, Option.bind_some, Option.map_some, pAll, pAll_map, seqP_lst, seqP_tup, seqP_scr, vTup, vLst, vLstM, szLine_eq, vMet, isList, mApp, last_get, last_set, List.length_map, List.length_append, seeC, oIs, Option.map, k31, k32, k24, k25, oEq, pEq_int, lroomP, c1, Bool.and_true, Bool.and_false, Bool.true_and, Bool.false_and]
      · simp (disch := omega) only [bnd_ok, bnd_exc, fnF, startE, sSeq, sIf, sAsg, sRet, sNx, sAug, sPar, sDo, sRaise, bOr, bAnd, bNot, bYes, tstB, v2, vV, vK, aC, aN, vCal, vU, vIf, vCh, vAnd, vFn, oIx, oAdd, oSub, oMul, oDiv, oMod, oNeg, see, seeC, fInt, fAbs_int, fMax_int, fMin_int, ordI_int, retF_same, excF_same, gvN, gvS, gvT, gsC, gsN, iAdd, L2.atI, L2.ixN, mulOk_l, mulOk_r, log_ok, le_t, le_f, lt_t, lt_f, gt_t, gt_f, ge_t, ge_f, List.getElem?_cons_zero, List.getElem?_cons_succ, List.set_cons_zero, List.set_cons_succ, List.length_cons, List.length_nil, List.map_cons, List.map_nil, List.cons_append, List.nil_append, List.append_nil, List.replicate_succ, List.replicate_zero, Nat.zero_add, Nat.reduceAdd, Nat.reduceSub, Nat.reduceLT, Nat.reduceLeDiff, Int.reduceLT, Int.reduceLE, Int.reduceAdd, Int.reduceSub, Int.reduceMul, Int.reduceNeg, decide_true, decide_false, Bool.not_true, Bool.not_false, reduceCtorEq, ↓reduceIte, and_self, and_true, true_and, if_true, if_false, Bool.false_eq_true, if_pos, if_neg, Int.reduceToNat, Int.toNat_zero, Int.toNat_one, Option.bind_some, Option.map_some, pAll, pAll_map, seqP_lst, seqP_tup, seqP_scr, vTup, vLst, vLstM, szLine_eq, vMet, isList, mApp, last_get, last_set, List.length_map, List.length_append, seeC, oIs, Option.map, k26, k31])
  have q : ((prs C).filter (lroomP f la)).map (fun z => P.int (ce - z.1.2)) = (rooms (lroomP f la) ce C).map P.int := by unfold rooms; rw [List.map_map]; rfl
  rw [q] at e
  simp (disch := omega) only [bnd_ok, bnd_exc, fnF, startE, sSeq, sIf, sAsg, sRet, sNx, sAug, sPar, sDo, sRaise, bOr, bAnd, bNot, bYes, tstB, v2, vV, vK, aC, aN, vCal, vU, vIf, vCh, vAnd, vFn, oIx, oAdd, oSub, oMul, oDiv, oMod, oNeg, see, seeC, fInt, fAbs_int, fMax_int, fMin_int, ordI_int, retF_same, excF_same, gvN, gvS, gvT, gsC, gsN, iAdd, L2.atI, L2.ixN, mulOk_l, mulOk_r, log_ok, le_t, le_f, lt_t, lt_f, gt_t, gt_f, ge_t, ge_f, List.getElem?_cons_zero, List.getElem?_cons_succ, List.set_cons_zero, List.set_cons_succ, List.length_cons, List.length_nil, List.map_cons, List.map_nil, List.cons_append, List.nil_append, List.append_nil, List.replicate_succ, List.replicate_zero, Nat.zero_add, Nat.reduceAdd, Nat.reduceSub, Nat.reduceLT, Nat.reduceLeDiff, Int.reduceLT, Int.reduceLE, Int.reduceAdd, Int.reduceSub, Int.reduceMul, Int.reduceNeg, decide_true, decide_false, Bool.not_true, Bool.not_false, reduceCtorEq, ↓reduceIte, and_self, and_true, true_and, if_true, if_false, Bool.false_eq_true, if_pos, if_neg, Int.reduceToNat, Int.toNat_zero, Int.toNat_one, Option.bind_some, Option.map_some, pAll, pAll_map, seqP_lst, seqP_tup, seqP_scr, vTup, vLst, vLstM, szLine_eq, vMet, isList, mApp, last_get, last_set, List.length_map, List.length_append, seeC, oIs, Option.map, V_8, vCmpD, it, e, kLst]
theorem V9_ok (rs : List Int) (x f la ce : D) (δ : Iv.Env) (s : Store) (g21 : δ[21]? = some (some x)) (g24 : δ[24]? = some (some f)) (g25 : δ[25]? = some (some la)) (g26 : δ[26]? = some (some ce)) (g27 : δ[27]? = some (some (.p (.lst (rs.map .int)))))
    (h : f_headroom [x, f, la, ce] s = .ok (.p (minO rs)) s) : V_9 δ s = .nx δ s := by
  have pn := pEq_nil (xs := rs.map P.int) (okDs_ints _ _)
  by_cases c : rs = []
  · subst c
    rw [List.map_nil] at pn g27
    have p0 : pEq .non .non = some true := pEq_self rfl
    have h : f_headroom [x, f, la, ce] s = .ok (.p .non) s := h
    simp (disch := omega) only [bnd_ok, bnd_exc, fnF, startE, sSeq, sIf, sAsg, sRet, sNx, sAug, sPar, sDo, sRaise, bOr, bAnd, bNot, bYes, tstB, v2, vV, vK, aC, aN, vCal, vU, vIf, vCh, vAnd, vFn, oIx, oAdd, oSub, oMul, oDiv, oMod, oNeg, see, seeC, fInt, fAbs_int, fMax_int, fMin_int, ordI_int, retF_same, excF_same, gvN, gvS, gvT, gsC, gsN, iAdd, L2.atI, L2.ixN, mulOk_l, mulOk_r, log_ok, le_t, le_f, lt_t, lt_f, gt_t, gt_f, ge_t, ge_f, List.getElem?_cons_zero, List.getElem?_cons_succ, List.set_cons_zero, List.set_cons_succ, List.length_cons, List.length_nil, List.map_cons, List.map_nil, List.cons_append, List.nil_append, List.append_nil, List.replicate_succ, List.replicate_zero, Nat.zero_add, Nat.reduceAdd, Nat.reduceSub, Nat.reduceLT, Nat.reduceLeDiff, Int.reduceLT, Int.reduceLE, Int.reduceAdd, Int.reduceSub, Int.reduceMul, Int.reduceNeg, decide_true, decide_false, Bool.not_true, Bool.not_false, reduceCtorEq, ↓reduceIte, and_self, and_true, true_and, if_true, if_false, Bool.false_eq_true, if_pos, if_neg, Int.reduceToNat, Int.toNat_zero, Int.toNat_one, Option.bind_some, Option.map_some, pAll, pAll_map, seqP_lst, seqP_tup, seqP_scr, vTup, vLst, vLstM, szLine_eq, vMet, isList, mApp, last_get, last_set, List.length_map, List.length_append, seeC, oIs, Option.map, V_9, g21, g24, g25, g26, g27, h, oEq, pn, List.isEmpty_nil, p0]
  · have ie : (rs.map P.int).isEmpty = false := by cases rs <;> simp at c ⊢
    rw [ie] at pn
    have mn := fMin_ints (d := .p (.lst (rs.map P.int))) (s := s) (xs := rs) rfl rfl c
    have h : f_headroom [x, f, la, ce] s = .ok (.p (.int (minL rs))) s := by rw [h]; unfold minO; rw [if_neg c]
    simp (disch := omega) only [bnd_ok, bnd_exc, fnF, startE, sSeq, sIf, sAsg, sRet, sNx, sAug, sPar, sDo, sRaise, bOr, bAnd, bNot, bYes, tstB, v2, vV, vK, aC, aN, vCal, vU, vIf, vCh, vAnd, vFn, oIx, oAdd, oSub, oMul, oDiv, oMod, oNeg, see, seeC, fInt, fAbs_int, fMax_int, fMin_int, ordI_int, retF_same, excF_same, gvN, gvS, gvT, gsC, gsN, iAdd, L2.atI, L2.ixN, mulOk_l, mulOk_r, log_ok, le_t, le_f, lt_t, lt_f, gt_t, gt_f, ge_t, ge_f, List.getElem?_cons_zero, List.getElem?_cons_succ, List.set_cons_zero, List.set_cons_succ, List.length_cons, List.length_nil, List.map_cons, List.map_nil, List.cons_append, List.nil_append, List.append_nil, List.replicate_succ, List.replicate_zero, Nat.zero_add, Nat.reduceAdd, Nat.reduceSub, Nat.reduceLT, Nat.reduceLeDiff, Int.reduceLT, Int.reduceLE, Int.reduceAdd, Int.reduceSub, Int.reduceMul, Int.reduceNeg, decide_true, decide_false, Bool.not_true, Bool.not_false, reduceCtorEq, ↓reduceIte, and_self, and_true, true_and, if_true, if_false, Bool.false_eq_true, if_pos, if_neg, Int.reduceToNat, Int.toNat_zero, Int.toNat_one, Option.bind_some, Option.map_some, pAll, pAll_map, seqP_lst, seqP_tup, seqP_scr, vTup, vLst, vLstM, szLine_eq, vMet, isList, mApp, last_get, last_set, List.length_map, List.length_append, seeC, oIs, Option.map, V_9, g21, g24, g25, g26, g27, h, oEq, pn, mn, pEq_int, eq_self]
end

section
set_option linter.all false
set_option maxHeartbeats 4100000
set_option maxRecDepth 10000
open PySem L2 Iv K09
theorem row_facts {a b c d h ln : Int} (ha : 1 ≤ a) (hc : 1 ≤ c) (hln : 0 ≤ ln) (hh : h ≤ 1000) {x : Rw} (hx : x ∈ rowsL a b c d h ln) :
    1 ≤ x.m ∧ x.m ≤ 1000 ∧ x.q = h / x.m ∧ x.r = h % x.m ∧ 1 ≤ x.q ∧ 0 ≤ x.r ∧ 0 ≤ x.l ∧ (1 ≤ x.w ∨ x.m.toNat ≤ 1) ∧ cum x.q x.r x.m.toNat = h ∧ cum x.w x.l (x.m.toNat - 1) = if 1 < x.m then ln else 0 := by
  obtain ⟨m, h1, h2⟩ := rows_mem hx
  have hm := itv_mem.mp (List.mem_filter.mp h1).1
  have e := rowOf_m h2
  unfold rowOf at h2
  split at h2
  · rename_i hf
    cases hg : goP c d ln m with
    | none => rw [hg] at h2; cases h2
    | some g =>
      rw [hg] at h2
      cases h2
      simp only [fitB, Bool.and_eq_true, decide_eq_true_eq] at hf
      have r0 := Int.emod_nonneg h (show m ≠ 0 by omega)
      simp only
      refine ⟨by omega, by omega, trivial, trivial, by omega, r0, ?_, ?_, cum_full (by omega), ?_⟩
      · unfold goP at hg
        split at hg
        · cases hg; decide
        · split at hg
          · cases hg; exact Int.emod_nonneg ln (by omega)
          · cases hg
      · unfold goP at hg
        split at hg
        · cases hg; right; omega
        · split at hg
          · rename_i k; cases hg; left; have := k.1; simp only; omega
          · cases hg
      · unfold goP at hg
        split at hg
        · rename_i k; subst k; cases hg; rw [if_neg (by decide)]; exact cum_zero (by decide)
        · split at hg
          · cases hg
            rw [if_pos (by omega)]
            have := cum_full (x := ln) (n := m - 1) (by omega)
            rw [show (m - 1).toNat = m.toNat - 1 by omega] at this
            exact this
          · cases hg
  · cases h2
theorem vB_ok {a b c d h ln : Int} (ha : 1 ≤ a) (hc : 1 ≤ c) (hln : 0 ≤ ln) (hln2 : ln ≤ 10000) (h0 : 0 ≤ h) (hh : h ≤ 1000) {x : Rw} (hx : x ∈ rowsL a b c d h ln) (x0 x1 m0 : Int) (hm0 : okM m0) (cs : List Cell) (hcs : ∀ a b m, WfS (dC a b m :: cs)) (o0 o2 o3 o4 o7 o8 o9 o10 o11 o12 o13 o14 o16 o17 o18 o19 o20 o21 o22 o23 o24 o25 o26 o27 o28 o29 o30 o31 o32 o33 o34 o35 : Option D) :
    ∃ δ' a' b' m', vB [o0, some (.ref 0), o2, o3, o4, I h, I ln, o7, o8, o9, o10, o11, o12, o13, o14, some (.p (enc5 x)), o16, o17, o18, o19, o20, o21, o22, o23, o24, o25, o26, o27, o28, o29, o30, o31, o32, o33, o34, o35] (dC x0 x1 m0 :: cs) = .nx δ' (dC a' b' m' :: cs) ∧ δ'.length = 36 := by
  obtain ⟨f1, f2, f3, f4, f5, f6, f7, f8, f9, f10⟩ := row_facts ha hc hln hh hx
  have e1 := V1_ok x o0 (some (.ref 0)) o2 o3 o4 (I h) (I ln) o7 o8 o9 o10 o11 o12 o13 o14 o16 o17 o18 o19 [o20, o21, o22, o23, o24, o25, o26, o27, o28, o29, o30, o31, o32, o33, o34, o35] (dC x0 x1 m0 :: cs)
  have e2 := V2_ok (h := h) (m := x.m) (by omega) (by omega) h0 [o0, some (.ref 0), o2, o3, o4, I h, I ln, o7, o8, o9, I x.m, o11, o12, o13, o14, some (.p (enc5 x)), I x.q, I x.r, I x.w, I x.l, o20, o21, o22, o23, o24, o25, o26, o27, o28, o29, o30, o31, o32, o33, o34, o35] (dC x0 x1 m0 :: cs) rfl rfl rfl
  rw [← f3, ← f4] at e2
  have e3 := V3_ok o0 (some (.ref 0)) o2 o3 o4 (I h) (I ln) o7 o8 o9 (I x.m) o11 o12 o13 o14 (some (.p (enc5 x))) (I x.q) (I x.r) (I x.w) (I x.l) (some (.p (.lst ((tops x.q x.r x.m.toNat).map .int)))) o21 o22 [o23, o24, o25, o26, o27, o28, o29, o30, o31, o32, o33, o34, o35] (dC x0 x1 m0 :: cs)
  obtain ⟨z22, z23, e4⟩ := V4_ok (m := x.m) (q := x.q) (r := x.r) (wd := x.w) (l := x.l) (by omega) (by omega) f7 o0 (some (.ref 0)) o2 o3 o4 (I h) (I ln) o7 o8 o9 o11 o12 o13 o14 (some (.p (enc5 x))) (I x.q) (I x.r) o23 [o24, o25, o26, o27, o28, o29, o30, o31, o32, o33, o34, o35] (dC x0 x1 m0 :: cs)
  have e5 := V5_ok (m := x.m) (q := x.q) (r := x.r) (wd := x.w) (l := x.l) (h := h) (ln := ln) (by omega) (by omega) f5 f6 f7 f8 f9 f10 o0 (some (.ref 0)) o2 o3 o4 o7 o8 o9 o11 o12 o13 o14 (some (.p (enc5 x))) z22 z23 [o24, o25, o26, o27, o28, o29, o30, o31, o32, o33, o34, o35] (dC x0 x1 m0 :: cs) (hcs _ _ _)
  have hcl := crn_len x.q x.r x.w x.l x.m.toNat x.m.toNat
  have hre := fun f la ce (z : f < la) => rooms_eq (q := x.q) (r := x.r) (w := x.w) (l := x.l) (f := f) (la := la) (ce := ce) (n := x.m.toNat) f5 f6 f7 f8 z
  generalize crn x.q x.r x.w x.l x.m.toNat x.m.toNat = C at *
  obtain ⟨a6, b6, m6, F, e6, k6⟩ := V6_ok o0 x0 x1 m0 ln hm0 hln (by omega) cs o2 o3 o4 (I h) o7 o8 o9 (I x.m) o11 o12 o13 o14 (some (.p (enc5 x))) (I x.q) (I x.r) (I x.w) (I x.l) (some (.p (.lst ((tops x.q x.r x.m.toNat).map .int)))) (some (.p (.lst (C.map encT)))) z22 z23 o24 [o25, o26, o27, o28, o29, o30, o31, o32, o33, o34, o35]
  obtain ⟨a7, b7, m7, L, CE, e7, k7, hFL⟩ := V7_ok o0 a6 b6 m6 h F k6 cs o2 o3 o4 (I ln) o7 o8 o9 (I x.m) o11 o12 o13 o14 (some (.p (enc5 x))) (I x.q) (I x.r) (I x.w) (I x.l) (some (.p (.lst ((tops x.q x.r x.m.toNat).map .int)))) (some (.p (.lst (C.map encT)))) z22 z23 o25 o26 [o27, o28, o29, o30, o31, o32, o33, o34, o35]
  have e8 := V8_ok C (by omega) F L CE [o0, some (.ref 0), o2, o3, o4, I h, I ln, o7, o8, o9, I x.m, o11, o12, o13, o14, some (.p (enc5 x)), I x.q, I x.r, I x.w, I x.l, some (.p (.lst ((tops x.q x.r x.m.toNat).map .int))), some (.p (.lst (C.map encT))), z22, z23, I F, I L, I CE, o27, o28, o29, o30, o31, o32, o33, o34, o35] (dC a7 b7 m7 :: cs) rfl rfl rfl rfl rfl
  have hd := headroom_ok (f := F) (la := L) (ce := CE) C (by omega) (dC a7 b7 m7 :: cs) (hcs _ _ _) hFL
  rw [hre F L CE hFL] at hd
  have e9 := V9_ok (rooms (lroomP F L) CE C) _ _ _ _ ([o0, some (.ref 0), o2, o3, o4, I h, I ln, o7, o8, o9, I x.m, o11, o12, o13, o14, some (.p (enc5 x)), I x.q, I x.r, I x.w, I x.l, some (.p (.lst ((tops x.q x.r x.m.toNat).map .int))), some (.p (.lst (C.map encT))), z22, z23, I F, I L, I CE, o27, o28, o29, o30, o31, o32, o33, o34, o35].set 27 (some (.p (.lst ((rooms (lroomP F L) CE C).map .int))))) (dC a7 b7 m7 :: cs) rfl rfl rfl rfl rfl hd
  unfold vB
  rw [seqn e1, seqn e2]
  simp only [List.set_cons_succ, List.set_cons_zero]
  rw [seqn e3, seqn e4, seqn e5, seqn e6, seqn e7, seqn e8, e9]
  exact ⟨_, a7, b7, m7, rfl, rfl⟩
end

section
set_option linter.all false
set_option maxHeartbeats 4100000
set_option maxRecDepth 10000
open PySem L2 Iv K09
theorem rw_eq (x y : Rw) (h1 : x.far = y.far) (h2 : x.m = y.m) (h3 : x.q = y.q) (h4 : x.r = y.r) (h5 : x.w = y.w) (h6 : x.l = y.l) : x = y := by
  cases x; cases y; simp_all
theorem end1 : amax nf (rowsL 150 200 220 320 10 10) = none := by
  have : (amax nf (rowsL 150 200 220 320 10 10)).isNone = true := by decide +kernel
  simpa using this
theorem end2 : ∃ x, amax nf (rowsL 150 200 220 320 2700 4000) = some x ∧ enc5 x = .tup [.int 15, .int 180, .int 0, .int 285, .int 10] := by
  have : (match amax nf (rowsL 150 200 220 320 2700 4000) with
    | some x => decide (x.m = 15) && decide (x.q = 180) && decide (x.r = 0) && decide (x.w = 285) && decide (x.l = 10)
    | none => false) = true := by decide +kernel
  cases e : amax nf (rowsL 150 200 220 320 2700 4000) with
  | none => rw [e] at this; cases this
  | some x =>
    rw [e] at this
    simp only [Bool.and_eq_true, decide_eq_true_eq] at this
    obtain ⟨⟨⟨⟨h1, h2⟩, h3⟩, h4⟩, h5⟩ := this
    exact ⟨x, rfl, by unfold enc5; rw [h1, h2, h3, h4, h5]⟩
def PL : P := RU 150 200 220 320
theorem bad_law (δ : Iv.Env) (s : Store) (w : WfS s) (h28 : δ[28]? = some (some (.p PL))) : ∀ i, i < 5 → lams_law i δ s = .exc 1 s
  | 0, _ => rules_bad (a := 0) (b := 1) (c := 1) (d := 1) (by decide) _ δ s s w (by simp (disch := omega) only [bnd_ok, bnd_exc, fnF, startE, sSeq, sIf, sAsg, sRet, sNx, sAug, sPar, sDo, sRaise, bOr, bAnd, bNot, bYes, tstB, v2, vV, vK, aC, aN, vCal, vU, vIf, vCh, vAnd, vFn, oIx, oAdd, oSub, oMul, oDiv, oMod, oNeg, see, seeC, fInt, fAbs_int, fMax_int, fMin_int, ordI_int, retF_same, excF_same, gvN, gvS, gvT, gsC, gsN, iAdd, L2.atI, L2.ixN, mulOk_l, mulOk_r, log_ok, le_t, le_f, lt_t, lt_f, gt_t, gt_f, ge_t, ge_f, List.getElem?_cons_zero, List.getElem?_cons_succ, List.set_cons_zero, List.set_cons_succ, List.length_cons, List.length_nil, List.map_cons, List.map_nil, List.cons_append, List.nil_append, List.append_nil, List.replicate_succ, List.replicate_zero, Nat.zero_add, Nat.reduceAdd, Nat.reduceSub, Nat.reduceLT, Nat.reduceLeDiff, Int.reduceLT, Int.reduceLE, Int.reduceAdd, Int.reduceSub, Int.reduceMul, Int.reduceNeg, decide_true, decide_false, Bool.not_true, Bool.not_false, reduceCtorEq, ↓reduceIte, and_self, and_true, true_and, if_true, if_false, Bool.false_eq_true, if_pos, if_neg, Int.reduceToNat, Int.toNat_zero, Int.toNat_one, Option.bind_some, Option.map_some, pAll, pAll_map, seqP_lst, seqP_tup, seqP_scr, vTup, vLst, vLstM, szLine_eq, vMet, isList, mApp, last_get, last_set, List.length_map, List.length_append, seeC, oIs, Option.map])
  | 1, _ => rules_bad (a := 2) (b := 1) (c := 1) (d := 1) (by decide) _ δ s s w (by simp (disch := omega) only [bnd_ok, bnd_exc, fnF, startE, sSeq, sIf, sAsg, sRet, sNx, sAug, sPar, sDo, sRaise, bOr, bAnd, bNot, bYes, tstB, v2, vV, vK, aC, aN, vCal, vU, vIf, vCh, vAnd, vFn, oIx, oAdd, oSub, oMul, oDiv, oMod, oNeg, see, seeC, fInt, fAbs_int, fMax_int, fMin_int, ordI_int, retF_same, excF_same, gvN, gvS, gvT, gsC, gsN, iAdd, L2.atI, L2.ixN, mulOk_l, mulOk_r, log_ok, le_t, le_f, lt_t, lt_f, gt_t, gt_f, ge_t, ge_f, List.getElem?_cons_zero, List.getElem?_cons_succ, List.set_cons_zero, List.set_cons_succ, List.length_cons, List.length_nil, List.map_cons, List.map_nil, List.cons_append, List.nil_append, List.append_nil, List.replicate_succ, List.replicate_zero, Nat.zero_add, Nat.reduceAdd, Nat.reduceSub, Nat.reduceLT, Nat.reduceLeDiff, Int.reduceLT, Int.reduceLE, Int.reduceAdd, Int.reduceSub, Int.reduceMul, Int.reduceNeg, decide_true, decide_false, Bool.not_true, Bool.not_false, reduceCtorEq, ↓reduceIte, and_self, and_true, true_and, if_true, if_false, Bool.false_eq_true, if_pos, if_neg, Int.reduceToNat, Int.toNat_zero, Int.toNat_one, Option.bind_some, Option.map_some, pAll, pAll_map, seqP_lst, seqP_tup, seqP_scr, vTup, vLst, vLstM, szLine_eq, vMet, isList, mApp, last_get, last_set, List.length_map, List.length_append, seeC, oIs, Option.map])
  | 2, _ => rules_bad (a := 1) (b := 1) (c := 0) (d := 1) (by decide) _ δ s s w (by simp (disch := omega) only [bnd_ok, bnd_exc, fnF, startE, sSeq, sIf, sAsg, sRet, sNx, sAug, sPar, sDo, sRaise, bOr, bAnd, bNot, bYes, tstB, v2, vV, vK, aC, aN, vCal, vU, vIf, vCh, vAnd, vFn, oIx, oAdd, oSub, oMul, oDiv, oMod, oNeg, see, seeC, fInt, fAbs_int, fMax_int, fMin_int, ordI_int, retF_same, excF_same, gvN, gvS, gvT, gsC, gsN, iAdd, L2.atI, L2.ixN, mulOk_l, mulOk_r, log_ok, le_t, le_f, lt_t, lt_f, gt_t, gt_f, ge_t, ge_f, List.getElem?_cons_zero, List.getElem?_cons_succ, List.set_cons_zero, List.set_cons_succ, List.length_cons, List.length_nil, List.map_cons, List.map_nil, List.cons_append, List.nil_append, List.append_nil, List.replicate_succ, List.replicate_zero, Nat.zero_add, Nat.reduceAdd, Nat.reduceSub, Nat.reduceLT, Nat.reduceLeDiff, Int.reduceLT, Int.reduceLE, Int.reduceAdd, Int.reduceSub, Int.reduceMul, Int.reduceNeg, decide_true, decide_false, Bool.not_true, Bool.not_false, reduceCtorEq, ↓reduceIte, and_self, and_true, true_and, if_true, if_false, Bool.false_eq_true, if_pos, if_neg, Int.reduceToNat, Int.toNat_zero, Int.toNat_one, Option.bind_some, Option.map_some, pAll, pAll_map, seqP_lst, seqP_tup, seqP_scr, vTup, vLst, vLstM, szLine_eq, vMet, isList, mApp, last_get, last_set, List.length_map, List.length_append, seeC, oIs, Option.map])
  | 3, _ => by
    have b := best_ok (a := 150) (b := 200) (c := 220) (d := 320) (h := 10) (l := 10) s (by omega) (by omega) (by omega) (by omega) (by omega) (by omega)
    rw [end1] at b
    unfold PL at h28
    simp (disch := omega) only [bnd_ok, bnd_exc, fnF, startE, sSeq, sIf, sAsg, sRet, sNx, sAug, sPar, sDo, sRaise, bOr, bAnd, bNot, bYes, tstB, v2, vV, vK, aC, aN, vCal, vU, vIf, vCh, vAnd, vFn, oIx, oAdd, oSub, oMul, oDiv, oMod, oNeg, see, seeC, fInt, fAbs_int, fMax_int, fMin_int, ordI_int, retF_same, excF_same, gvN, gvS, gvT, gsC, gsN, iAdd, L2.atI, L2.ixN, mulOk_l, mulOk_r, log_ok, le_t, le_f, lt_t, lt_f, gt_t, gt_f, ge_t, ge_f, List.getElem?_cons_zero, List.getElem?_cons_succ, List.set_cons_zero, List.set_cons_succ, List.length_cons, List.length_nil, List.map_cons, List.map_nil, List.cons_append, List.nil_append, List.append_nil, List.replicate_succ, List.replicate_zero, Nat.zero_add, Nat.reduceAdd, Nat.reduceSub, Nat.reduceLT, Nat.reduceLeDiff, Int.reduceLT, Int.reduceLE, Int.reduceAdd, Int.reduceSub, Int.reduceMul, Int.reduceNeg, decide_true, decide_false, Bool.not_true, Bool.not_false, reduceCtorEq, ↓reduceIte, and_self, and_true, true_and, if_true, if_false, Bool.false_eq_true, if_pos, if_neg, Int.reduceToNat, Int.toNat_zero, Int.toNat_one, Option.bind_some, Option.map_some, pAll, pAll_map, seqP_lst, seqP_tup, seqP_scr, vTup, vLst, vLstM, szLine_eq, vMet, isList, mApp, last_get, last_set, List.length_map, List.length_append, seeC, oIs, Option.map, lams_law, vMeth, h28, ru_best, b]
  | 4, _ => by simp (disch := omega) only [bnd_ok, bnd_exc, fnF, startE, sSeq, sIf, sAsg, sRet, sNx, sAug, sPar, sDo, sRaise, bOr, bAnd, bNot, bYes, tstB, v2, vV, vK, aC, aN, vCal, vU, vIf, vCh, vAnd, vFn, oIx, oAdd, oSub, oMul, oDiv, oMod, oNeg, see, seeC, fInt, fAbs_int, fMax_int, fMin_int, ordI_int, retF_same, excF_same, gvN, gvS, gvT, gsC, gsN, iAdd, L2.atI, L2.ixN, mulOk_l, mulOk_r, log_ok, le_t, le_f, lt_t, lt_f, gt_t, gt_f, ge_t, ge_f, List.getElem?_cons_zero, List.getElem?_cons_succ, List.set_cons_zero, List.set_cons_succ, List.length_cons, List.length_nil, List.map_cons, List.map_nil, List.cons_append, List.nil_append, List.append_nil, List.replicate_succ, List.replicate_zero, Nat.zero_add, Nat.reduceAdd, Nat.reduceSub, Nat.reduceLT, Nat.reduceLeDiff, Int.reduceLT, Int.reduceLE, Int.reduceAdd, Int.reduceSub, Int.reduceMul, Int.reduceNeg, decide_true, decide_false, Bool.not_true, Bool.not_false, reduceCtorEq, ↓reduceIte, and_self, and_true, true_and, if_true, if_false, Bool.false_eq_true, if_pos, if_neg, Int.reduceToNat, Int.toNat_zero, Int.toNat_one, Option.bind_some, Option.map_some, pAll, pAll_map, seqP_lst, seqP_tup, seqP_scr, vTup, vLst, vLstM, szLine_eq, vMet, isList, mApp, last_get, last_set, List.length_map, List.length_append, seeC, oIs, Option.map, lams_law, f_headroom, b_headroom]
  | n + 5, h => by omega
def lams5 : List P := [.lam 0, .lam 1, .lam 2, .lam 3, .lam 4]
theorem pEq_le : pEq (.str "LoadError") (.str "LoadError") = some true := pEq_self (by decide +kernel)
theorem bads_ok (δ : Iv.Env) (hδ : δ.length = 36) (s : Store) (w : WfS s) (h28 : δ[28]? = some (some (.p PL))) (h29 : δ[29]? = some (some (.p (.lst lams5)))) :
    vCmp (itA (vV 29)) (tvN 33) (tstB (v2 (oEq true) (vToldL 33 [33] 1 "LoadError" lams_law) (vK (.str "LoadError")))) (vK (.int 1)) [33] δ s = .ok (.p (.lst [])) s := by
  have e : ∀ len, compL none len (tvN 33) (tstB (v2 (oEq true) (vToldL 33 [33] 1 "LoadError" lams_law) (vK (.str "LoadError")))) (vK (.int 1)) (wipE δ [33]) (lams5.map .p) 0 s = .ok [] s := by
    intro len
    have := compL_pure (len := len) (t := tvN 33) (c := tstB (v2 (oEq true) (vToldL 33 [33] 1 "LoadError" lams_law) (vK (.str "LoadError")))) (e := vK (.int 1)) (δ0 := wipE δ [33]) (st := s) (fun _ => none) (ds := lams5.map .p) (i := 0) (by
      intro d hd
      refine ⟨_, rfl, .inl ⟨rfl, ?_⟩⟩
      have hi : ∃ i, i < 5 ∧ d = .p (.lam i) := by
        simp only [lams5, List.map_cons, List.map_nil, List.mem_cons, List.not_mem_nil, or_false] at hd
        rcases hd with rfl | rfl | rfl | rfl | rfl
        all_goals exact ⟨_, by decide, rfl⟩
      obtain ⟨i, hi, rfl⟩ := hi
      have b := bad_law (wipE ((wipE δ [33]).set 33 (some (.p (.lam i)))) [33]) s w (by simp [wipE, h28]) i hi
      have g : ((wipE δ [33]).set 33 (some (D.p (.lam i))))[33]? = some (some (.p (.lam i))) := by
        rw [List.getElem?_set_self]
        simp [wipE, hδ]
      simp (disch := omega) only [bnd_ok, bnd_exc, fnF, startE, sSeq, sIf, sAsg, sRet, sNx, sAug, sPar, sDo, sRaise, bOr, bAnd, bNot, bYes, tstB, v2, vV, vK, aC, aN, vCal, vU, vIf, vCh, vAnd, vFn, oIx, oAdd, oSub, oMul, oDiv, oMod, oNeg, see, seeC, fInt, fAbs_int, fMax_int, fMin_int, ordI_int, retF_same, excF_same, gvN, gvS, gvT, gsC, gsN, iAdd, L2.atI, L2.ixN, mulOk_l, mulOk_r, log_ok, le_t, le_f, lt_t, lt_f, gt_t, gt_f, ge_t, ge_f, List.getElem?_cons_zero, List.getElem?_cons_succ, List.set_cons_zero, List.set_cons_succ, List.length_cons, List.length_nil, List.map_cons, List.map_nil, List.cons_append, List.nil_append, List.append_nil, List.replicate_succ, List.replicate_zero, Nat.zero_add, Nat.reduceAdd, Nat.reduceSub, Nat.reduceLT, Nat.reduceLeDiff, Int.reduceLT, Int.reduceLE, Int.reduceAdd, Int.reduceSub, Int.reduceMul, Int.reduceNeg, decide_true, decide_false, Bool.not_true, Bool.not_false, reduceCtorEq, ↓reduceIte, and_self, and_true, true_and, if_true, if_false, Bool.false_eq_true, if_pos, if_neg, Int.reduceToNat, Int.toNat_zero, Int.toNat_one, Option.bind_some, Option.map_some, pAll, pAll_map, seqP_lst, seqP_tup, seqP_scr, vTup, vLst, vLstM, szLine_eq, vMet, isList, mApp, last_get, last_set, List.length_map, List.length_append, seeC, oIs, Option.map, vToldL, g, vTold, b, oEq, pEq_le])
    rw [this]
    simp
  simp (disch := omega) only [bnd_ok, bnd_exc, fnF, startE, sSeq, sIf, sAsg, sRet, sNx, sAug, sPar, sDo, sRaise, bOr, bAnd, bNot, bYes, tstB, v2, vV, vK, aC, aN, vCal, vU, vIf, vCh, vAnd, vFn, oIx, oAdd, oSub, oMul, oDiv, oMod, oNeg, see, seeC, fInt, fAbs_int, fMax_int, fMin_int, ordI_int, retF_same, excF_same, gvN, gvS, gvT, gsC, gsN, iAdd, L2.atI, L2.ixN, mulOk_l, mulOk_r, log_ok, le_t, le_f, lt_t, lt_f, gt_t, gt_f, ge_t, ge_f, List.getElem?_cons_zero, List.getElem?_cons_succ, List.set_cons_zero, List.set_cons_succ, List.length_cons, List.length_nil, List.map_cons, List.map_nil, List.cons_append, List.nil_append, List.append_nil, List.replicate_succ, List.replicate_zero, Nat.zero_add, Nat.reduceAdd, Nat.reduceSub, Nat.reduceLT, Nat.reduceLeDiff, Int.reduceLT, Int.reduceLE, Int.reduceAdd, Int.reduceSub, Int.reduceMul, Int.reduceNeg, decide_true, decide_false, Bool.not_true, Bool.not_false, reduceCtorEq, ↓reduceIte, and_self, and_true, true_and, if_true, if_false, Bool.false_eq_true, if_pos, if_neg, Int.reduceToNat, Int.toNat_zero, Int.toNat_one, Option.bind_some, Option.map_some, pAll, pAll_map, seqP_lst, seqP_tup, seqP_scr, vTup, vLst, vLstM, szLine_eq, vMet, isList, mApp, last_get, last_set, List.length_map, List.length_append, seeC, oIs, Option.map, vCmpD, itA, h29, e, kLst]
  rfl
theorem end_ok (δ : Iv.Env) (hδ : δ.length = 36) (s : Store) (w : WfS s) : b_end δ s = .rt (.p (.bl true)) s := by
  have m1 := rules_ok (a := 150) (b := 200) (c := 220) (d := 320) (by decide) (by decide) (by decide) (by decide) (aC (vTup (aC (vK (.int 150)) (aC (vK (.int 200)) (aN)))) (aC (vTup (aC (vK (.int 220)) (aC (vK (.int 320)) (aN)))) (aN))) δ s s w (by simp (disch := omega) only [bnd_ok, bnd_exc, fnF, startE, sSeq, sIf, sAsg, sRet, sNx, sAug, sPar, sDo, sRaise, bOr, bAnd, bNot, bYes, tstB, v2, vV, vK, aC, aN, vCal, vU, vIf, vCh, vAnd, vFn, oIx, oAdd, oSub, oMul, oDiv, oMod, oNeg, see, seeC, fInt, fAbs_int, fMax_int, fMin_int, ordI_int, retF_same, excF_same, gvN, gvS, gvT, gsC, gsN, iAdd, L2.atI, L2.ixN, mulOk_l, mulOk_r, log_ok, le_t, le_f, lt_t, lt_f, gt_t, gt_f, ge_t, ge_f, List.getElem?_cons_zero, List.getElem?_cons_succ, List.set_cons_zero, List.set_cons_succ, List.length_cons, List.length_nil, List.map_cons, List.map_nil, List.cons_append, List.nil_append, List.append_nil, List.replicate_succ, List.replicate_zero, Nat.zero_add, Nat.reduceAdd, Nat.reduceSub, Nat.reduceLT, Nat.reduceLeDiff, Int.reduceLT, Int.reduceLE, Int.reduceAdd, Int.reduceSub, Int.reduceMul, Int.reduceNeg, decide_true, decide_false, Bool.not_true, Bool.not_false, reduceCtorEq, ↓reduceIte, and_self, and_true, true_and, if_true, if_false, Bool.false_eq_true, if_pos, if_neg, Int.reduceToNat, Int.toNat_zero, Int.toNat_one, Option.bind_some, Option.map_some, pAll, pAll_map, seqP_lst, seqP_tup, seqP_scr, vTup, vLst, vLstM, szLine_eq, vMet, isList, mApp, last_get, last_set, List.length_map, List.length_append, seeC, oIs, Option.map])
  have e1 : E_1 δ s = .nx (δ.set 28 (some (.p PL))) s := by simp (disch := omega) only [bnd_ok, bnd_exc, fnF, startE, sSeq, sIf, sAsg, sRet, sNx, sAug, sPar, sDo, sRaise, bOr, bAnd, bNot, bYes, tstB, v2, vV, vK, aC, aN, vCal, vU, vIf, vCh, vAnd, vFn, oIx, oAdd, oSub, oMul, oDiv, oMod, oNeg, see, seeC, fInt, fAbs_int, fMax_int, fMin_int, ordI_int, retF_same, excF_same, gvN, gvS, gvT, gsC, gsN, iAdd, L2.atI, L2.ixN, mulOk_l, mulOk_r, log_ok, le_t, le_f, lt_t, lt_f, gt_t, gt_f, ge_t, ge_f, List.getElem?_cons_zero, List.getElem?_cons_succ, List.set_cons_zero, List.set_cons_succ, List.length_cons, List.length_nil, List.map_cons, List.map_nil, List.cons_append, List.nil_append, List.append_nil, List.replicate_succ, List.replicate_zero, Nat.zero_add, Nat.reduceAdd, Nat.reduceSub, Nat.reduceLT, Nat.reduceLeDiff, Int.reduceLT, Int.reduceLE, Int.reduceAdd, Int.reduceSub, Int.reduceMul, Int.reduceNeg, decide_true, decide_false, Bool.not_true, Bool.not_false, reduceCtorEq, ↓reduceIte, and_self, and_true, true_and, if_true, if_false, Bool.false_eq_true, if_pos, if_neg, Int.reduceToNat, Int.toNat_zero, Int.toNat_one, Option.bind_some, Option.map_some, pAll, pAll_map, seqP_lst, seqP_tup, seqP_scr, vTup, vLst, vLstM, szLine_eq, vMet, isList, mApp, last_get, last_set, List.length_map, List.length_append, seeC, oIs, Option.map, E_1, m1, PL]
  have e2 : E_2 (δ.set 28 (some (.p PL))) s = .nx ((δ.set 28 (some (.p PL))).set 29 (some (.p (.lst lams5)))) s := by simp (disch := omega) only [bnd_ok, bnd_exc, fnF, startE, sSeq, sIf, sAsg, sRet, sNx, sAug, sPar, sDo, sRaise, bOr, bAnd, bNot, bYes, tstB, v2, vV, vK, aC, aN, vCal, vU, vIf, vCh, vAnd, vFn, oIx, oAdd, oSub, oMul, oDiv, oMod, oNeg, see, seeC, fInt, fAbs_int, fMax_int, fMin_int, ordI_int, retF_same, excF_same, gvN, gvS, gvT, gsC, gsN, iAdd, L2.atI, L2.ixN, mulOk_l, mulOk_r, log_ok, le_t, le_f, lt_t, lt_f, gt_t, gt_f, ge_t, ge_f, List.getElem?_cons_zero, List.getElem?_cons_succ, List.set_cons_zero, List.set_cons_succ, List.length_cons, List.length_nil, List.map_cons, List.map_nil, List.cons_append, List.nil_append, List.append_nil, List.replicate_succ, List.replicate_zero, Nat.zero_add, Nat.reduceAdd, Nat.reduceSub, Nat.reduceLT, Nat.reduceLeDiff, Int.reduceLT, Int.reduceLE, Int.reduceAdd, Int.reduceSub, Int.reduceMul, Int.reduceNeg, decide_true, decide_false, Bool.not_true, Bool.not_false, reduceCtorEq, ↓reduceIte, and_self, and_true, true_and, if_true, if_false, Bool.false_eq_true, if_pos, if_neg, Int.reduceToNat, Int.toNat_zero, Int.toNat_one, Option.bind_some, Option.map_some, pAll, pAll_map, seqP_lst, seqP_tup, seqP_scr, vTup, vLst, vLstM, szLine_eq, vMet, isList, mApp, last_get, last_set, List.length_map, List.length_append, seeC, oIs, Option.map, E_2, lams5]
  have hl : ((δ.set 28 (some (.p PL))).set 29 (some (.p (.lst lams5)))).length = 36 := by simp [hδ]
  have g28 : ((δ.set 28 (some (.p PL))).set 29 (some (.p (.lst lams5))))[28]? = some (some (.p PL)) := by simp [hδ]
  have g29 : ((δ.set 28 (some (.p PL))).set 29 (some (.p (.lst lams5))))[29]? = some (some (.p (.lst lams5))) := by simp [hδ]
  unfold b_end
  rw [seqn e1, seqn e2]
  generalize (δ.set 28 (some (.p PL))).set 29 (some (.p (.lst lams5))) = δ' at *
  have b := bads_ok δ' hl s w g28 g29
  have q0 : pEq (.lst []) (.lst []) = some true := pEq_self rfl
  obtain ⟨x, hx, ex⟩ := end2
  have b2 := best_ok (a := 150) (b := 200) (c := 220) (d := 320) (h := 2700) (l := 4000) s (by omega) (by omega) (by omega) (by omega) (by omega) (by omega)
  rw [hx] at b2
  have b2 : f_Rules_best [.p (RU 150 200 220 320), .p (.int 2700), .p (.int 4000)] s = .ok (.p (enc5 x)) s := b2
  rw [ex] at b2
  have q1 : pEq (.tup [.int 15, .int 180, .int 0, .int 285, .int 10]) (.tup [.int 15, .int 180, .int 0, .int 285, .int 10]) = some true := pEq_self rfl
  have b3 := fit_ok (a := 150) (b := 200) (c := 220) (d := 320) (h := 300) (m := 2) s (by omega) (by omega)
  have b4 := fit_ok (a := 150) (b := 200) (c := 220) (d := 320) (h := 401) (m := 2) s (by omega) (by omega)
  rw [show fitB 150 200 300 2 = true by decide] at b3
  rw [show fitB 150 200 401 2 = false by decide] at b4
  have b5 := headroom_ok (f := 1) (la := 2) (ce := 5) [] (by simp) s w (by omega)
  rw [show rooms (roomP 1 2) 5 [] = [] from rfl, show minO [] = .non from rfl, List.map_nil] at b5
  unfold PL at g28
  simp (disch := omega) only [bnd_ok, bnd_exc, fnF, startE, sSeq, sIf, sAsg, sRet, sNx, sAug, sPar, sDo, sRaise, bOr, bAnd, bNot, bYes, tstB, v2, vV, vK, aC, aN, vCal, vU, vIf, vCh, vAnd, vFn, oIx, oAdd, oSub, oMul, oDiv, oMod, oNeg, see, seeC, fInt, fAbs_int, fMax_int, fMin_int, ordI_int, retF_same, excF_same, gvN, gvS, gvT, gsC, gsN, iAdd, L2.atI, L2.ixN, mulOk_l, mulOk_r, log_ok, le_t, le_f, lt_t, lt_f, gt_t, gt_f, ge_t, ge_f, List.getElem?_cons_zero, List.getElem?_cons_succ, List.set_cons_zero, List.set_cons_succ, List.length_cons, List.length_nil, List.map_cons, List.map_nil, List.cons_append, List.nil_append, List.append_nil, List.replicate_succ, List.replicate_zero, Nat.zero_add, Nat.reduceAdd, Nat.reduceSub, Nat.reduceLT, Nat.reduceLeDiff, Int.reduceLT, Int.reduceLE, Int.reduceAdd, Int.reduceSub, Int.reduceMul, Int.reduceNeg, decide_true, decide_false, Bool.not_true, Bool.not_false, reduceCtorEq, ↓reduceIte, and_self, and_true, true_and, if_true, if_false, Bool.false_eq_true, if_pos, if_neg, Int.reduceToNat, Int.toNat_zero, Int.toNat_one, Option.bind_some, Option.map_some, pAll, pAll_map, seqP_lst, seqP_tup, seqP_scr, vTup, vLst, vLstM, szLine_eq, vMet, isList, mApp, last_get, last_set, List.length_map, List.length_append, seeC, oIs, Option.map, E_3, b, oEq, q0, vMeth, g28, ru_best, ru_fit, b2, q1, pEq_int, b3, b4, b5, vNot]
end

section
set_option linter.all false
set_option maxHeartbeats 4100000
set_option maxRecDepth 10000
open PySem L2 Iv K09
theorem wf1 (a b m : Int) : WfS [dC a b m, .lst [.ref 0]] := by simp [WfS, wfC, wfD, dC]
theorem lg {n : Int} (h : 0 < n) (h2 : n ≤ 10000) : n.natAbs.log2 < 9000 := log_ok h (by omega)
theorem round_ok (sc : Option D) (x0 x1 m0 : Int) (hm : okM m0) : ∃ δ' a' b' m', b_round [sc, some (.ref 0), none, none, none, none, none, none, none, none, none, none, none, none, none, none, none, none, none, none, none, none, none, none, none, none, none, none, none, none, none, none, none, none, none, none] [dC x0 x1 m0, .lst [.ref 0]] = .nx δ' [dC a' b' m', .lst [.ref 0]] ∧ δ'.length = 36 := by
  obtain ⟨r1, a1, b1, m1, q1, p1, p1', k1⟩ := roll_any [.lst [.ref 0]] x0 x1 m0 200 hm (by omega) (by omega) (lg (by omega) (by omega))
  obtain ⟨r2, a2, b2, m2, q2, p2, p2', k2⟩ := roll_any [.lst [.ref 0]] a1 b1 m1 300 k1 (by omega) (by omega) (lg (by omega) (by omega))
  obtain ⟨r3, a3, b3, m3, q3, p3, p3', k3⟩ := roll_any [.lst [.ref 0]] a2 b2 m2 60 k2 (by omega) (by omega) (lg (by omega) (by omega))
  obtain ⟨r4, a4, b4, m4, q4, p4, p4', k4⟩ := roll_any [.lst [.ref 0]] a3 b3 m3 100 k3 (by omega) (by omega) (lg (by omega) (by omega))
  obtain ⟨r5, a5, b5, m5, q5, p5, p5', k5⟩ := roll_any [.lst [.ref 0]] a4 b4 m4 400 k4 (by omega) (by omega) (lg (by omega) (by omega))
  obtain ⟨r6, a6, b6, m6, q6, p6, p6', k6⟩ := roll_any [.lst [.ref 0]] a5 b5 m5 800 k5 (by omega) (by omega) (lg (by omega) (by omega))
  have f1 : T_1 [sc, some (.ref 0), none, none, none, none, none, none, none, none, none, none, none, none, none, none, none, none, none, none, none, none, none, none, none, none, none, none, none, none, none, none, none, none, none, none] [dC x0 x1 m0, .lst [.ref 0]] =
      .nx [sc, some (.ref 0), I (1 + r1), I (1 + r2), none, none, none, none, none, none, none, none, none, none, none, none, none, none, none, none, none, none, none, none, none, none, none, none, none, none, none, none, none, none, none, none] [dC a2 b2 m2, .lst [.ref 0]] := by simp (disch := omega) only [bnd_ok, bnd_exc, fnF, startE, sSeq, sIf, sAsg, sRet, sNx, sAug, sPar, sDo, sRaise, bOr, bAnd, bNot, bYes, tstB, v2, vV, vK, aC, aN, vCal, vU, vIf, vCh, vAnd, vFn, oIx, oAdd, oSub, oMul, oDiv, oMod, oNeg, see, seeC, fInt, fAbs_int, fMax_int, fMin_int, ordI_int, retF_same, excF_same, gvN, gvS, gvT, gsC, gsN, iAdd, L2.atI, L2.ixN, mulOk_l, mulOk_r, log_ok, le_t, le_f, lt_t, lt_f, gt_t, gt_f, ge_t, ge_f, List.getElem?_cons_zero, List.getElem?_cons_succ, List.set_cons_zero, List.set_cons_succ, List.length_cons, List.length_nil, List.map_cons, List.map_nil, List.cons_append, List.nil_append, List.append_nil, List.replicate_succ, List.replicate_zero, Nat.zero_add, Nat.reduceAdd, Nat.reduceSub, Nat.reduceLT, Nat.reduceLeDiff, Int.reduceLT, Int.reduceLE, Int.reduceAdd, Int.reduceSub, Int.reduceMul, Int.reduceNeg, decide_true, decide_false, Bool.not_true, Bool.not_false, reduceCtorEq, ↓reduceIte, and_self, and_true, true_and, if_true, if_false, Bool.false_eq_true, if_pos, if_neg, Int.reduceToNat, Int.toNat_zero, Int.toNat_one, Option.bind_some, Option.map_some, pAll, pAll_map, seqP_lst, seqP_tup, seqP_scr, vTup, vLst, vLstM, szLine_eq, vMet, isList, mApp, last_get, last_set, List.length_map, List.length_append, seeC, oIs, Option.map, T_1, q1, q2]
  obtain ⟨a, ha⟩ : ∃ a, a = 1 + r1 := ⟨_, rfl⟩
  obtain ⟨c, hc⟩ : ∃ c, c = 1 + r2 := ⟨_, rfl⟩
  obtain ⟨b, hb⟩ : ∃ b, b = a + r3 := ⟨_, rfl⟩
  obtain ⟨d, hd⟩ : ∃ d, d = c + r4 := ⟨_, rfl⟩
  obtain ⟨h, hh⟩ : ∃ h, h = 1 + r5 := ⟨_, rfl⟩
  obtain ⟨ln, hln⟩ : ∃ ln, ln = 1 + r6 := ⟨_, rfl⟩
  rw [← ha, ← hc] at f1
  have mk := rules_ok (a := a) (b := b) (c := c) (d := d) (by omega) (by omega) (by omega) (by omega) (aC (vTup (aC (vV 2) (aC (v2 oAdd (vV 2) (vFn f__law_roll (aC (vV 1) (aC (vK (.int 60)) (aN))) [])) (aN)))) (aC (vTup (aC (vV 3) (aC (v2 oAdd (vV 3) (vFn f__law_roll (aC (vV 1) (aC (vK (.int 100)) (aN))) [])) (aN)))) (aN)))
    [sc, some (.ref 0), I a, I c, none, none, none, none, none, none, none, none, none, none, none, none, none, none, none, none, none, none, none, none, none, none, none, none, none, none, none, none, none, none, none, none] [dC a2 b2 m2, .lst [.ref 0]] [dC a4 b4 m4, .lst [.ref 0]] (wf1 _ _ _) (by rw [hb, hd]; simp (disch := omega) only [bnd_ok, bnd_exc, fnF, startE, sSeq, sIf, sAsg, sRet, sNx, sAug, sPar, sDo, sRaise, bOr, bAnd, bNot, bYes, tstB, v2, vV, vK, aC, aN, vCal, vU, vIf, vCh, vAnd, vFn, oIx, oAdd, oSub, oMul, oDiv, oMod, oNeg, see, seeC, fInt, fAbs_int, fMax_int, fMin_int, ordI_int, retF_same, excF_same, gvN, gvS, gvT, gsC, gsN, iAdd, L2.atI, L2.ixN, mulOk_l, mulOk_r, log_ok, le_t, le_f, lt_t, lt_f, gt_t, gt_f, ge_t, ge_f, List.getElem?_cons_zero, List.getElem?_cons_succ, List.set_cons_zero, List.set_cons_succ, List.length_cons, List.length_nil, List.map_cons, List.map_nil, List.cons_append, List.nil_append, List.append_nil, List.replicate_succ, List.replicate_zero, Nat.zero_add, Nat.reduceAdd, Nat.reduceSub, Nat.reduceLT, Nat.reduceLeDiff, Int.reduceLT, Int.reduceLE, Int.reduceAdd, Int.reduceSub, Int.reduceMul, Int.reduceNeg, decide_true, decide_false, Bool.not_true, Bool.not_false, reduceCtorEq, ↓reduceIte, and_self, and_true, true_and, if_true, if_false, Bool.false_eq_true, if_pos, if_neg, Int.reduceToNat, Int.toNat_zero, Int.toNat_one, Option.bind_some, Option.map_some, pAll, pAll_map, seqP_lst, seqP_tup, seqP_scr, vTup, vLst, vLstM, szLine_eq, vMet, isList, mApp, last_get, last_set, List.length_map, List.length_append, seeC, oIs, Option.map, q3, q4])
  have f2 : T_2 [sc, some (.ref 0), I a, I c, none, none, none, none, none, none, none, none, none, none, none, none, none, none, none, none, none, none, none, none, none, none, none, none, none, none, none, none, none, none, none, none] [dC a2 b2 m2, .lst [.ref 0]] =
      .nx [sc, some (.ref 0), I a, I c, some (.p (RU a b c d)), none, none, none, none, none, none, none, none, none, none, none, none, none, none, none, none, none, none, none, none, none, none, none, none, none, none, none, none, none, none, none] [dC a4 b4 m4, .lst [.ref 0]] := by simp (disch := omega) only [bnd_ok, bnd_exc, fnF, startE, sSeq, sIf, sAsg, sRet, sNx, sAug, sPar, sDo, sRaise, bOr, bAnd, bNot, bYes, tstB, v2, vV, vK, aC, aN, vCal, vU, vIf, vCh, vAnd, vFn, oIx, oAdd, oSub, oMul, oDiv, oMod, oNeg, see, seeC, fInt, fAbs_int, fMax_int, fMin_int, ordI_int, retF_same, excF_same, gvN, gvS, gvT, gsC, gsN, iAdd, L2.atI, L2.ixN, mulOk_l, mulOk_r, log_ok, le_t, le_f, lt_t, lt_f, gt_t, gt_f, ge_t, ge_f, List.getElem?_cons_zero, List.getElem?_cons_succ, List.set_cons_zero, List.set_cons_succ, List.length_cons, List.length_nil, List.map_cons, List.map_nil, List.cons_append, List.nil_append, List.append_nil, List.replicate_succ, List.replicate_zero, Nat.zero_add, Nat.reduceAdd, Nat.reduceSub, Nat.reduceLT, Nat.reduceLeDiff, Int.reduceLT, Int.reduceLE, Int.reduceAdd, Int.reduceSub, Int.reduceMul, Int.reduceNeg, decide_true, decide_false, Bool.not_true, Bool.not_false, reduceCtorEq, ↓reduceIte, and_self, and_true, true_and, if_true, if_false, Bool.false_eq_true, if_pos, if_neg, Int.reduceToNat, Int.toNat_zero, Int.toNat_one, Option.bind_some, Option.map_some, pAll, pAll_map, seqP_lst, seqP_tup, seqP_scr, vTup, vLst, vLstM, szLine_eq, vMet, isList, mApp, last_get, last_set, List.length_map, List.length_append, seeC, oIs, Option.map, T_2, mk]
  have f3 : T_3 [sc, some (.ref 0), I a, I c, some (.p (RU a b c d)), none, none, none, none, none, none, none, none, none, none, none, none, none, none, none, none, none, none, none, none, none, none, none, none, none, none, none, none, none, none, none] [dC a4 b4 m4, .lst [.ref 0]] =
      .nx [sc, some (.ref 0), I a, I c, some (.p (RU a b c d)), I h, I ln, none, none, none, none, none, none, none, none, none, none, none, none, none, none, none, none, none, none, none, none, none, none, none, none, none, none, none, none, none] [dC a6 b6 m6, .lst [.ref 0]] := by rw [hh, hln]; simp (disch := omega) only [bnd_ok, bnd_exc, fnF, startE, sSeq, sIf, sAsg, sRet, sNx, sAug, sPar, sDo, sRaise, bOr, bAnd, bNot, bYes, tstB, v2, vV, vK, aC, aN, vCal, vU, vIf, vCh, vAnd, vFn, oIx, oAdd, oSub, oMul, oDiv, oMod, oNeg, see, seeC, fInt, fAbs_int, fMax_int, fMin_int, ordI_int, retF_same, excF_same, gvN, gvS, gvT, gsC, gsN, iAdd, L2.atI, L2.ixN, mulOk_l, mulOk_r, log_ok, le_t, le_f, lt_t, lt_f, gt_t, gt_f, ge_t, ge_f, List.getElem?_cons_zero, List.getElem?_cons_succ, List.set_cons_zero, List.set_cons_succ, List.length_cons, List.length_nil, List.map_cons, List.map_nil, List.cons_append, List.nil_append, List.append_nil, List.replicate_succ, List.replicate_zero, Nat.zero_add, Nat.reduceAdd, Nat.reduceSub, Nat.reduceLT, Nat.reduceLeDiff, Int.reduceLT, Int.reduceLE, Int.reduceAdd, Int.reduceSub, Int.reduceMul, Int.reduceNeg, decide_true, decide_false, Bool.not_true, Bool.not_false, reduceCtorEq, ↓reduceIte, and_self, and_true, true_and, if_true, if_false, Bool.false_eq_true, if_pos, if_neg, Int.reduceToNat, Int.toNat_zero, Int.toNat_one, Option.bind_some, Option.map_some, pAll, pAll_map, seqP_lst, seqP_tup, seqP_scr, vTup, vLst, vLstM, szLine_eq, vMet, isList, mApp, last_get, last_set, List.length_map, List.length_append, seeC, oIs, Option.map, T_3, q5, q6]
  have f4 : T_4 [sc, some (.ref 0), I a, I c, some (.p (RU a b c d)), I h, I ln, none, none, none, none, none, none, none, none, none, none, none, none, none, none, none, none, none, none, none, none, none, none, none, none, none, none, none, none, none] [dC a6 b6 m6, .lst [.ref 0]] =
      .nx [sc, some (.ref 0), I a, I c, some (.p (RU a b c d)), I h, I ln, I a, I b, none, none, none, none, none, none, none, none, none, none, none, none, none, none, none, none, none, none, none, none, none, none, none, none, none, none, none] [dC a6 b6 m6, .lst [.ref 0]] := by simp (disch := omega) only [bnd_ok, bnd_exc, fnF, startE, sSeq, sIf, sAsg, sRet, sNx, sAug, sPar, sDo, sRaise, bOr, bAnd, bNot, bYes, tstB, v2, vV, vK, aC, aN, vCal, vU, vIf, vCh, vAnd, vFn, oIx, oAdd, oSub, oMul, oDiv, oMod, oNeg, see, seeC, fInt, fAbs_int, fMax_int, fMin_int, ordI_int, retF_same, excF_same, gvN, gvS, gvT, gsC, gsN, iAdd, L2.atI, L2.ixN, mulOk_l, mulOk_r, log_ok, le_t, le_f, lt_t, lt_f, gt_t, gt_f, ge_t, ge_f, List.getElem?_cons_zero, List.getElem?_cons_succ, List.set_cons_zero, List.set_cons_succ, List.length_cons, List.length_nil, List.map_cons, List.map_nil, List.cons_append, List.nil_append, List.append_nil, List.replicate_succ, List.replicate_zero, Nat.zero_add, Nat.reduceAdd, Nat.reduceSub, Nat.reduceLT, Nat.reduceLeDiff, Int.reduceLT, Int.reduceLE, Int.reduceAdd, Int.reduceSub, Int.reduceMul, Int.reduceNeg, decide_true, decide_false, Bool.not_true, Bool.not_false, reduceCtorEq, ↓reduceIte, and_self, and_true, true_and, if_true, if_false, Bool.false_eq_true, if_pos, if_neg, Int.reduceToNat, Int.toNat_zero, Int.toNat_one, Option.bind_some, Option.map_some, pAll, pAll_map, seqP_lst, seqP_tup, seqP_scr, vTup, vLst, vLstM, szLine_eq, vMet, isList, mApp, last_get, last_set, List.length_map, List.length_append, seeC, oIs, Option.map, T_4, vFld, ru_rise]
  have ls := lsteps_ok (a := a) (b := b) (h := h) (by omega) (by omega) (by omega) (by omega) (by omega) (by omega) [sc, some (.ref 0), I a, I c, some (.p (RU a b c d)), I h, I ln, I a, I b, none, none, none, none, none, none, none, none, none, none, none, none, none, none, none, none, none, none, none, none, none, none, none, none, none, none, none] [dC a6 b6 m6, .lst [.ref 0]] rfl rfl rfl rfl
  have so := steps_ok (a := a) (b := b) (c := c) (d := d) (h := h) [dC a6 b6 m6, .lst [.ref 0]] (by omega) (by omega) (by omega) (by omega) (by omega) (by omega)
  have p1 : pEq (.lst ((steps a b h).map .int)) (.lst ((steps a b h).map .int)) = some true := pEq_self (lst_ints _)
  have f5 : T_5 [sc, some (.ref 0), I a, I c, some (.p (RU a b c d)), I h, I ln, I a, I b, none, none, none, none, none, none, none, none, none, none, none, none, none, none, none, none, none, none, none, none, none, none, none, none, none, none, none] [dC a6 b6 m6, .lst [.ref 0]] =
      .nx [sc, some (.ref 0), I a, I c, some (.p (RU a b c d)), I h, I ln, I a, I b, none, none, none, none, none, none, none, none, none, none, none, none, none, none, none, none, none, none, none, none, none, none, none, none, none, none, none] [dC a6 b6 m6, .lst [.ref 0]] := by simp (disch := omega) only [bnd_ok, bnd_exc, fnF, startE, sSeq, sIf, sAsg, sRet, sNx, sAug, sPar, sDo, sRaise, bOr, bAnd, bNot, bYes, tstB, v2, vV, vK, aC, aN, vCal, vU, vIf, vCh, vAnd, vFn, oIx, oAdd, oSub, oMul, oDiv, oMod, oNeg, see, seeC, fInt, fAbs_int, fMax_int, fMin_int, ordI_int, retF_same, excF_same, gvN, gvS, gvT, gsC, gsN, iAdd, L2.atI, L2.ixN, mulOk_l, mulOk_r, log_ok, le_t, le_f, lt_t, lt_f, gt_t, gt_f, ge_t, ge_f, List.getElem?_cons_zero, List.getElem?_cons_succ, List.set_cons_zero, List.set_cons_succ, List.length_cons, List.length_nil, List.map_cons, List.map_nil, List.cons_append, List.nil_append, List.append_nil, List.replicate_succ, List.replicate_zero, Nat.zero_add, Nat.reduceAdd, Nat.reduceSub, Nat.reduceLT, Nat.reduceLeDiff, Int.reduceLT, Int.reduceLE, Int.reduceAdd, Int.reduceSub, Int.reduceMul, Int.reduceNeg, decide_true, decide_false, Bool.not_true, Bool.not_false, reduceCtorEq, ↓reduceIte, and_self, and_true, true_and, if_true, if_false, Bool.false_eq_true, if_pos, if_neg, Int.reduceToNat, Int.toNat_zero, Int.toNat_one, Option.bind_some, Option.map_some, pAll, pAll_map, seqP_lst, seqP_tup, seqP_scr, vTup, vLst, vLstM, szLine_eq, vMet, isList, mApp, last_get, last_set, List.length_map, List.length_append, seeC, oIs, Option.map, T_5, vMeth, ru_steps, so, fList, ls, oEq, p1]
  have f6 : T_6 [sc, some (.ref 0), I a, I c, some (.p (RU a b c d)), I h, I ln, I a, I b, none, none, none, none, none, none, none, none, none, none, none, none, none, none, none, none, none, none, none, none, none, none, none, none, none, none, none] [dC a6 b6 m6, .lst [.ref 0]] =
      .nx [sc, some (.ref 0), I a, I c, some (.p (RU a b c d)), I h, I ln, I a, I b, stairs [], none, none, none, none, none, none, none, none, none, none, none, none, none, none, none, none, none, none, none, none, none, none, none, none, none, none] [dC a6 b6 m6, .lst [.ref 0]] := by simp (disch := omega) only [bnd_ok, bnd_exc, fnF, startE, sSeq, sIf, sAsg, sRet, sNx, sAug, sPar, sDo, sRaise, bOr, bAnd, bNot, bYes, tstB, v2, vV, vK, aC, aN, vCal, vU, vIf, vCh, vAnd, vFn, oIx, oAdd, oSub, oMul, oDiv, oMod, oNeg, see, seeC, fInt, fAbs_int, fMax_int, fMin_int, ordI_int, retF_same, excF_same, gvN, gvS, gvT, gsC, gsN, iAdd, L2.atI, L2.ixN, mulOk_l, mulOk_r, log_ok, le_t, le_f, lt_t, lt_f, gt_t, gt_f, ge_t, ge_f, List.getElem?_cons_zero, List.getElem?_cons_succ, List.set_cons_zero, List.set_cons_succ, List.length_cons, List.length_nil, List.map_cons, List.map_nil, List.cons_append, List.nil_append, List.append_nil, List.replicate_succ, List.replicate_zero, Nat.zero_add, Nat.reduceAdd, Nat.reduceSub, Nat.reduceLT, Nat.reduceLeDiff, Int.reduceLT, Int.reduceLE, Int.reduceAdd, Int.reduceSub, Int.reduceMul, Int.reduceNeg, decide_true, decide_false, Bool.not_true, Bool.not_false, reduceCtorEq, ↓reduceIte, and_self, and_true, true_and, if_true, if_false, Bool.false_eq_true, if_pos, if_neg, Int.reduceToNat, Int.toNat_zero, Int.toNat_one, Option.bind_some, Option.map_some, pAll, pAll_map, seqP_lst, seqP_tup, seqP_scr, vTup, vLst, vLstM, szLine_eq, vMet, isList, mApp, last_get, last_set, List.length_map, List.length_append, seeC, oIs, Option.map, T_6, stairs]
  obtain ⟨p10, p11, p12, p13, p14, f7⟩ := T7_ok sc (some (.ref 0)) (I a) (I c) a b c d h ln (by omega) (by omega) (by omega) (by omega) (by omega) (by omega) [dC a6 b6 m6, .lst [.ref 0]] none none none none none [none, none, none, none, none, none, none, none, none, none, none, none, none, none, none, none, none, none, none, none, none] rfl
  have bo := best_ok (a := a) (b := b) (c := c) (d := d) (h := h) (l := ln) [dC a6 b6 m6, .lst [.ref 0]] (by omega) (by omega) (by omega) (by omega) (by omega) (by omega)
  unfold b_round
  rw [seqn f1, seqn f2, seqn f3, seqn f4, seqn f5, seqn f6, seqn f7]
  have okSs : okDs 59 ((rowsL a b c d h ln).map encS) = true := okDs_all _ _ fun x hx => by
    obtain ⟨p, _, rfl⟩ := List.mem_map.mp hx
    exact okS _ (by decide) p
  have pn := pEq_nil okSs
  cases e : amax nf (rowsL a b c d h ln) with
  | none =>
    have hr : rowsL a b c d h ln = [] := by
      apply Classical.byContradiction
      intro z
      obtain ⟨y, hy⟩ := amax_ex nf z
      rw [hy] at e; cases e
    rw [e] at bo
    rw [hr] at pn ⊢
    have f8 : T_8 (sc :: some (.ref 0) :: I a :: I c :: some (.p (RU a b c d)) :: I h :: I ln :: I a :: I b :: stairs [] :: p10 :: p11 :: p12 :: p13 :: p14 :: [none, none, none, none, none, none, none, none, none, none, none, none, none, none, none, none, none, none, none, none, none]) [dC a6 b6 m6, .lst [.ref 0]] =
      .nx (sc :: some (.ref 0) :: I a :: I c :: some (.p (RU a b c d)) :: I h :: I ln :: I a :: I b :: stairs [] :: p10 :: p11 :: p12 :: p13 :: p14 :: [some (.p (.str "LoadError")), none, none, none, none, none, none, none, none, none, none, none, none, none, none, none, none, none, none, none, none]) [dC a6 b6 m6, .lst [.ref 0]] := by simp (disch := omega) only [bnd_ok, bnd_exc, fnF, startE, sSeq, sIf, sAsg, sRet, sNx, sAug, sPar, sDo, sRaise, bOr, bAnd, bNot, bYes, tstB, v2, vV, vK, aC, aN, vCal, vU, vIf, vCh, vAnd, vFn, oIx, oAdd, oSub, oMul, oDiv, oMod, oNeg, see, seeC, fInt, fAbs_int, fMax_int, fMin_int, ordI_int, retF_same, excF_same, gvN, gvS, gvT, gsC, gsN, iAdd, L2.atI, L2.ixN, mulOk_l, mulOk_r, log_ok, le_t, le_f, lt_t, lt_f, gt_t, gt_f, ge_t, ge_f, List.getElem?_cons_zero, List.getElem?_cons_succ, List.set_cons_zero, List.set_cons_succ, List.length_cons, List.length_nil, List.map_cons, List.map_nil, List.cons_append, List.nil_append, List.append_nil, List.replicate_succ, List.replicate_zero, Nat.zero_add, Nat.reduceAdd, Nat.reduceSub, Nat.reduceLT, Nat.reduceLeDiff, Int.reduceLT, Int.reduceLE, Int.reduceAdd, Int.reduceSub, Int.reduceMul, Int.reduceNeg, decide_true, decide_false, Bool.not_true, Bool.not_false, reduceCtorEq, ↓reduceIte, and_self, and_true, true_and, if_true, if_false, Bool.false_eq_true, if_pos, if_neg, Int.reduceToNat, Int.toNat_zero, Int.toNat_one, Option.bind_some, Option.map_some, pAll, pAll_map, seqP_lst, seqP_tup, seqP_scr, vTup, vLst, vLstM, szLine_eq, vMet, isList, mApp, last_get, last_set, List.length_map, List.length_append, seeC, oIs, Option.map, T_8, vMeth, ru_best, bo, vTold]
    rw [seqn f8]
    simp only [List.map_nil, List.isEmpty_nil] at pn
    refine ⟨(sc :: some (.ref 0) :: I a :: I c :: some (.p (RU a b c d)) :: I h :: I ln :: I a :: I b :: stairs [] :: p10 :: p11 :: p12 :: p13 :: p14 :: [some (.p (.str "LoadError")), none, none, none, none, none, none, none, none, none, none, none, none, none, none, none, none, none, none, none, none]), a6, b6, m6, ?_, rfl⟩
    simp (disch := omega) only [bnd_ok, bnd_exc, fnF, startE, sSeq, sIf, sAsg, sRet, sNx, sAug, sPar, sDo, sRaise, bOr, bAnd, bNot, bYes, tstB, v2, vV, vK, aC, aN, vCal, vU, vIf, vCh, vAnd, vFn, oIx, oAdd, oSub, oMul, oDiv, oMod, oNeg, see, seeC, fInt, fAbs_int, fMax_int, fMin_int, ordI_int, retF_same, excF_same, gvN, gvS, gvT, gsC, gsN, iAdd, L2.atI, L2.ixN, mulOk_l, mulOk_r, log_ok, le_t, le_f, lt_t, lt_f, gt_t, gt_f, ge_t, ge_f, List.getElem?_cons_zero, List.getElem?_cons_succ, List.set_cons_zero, List.set_cons_succ, List.length_cons, List.length_nil, List.map_cons, List.map_nil, List.cons_append, List.nil_append, List.append_nil, List.replicate_succ, List.replicate_zero, Nat.zero_add, Nat.reduceAdd, Nat.reduceSub, Nat.reduceLT, Nat.reduceLeDiff, Int.reduceLT, Int.reduceLE, Int.reduceAdd, Int.reduceSub, Int.reduceMul, Int.reduceNeg, decide_true, decide_false, Bool.not_true, Bool.not_false, reduceCtorEq, ↓reduceIte, and_self, and_true, true_and, if_true, if_false, Bool.false_eq_true, if_pos, if_neg, Int.reduceToNat, Int.toNat_zero, Int.toNat_one, Option.bind_some, Option.map_some, pAll, pAll_map, seqP_lst, seqP_tup, seqP_scr, vTup, vLst, vLstM, szLine_eq, vMet, isList, mApp, last_get, last_set, List.length_map, List.length_append, seeC, oIs, Option.map, T_9, stairs, oEq, pn, pEq_le, T_10]
  | some x =>
    rw [e] at bo
    have bo : f_Rules_best [.p (RU a b c d), .p (.int h), .p (.int ln)] [dC a6 b6 m6, .lst [.ref 0]] = .ok (.p (enc5 x)) [dC a6 b6 m6, .lst [.ref 0]] := bo
    obtain ⟨i, g1, g2, g3⟩ := amax_spec nf e
    have hx : x ∈ rowsL a b c d h ln := List.mem_of_getElem? g1
    have ie : ((rowsL a b c d h ln).map encS).isEmpty = false := by
      cases hq : rowsL a b c d h ln with
      | nil => rw [hq] at hx; cases hx
      | cons _ _ => rfl
    rw [ie] at pn
    have mn := fMin_stairs _ x e (rows_pw a b c d h ln) [dC a6 b6 m6, .lst [.ref 0]]
    have p5 : pEq (enc5 x) (enc5 x) = some true := pEq_self rfl
    have ix : oIx (.p (encS x)) (.p (.int 2)) [dC a6 b6 m6, .lst [.ref 0]] = .ok (.p (enc5 x)) [dC a6 b6 m6, .lst [.ref 0]] := rfl
    have f8 : T_8 (sc :: some (.ref 0) :: I a :: I c :: some (.p (RU a b c d)) :: I h :: I ln :: I a :: I b :: stairs (rowsL a b c d h ln) :: p10 :: p11 :: p12 :: p13 :: p14 :: [none, none, none, none, none, none, none, none, none, none, none, none, none, none, none, none, none, none, none, none, none]) [dC a6 b6 m6, .lst [.ref 0]] =
      .nx (sc :: some (.ref 0) :: I a :: I c :: some (.p (RU a b c d)) :: I h :: I ln :: I a :: I b :: stairs (rowsL a b c d h ln) :: p10 :: p11 :: p12 :: p13 :: p14 :: [some (.p (enc5 x)), none, none, none, none, none, none, none, none, none, none, none, none, none, none, none, none, none, none, none, none]) [dC a6 b6 m6, .lst [.ref 0]] := by simp (disch := omega) only [bnd_ok, bnd_exc, fnF, startE, sSeq, sIf, sAsg, sRet, sNx, sAug, sPar, sDo, sRaise, bOr, bAnd, bNot, bYes, tstB, v2, vV, vK, aC, aN, vCal, vU, vIf, vCh, vAnd, vFn, oIx, oAdd, oSub, oMul, oDiv, oMod, oNeg, see, seeC, fInt, fAbs_int, fMax_int, fMin_int, ordI_int, retF_same, excF_same, gvN, gvS, gvT, gsC, gsN, iAdd, L2.atI, L2.ixN, mulOk_l, mulOk_r, log_ok, le_t, le_f, lt_t, lt_f, gt_t, gt_f, ge_t, ge_f, List.getElem?_cons_zero, List.getElem?_cons_succ, List.set_cons_zero, List.set_cons_succ, List.length_cons, List.length_nil, List.map_cons, List.map_nil, List.cons_append, List.nil_append, List.append_nil, List.replicate_succ, List.replicate_zero, Nat.zero_add, Nat.reduceAdd, Nat.reduceSub, Nat.reduceLT, Nat.reduceLeDiff, Int.reduceLT, Int.reduceLE, Int.reduceAdd, Int.reduceSub, Int.reduceMul, Int.reduceNeg, decide_true, decide_false, Bool.not_true, Bool.not_false, reduceCtorEq, ↓reduceIte, and_self, and_true, true_and, if_true, if_false, Bool.false_eq_true, if_pos, if_neg, Int.reduceToNat, Int.toNat_zero, Int.toNat_one, Option.bind_some, Option.map_some, pAll, pAll_map, seqP_lst, seqP_tup, seqP_scr, vTup, vLst, vLstM, szLine_eq, vMet, isList, mApp, last_get, last_set, List.length_map, List.length_append, seeC, oIs, Option.map, T_8, vMeth, ru_best, bo, vTold]
    have f9 : T_9 (sc :: some (.ref 0) :: I a :: I c :: some (.p (RU a b c d)) :: I h :: I ln :: I a :: I b :: stairs (rowsL a b c d h ln) :: p10 :: p11 :: p12 :: p13 :: p14 :: [some (.p (enc5 x)), none, none, none, none, none, none, none, none, none, none, none, none, none, none, none, none, none, none, none, none]) [dC a6 b6 m6, .lst [.ref 0]] =
      .nx (sc :: some (.ref 0) :: I a :: I c :: some (.p (RU a b c d)) :: I h :: I ln :: I a :: I b :: stairs (rowsL a b c d h ln) :: p10 :: p11 :: p12 :: p13 :: p14 :: [some (.p (enc5 x)), none, none, none, none, none, none, none, none, none, none, none, none, none, none, none, none, none, none, none, none]) [dC a6 b6 m6, .lst [.ref 0]] := by
      simp only [T_9, sIf, tstB, Iv.v2, vV, vK, vLst, aN, vIf, vCal, aC, bnd_ok, List.getElem?_cons_zero, List.getElem?_cons_succ, oEq, see, pAll, List.length_nil, szLine_eq, Nat.zero_le, if_true, stairs, pn, mn, ix, p5, Bool.not_true, Bool.not_false, sNx]
    rw [seqn f8, seqn f9]
    obtain ⟨δ', a', b', m', e2, l2⟩ := vB_ok (a := a) (b := b) (c := c) (d := d) (h := h) (ln := ln) (by omega) (by omega) (by omega) (by omega) (by omega) (by omega) hx a6 b6 m6 k6 [.lst [.ref 0]] (fun _ _ _ => wf1 _ _ _) sc (I a) (I c) (some (.p (RU a b c d))) (I a) (I b) (stairs (rowsL a b c d h ln)) p10 p11 p12 p13 p14 none none none none none none none none none none none none none none none none none none none none
    refine ⟨δ', a', b', m', ?_, l2⟩
    simp (disch := omega) only [bnd_ok, bnd_exc, fnF, startE, sSeq, sIf, sAsg, sRet, sNx, sAug, sPar, sDo, sRaise, bOr, bAnd, bNot, bYes, tstB, v2, vV, vK, aC, aN, vCal, vU, vIf, vCh, vAnd, vFn, oIx, oAdd, oSub, oMul, oDiv, oMod, oNeg, see, seeC, fInt, fAbs_int, fMax_int, fMin_int, ordI_int, retF_same, excF_same, gvN, gvS, gvT, gsC, gsN, iAdd, L2.atI, L2.ixN, mulOk_l, mulOk_r, log_ok, le_t, le_f, lt_t, lt_f, gt_t, gt_f, ge_t, ge_f, List.getElem?_cons_zero, List.getElem?_cons_succ, List.set_cons_zero, List.set_cons_succ, List.length_cons, List.length_nil, List.map_cons, List.map_nil, List.cons_append, List.nil_append, List.append_nil, List.replicate_succ, List.replicate_zero, Nat.zero_add, Nat.reduceAdd, Nat.reduceSub, Nat.reduceLT, Nat.reduceLeDiff, Int.reduceLT, Int.reduceLE, Int.reduceAdd, Int.reduceSub, Int.reduceMul, Int.reduceNeg, decide_true, decide_false, Bool.not_true, Bool.not_false, reduceCtorEq, ↓reduceIte, and_self, and_true, true_and, if_true, if_false, Bool.false_eq_true, if_pos, if_neg, Int.reduceToNat, Int.toNat_zero, Int.toNat_one, Option.bind_some, Option.map_some, pAll, pAll_map, seqP_lst, seqP_tup, seqP_scr, vTup, vLst, vLstM, szLine_eq, vMet, isList, mApp, last_get, last_set, List.length_map, List.length_append, seeC, oIs, Option.map, T_10, stairs, oEq, pn]
    exact e2
theorem law_true (ns : List Int) (hl : ns.length ≤ 63) (hb : ∀ z ∈ ns, Builtin.Int.intBits z ≤ 1048576) : ∃ s, b_law (startE 36 [scrD ns]) [] = .rt (.p (.bl true)) s := by
  obtain ⟨a, b, m, e, hm⟩ := rounds_ok ns
  obtain ⟨δ', a', b', m', e2, h36⟩ := round_ok (some (scrD ns)) a b m hm
  refine ⟨[dC a' b' m', .lst [.ref 0]], ?_⟩
  rw [b_law_eq]
  have f : sForI (itA (vFn f__law_rounds (aC (vV 0) (aC (vK (.int 1)) (aN))) [])) (gvN 1) b_round (startE 36 [scrD ns]) [] = .nx δ' [dC a' b' m', .lst [.ref 0]] := by
    generalize b_round = br at *
    simp (disch := omega) only [bnd_ok, bnd_exc, fnF, startE, sSeq, sIf, sAsg, sRet, sNx, sAug, sPar, sDo, sRaise, bOr, bAnd, bNot, bYes, tstB, v2, vV, vK, aC, aN, vCal, vU, vIf, vCh, vAnd, vFn, oIx, oAdd, oSub, oMul, oDiv, oMod, oNeg, see, seeC, fInt, fAbs_int, fMax_int, fMin_int, ordI_int, retF_same, excF_same, gvN, gvS, gvT, gsC, gsN, iAdd, L2.atI, L2.ixN, mulOk_l, mulOk_r, log_ok, le_t, le_f, lt_t, lt_f, gt_t, gt_f, ge_t, ge_f, List.getElem?_cons_zero, List.getElem?_cons_succ, List.set_cons_zero, List.set_cons_succ, List.length_cons, List.length_nil, List.map_cons, List.map_nil, List.cons_append, List.nil_append, List.append_nil, List.replicate_succ, List.replicate_zero, Nat.zero_add, Nat.reduceAdd, Nat.reduceSub, Nat.reduceLT, Nat.reduceLeDiff, Int.reduceLT, Int.reduceLE, Int.reduceAdd, Int.reduceSub, Int.reduceMul, Int.reduceNeg, decide_true, decide_false, Bool.not_true, Bool.not_false, reduceCtorEq, ↓reduceIte, and_self, and_true, true_and, if_true, if_false, Bool.false_eq_true, if_pos, if_neg, Int.reduceToNat, Int.toNat_zero, Int.toNat_one, Option.bind_some, Option.map_some, pAll, pAll_map, seqP_lst, seqP_tup, seqP_scr, vTup, vLst, vLstM, szLine_eq, vMet, isList, mApp, last_get, last_set, List.length_map, List.length_append, seeC, oIs, Option.map, sForI, itA, e, sFor, getI, endI, e2]
  rw [seqn f]
  exact end_ok δ' h36 _ (wf1 _ _ _)
end

section
theorem PySem.Challenge.cw_woodstack_k09_stairs_between_floors_holds : PySem.Challenge.rw_woodstack_k09_stairs_between_floors.Holds := by
  exact k09_of law_true
end
