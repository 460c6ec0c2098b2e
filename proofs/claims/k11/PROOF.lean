import PyProof.Rows.All
import Wide.All
import OpenK.AllK
import Wide.FinOn
import HandS.ForMost
import HandS.ForExc
import HandS.Lambda
import HandS.GenList
import HandS.AnyAll
import KE.SortData
import KE.LtData
import PyProof.TupleOfGen
import HandS.TupAny
import HandS.Style
import HandS.Wide
import KE.DataCmp
import KE.DataMinMax
import HandS.TupMul
import HandS.Deep
import HandS.TupLen
import HandS.WordsDict
import HandS.WordsExc
import HandS.HeadHook4
import HandS.Defaults
import HandS.Zip
import HandS.SortInts
import HandS.DictComp
import HandS.More
import PyProof.Rows.Chain
import HandS.Small
import HandS.Conv
import HandS.DictTup
import KE.KDictPairs
import KE.KItemsList
import HandS.ListItems
import KE.KDictCopyH
import KE.GoesEnum
import KE.GoesZip
import KE.KDictWalk
import PyProof.Rows.StrMeet
import KE.KStateDown
import HandS.Base
import HandS.Call
import HandS.Ends
import HandS.Words
import HandS.Head0
import HandS.Head1
import HandS.Head2
import HandS.HeadEnd
import HandS.HeadHook1
import HandS.HeadHook2
import HandS.HeadHook3
import HandS.HeadWalk
import PySem.Challenge.RW_woodstack_k11_works_from_bench_to_bench
section
set_option Elab.async false
set_option linter.all false
set_option maxRecDepth 100000
set_option maxHeartbeats 4100000
/-! generator expressions over the hand layer -/
namespace Gx
open PySem PySem.Spec PyProof.Rows L2 GenW

/-! ### making the frame -/
abbrev gEnv (scope : Scope) (cl : List (Str × Addr)) (C : Addr) (code : Value) (bi : Addr) (env : Env) : Env :=
  ⟨scope, C, env.globals, cl, env.qual ++ "<genexpr>.", none, code, some C, bi⟩

abbrev fr0 : Obj := { cls := .type "frame", data := .dict #[] }
theorem newEnv_gen {M : Model} {A : Around} {E : Value → Shared → Prop} {s : Shared} {scope : Scope} {globals : Addr} {closure : List (Str × Addr)} {qual : Str} {code it : Value} {builtins : Addr} {Q : Env → Shared → Prop}
    (hk : scope.kind = .function) (h0 : scope.names.lookup (".0" : Str) = some NameKind.local)
    (h : ∀ h', h'.Ns s.heap.objs.size (fun y => if y = (".0" : Str) then some it else none) → Heap.SameBut s.heap.objs.size (pushCells (s.heap.push fr0) scope.names) h' →
      Q ⟨scope, s.heap.objs.size, globals, cellsFrom (s.heap.objs.size + 1) scope.names closure, qual, none, code, some s.heap.objs.size, builtins⟩ { s with heap := h', toks := s.toks + 1 }) :
    wpAny M A (newFunctionEnv scope globals closure [(".0", it)] qual none code none builtins) Q E s := by
  have hsz : (s.heap.push fr0).objs.size = s.heap.objs.size + 1 := Heap.size_push ..
  have empty : (pushCells (s.heap.push fr0) scope.names).Ns s.heap.objs.size (fun _ => none) := (Heap.Ns.new s.heap (.type "frame")).keeps (pushCells_keeps _ _)
  unfold newFunctionEnv
  simp only [Option.isSome_none, Bool.false_eq_true, if_false, List.forIn_cons, List.forIn_nil]
  apply wpAny_bind
  apply wpAny_alloc
  apply wpAny_bind
  apply wpAny_layCells _ (fun n k c => by cases hkc : k == NameKind.cell <;> simp [hkc]) scope.names closure
  show wpAny _ _ _ _ _ { s with heap := pushCells (s.heap.push fr0) scope.names, toks := _ }
  simp only [hsz]
  apply wpAny_bind
  apply wpAny_bind
  apply wpAny_bind
  refine wpAny_storeName_local (m := fun _ => none) h0 empty (fun h' hn' hs' => ?_) (by rw [show (Env.scope _).kind = _ from hk]; rfl)
  exact wpAny_pure (wpAny_pure (wpAny_pure (h h' hn' hs')))

/-- the context of the generator's code -/
abbrev gCx (X : Cx) (A : Around) (s : Shared) (H : Hp) (cenv : Env) (fp : List Addr) (pn : List (Addr × Obj)) : Cx :=
  { X with A := A, s_0 := s, H_0 := H, env := cenv, outer := X.stack, stack := cenv :: X.stack, ex := fp, fn := fun x => cenv.scope.names.lookup x == some .cell, calm := true, pn := pn, xe := fun _ _ => False }

/-! ### the frame's cells: how they stand to those around -/
structure Laid (names : List (Str × NameKind)) (old new : List (Str × Addr)) (n : Nat) (hp : Heap) : Prop where
  mine : ∀ y, names.lookup y = some .cell → ∃ c, new.lookup y = some c
  theirs : ∀ y, names.lookup y = some .free → ∃ c, new.lookup y = some c ∧ old.lookup y = some c
  src : ∀ y c, new.lookup y = some c → ((y, NameKind.free) ∈ names ∧ old.lookup y = some c ∧ c < n) ∨ ((y, NameKind.cell) ∈ names ∧ n < c ∧ hp.IsCell c none)
  one : ∀ y z c, new.lookup y = some c → new.lookup z = some c → y = z

/-- what a closure list holds: the old cells of the free names -/
theorem clo_of {old : List (Str × Addr)} {names : List (Str × NameKind)} {n : Nat} (hold : ∀ y, (y, NameKind.free) ∈ names → ∃ c, old.lookup y = some c ∧ c < n) (y : Str) (c : Addr) (hm : (y, c) ∈ cloFrom old names []) :
    (y, NameKind.free) ∈ names ∧ old.lookup y = some c ∧ c < n := by
  obtain hm | ⟨hy, hc⟩ := cloFrom_mem hm
  · exact absurd hm List.not_mem_nil
  · obtain ⟨c', hl, hlt⟩ := hold y hy
    rw [hl, Option.getD_some] at hc
    subst hc
    exact ⟨hy, hl, hlt⟩

theorem laid_of {old : List (Str × Addr)} {names : List (Str × NameKind)} {hb hp : Heap} {n : Nat} (hn : hb.objs.size = n + 1) (huq : ∀ p ∈ names, names.lookup p.1 = some p.2)
    (hold : ∀ y, (y, NameKind.free) ∈ names → ∃ c, old.lookup y = some c ∧ c < n) (hinj : ∀ y z c, old.lookup y = some c → old.lookup z = some c → y = z)
    (hcell : ∀ c, n < c → (pushCells hb names).IsCell c none → hp.IsCell c none) : Laid names old (cellsFrom (n + 1) names (cloFrom old names [])) n hp := by
  have from_ : ∀ y c, (cellsFrom hb.objs.size names (cloFrom old names [])).lookup y = some c → ((y, NameKind.free) ∈ names ∧ old.lookup y = some c ∧ c < n) ∨ ((y, NameKind.cell) ∈ names ∧ n < c ∧ hp.IsCell c none) := fun y c hl =>
    match cells_mem (mem_of_lookup hl) with
    | .inl hm => .inl (clo_of hold y c hm)
    | .inr ⟨hy, hc, hx⟩ => have hc : n < c := by rw [hn] at hc; exact hc
      .inr ⟨hy, hc, hcell c hc hx⟩
  rw [← hn]
  refine ⟨fun y hy => ?_, fun y hy => ?_, from_, fun y z c hy hz => ?_⟩
  · obtain ⟨c, hc⟩ := cells_has (n := hb.objs.size) (acc := cloFrom old names []) (mem_of_lookup hy)
    exact mem_lookup hc
  · obtain ⟨c, hc⟩ := mem_lookup (cells_acc (n := hb.objs.size) (names := names) (cloFrom_has (cells := old) (acc := []) (mem_of_lookup hy)))
    obtain ⟨_, ho, _⟩ | ⟨hbad, _⟩ := from_ y c hc
    · exact ⟨c, hc, ho⟩
    · exact nomatch (huq _ hbad).symm.trans hy
  · have lo : ∀ p ∈ cloFrom old names [], p.2 < hb.objs.size := fun p hp => by rw [hn]; exact Nat.lt_succ_of_lt (clo_of hold p.1 p.2 hp).2.2
    exact cells_inj lo (fun u v d hu hv => hinj u v d (clo_of hold u d hu).2.1 (clo_of hold v d hv).2.1) (mem_of_lookup hy) (mem_of_lookup hz)

section
variable {X : Cx} {σ : L2.St} {H : Hp} {s : Shared} {pins : List (Addr × Obj)}

/-- free names of the generator are cells around -/
theorem free_around (I : Inv X pins σ H s) {scope : Scope} {own : List (Str × Nat)} (ok : BlkOk X.N X.env.scope scope own) (y : Str) (hy : (y, NameKind.free) ∈ scope.names) :
    ∃ c, X.env.cells.lookup y = some c ∧ c < s.heap.objs.size := by
  obtain ⟨c, hc⟩ := I.ok.has y (ok.free (y, .free) hy rfl)
  obtain ⟨w, hw⟩ := I.cell y c hc
  exact ⟨c, hc, hw.lt⟩

/-- a name that the generator sees and that keeps its value is a free one -/
theorem seen_free {scope : Scope} {own : List (Str × Nat)} (ok : BlkOk X.N X.env.scope scope own) (hN : X.N.Nodup) {i : Nat} {y : Str} (hi : X.N[i]? = some y) (hne : i ∉ own.map (·.2)) (hv : Vis scope y) :
    scope.names.lookup y = some .free := by
  have notMine : ∀ k, (k = NameKind.local ∨ k = NameKind.cell) → scope.names.lookup y ≠ some k := fun k hk hl =>
    match ok.own (y, k) (mem_of_lookup hl) hk with
    | .inl hin => by
      obtain ⟨⟨y', j⟩, hp, hyy⟩ := List.mem_map.mp hin
      cases (show y' = y from hyy)
      exact hne (List.mem_map.mpr ⟨(y, j), hp, nodup_ix hN (ok.ix _ hp) hi⟩)
    | .inr hout => hout (List.mem_of_getElem? hi)
  obtain hv | hv | hv := hv
  · exact absurd hv (notMine _ (.inl rfl))
  · exact absurd hv (notMine _ (.inr rfl))
  · exact hv

/-- the generator's context at the beginning; h': the frame, its cells, the generator itself were laid -/
theorem gen_start {A : Around} {scope : Scope} {own : List (Str × Nat)} {fp : List Addr} {cenv : Env} {code it : Value} {h' h2 : Heap} {gs : Array GenState} {tk : Nat} {pn : List (Addr × Obj)}
    (I : Inv X pins σ H s) (ok : BlkOk X.N X.env.scope scope own) (hN : X.N.Nodup) (hfp : ∀ b ∈ fp, FpOk X pins H b ∧ b < s.heap.objs.size)
    (hcenv : cenv = gEnv scope (cellsFrom (s.heap.objs.size + 1) scope.names (cloFrom X.env.cells scope.names [])) s.heap.objs.size code builtinsNs X.env)
    (hA : A.handled = none) (hAf : A.frames = some (cenv :: X.stack))
    (hns : h'.Ns s.heap.objs.size (fun y => if y = (".0" : Str) then some it else none)) (_hdot : (".0" : Str) ∉ X.N)
    (hsb : Heap.SameBut s.heap.objs.size (pushCells (s.heap.push { cls := .type "frame", data := .dict #[] }) scope.names) h')
    (k2 : ∀ b o, h'.get? b = some o → h2.get? b = some o) (hb2 : AllBare gs)
    (hpn : ∀ p ∈ pn, h2.get? p.1 = some p.2 ∧ h'.objs.size ≤ p.1 ∧ ∀ v, p.2.data ≠ .cell v) :
    Inv (gCx X A s H cenv fp pn) [] (wipe σ (own.map (·.2))) H { s with heap := h2, gens := gs, toks := tk } := by
  subst hcenv
  have keep : ∀ b o, s.heap.get? b = some o → h2.get? b = some o := fun b o hb => by
    have hlt := Heap.lt_size hb
    refine k2 b o (Eq.trans (hsb.2 b (Nat.ne_of_lt hlt)) ?_)
    exact pushCells_keeps scope.names _ b o (Heap.get?_push_of_some _ hb)
  have L : Laid scope.names X.env.cells (cellsFrom (s.heap.objs.size + 1) scope.names (cloFrom X.env.cells scope.names [])) s.heap.objs.size h2 :=
    laid_of (hb := s.heap.push { cls := .type "frame", data := .dict #[] }) (Heap.size_push ..) ok.uniq (free_around I ok) I.ok.inj fun c hc ⟨o, ho, hd⟩ =>
      ⟨o, k2 c o (Eq.trans (hsb.2 c (Nat.ne_of_gt hc)) ho), hd⟩
  generalize cellsFrom (s.heap.objs.size + 1) scope.names (cloFrom X.env.cells scope.names []) = ncl at L hAf ⊢
  have hbs := Nat.le_trans I.ok.bsz I.sz
  have hsz : s.heap.objs.size < h'.objs.size := hns.lt
  refine { ok := { mod := I.ok.mod, kind := ok.kind, glob := I.ok.glob, blt := rfl, above := Nat.le_refl s.heap.objs.size, inj := L.one, has := fun y hy => hy.elim (L.mine y) fun hf => (L.theirs y hf).imp fun _ q => q.1, cab := ?cab, hd := fun _ => hA, frames := hAf, stk := .inr ⟨rfl, rfl⟩, exf := ?exf, bs := I.bs, bsz := hbs, noex := ?noex, exfs := ?exfs, funs := I.stack, frf := I.stkFree }, os := rfl, bare := hb2, base := Un.kept keep, loc := ⟨_, hns.keeps k2, ?loc⟩, cell := ?cell, free := I.hok.fresh (Nat.le_refl _), freeC := ?freeC, pin := ?pin, hok := I.hok.kept keep, len := (wipe_length σ _).trans I.len }
  case cab =>
    intro y c hy hc
    have hy : scope.names.lookup y = some NameKind.cell := eq_of_beq hy
    obtain ⟨hf, _⟩ | ⟨_, hlt, _⟩ := L.src y c hc
    · exact nomatch (ok.uniq _ hf).symm.trans hy
    · exact Nat.le_of_lt hlt
  case exf =>
    intro b hb
    obtain ⟨F, hlt⟩ := hfp b hb
    refine ⟨Nat.ne_of_lt hlt, fun y c hc hcb => ?_⟩
    subst hcb
    obtain ⟨_, ho, _⟩ | ⟨_, hgt, _⟩ := L.src y c hc
    · exact F.2.2.2.2.1 y c ho rfl
    · exact Nat.lt_asymm hlt hgt
  case noex =>
    intro b o hb hin
    obtain ⟨F, _⟩ := hfp b hin
    have hlt := Heap.lt_size hb
    obtain hx | hx := F.2.2.2.1
    · exact I.ok.noex b o hb hx
    · exact Nat.not_le_of_lt hlt (Nat.le_trans I.ok.bsz hx)
  case exfs =>
    intro b hb hin
    obtain ⟨F, _⟩ := hfp b hb
    cases List.mem_cons.mp (I.stkSub b hin) with
    | inl e => exact F.2.1 e
    | inr e => exact F.2.2.1 e
  case loc =>
    intro i y av hi hσ hv
    obtain ⟨hσ, hne⟩ := wipe_some hσ
    have hf := seen_free ok hN hi hne hv
    have around := ok.free (y, .free) (mem_of_lookup hf) rfl
    obtain ⟨m, _, hm⟩ := I.loc
    obtain ⟨u, hu, hlook⟩ := hm i y av hi hσ (around.elim (fun q => .inr (.inl q)) fun q => .inr (.inr q))
    obtain ⟨c, hn, ho⟩ := L.theirs y hf
    refine ⟨u, hu, .inr ⟨.inr hf, ?_⟩⟩
    obtain ⟨hloc, _⟩ | ⟨_, d, hd, hcell⟩ := hlook
    · have hloc : X.env.scope.names.lookup y = some NameKind.local := hloc
      exact (around.elim (fun q => nomatch hloc.symm.trans q) fun q => nomatch hloc.symm.trans q)
    · cases ho.symm.trans hd
      exact ⟨c, hn, hcell.keeps keep⟩
  case cell =>
    intro y c hc
    obtain ⟨_, ho, _⟩ | ⟨_, _, hx⟩ := L.src y c hc
    · exact (I.cell y c ho).imp fun _ q => q.keeps keep
    · exact ⟨none, hx⟩
  case freeC =>
    intro y c hc
    obtain ⟨_, ho, _⟩ | ⟨_, hgt, _⟩ := L.src y c hc
    · exact I.freeC y c ho
    · exact I.hok.fresh (Nat.le_of_lt hgt)
  case pin =>
    intro p hp
    have hp : p ∈ pn := (List.append_nil pn) ▸ hp
    obtain ⟨hget, hle, hdata⟩ := hpn p hp
    have hgt : s.heap.objs.size < p.1 := Nat.lt_of_lt_of_le hsz hle
    refine ⟨hget, I.hok.fresh (Nat.le_of_lt hgt), Nat.ne_of_gt hgt, fun hin => ?_, hdata⟩
    cases List.mem_cons.mp (I.stkSub _ hin) with
    | inl e => exact Nat.lt_asymm hgt (e ▸ I.lt)
    | inr e => exact I.nofs (Nat.le_of_lt hgt) e
end
end Gx
end

section
set_option Elab.async false
set_option linter.all false
set_option maxRecDepth 100000
set_option maxHeartbeats 4100000
namespace Gx
open PySem PySem.Spec PyProof.Rows L2 GenW

/-! ### the code objects' tables -/
def CodeGO (c P : Addr) : HO := .ext fun h => PySem.W.CodeHd h c P
def TabN : Nat → Hp → Addr → Prop
  | 0, H, P => ∃ ps : Array Value, H P = some (.tbl ps) ∧ TriplesOk ps.toList
  | n + 1, H, P => ∃ ps : Array Value, H P = some (.tbl ps) ∧ TriplesOk ps.toList ∧ ∀ pos cv, codeAmong pos ps.toList = some cv → ∃ c' P', cv = .ref c' ∧ H c' = some (CodeGO c' P') ∧ TabN n H P'
def NotTbl (o : HO) : Prop := ∀ ps, o ≠ .tbl ps
/-- all but tables stay; tables stay good -/
structure TbG (H H' : Hp) : Prop where
  keep : ∀ b o, H b = some o → NotTbl o → H' b = some o
  t0 : ∀ P, TabN 0 H P → TabN 0 H' P
  t1 : ∀ P, TabN 1 H P → TabN 1 H' P
theorem TbG.refl (H : Hp) : TbG H H := ⟨fun _ _ e _ => e, fun _ t => t, fun _ t => t⟩
theorem TbG.trans {H H1 H2 : Hp} (a : TbG H H1) (b : TbG H1 H2) : TbG H H2 := ⟨fun c o e n => b.keep c o (a.keep c o e n) n, fun P t => b.t0 P (a.t0 P t), fun P t => b.t1 P (a.t1 P t)⟩
theorem TabN.ext {H H' : Hp} (k : ∀ b o, H b = some o → H' b = some o) : ∀ {n : Nat} {P : Addr}, TabN n H P → TabN n H' P
  | 0, P, ⟨ps, h1, h2⟩ => ⟨ps, k _ _ h1, h2⟩
  | n + 1, P, ⟨ps, h1, h2, h3⟩ => ⟨ps, k _ _ h1, h2, fun pos cv e => let ⟨c', P', a, b, d⟩ := h3 pos cv e; ⟨c', P', a, k _ _ b, TabN.ext k d⟩⟩
theorem TbG.of {H H' : Hp} (k : ∀ b o, H b = some o → H' b = some o) : TbG H H' := ⟨fun b o e _ => k b o e, fun _ t => t.ext k, fun _ t => t.ext k⟩
theorem codeGO_nt {c P : Addr} : NotTbl (CodeGO c P) := fun ps z => by unfold CodeGO at z; cases z
theorem TabN.zero {H : Hp} {P : Addr} (t : TabN 1 H P) : TabN 0 H P := let ⟨ps, a, b, _⟩ := t; ⟨ps, a, b⟩
/-- a code value whose table is known -/
def CodeV (H : Hp) (cv : Value) : Prop := ∃ c' P', cv = .ref c' ∧ H c' = some (CodeGO c' P') ∧ TabN 0 H P'
theorem CodeV.tg {H H' : Hp} {cv : Value} (x : CodeV H cv) (t : TbG H H') : CodeV H' cv := let ⟨c, P, a, b, d⟩ := x; ⟨c, P, a, t.keep _ _ b codeGO_nt, t.t0 _ d⟩
/-- the running code's own object and table -/
def CodeK (X : Cx) (H : Hp) (c P : Addr) : Prop := PySem.W.CodeHd X.base c P ∨ H c = some (CodeGO c P)
theorem CodeK.hd {X : Cx} {pins : List (Addr × Obj)} {σ : L2.St} {H : Hp} {s : Shared} {c P : Addr} (k : CodeK X H c P) (I : Inv X pins σ H s) : PySem.W.CodeHd s.heap c P := by
  rcases k with k | k
  · exact k.keeps I.bk
  · exact (I.hok _ _ k).1
def BltM (X : Cx) : Prop := ∃ bm ob, X.mg "__builtins__" = some (.ref bm) ∧ bm ≠ builtinsNs ∧ X.base.get? bm = some ob ∧ ob.cls = .type "module" ∧ ob.dict = some builtinsNs ∧ ob.data = .plain
theorem BltM.of {X : Cx} {P : Addr} (h : X.base.BuiltinsAt X.mg P) : BltM X := let ⟨bm, ob, e1, e2, _, _, e5, e6, e7, e8⟩ := h; ⟨bm, ob, e1, e2, e5, e6, e7, e8⟩

section
variable {X : Cx} {σ : L2.St} {H : Hp} {s : Shared} {pins : List (Addr × Obj)}
/-- an object of ours that was not tracked is tracked from now on -/
theorem inv_track {a : Addr} {o : HO} (I : Inv X pins σ H s) (hn : H a = none) (hs : X.s_0.heap.get? a = none) (hL : a ≠ X.env.locals) (hc : ∀ x c, X.env.cells.lookup x = some c → c ≠ a)
    (hp : ∀ p ∈ X.pn ++ pins, p.1 ≠ a) (new : ObjOk X.prog X.w (upd H a o) s.heap a o) : Inv X pins σ (upd H a o) s := by
  have stays : ∀ {b u}, H b = some u → upd H a o b = some u := fun q => (upd_ne (ne_of_none q hn)).trans q
  have ne0 : ∀ b ob, X.s_0.heap.get? b = some ob → b ≠ a := fun b ob e z => by rw [z, hs] at e; cases e
  refine ⟨I.ok, I.os, I.bare, ⟨fun b ob e n hb hx => I.base.keep b ob e n hb hx, fun b ob e n hb hx => I.base.slot b ob e n hb hx, fun b ob e n hx => ?_, fun b ob e hx => I.base.there b ob e hx, fun b xs e => ?_, fun b ob u e => ?_, fun b ps e => ?_⟩, I.loc, I.cell, ?_, fun x c e => ?_, fun p hp' => ?_, fun b u e => ?_, I.len⟩
  · rw [upd_ne (ne0 b ob e)]; exact I.base.free b ob e n hx
  · exact stays (I.base.tups b xs e)
  · exact stays (I.base.frzs b ob u e)
  · exact (I.base.tbls b ps e).imp fun _ => stays
  · rw [upd_ne (Ne.symm hL)]; exact I.free
  · rw [upd_ne (hc x c e)]; exact I.freeC x c e
  · obtain ⟨q1, q2, q3, q4, q5⟩ := I.pin p hp'
    exact ⟨q1, by rw [upd_ne (hp p hp')]; exact q2, q3, q4, q5⟩
  · by_cases hb : b = a
    · cases hb
      cases (upd_same (H := H)).symm.trans e
      exact new
    · rw [upd_ne hb] at e
      exact (I.hok b u e).stay (fun c v _ q => q) (fun c q => by rw [upd_ne (ne_of_none q hn)]; exact q) fun c xs q => by rw [upd_ne (ne_of_none q hn)]; exact q
/-- what lies beyond the heap's old end is nobody's -/
theorem inv_new {a : Addr} {sz : Nat} (I : Inv X pins σ H s) {s' : Shared} (I' : Inv X pins σ H s') (ha : s.heap.objs.size ≤ a) : X.s_0.heap.get? a = none ∧ a ≠ X.env.locals ∧ (∀ x c, X.env.cells.lookup x = some c → c ≠ a) ∧ (∀ p ∈ X.pn ++ pins, p.1 ≠ a) ∧ H a = none := by
  refine ⟨Heap.get?_none_of_le (Nat.le_trans I.sz ha), Nat.ne_of_gt (Nat.lt_of_lt_of_le I.lt ha), fun x c e z => ?_, fun p hp z => ?_, I.hok.fresh ha⟩
  · obtain ⟨_, inCell⟩ := I.cell x c e
    exact absurd (Nat.lt_of_lt_of_le inCell.lt (by rw [z]; exact ha)) (Nat.lt_irrefl _)
  · exact absurd (Nat.lt_of_lt_of_le (Heap.lt_size (I.pin p hp).1) (by rw [z]; exact ha)) (Nat.lt_irrefl _)

/-- the code object of a generator expression -/
theorem gx_code {c P : Addr} {pos : Pos} {q : Str} {scope : Scope} {E : Value → Shared → Prop} {Q : Value → Shared → Prop} (I : Inv X pins σ H s) (hcode : X.env.code = .ref c) (hk : CodeK X H c P) (ht : TabN 0 H P)
    (h : ∀ cv H2 s2, Inv X pins σ H2 s2 → TbG H H2 → (∀ b o, b ≠ P → H b = some o → H2 b = some o) → (TabN 1 H P → CodeV H2 cv) → (∀ b, H b = none → b < s.heap.objs.size → H2 b = none) → (∀ b o, b ≠ P → s.heap.get? b = some o → s2.heap.get? b = some o) → Q cv s2) :
    wpAny (model X.prog X.w) X.A (genexprCode X.env pos q scope) Q E s := by
  obtain ⟨ps, hP, htr⟩ := ht
  have hPs : s.heap.get? P = some { cls := .none, data := .fields ps } := I.hok P _ hP
  have cd := hk.hd I
  cases hf : codeAmong pos ps.toList with
  | some cv =>
    refine wpAny_genexprCode_hit hcode (cd.code hPs htr) hf (h cv H s I (TbG.refl H) (fun _ _ _ e => e) (fun t => ?_) (fun b e _ => e) fun b o _ e => e)
    obtain ⟨ps', e1, e2, e3⟩ := t
    rw [hP] at e1; cases e1
    exact e3 pos cv hf
  | none =>
    refine wpAny_genexprCodeX hcode (cd.code hPs htr) (cd.tab hPs) hf fun c' h' tk hx hge hlt hco' hrec htab' hnew => ?_
    obtain ⟨P', hP'ge, hic, hta⟩ := hnew
    obtain ⟨o1, vs, f1, tf, fl, tg, inF, tx, tt, op, _, _, _, _, _, _, _, hop, hopd, htr2, _⟩ := hco'
    have hPn : h'.get? P = some { cls := .none, data := .fields (ps ++ #[rawInt pos.line, rawInt pos.col, .ref c']) } := htab'.2
    have I1 : Inv X pins σ (upd H P (.tbl (ps ++ #[rawInt pos.line, rawInt pos.col, .ref c']))) { s with heap := h', toks := tk } :=
      GxR.inv_tab (more := #[rawInt pos.line, rawInt pos.col, .ref c']) (g' := s.gens) (d' := s.drawn) I hP (fun b o hb e => hx b o hb e) hPn I.bare
    have hd' : PySem.W.CodeHd h' c' P' := PySem.W.CodeHd.of hic hta
    have nP : ∀ b, s.heap.objs.size ≤ b → b ≠ P := fun b hb z => absurd (Heap.lt_size hPs) (by rw [← z]; exact Nat.not_lt.mpr hb)
    obtain ⟨a1, a2, a3, a4, a5⟩ := inv_new (sz := 0) (a := c') I I hge
    obtain ⟨b1, b2, b3, b4, b5⟩ := inv_new (sz := 0) (a := P') I I hP'ge
    have c5 : (upd H P (.tbl (ps ++ #[rawInt pos.line, rawInt pos.col, .ref c']))) c' = none := by rw [upd_ne (nP c' hge)]; exact a5
    have I2 := inv_track (a := c') (o := CodeGO c' P') I1 c5 a1 a2 a3 a4 ⟨hd', (let ⟨o, _, _, _, _, _, _, _, _, e, _⟩ := hd'; ⟨o, e⟩), fun h1 h2 z k => (let ⟨o, vs, file, tf, flags, tg, inF, text, tt, e, r⟩ := z; ⟨o, vs, file, tf, flags, tg, inF, text, tt, k _ e, r⟩)⟩
    have ncp : P' ≠ c' := Ne.symm (let ⟨_, _, _, _, _, _, _, _, _, _, _, _, _, _, _, _, _, _, ne⟩ := hd'; ne)
    have d5 : (upd (upd H P (.tbl (ps ++ #[rawInt pos.line, rawInt pos.col, .ref c']))) c' (CodeGO c' P')) P' = none := by
      rw [upd_ne ncp, upd_ne (nP P' hP'ge)]; exact b5
    have I3 := inv_track (a := P') (o := .tbl #[]) I2 d5 b1 b2 b3 b4 (show h'.get? P' = some { cls := .none, data := .fields #[] } from hta.2)
    have kp : ∀ b o, H b = some o → b ≠ P → (upd (upd (upd H P (.tbl (ps ++ #[rawInt pos.line, rawInt pos.col, .ref c']))) c' (CodeGO c' P')) P' (.tbl #[])) b = some o := fun b o e nb => by
      rw [upd_ne (ne_of_none e b5), upd_ne (ne_of_none e a5), upd_ne nb]; exact e
    have atP : (upd (upd (upd H P (.tbl (ps ++ #[rawInt pos.line, rawInt pos.col, .ref c']))) c' (CodeGO c' P')) P' (.tbl #[])) P = some (.tbl (ps ++ #[rawInt pos.line, rawInt pos.col, .ref c'])) := by
      rw [upd_ne (ne_of_none hP b5), upd_ne (ne_of_none hP a5), upd_same]
    have eL : (ps ++ #[rawInt pos.line, rawInt pos.col, .ref c']).toList = ps.toList ++ [rawInt pos.line, rawInt pos.col, .ref c'] := Array.toList_append
    have tr2 : TriplesOk (ps ++ #[rawInt pos.line, rawInt pos.col, .ref c']).toList := by rw [eL]; exact PySem.TriplesOk_snoc _ _ _ _ htr
    have t0 : ∀ Q, TabN 0 H Q → TabN 0 (upd (upd (upd H P (.tbl (ps ++ #[rawInt pos.line, rawInt pos.col, .ref c']))) c' (CodeGO c' P')) P' (.tbl #[])) Q := fun Q ⟨qs, q1, q2⟩ => by
      by_cases hQ : Q = P
      · rw [hQ]; exact ⟨_, atP, tr2⟩
      · exact ⟨qs, kp _ _ q1 hQ, q2⟩
    have newV : CodeV (upd (upd (upd H P (.tbl (ps ++ #[rawInt pos.line, rawInt pos.col, .ref c']))) c' (CodeGO c' P')) P' (.tbl #[])) (.ref c') :=
      ⟨c', P', rfl, by rw [upd_ne (Ne.symm ncp), upd_same], ⟨#[], upd_same, True.intro⟩⟩

    refine h (.ref c') _ _ I3 ⟨fun b o e n => kp b o e (fun z => n ps (Option.some.inj (e.symm.trans (by rw [z]; exact hP)))), t0, fun Q ⟨qs, q1, q2, q3⟩ => ?_⟩ (fun b o hb e => kp b o e hb) (fun _ => newV) (fun b e hb => ?_) (fun b o hb e => hx b o hb e)
    · have old : ∀ pos' cv', codeAmong pos' qs.toList = some cv' → CodeV (upd (upd (upd H P (.tbl (ps ++ #[rawInt pos.line, rawInt pos.col, .ref c']))) c' (CodeGO c' P')) P' (.tbl #[])) cv' := fun pos' cv' e => by
        obtain ⟨c2, P2, e1, e2, e3⟩ := q3 pos' cv' e
        exact ⟨c2, P2, e1, kp _ _ e2 (fun z => codeGO_nt ps (Option.some.inj (e2.symm.trans (by rw [z]; exact hP)))), t0 _ e3⟩
      by_cases hQ : Q = P
      · subst hQ
        rw [hP] at q1; cases q1
        refine ⟨_, atP, tr2, fun pos' cv' e => ?_⟩
        rw [eL] at e
        rcases LamX.among_app _ htr e with z | z
        · exact old _ _ z
        · subst z; exact newV
      · exact ⟨qs, kp _ _ q1 hQ, q2, old⟩
    · rw [upd_ne (Nat.ne_of_lt (Nat.lt_of_lt_of_le hb hP'ge)), upd_ne (Nat.ne_of_lt (Nat.lt_of_lt_of_le hb hge)), upd_ne (fun z => by rw [z, hP] at e; cases e)]
      exact e
end
end Gx
end

section
set_option Elab.async false
set_option linter.all false
set_option maxRecDepth 100000
set_option maxHeartbeats 4100000
namespace Gx
open PySem PySem.Spec PyProof.Rows L2 GenW

/-- the consumer has worked: all but its own objects stand -/
structure Slp (SS : List Addr) (s s' : Shared) : Prop where
  os : s'.os = s.os
  bare : AllBare s'.gens
  keep : ∀ b o, b ∉ SS → s.heap.get? b = some o → s'.heap.get? b = some o
  own : ∀ b ∈ SS, ∃ o, s'.heap.get? b = some o ∧ ∀ v, o.data ≠ .cell v
abbrev YP := List V → V → Hp → Prop → Prop
abbrev DP := List V → Hp → Prop
abbrev HP := List V → Heap → Prop
def Same' (SS : List Addr) (h h' : Heap) : Prop := ∀ b ∈ SS, ∀ o, h.get? b = some o → h'.get? b = some o

section
variable (X : Cx) (pins : List (Addr × Obj)) (σ : L2.St) (a : Addr) (SS : List Addr) (Y : YP) (Dn : DP) (Hist : HP) (A : Around)
/-- the generator at a can be asked for its next item; at most n more -/
def GIt : Nat → Shared → Prop
  | 0 => fun s => (∃ g, s.heap.IsGen a g) ∧ (∃ H, Inv X pins σ H s ∧ ∀ b ∈ SS, H b = none) ∧ ∀ (Q : Option Value → Shared → Prop) (E : Value → Shared → Prop),
      (∀ v x H s1 ys, RelV x v → Inv X pins σ H s1 → Same' SS s.heap s1.heap → (∀ b ∈ SS, H b = none) → Hist ys s.heap → Y ys x H (∀ s', s'.gens = s1.gens → Slp SS s1 s' → Hist (ys ++ [x]) s'.heap → False) → Q (some v) s1) →
      (∀ H s1 ys, Inv X pins σ H s1 → Same' SS s.heap s1.heap → (∀ b ∈ SS, H b = none) → Hist ys s.heap → Dn ys H → Q none s1) → wpAny (model X.prog X.w) A (pyNext (.ref a)) Q E s
  | n + 1 => fun s => (∃ g, s.heap.IsGen a g) ∧ (∃ H, Inv X pins σ H s ∧ ∀ b ∈ SS, H b = none) ∧ ∀ (Q : Option Value → Shared → Prop) (E : Value → Shared → Prop),
      (∀ v x H s1 ys, RelV x v → Inv X pins σ H s1 → Same' SS s.heap s1.heap → (∀ b ∈ SS, H b = none) → Hist ys s.heap → Y ys x H (∀ s', s'.gens = s1.gens → Slp SS s1 s' → Hist (ys ++ [x]) s'.heap → GIt n s') → Q (some v) s1) →
      (∀ H s1 ys, Inv X pins σ H s1 → Same' SS s.heap s1.heap → (∀ b ∈ SS, H b = none) → Hist ys s.heap → Dn ys H → Q none s1) → wpAny (model X.prog X.w) A (pyNext (.ref a)) Q E s
end

/-! ### the generator's own run -/
def CpOk (SS : List Addr) (cp : List (Addr × Obj)) (s : Shared) : Prop := cp.map (·.1) = SS ∧ ∀ p ∈ cp, s.heap.get? p.1 = some p.2
def gY (Xg : Cx) (SS : List Addr) (Y : YP) (Hist : HP) : Protocol := fun n s0 v s kap =>
  ∃ ys x H σ1 cp, RelV x v ∧ Inv Xg cp σ1 H s ∧ CpOk SS cp s0 ∧ Hist ys s0.heap ∧ Y ys x H (∀ s', Slp SS s s' → Hist (ys ++ [x]) s'.heap → kap (.send .none) s')
def gF (Xg : Cx) (SS : List Addr) (Dn : DP) (Hist : HP) : Nat → Shared → Shared → Prop := fun n s0 s =>
  ∃ ys H σ1 cp, Inv Xg cp σ1 H s ∧ CpOk SS cp s0 ∧ Hist ys s0.heap ∧ Dn ys H
def gR (Xg : Cx) (SS : List Addr) (Dn : DP) (Hist : HP) : GenEnd := fun n s0 r s => ((r = .ok (.ret .none) ∨ r = .ok .next) ∧ gF Xg SS Dn Hist n s0 s) ∨ ∃ e, r = .error e ∧ (fun (_ : Value) (_ : Shared) => False) e s

section
variable {X : Cx} {pins : List (Addr × Obj)} {σ : L2.St} {H : Hp} {s s' : Shared}
theorem inv_slp {SS : List Addr} (I : Inv X pins σ H s) (hn : ∀ b ∈ SS, H b = none) (hS : ∀ b ∈ SS, X.s_0.heap.objs.size ≤ b ∧ b ≠ X.env.locals ∧ (∀ x c, X.env.cells.lookup x = some c → c ≠ b) ∧ ∀ p ∈ X.pn ++ pins, p.1 ≠ b) (z : Slp SS s s') : Inv X pins σ H s' := by
  have nt : ∀ b u, H b = some u → b ∉ SS := fun b u q hb => by rw [hn b hb] at q; cases q
  have J0 : Inv X pins σ H { s with heap := s'.heap, gens := s'.gens, drawn := s'.drawn, toks := s'.toks } := by
    refine I.step (ch := SS) (fun b hb => ⟨.inr (hS b hb).1, (hS b hb).2⟩) (fun b ob _ _ hc q _ => z.keep b ob hc q) (fun b ob _ _ hc q _ => ⟨ob.slots, z.keep b ob hc q⟩) (fun _ _ _ _ n => n) (fun b ob hc q => ⟨ob, z.keep b ob hc q⟩)
      (fun _ _ q => q) (fun _ _ _ q => q) (fun b ps q => ⟨#[], by rw [q]; simp⟩) (fun m hm => ?_) (fun b u q => ?_) z.bare
    · exact hm.imp fun ob hm => hm.imp fun _ hm => hm.imp fun _ hm => ⟨z.keep _ ob (fun hb => (hS _ hb).2.1 rfl) hm.1, hm.2⟩
    · refine (I.hok b u q).stay (fun c v hc y => z.keep c v ?_ y) (fun _ y => y) fun _ _ y => y
      rcases hc with y | y
      · rw [y]; exact nt b u q
      · exact nt c _ y
  rw [GxR.sh_eta s s' z.os] at J0
  exact J0
/-- the objects of those that were not asleep, as pins -/
theorem slp_pins {SS : List Addr} (z : Slp SS s s') : ∃ cp : List (Addr × Obj), cp.map (·.1) = SS ∧ ∀ p ∈ cp, s'.heap.get? p.1 = some p.2 ∧ (∀ v, p.2.data ≠ .cell v) ∧ p.1 ∈ SS := by
  have pick : ∀ b : Addr, ∃ o : Obj, b ∈ SS → s'.heap.get? b = some o ∧ ∀ v, o.data ≠ .cell v := fun b => by
    by_cases hb : b ∈ SS
    · exact (z.own b hb).imp fun _ q _ => q
    · exact ⟨default, fun h => absurd h hb⟩
  obtain ⟨f, hf⟩ := Classical.axiomOfChoice pick
  refine ⟨SS.map fun b => (b, f b), by simp [Function.comp_def], fun p hp => ?_⟩
  obtain ⟨b, hb, rfl⟩ := List.mem_map.mp hp
  exact ⟨(hf b hb).1, (hf b hb).2, hb⟩
/-- woken again: the consumer's objects are other ones -/
theorem inv_woken {SS : List Addr} {cp ip : List (Addr × Obj)} (I : Inv X (cp ++ ip) σ H s) (hc : cp.map (·.1) = SS) (hS : ∀ b ∈ SS, X.s_0.heap.objs.size ≤ b ∧ b ≠ X.env.locals ∧ (∀ x c, X.env.cells.lookup x = some c → c ≠ b) ∧ ∀ p ∈ X.pn ++ ip, p.1 ≠ b) (z : Slp SS s s') :
    ∃ cp', CpOk SS cp' s' ∧ Inv X (cp' ++ ip) σ H s' := by
  have hn : ∀ b ∈ SS, H b = none ∧ b ≠ X.env.locals ∧ b ∉ X.fs := fun b hb => by
    rw [← hc] at hb
    obtain ⟨p, hp, rfl⟩ := List.mem_map.mp hb
    obtain ⟨_, q2, q3, q4, _⟩ := I.pin p (List.mem_append_right _ (List.mem_append_left _ hp))
    exact ⟨q2, q3, q4⟩
  have I0 : Inv X ip σ H s := I.pins_of fun p hp => I.pin p (List.mem_append_right _ (List.mem_append_right _ hp))
  have J : Inv X ip σ H s' := inv_slp I0 (fun b hb => (hn b hb).1) hS z
  obtain ⟨cp', e1, e2⟩ := slp_pins z
  refine ⟨cp', ⟨e1, fun p hp => (e2 p hp).1⟩, J.pins_of fun p hp => ?_⟩
  obtain hp | hp := List.mem_append.mp hp
  · obtain ⟨q1, q2, q3⟩ := e2 p hp
    obtain ⟨n1, n2, n3⟩ := hn _ q3
    exact ⟨q1, n1, n2, n3, q2⟩
  · exact J.pin _ (List.mem_append.mpr (.inr hp))
end

theorem over_gen {A : Around} {elt : Expr} {gens : List Comprehension} {scope : Scope} {pos : Pos} {it acc : Value} {env : Env} : A.over (.compLoop (.GeneratorExp elt gens scope pos) 0 it acc env) [] = A.deeper env := rfl
/-- what the generator's run is to do, turn by turn -/
def GTurns (J : It) (g : TG) (tt : TT) (te : TE) (vs : List Nat) (σ : L2.St) (Y : YP) (Dn : DP) (W : Nat → Nat → List V → Hp → Prop) : Prop :=
  ∀ i m ys H, W i m ys H → (J.stop i H ∧ Dn ys H) ∨ (J.go i H ∧ ∀ x H', J.yld i H x H' → g x (wipe σ vs) H' fun σ2 H3 => wipe σ2 vs = wipe σ vs ∧ tt σ2 H3 fun b H4 =>
    if b = true then te σ2 H4 fun y H5 => Y ys y H5 (∃ m', m' < m ∧ W (i + 1) m' (ys ++ [y]) H5) else ∃ m', m' < m ∧ W (i + 1) m' ys H4)
/-- a wish that may be weakened -/
def YMono (Y : YP) : Prop := ∀ ys x H K K', (K → K') → Y ys x H K → Y ys x H K'

section
variable {Xg : Cx} {σ : L2.St} {SS : List Addr} {Y : YP} {Dn : DP} {Hist : HP} {A : Around} {elt tg iter : Expr} {ifs : List Expr} {scope : Scope} {pos : Pos} {it : Addr} {fp : List Addr} {tn : Nat → Heap → Prop} {J : It} {g : TG} {tt : TT} {te : TE} {vs : List Nat} {W : Nat → Nat → List V → Hp → Prop}
theorem seg_loop (hxe : Xg.xe = fun _ _ => False) (hA : Xg.A = A.deeper Xg.env) (hex : Xg.ex = fp) (T : Turn Xg.prog Xg.w Xg.K tg J fp it tn) (hcalm : Xg.calm = true) (hco : Xg.env.scope.isCoroutine = false)
    (hg : PG Xg tg g) (ht : PTs Xg ifs tt) (he : PE Xg elt te) (hY : YMono Y) (hW : GTurns J g tt te vs σ Y Dn W)
    (hfp : ∀ b ∈ fp, b ≠ Xg.env.locals ∧ b ∉ Xg.fs ∧ (∀ x c, Xg.env.cells.lookup x = some c → c ≠ b) ∧ (∀ p ∈ Xg.pn, p.1 ≠ b) ∧ b ∉ SS)
    (hS : ∀ b ∈ SS, Xg.s_0.heap.objs.size ≤ b ∧ b ≠ Xg.env.locals ∧ (∀ x c, Xg.env.cells.lookup x = some c → c ≠ b) ∧ (∀ p ∈ Xg.pn, p.1 ≠ b)) :
    ∀ (m n i : Nat) (ys : List V) (s0 s : Shared) (H : Hp) (cp : List (Addr × Obj)), m < n → Inv Xg cp (wipe σ vs) H s → tn i s.heap → (∀ b ∈ fp, H b = none) → CpOk SS cp s0 → Hist ys s0.heap → W i m ys H →
      Seg (model Xg.prog Xg.w) A (gR Xg SS Dn Hist) (gY Xg SS Y Hist) n s0 (.compLoop (.GeneratorExp elt [⟨tg, iter, ifs, 0⟩] scope pos) 0 (.ref it) .none Xg.env)
        ((model Xg.prog Xg.w).den (.compLoop (.GeneratorExp elt [⟨tg, iter, ifs, 0⟩] scope pos) 0 (.ref it) .none Xg.env)) [] s := by
  have hov : A.over (.compLoop (.GeneratorExp elt [⟨tg, iter, ifs, 0⟩] scope pos) 0 (.ref it) .none Xg.env) [] = Xg.A := by rw [over_gen, hA]
  intro m
  refine Nat.strongRecOn m fun m ih => ?_
  · intro n i ys s0 s H cp hmn I st nf hcp hH w
    have stat : ∀ {H' : Hp} {cp' : List (Addr × Obj)}, (∀ b ∈ fp, H' b = none) → cp'.map (·.1) = SS → ∀ b ∈ fp, FpOk Xg cp' H' b := fun {H' cp'} hn hc b hb => by
      obtain ⟨q1, q2, q3, q4, q5⟩ := hfp b hb
      refine ⟨hn b hb, q1, q2, .inl (by rw [hex]; exact hb), q3, fun p hp => ?_⟩
      obtain hp | hp := List.mem_append.mp hp
      · exact q4 p hp
      · exact fun z => q5 (by rw [← hc, ← z]; exact List.mem_map.mpr ⟨p, hp, rfl⟩)
    show Seg _ A _ _ n s0 _ ((compTurn (.GeneratorExp elt [⟨tg, iter, ifs, 0⟩] scope pos) 0 (.ref it) .none Xg.env).onRaise (leaving Xg.env)) [] s
    rw [PySem.compTurn_gen, Sem.onRaise_eq_wrap]
    apply seg_bind_wrap
    apply wpAny_standAt
    rcases hW i m ys H w with ⟨stop, dn⟩ | ⟨go, step⟩
    · refine seg_bind_wrap ?_
      rw [hov]
      refine thnF (T.done Xg rfl rfl rfl hcalm i cp s _ H (fun _ _ => False) I (stat nf hcp.1) st stop) fun r s1 ⟨hr, I1⟩ => ?_
      subst hr
      exact seg_end (.ok .next) (.inl ⟨.inr rfl, ys, H, _, cp, I1, hcp, hH, dn⟩)
    · refine seg_bind_wrap ?_
      rw [hov]
      refine thnF (T.item Xg rfl rfl rfl hcalm i cp s _ H (fun _ _ => False) I (stat nf hcp.1) st go) fun r s1 ⟨u, hr, h1⟩ => ?_
      subst hr
      refine seg_bind_wrap ?_
      rw [hov]
      refine thnF h1 fun _ s2 ⟨x, H2, I2, r2, y2, st2, n2⟩ => ?_
      have I2' := I2.pinned (stat n2 hcp.1) (T.obj _ _ st2)
      refine seg_bind_wrap ?_
      rw [hov]
      have noX : ∀ {α : Type} {t : Sem α} {Q : α → Shared → Prop} {E : Value → Shared → Prop} {s : Shared}, wpAny (model Xg.prog Xg.w) Xg.A t Q Xg.xe s → wpAny (model Xg.prog Xg.w) Xg.A t Q E s := fun h => wpAny_mono h (fun _ _ q => q) fun e s z => by rw [hxe] at z; exact z.elim
      refine noX (thn (hg.run _ s2 _ H2 x u _ I2' r2 (step x H2 y2)) fun _ s3 ⟨σ3, H3, I3, hw3, q3⟩ => ?_)
      refine seg_bind_wrap ?_
      rw [hov]
      refine noX (thn (ht.run _ s3 σ3 H3 _ I3 q3) fun b s4 ⟨H4, I4, q4⟩ => ?_)
      have hl3 : (wipe σ vs).length = σ3.length := by rw [← hw3, wipe_length]
      have hk3 : ∀ (j : Nat) v, (wipe σ vs)[j]? = some (some v) → σ3[j]? = some (some v) := fun j v e => by
        rw [← hw3] at e
        exact (wipe_some e).1
      have fpK : ∀ {σ' : L2.St} {H' : Hp} {s' : Shared} {cp' : List (Addr × Obj)}, Inv Xg (cp' ++ pinsAt fp s2.heap) σ' H' s' → tn (i + 1) s'.heap ∧ ∀ b ∈ fp, H' b = none := fun {σ' H' s' cp'} I' => by
        have pin' : ∀ b ∈ fp, ∀ o, s2.heap.get? b = some o → s'.heap.get? b = some o ∧ H' b = none := fun b hb o e =>
          have ⟨there, free, _⟩ := I'.pin (b, o) (List.mem_append_right _ (List.mem_append_right _ (mem_pinsAt hb e)))
          ⟨there, free⟩
        refine ⟨T.keep _ _ _ st2 fun b hb o e => (pin' b hb o e).1, fun b hb => ?_⟩
        exact (T.obj _ _ st2 b hb).elim fun o q => (pin' b hb o q.1).2
      cases b with
      | false =>
        simp only [Bool.false_eq_true, if_false] at q4 ⊢
        obtain ⟨m', hm, w'⟩ := q4
        obtain ⟨st4, n4⟩ := fpK I4
        exact seg_again rfl (ih m' hm n (i + 1) ys s0 s4 H4 cp (Nat.lt_trans hm hmn) ((I4.unpinned (pins := cp)).weak hl3 hk3) st4 n4 hcp hH w')
      | true =>
        simp only [if_true] at q4 ⊢
        have hy : ∀ v, yieldOut Xg.env v = yieldValue v := fun v => by simp only [yieldOut, hco, Bool.false_eq_true, if_false]
        simp only [hy]
        simp only [Sem.bind_eq_wrap', Sem.wrap_wrap]
        obtain ⟨n, rfl⟩ : ∃ k, n = k + 1 := ⟨n - 1, by omega⟩
        refine seg_wrap ?_
        rw [hov]
        refine noX (thn (he.run _ s4 σ3 H4 _ I4 q4) fun v s5 ⟨y, H5, I5, r5, q5⟩ => ?_)
        refine seg_at (seg_yield rfl rfl rfl ?_)
        have I5c : Inv Xg cp σ3 H5 s5 := I5.pins_of fun p hp => I5.pin p (List.mem_append_right _ (List.mem_append_left _ hp))
        refine ⟨ys, y, H5, σ3, cp, r5, I5c, hcp, hH, hY _ _ _ _ _ (fun ⟨m', hm, w'⟩ s6 z h6 => ?_) q5⟩
        have hq : ∀ b ∈ SS, Xg.s_0.heap.objs.size ≤ b ∧ b ≠ Xg.env.locals ∧ (∀ x c, Xg.env.cells.lookup x = some c → c ≠ b) ∧ ∀ p ∈ Xg.pn ++ pinsAt fp s2.heap, p.1 ≠ b := fun b hb => by
          obtain ⟨q1, q2, q3, q4⟩ := hS b hb
          refine ⟨q1, q2, q3, fun p hp => ?_⟩
          obtain hp | hp := List.mem_append.mp hp
          · exact q4 p hp
          · obtain ⟨hb', _⟩ := of_pinsAt hp
            exact fun z => (hfp _ hb').2.2.2.2 (by rw [z]; exact hb)
        obtain ⟨cp6, hcp6, I6⟩ := inv_woken I5 hcp.1 hq z
        obtain ⟨st6, n6⟩ := fpK I6
        exact seg_again rfl (ih m' hm n (i + 1) (ys ++ [y]) s6 s6 H5 cp6 (by omega) ((I6.unpinned (pins := cp6)).weak hl3 hk3) st6 n6 hcp6 h6 w')
end
end Gx
end

section
set_option Elab.async false
set_option linter.all false
set_option maxRecDepth 100000
set_option maxHeartbeats 4100000
namespace Gx
open PySem PySem.Spec PyProof.Rows L2 GenW


section
variable {X Xg : Cx} {pins : List (Addr × Obj)} {σ : L2.St} {a : Addr} {g : Nat} {go : Obj} {SS : List Addr} {Y : YP} {Dn : DP} {Hist : HP} {A : Around}
theorem git_of (hp : Xg.prog = X.prog) (hw : Xg.w = X.w) (hd : A.handled = none) (hdep : A.depth < recursionLimit) (hY : YMono Y)
    (hback : ∀ σ1 H s1 cp g', Inv Xg cp σ1 H s1 → AllBare g' → Inv X pins σ H { s1 with gens := g' })
    (hpn : (a, go) ∈ Xg.pn) (hgo : ∀ h : Heap, h.get? a = some go → h.IsGen a g) (haS : a ∉ SS)
    (hS : ∀ b ∈ SS, X.s_0.heap.objs.size ≤ b ∧ b ≠ X.env.locals ∧ (∀ x c, X.env.cells.lookup x = some c → c ≠ b) ∧ ∀ p ∈ X.pn ++ pins, p.1 ≠ b) :
    ∀ (n : Nat) (s : Shared) (gs : GenState), s.heap.IsGen a g → (∃ H, Inv X pins σ H s ∧ ∀ b ∈ SS, H b = none) → s.gens[g]? = some gs →
      gs.Goes (model X.prog X.w) A.in1 (gR Xg SS Dn Hist) (gY Xg SS Y Hist) n (.send .none) (s.setGen g .running) → GIt X pins σ a SS Y Dn Hist A n s := by
  have fin : ∀ (n : Nat) (s : Shared) (gs : GenState) (K : Shared → Prop), s.heap.IsGen a g → (∃ H, Inv X pins σ H s ∧ ∀ b ∈ SS, H b = none) → s.gens[g]? = some gs →
      gs.Goes (model X.prog X.w) A.in1 (gR Xg SS Dn Hist) (gY Xg SS Y Hist) n (.send .none) (s.setGen g .running) →
      (∀ (gs' : GenState) (s1 s' : Shared) H, gs'.bare = true → Inv X pins σ H s1 → (∀ b ∈ SS, H b = none) → s1.heap.get? a = some go → s'.gens = s1.gens → s1.gens[g]? = some gs' → Slp SS s1 s' → (match n with | 0 => False | m + 1 => gs'.Goes (model X.prog X.w) A.in1 (gR Xg SS Dn Hist) (gY Xg SS Y Hist) m (.send .none) (s'.setGen g .running)) → K s') →
      (∃ g, s.heap.IsGen a g) ∧ (∃ H, Inv X pins σ H s ∧ ∀ b ∈ SS, H b = none) ∧ ∀ (Q : Option Value → Shared → Prop) (E : Value → Shared → Prop),
        (∀ v x H s1 ys, RelV x v → Inv X pins σ H s1 → Same' SS s.heap s1.heap → (∀ b ∈ SS, H b = none) → Hist ys s.heap → Y ys x H (∀ s', s'.gens = s1.gens → Slp SS s1 s' → Hist (ys ++ [x]) s'.heap → K s') → Q (some v) s1) →
        (∀ H s1 ys, Inv X pins σ H s1 → Same' SS s.heap s1.heap → (∀ b ∈ SS, H b = none) → Hist ys s.heap → Dn ys H → Q none s1) → wpAny (model X.prog X.w) A (pyNext (.ref a)) Q E s := by
    intro n s gs K hg hI hgs hgoes hK
    refine ⟨⟨g, hg⟩, hI, fun Q E hit hdn => ?_⟩
    obtain ⟨H0, I0, _⟩ := hI
    have ⟨hgl, _⟩ := Array.getElem?_eq_some_iff.mp hgs
    have facts : ∀ {cp : List (Addr × Obj)} {σ1 : L2.St} {H : Hp} {s1 : Shared}, Inv Xg cp σ1 H s1 → CpOk SS cp (s.setGen g .running) → Same' SS s.heap s1.heap ∧ (∀ b ∈ SS, H b = none) ∧ s1.heap.get? a = some go := fun {cp σ1 H s1} I1 hc => by
      have at_ : ∀ b ∈ SS, ∃ o, (b, o) ∈ cp := fun b hb => by
        rw [← hc.1] at hb
        obtain ⟨p, hp, rfl⟩ := List.mem_map.mp hb
        exact ⟨p.2, hp⟩
      refine ⟨fun b hb o e => ?_, fun b hb => ?_, (I1.pin (a, go) (List.mem_append_left _ hpn)).1⟩
      · obtain ⟨o', hm⟩ := at_ b hb
        have q1 := hc.2 _ hm
        have q2 := (I1.pin _ (List.mem_append_right _ hm)).1
        have q1' : s.heap.get? b = some o' := q1
        rw [e] at q1'; cases q1'
        exact q2
      · obtain ⟨o', hm⟩ := at_ b hb
        exact (I1.pin _ (List.mem_append_right _ hm)).2.1
    refine wpAny_gsz (n := g + 1) hgl (next_genG (A := A) (F := gF Xg SS Dn Hist) (Er := fun _ _ => False) hd I0.nolimit hdep hg hgs hgoes (fun v s1 gs' hb hv => ?_) (fun s1 hp1 h' hk => ?_) fun e s1 he => he.elim)
    · intro hsz
      obtain ⟨ys, x, H, σ1, cp, rx, I1, hcp, hH, hy⟩ := hv
      obtain ⟨f1, f2, f3⟩ := facts I1 hcp
      have I2 : Inv X pins σ H (s1.setGen g gs') := hback σ1 H s1 cp _ I1 (allBare_setGen I1.bare hb)
      have hsz1 : g < s1.gens.size := by
        have q : (s1.setGen g gs').gens.size = s1.gens.size := setGen_size _ _ _
        have : g + 1 ≤ (s1.setGen g gs').gens.size := hsz
        omega
      refine hit v x H _ ys rx I2 f1 f2 hH (hY _ _ _ _ _ (fun k s' hgens z hh => ?_) hy)
      refine hK gs' (s1.setGen g gs') s' H hb I2 f2 f3 hgens (setGen_at hsz1) z ?_
      have kk := k (s'.setGen g .running) ⟨z.os, allBare_setGen z.bare rfl, z.keep, z.own⟩ hh
      cases n with
      | zero => exact kk
      | succ m => exact kk
    · intro hsz
      obtain ⟨ys, H, σ1, cp, I1, hcp, hH, dn⟩ := hp1
      obtain ⟨f1, f2, f3⟩ := facts I1 hcp
      have I2 : Inv X pins σ H (s1.setGen g .finished) := hback σ1 H s1 cp _ I1 (allBare_setGen I1.bare rfl)
      exact hdn H _ ys (I2.kept (t' := s1.toks) hk) (fun b hb o e => hk _ _ (f1 b hb o e)) f2 hH dn
  intro n
  induction n with
  | zero =>
    intro s gs hg hI hgs hgoes
    exact fin 0 s gs (fun _ => False) hg hI hgs hgoes fun gs' s1 s' H hb I1 hn1 ha hgens hg1 z h => h
  | succ n ih =>
    intro s gs hg hI hgs hgoes
    refine fin (n + 1) s gs (GIt X pins σ a SS Y Dn Hist A n) hg hI hgs hgoes fun gs' s1 s' H hb I1 hn1 ha hgens hg1 z h => ?_
    have ha' : s'.heap.get? a = some go := z.keep a go haS ha
    exact ih s' gs' (hgo _ ha') ⟨H, inv_slp I1 hn1 hS z, hn1⟩ (by rw [hgens]; exact hg1) h
end

section
variable {Xg : Cx} {σ : L2.St} {SS : List Addr} {Y : YP} {Dn : DP} {Hist : HP} {A : Around} {elt tg iter : Expr} {ifs : List Expr} {scope : Scope} {pos : Pos} {it : Addr} {fp : List Addr} {tn : Nat → Heap → Prop} {J : It} {n : Nat} {s0 s : Shared}
theorem seg_start (T : Turn Xg.prog Xg.w Xg.K tg J fp it tn) (st : tn 0 s.heap)
    (loop : Seg (model Xg.prog Xg.w) A (gR Xg SS Dn Hist) (gY Xg SS Y Hist) n s0 (.compLoop (.GeneratorExp elt [⟨tg, iter, ifs, 0⟩] scope pos) 0 (.ref it) .none Xg.env)
        ((model Xg.prog Xg.w).den (.compLoop (.GeneratorExp elt [⟨tg, iter, ifs, 0⟩] scope pos) 0 (.ref it) .none Xg.env)) [] s) :
    Seg (model Xg.prog Xg.w) A (gR Xg SS Dn Hist) (gY Xg SS Y Hist) n s0 (.compStart (.GeneratorExp elt [⟨tg, iter, ifs, 0⟩] scope pos) 0 (.ref it) .none Xg.env)
        ((model Xg.prog Xg.w).den (.compStart (.GeneratorExp elt [⟨tg, iter, ifs, 0⟩] scope pos) 0 (.ref it) .none Xg.env)) [] s := by
  show Seg _ A _ _ _ s0 _ ((compStart (.GeneratorExp elt [⟨tg, iter, ifs, 0⟩] scope pos) 0 (.ref it) .none Xg.env).onRaise (leaving Xg.env)) [] s
  unfold compStart
  rw [Sem.onRaise_eq_wrap]
  show Seg _ A _ _ _ s0 _ ((ask >>= _).wrap _ _ _ _) [] s
  apply seg_bind_wrap
  apply wpAny_askSetting
  split
  · exact seg_again rfl loop
  · first
      | exact seg_bind_wrap (wpAny_rule (seg_bind_wrap (wpAny_standAt (seg_bind_wrap (T.self _ 0 s _ _ st (seg_again rfl loop))))))
      | (refine seg_bind_wrap (wpAny_rule ?_); show Seg _ A _ _ _ s0 _ ((standAt iter.pos >>= _).wrap _ _ _ _) [] s; exact seg_bind_wrap (wpAny_standAt (seg_bind_wrap (T.self _ 0 s _ _ st (seg_again rfl loop)))))
end

/-- a generator expression's value: a generator that has not begun -/
def GxM (X : Cx) (pins : List (Addr × Obj)) (σ : L2.St) (k : Nat) (Y : YP) (Dn : DP) (u : Value) (s : Shared) : Prop :=
  ∃ (a : Addr) (n : Nat), u = .ref a ∧ (∃ g, s.heap.IsGen a g) ∧ (∃ H, Inv X pins σ H s) ∧ ∀ (A : Around) (SS : List Addr) (Hist : HP) (s2 : Shared), Room (k + 2) A → A.frames = some X.stack → (∀ b ∈ SS, s.heap.objs.size ≤ b) →
    Slp SS s s2 → s2.gens = s.gens → Hist [] s2.heap → GIt X pins σ a SS Y Dn Hist A n s2


section
variable {X : Cx} {σ : L2.St} {H : Hp} {s : Shared} {pins : List (Addr × Obj)}
theorem inv_gens {g' : Array GenState} (I : Inv X pins σ H s) (hg : AllBare g') : Inv X pins σ H { s with gens := g' } :=
  I.call' (s' := { s with gens := g' }) (ch := []) rfl (Un.kept fun _ _ e => e) I.hok hg fun b z => by simp at z
theorem inv_kept' {s' : Shared} (I : Inv X pins σ H s) (ho : s'.os = s.os) (k : ∀ b u, s.heap.get? b = some u → s'.heap.get? b = some u) (hg : AllBare s'.gens) : Inv X pins σ H s' :=
  I.call' (ch := []) ho (Un.kept k) (I.hok.kept k) hg fun b z => by simp at z
end

theorem gxm_made {X : Cx} {pins : List (Addr × Obj)} {σ : L2.St} {H3 : Hp} {s3 : Shared} {k m0 : Nat} {elt tg iter : Expr} {ifs : List Expr} {scope : Scope} {own : List (Str × Nat)} {pos : Pos} {g : TG} {tt : TT} {te : TE} {Y : YP} {Dn : DP}
    {it : Addr} {fp : List Addr} {tn : Nat → Heap → Prop} {J : It} {W : Nat → Nat → List V → Hp → Prop} {cenv : Env} {cv : Value} {h' : Heap} {go : Obj} {tk : Nat}
    (I3 : Inv X pins σ H3 s3) (hN : X.N.Nodup) (ok : BlkOk X.N X.env.scope scope own) (hco : scope.isCoroutine = false) (hdot : (".0" : Str) ∉ X.N) (hY : YMono Y)
    (hcenv : cenv = gEnv scope (cellsFrom (s3.heap.objs.size + 1) scope.names (cloFrom X.env.cells scope.names [])) s3.heap.objs.size cv builtinsNs X.env)
    (hg : ∀ (A : Around) (fp : List Addr) (pn : List (Addr × Obj)), Room k A → PG (gCx X A s3 H3 cenv fp pn) tg g)
    (ht : ∀ (A : Around) (fp : List Addr) (pn : List (Addr × Obj)), Room k A → PTs (gCx X A s3 H3 cenv fp pn) ifs tt)
    (he : ∀ (A : Around) (fp : List Addr) (pn : List (Addr × Obj)), Room k A → PE (gCx X A s3 H3 cenv fp pn) elt te)
    (T : Turn X.prog X.w X.K tg J fp it tn) (st3 : tn 0 s3.heap) (f3 : ∀ b ∈ fp, FpOk X pins H3 b) (w0 : W 0 m0 [] H3) (turns : GTurns J g tt te (own.map (·.2)) σ Y Dn W)
    (hns : h'.Ns s3.heap.objs.size (fun y => if y = (".0" : Str) then some (.ref it) else none))
    (hsb : Heap.SameBut s3.heap.objs.size (pushCells (s3.heap.push { cls := .type "frame", data := .dict #[] }) scope.names) h')
    (hgo : ∀ h : Heap, h.get? h'.objs.size = some go → h.IsGen h'.objs.size s3.gens.size) (hgp : (h'.push go).get? h'.objs.size = some go) (hgc : ∀ v, go.data ≠ .cell v) :
    GxM X pins σ k Y Dn (.ref h'.objs.size) { s3 with gens := s3.gens.push (.fresh (.compStart (.GeneratorExp elt [⟨tg, iter, ifs, 0⟩] scope pos) 0 (.ref it) .none cenv)), toks := tk, heap := h'.push go } := by
  have kp0 : ∀ b o, s3.heap.get? b = some o → h'.get? b = some o := fun b o e => (hsb.2 b (Nat.ne_of_lt (Heap.lt_size e))).trans (pushCells_keeps _ _ _ _ (Heap.get?_push_of_some _ e))
  have kp5 : ∀ b o, s3.heap.get? b = some o → (h'.push go).get? b = some o := fun b o e => Heap.get?_push_of_some _ (kp0 b o e)
  have hb5 : AllBare (s3.gens.push (.fresh (.compStart (.GeneratorExp elt [⟨tg, iter, ifs, 0⟩] scope pos) 0 (.ref it) .none cenv))) := AllBare.push I3.bare rfl
  have lt' : s3.heap.objs.size < h'.objs.size := hns.lt
  generalize hs5 : ({ s3 with gens := s3.gens.push (.fresh (.compStart (.GeneratorExp elt [⟨tg, iter, ifs, 0⟩] scope pos) 0 (.ref it) .none cenv)), toks := tk, heap := h'.push go } : Shared) = s5
  have e5h : s5.heap = h'.push go := by rw [← hs5]
  have e5g : s5.gens = s3.gens.push (.fresh (.compStart (.GeneratorExp elt [⟨tg, iter, ifs, 0⟩] scope pos) 0 (.ref it) .none cenv)) := by rw [← hs5]
  have e5o : s5.os = s3.os := by rw [← hs5]
  have I5 : Inv X pins σ H3 s5 := inv_kept' I3 e5o (fun b u e => by rw [e5h]; exact kp5 b u e) (by rw [e5g]; exact hb5)
  have sz5 : s5.heap.objs.size = h'.objs.size + 1 := by rw [e5h, Heap.size_push]
  have hga : s5.heap.get? h'.objs.size = some go := by rw [e5h]; exact hgp
  refine ⟨h'.objs.size, m0 + 1, rfl, ⟨_, hgo _ hga⟩, ⟨H3, I5⟩, fun A SS Hist sx hrA hfrA hSS z hgens hh => ?_⟩
  have hrX : Room k (A.in1.deeper cenv) := hrA.in1.deeper cenv
  have ltfp : ∀ b ∈ fp, b < s3.heap.objs.size := fun b hb => by
    obtain ⟨o, e, _⟩ := T.obj _ _ st3 b hb
    exact Heap.lt_size e
  have I6 : Inv (gCx X (A.in1.deeper cenv) s3 H3 cenv fp [(h'.objs.size, go)]) [] (wipe σ (own.map (·.2))) H3 s5 := by
    rw [← hs5]
    refine gen_start I3 ok hN (fun b hb => ⟨f3 b hb, ltfp b hb⟩) hcenv hrX.hd (Around.frames_deeper hfrA) hns hdot hsb (fun b o e => Heap.get?_push_of_some _ e) hb5 fun p hp => ?_
    rw [List.mem_singleton.mp hp]
    exact ⟨hgp, Nat.le_refl _, hgc⟩
  have ltS : ∀ b u, s5.heap.get? b = some u → b ∉ SS := fun b u e hb => absurd (Nat.lt_of_lt_of_le (Heap.lt_size e) (hSS b hb)) (Nat.lt_irrefl _)
  have kx : ∀ b u, s5.heap.get? b = some u → sx.heap.get? b = some u := fun b u e => z.keep b u (ltS b u e) e
  have I7 := inv_kept' (s' := sx) I6 z.os kx z.bare
  have Ix : Inv X pins σ H3 sx := inv_kept' I5 z.os kx z.bare
  have nS : ∀ b ∈ SS, H3 b = none := fun b hb => I5.hok.fresh (hSS b hb)
  have hSX : ∀ b ∈ SS, X.s_0.heap.objs.size ≤ b ∧ b ≠ X.env.locals ∧ (∀ x c, X.env.cells.lookup x = some c → c ≠ b) ∧ ∀ p ∈ X.pn ++ pins, p.1 ≠ b := fun b hb => by
    obtain ⟨_, q2, q3, q4, _⟩ := inv_new (sz := 0) I5 I5 (hSS b hb)
    exact ⟨Nat.le_trans I5.sz (hSS b hb), q2, q3, q4⟩
  have hSg : ∀ b ∈ SS, s3.heap.objs.size ≤ b ∧ b ≠ cenv.locals ∧ (∀ x c, cenv.cells.lookup x = some c → c ≠ b) ∧ ∀ p ∈ [(h'.objs.size, go)], p.1 ≠ b := fun b hb => by
    obtain ⟨_, q2, q3, q4, _⟩ := inv_new (sz := 0) I6 I6 (hSS b hb)
    exact ⟨Nat.le_trans I6.sz (hSS b hb), q2, q3, fun p hp => q4 p (by simpa using hp)⟩
  obtain ⟨cp, c1, c2⟩ := slp_pins z
  have I8 : Inv (gCx X (A.in1.deeper cenv) s3 H3 cenv fp [(h'.objs.size, go)]) cp (wipe σ (own.map (·.2))) H3 sx := I7.pins_of fun p hp => by
    obtain ⟨q1, q2, q3⟩ := c2 p hp
    obtain ⟨r1, r2, r3, r4⟩ := hSg _ q3
    exact ⟨q1, nS _ q3, r2, I6.nofs (hSS _ q3), q2⟩
  have hsc : cenv.scope = scope := by rw [hcenv]
  have haS : h'.objs.size ∉ SS := ltS _ _ hga
  refine git_of (X := X) (pins := pins) (σ := σ) (SS := SS) (Hist := Hist) (A := A) (Dn := Dn) (a := h'.objs.size) (Xg := gCx X (A.in1.deeper cenv) s3 H3 cenv fp [(h'.objs.size, go)]) (go := go) (g := s3.gens.size) rfl rfl hrA.hd (by have := hrA.dp; omega) hY
    (fun σ1 H s1 cp g' I1 hb => ?_) (List.mem_singleton.mpr rfl) hgo haS hSX (m0 + 1) sx (.fresh (.compStart (.GeneratorExp elt [⟨tg, iter, ifs, 0⟩] scope pos) 0 (.ref it) .none cenv)) (hgo _ (kx _ _ hga)) ⟨H3, Ix, nS⟩ (by rw [hgens, e5g]; exact Array.getElem?_push_size ..) ⟨rfl, ?_⟩
  · exact I3.call' (s' := { s1 with gens := g' }) (ch := fp) I1.os I1.base I1.hok hb fun b hb => ⟨(f3 b hb).2.2.2.1, (f3 b hb).2.1, (f3 b hb).2.2.2.2.1, (f3 b hb).2.2.2.2.2⟩
  · have stx : tn 0 sx.heap := T.keep _ _ _ st3 fun b hb o e => kx b o (by rw [e5h]; exact kp5 b o e)
    refine seg_start (Xg := gCx X (A.in1.deeper cenv) s3 H3 cenv fp [(h'.objs.size, go)]) T stx ?_
    refine seg_loop (Xg := gCx X (A.in1.deeper cenv) s3 H3 cenv fp [(h'.objs.size, go)]) (A := A.in1) (σ := σ) rfl rfl rfl T rfl (by show cenv.scope.isCoroutine = _; rw [hsc]; exact hco) (hg _ _ _ hrX) (ht _ _ _ hrX) (he _ _ _ hrX) hY turns
      (fun b hb => ⟨(I6.ok.exf b hb).1, I6.ok.exfs b hb, fun x c e => (I6.ok.exf b hb).2 x c e, fun p hp => ?_, fun hm => ?_⟩) hSg m0 (m0 + 1) 0 [] _ _ H3 cp (Nat.lt_succ_self _) (inv_gens I8 (allBare_setGen I8.bare rfl)) stx (fun b hb => (f3 b hb).1) ⟨c1, fun p hp => (c2 p hp).1⟩ hh w0
    · cases List.mem_singleton.mp hp
      exact Nat.ne_of_gt (Nat.lt_trans (ltfp b hb) lt')
    · exact absurd (Nat.lt_of_lt_of_le (Nat.lt_trans (ltfp b hb) (by rw [sz5]; exact Nat.lt_succ_of_lt lt')) (hSS b hm)) (Nat.lt_irrefl _)

theorem pgx {X : Cx} {pins : List (Addr × Obj)} {σ : L2.St} {H : Hp} {s : Shared} {c P : Addr} {k : Nat} {elt tg iter : Expr} {ifs : List Expr} {scope : Scope} {own : List (Str × Nat)} {pos : Pos} {wi : TI} {g : TG} {tt : Value → TT} {te : Value → TE} {Y : YP} {Dn : DP}
    (I : Inv X pins σ H s) (hN : X.N.Nodup) (hi : PI X tg iter wi) (ok : BlkOk X.N X.env.scope scope own) (hco : scope.isCoroutine = false) (h0 : scope.names.lookup (".0" : Str) = some NameKind.local) (hdot : (".0" : Str) ∉ X.N)
    (hdep : X.A.depth < recursionLimit) (hcode : X.env.code = .ref c) (hblt : BltM X) (hY : YMono Y)
    (hg : ∀ (A : Around) (s : Shared) (H : Hp) (cenv : Env) (fp : List Addr) (pn : List (Addr × Obj)), Room k A → cenv.scope = scope → PG (gCx X A s H cenv fp pn) tg g)
    (ht : ∀ (A : Around) (s : Shared) (H : Hp) (cenv : Env) (fp : List Addr) (pn : List (Addr × Obj)), Room k A → cenv.scope = scope → PTs (gCx X A s H cenv fp pn) ifs (tt cenv.code))
    (he : ∀ (A : Around) (s : Shared) (H : Hp) (cenv : Env) (fp : List Addr) (pn : List (Addr × Obj)), Room k A → cenv.scope = scope → PE (gCx X A s H cenv fp pn) elt (te cenv.code))
    (hs : ∀ x, genFold iter X.env x = pure x)
    (h : wi σ H fun J H1 => TabN 0 H1 P ∧ CodeK X H1 c P ∧ ∀ cv H2, TbG H1 H2 → (∀ b o, b ≠ P → H1 b = some o → H2 b = some o) → (TabN 1 H1 P → CodeV H2 cv) → ∃ W : Nat → Nat → List V → Hp → Prop, (∃ m, W 0 m [] H2) ∧ GTurns J g (tt cv) (te cv) (own.map (·.2)) σ Y Dn W) :
    wpAny (model X.prog X.w) X.A (eval (.GeneratorExp elt [⟨tg, iter, ifs, 0⟩] scope pos) X.env) (GxM X pins σ k Y Dn) X.xe s := by
  rw [eval_GeneratorExp1 _ _ _ _ _ _ _ hco, closure_ok fun y hy e => I.ok.has y.1 (ok.free y hy e)]
  refine wpAny_bind (thn (hi.run pins s σ H _ I h) fun xv s1 hx => ?_)
  refine (wpAny_bind (wpAny_standAt (wpAny_bind (wpAny_of_eq (hs xv) ?_))))
  refine wpAny_bind (wpAny_holding (thn hx fun itv s2 h2 => ?_))
  obtain ⟨it, fp, tn, J, H2, e, I2, T, st2, f2, tab0, ck, q⟩ := h2
  subst e
  refine wpAny_bind (wpAny_enterFrame I2.nolimit hdep ?_)
  refine (wpAny_bind (wpAny_pure ?_))
  refine wpAny_bind (gx_code I2 hcode ck tab0 fun cv H3 s3 I3 tg3 tx3 hcv hfr3 hk3 => ?_)
  obtain ⟨W, ⟨m0, w0⟩, turns⟩ := q cv H3 tg3 tx3 hcv
  obtain ⟨bm, ob, e1, e2, e3, e4, e5, e6⟩ := hblt
  refine wpAny_bind (wpAny_builtinsFor (m := X.mg) (by rw [I3.ok.glob]; exact I3.mod.glob.keeps I3.bk) e1 e2 (I3.bk _ _ e3) e4 e5 e6 ?_)
  refine wpAny_bind (newEnv_gen ok.kind h0 fun h' hns hsb => ?_)
  delta newGenerator newFields
  refine wpAny_bind (wpAny_newGen ?_)
  refine wpAny_bind (wpAny_mkText (wpAny_bind (wpAny_mkText ?_)))
  refine wpAny_newObj_type (s := _) ?_ (by size_fits)
  have f3 : ∀ b ∈ fp, FpOk X pins H3 b := fun b hb => by
    obtain ⟨⟨q1, q2⟩, o, e, _⟩ := And.intro (f2 b hb) (T.obj _ _ st2 b hb)
    exact ⟨hfr3 b q1 (Heap.lt_size e), q2⟩
  have st3 : tn 0 s3.heap := T.keep _ _ _ st2 fun b hb o e => hk3 b o (fun z => by
    obtain ⟨ps, hP, _⟩ := tab0
    have hb0 := (f2 b hb).1
    rw [z, hP] at hb0
    cases hb0) e
  have hcd : (gEnv scope (cellsFrom (s3.heap.objs.size + 1) scope.names (cloFrom X.env.cells scope.names [])) s3.heap.objs.size cv builtinsNs X.env).code = cv := rfl
  exact gxm_made (s3 := s3) (H3 := H3) (h' := h') (cv := cv) (tt := tt cv) (te := te cv) (cenv := gEnv scope (cellsFrom (s3.heap.objs.size + 1) scope.names (cloFrom X.env.cells scope.names [])) s3.heap.objs.size cv builtinsNs X.env)
    I3 hN ok hco hdot hY rfl (fun A fp pn hr => hg A s3 H3 _ fp pn hr rfl) (fun A fp pn hr => ht A s3 H3 _ fp pn hr rfl) (fun A fp pn hr => he A s3 H3 _ fp pn hr rfl) T st3 f3 w0 turns hns hsb (fun h e => ⟨_, _, _, e, rfl, rfl, rfl⟩) (Heap.get?_push_size _ rfl) (fun v q => by cases q)
end Gx
end

section
set_option Elab.async false
set_option linter.all false
set_option maxRecDepth 100000
set_option maxHeartbeats 4100000
namespace Gx
open PySem PySem.Spec PyProof.Rows L2 GenW

section
variable {X : Cx} {pins : List (Addr × Obj)} {σ : L2.St} {a : Addr} {SS : List Addr} {Y : YP} {Dn : DP} {Hist : HP} {A : Around} {n : Nat} {s : Shared}
/-- both levels at once -/
def GK (X : Cx) (pins : List (Addr × Obj)) (σ : L2.St) (a : Addr) (SS : List Addr) (Y : YP) (Dn : DP) (Hist : HP) (A : Around) : Nat → Shared → Prop
  | 0 => fun _ => False
  | n + 1 => GIt X pins σ a SS Y Dn Hist A n
theorem GIt.open (h : GIt X pins σ a SS Y Dn Hist A n s) : (∃ g, s.heap.IsGen a g) ∧ (∃ H, Inv X pins σ H s ∧ ∀ b ∈ SS, H b = none) ∧ ∀ (Q : Option Value → Shared → Prop) (E : Value → Shared → Prop),
      (∀ v x H s1 ys, RelV x v → Inv X pins σ H s1 → Same' SS s.heap s1.heap → (∀ b ∈ SS, H b = none) → Hist ys s.heap → Y ys x H (∀ s', s'.gens = s1.gens → Slp SS s1 s' → Hist (ys ++ [x]) s'.heap → GK X pins σ a SS Y Dn Hist A n s') → Q (some v) s1) →
      (∀ H s1 ys, Inv X pins σ H s1 → Same' SS s.heap s1.heap → (∀ b ∈ SS, H b = none) → Hist ys s.heap → Dn ys H → Q none s1) → wpAny (model X.prog X.w) A (pyNext (.ref a)) Q E s := by
  cases n with
  | zero => exact h
  | succ n => exact h
theorem slp_refl (h : AllBare s.gens) : Slp [] s s := ⟨rfl, h, fun _ _ _ e => e, fun b hb => absurd hb (by simp)⟩

/-! ### any, all -/
theorem any_loop {R : Result → Shared → Prop}
    (hY : ∀ ys x H K, Y ys x H K → ∃ b, x = V.bl b ∧ (b = true → ∀ s', Inv X pins σ H s' → R (.ok (.ret (.bool true))) s') ∧ (b = false → K))
    (hD : ∀ ys H s', Dn ys H → Inv X pins σ H s' → R (.ok (.ret (.bool false))) s') (n : Nat) : ∀ s : Shared, GIt X pins σ a [] Y Dn (fun _ _ => True) A.in1 n s →
    codeAny (model X.prog X.w) A (.builtin "any.loop" ⟨[.ref a], []⟩) R s := by
  have turn : ∀ (n : Nat) (s : Shared), GIt X pins σ a [] Y Dn (fun _ _ => True) A.in1 n s → (∀ s', GK X pins σ a [] Y Dn (fun _ _ => True) A.in1 n s' → codeAny (model X.prog X.w) A (.builtin "any.loop" ⟨[.ref a], []⟩) R s') →
      codeAny (model X.prog X.w) A (.builtin "any.loop" ⟨[.ref a], []⟩) R s := fun n s g next => by
    (refine codeAny_builtin F.entry_any_loop ?_; rw [Around.under_plainId F.plain_any_loop _])
    have done_ : ∀ H (s1 : Shared) ys, Inv X pins σ H s1 → Dn ys H → _ := fun H s1 ys I1 d => hD ys H s1 d I1
    refine wpAny_bind (g.open.2.2 _ _ (fun v x H s1 ys rv I1 _ _ _ y => ?_) fun H s1 ys I1 _ _ _ d => wpAny_bind (wpAny_rule (wpAny_pure (done_ H s1 ys I1 d))))
    obtain ⟨b, rfl, hstop, hgo⟩ := hY _ _ _ _ y
    cases rv
    refine wpAny_bind (wpAny_holding (wpAny_truthy_bool (wpAny_bind (wpAny_letGo ?_))))
    cases b <;> simp only [if_true, if_false, Bool.false_eq_true]
    all_goals first
      | exact wpAny_bind (wpAny_rule (wpAny_pure (hstop rfl s1 I1)))
      | exact wpAny_pure ⟨plainId_quiet F.plain_any_loop _, next s1 (hgo rfl s1 rfl (slp_refl I1.bare) trivial)⟩
  induction n with
  | zero => exact fun s g => turn 0 s g fun _ k => k.elim
  | succ n ih => exact fun s g => turn (n + 1) s g ih
theorem all_loop {R : Result → Shared → Prop}
    (hY : ∀ ys x H K, Y ys x H K → ∃ b, x = V.bl b ∧ (b = false → ∀ s', Inv X pins σ H s' → R (.ok (.ret (.bool false))) s') ∧ (b = true → K))
    (hD : ∀ ys H s', Dn ys H → Inv X pins σ H s' → R (.ok (.ret (.bool true))) s') (n : Nat) : ∀ s : Shared, GIt X pins σ a [] Y Dn (fun _ _ => True) A.in1 n s →
    codeAny (model X.prog X.w) A (.builtin "all.loop" ⟨[.ref a], []⟩) R s := by
  have turn : ∀ (n : Nat) (s : Shared), GIt X pins σ a [] Y Dn (fun _ _ => True) A.in1 n s → (∀ s', GK X pins σ a [] Y Dn (fun _ _ => True) A.in1 n s' → codeAny (model X.prog X.w) A (.builtin "all.loop" ⟨[.ref a], []⟩) R s') →
      codeAny (model X.prog X.w) A (.builtin "all.loop" ⟨[.ref a], []⟩) R s := fun n s g next => by
    (refine codeAny_builtin F.entry_all_loop ?_; rw [Around.under_plainId F.plain_all_loop _])
    have done_ : ∀ H (s1 : Shared) ys, Inv X pins σ H s1 → Dn ys H → _ := fun H s1 ys I1 d => hD ys H s1 d I1
    refine wpAny_bind (g.open.2.2 _ _ (fun v x H s1 ys rv I1 _ _ _ y => ?_) fun H s1 ys I1 _ _ _ d => wpAny_bind (wpAny_rule (wpAny_pure (done_ H s1 ys I1 d))))
    obtain ⟨b, rfl, hstop, hgo⟩ := hY _ _ _ _ y
    cases rv
    refine wpAny_bind (wpAny_holding (wpAny_truthy_bool (wpAny_bind (wpAny_letGo ?_))))
    cases b <;> simp only [if_true, if_false, Bool.false_eq_true]
    all_goals first
      | exact wpAny_bind (wpAny_rule (wpAny_pure (hstop rfl s1 I1)))
      | exact wpAny_pure ⟨plainId_quiet F.plain_all_loop _, next s1 (hgo rfl s1 rfl (slp_refl I1.bare) trivial)⟩
  induction n with
  | zero => exact fun s g => turn 0 s g fun _ k => k.elim
  | succ n ih => exact fun s g => turn (n + 1) s g ih

/-! ### sum -/
def HSum (S : Addr) : HP := fun ys h => ∃ (ns : List Int) (t : Tok) (c : Nat), ys = ns.map V.int ∧ h.get? S = some (lstObj #[.int ns.sum t] c)
theorem map_int_inj {ns ms : List Int} (h : ns.map V.int = ms.map V.int) : ns = ms :=
  List.map_inj_right (fun _ _ e => V.int.inj e) |>.mp h
theorem slp_upd {S : Addr} {f : Obj → Obj} {acc : Array Value} {c : Nat} {tk : Nat} (hb : AllBare s.gens) (hS : s.heap.get? S = some (lstObj acc c)) (o : Obj) (ho : (s.heap.update S f).get? S = some o) (hc : ∀ v, o.data ≠ .cell v) :
    Slp [S] s { s with heap := s.heap.update S f, toks := tk } :=
  ⟨rfl, hb, fun b ob h e => (Heap.get?_update_other _ _ (fun z : S = b => h (by rw [z]; exact List.mem_singleton.mpr rfl))).trans e, fun b hm => by rw [List.mem_singleton.mp hm]; exact ⟨o, ho, hc⟩⟩

theorem sum_loop {R : Result → Shared → Prop} {S : Addr}
    (hY : ∀ ys x H K, Y ys x H K → ∃ i, x = V.int i ∧ (∀ ns : List Int, ys = ns.map V.int → InLong i ∧ InLong (ns.sum + i)) ∧ K)
    (hD : ∀ (ns : List Int) H s' t, Dn (ns.map V.int) H → Inv X pins σ H s' → R (.ok (.ret (.int ns.sum t))) s') : ∀ (n : Nat) (s : Shared), GIt X pins σ a [S] Y Dn (HSum S) A.in1 n s → (∃ ys, HSum S ys s.heap) →
    codeAny (model X.prog X.w) A (.builtin "sum.loop" ⟨[.ref a, .ref S, rawInt 0, rawInt 0], []⟩) R s := by
  have same : ∀ {ns : List Int} {t : Tok} {c : Nat} {ys : List V} {s : Shared}, s.heap.get? S = some (lstObj #[.int ns.sum t] c) → HSum S ys s.heap → ∃ ms : List Int, ys = ms.map V.int ∧ ms.sum = ns.sum := fun {ns t c ys s} h1 ⟨ms, t', c', e, h2⟩ => by
    rw [h1] at h2
    have h3 : (Value.int ns.sum t) = .int ms.sum t' := by
      have := congrArg Obj.data (Option.some.inj h2)
      simpa using (by injection this : (#[Value.int ns.sum t] : Array Value) = #[.int ms.sum t'])
    injection h3 with h4 _
    exact ⟨ms, e, h4.symm⟩
  have main : ∀ (n : Nat) (s : Shared) (K : Shared → Prop), GIt X pins σ a [S] Y Dn (HSum S) A.in1 n s → (∃ ys, HSum S ys s.heap) → (∀ s', GK X pins σ a [S] Y Dn (HSum S) A.in1 n s' → (∃ ys, HSum S ys s'.heap) → codeAny (model X.prog X.w) A (.builtin "sum.loop" ⟨[.ref a, .ref S, rawInt 0, rawInt 0], []⟩) R s') →
      codeAny (model X.prog X.w) A (.builtin "sum.loop" ⟨[.ref a, .ref S, rawInt 0, rawInt 0], []⟩) R s := by
    intro n s K g ⟨ys0, ns, t, c, e0, hS⟩ next
    (refine codeAny_builtin F.entry_sum_loop ?_; rw [Around.under_plainId F.plain_sum_loop _])
    refine wpAny_bind (m := seqItems? (.ref S)) (wpAny_seqItems hS rfl ?_)
    show wpAny _ A.in1 (tryCatch (pyNext (.ref a)) _ >>= _) _ _ s
    refine wpAny_bind (wpAny_tryCatch (g.open.2.2 _ _ (fun v x H s1 ys rv I1 sm _ hh y => ?_) fun H s1 ys I1 sm _ hh d => ?_))
    · obtain ⟨i, rfl, hf, k⟩ := hY _ _ _ _ y
      obtain ⟨ti, rfl⟩ := rv
      obtain ⟨ms, e1, e2⟩ := same hS hh
      have hS' := sm S (List.mem_singleton.mpr rfl) _ hS
      obtain ⟨⟨f1, f2⟩, f3, f4⟩ := hf ms e1
      rw [e2] at f3 f4
      have hc : ((decide (-(2 ^ 63) ≤ i) && decide (i < 2 ^ 63)) && (decide (-(2 ^ 63) ≤ ns.sum + i) && decide (ns.sum + i < 2 ^ 63))) = true := by
        rw [decide_eq_true f1, decide_eq_true f2, decide_eq_true f3, decide_eq_true f4]
        rfl
      show wpAny _ A.in1 (if (_ : Bool) = true then (mkInt (ns.sum + i) >>= _) else _) _ _ _
      split
      · refine (wpAny_bind (wpAny_mkInt ?_))
        show wpAny _ A.in1 (updateSeq S (fun _ => #[.int (ns.sum + i) s1.toks]) >>= _) _ _ _
        refine wpAny_bind ?_
        refine wpAny_updateSeq hS' rfl (wpAny_pure ⟨plainId_quiet F.plain_sum_loop _, ?_⟩)
        have hS2 := Heap.get?_update_self (Obj.mapSeq (fun _ => (#[.int (ns.sum + i) s1.toks] : Array Value))) hS' rfl
        have hist : HSum S (ys ++ [V.int i]) (s1.heap.update S (Obj.mapSeq (fun _ => (#[.int (ns.sum + i) s1.toks] : Array Value)))) :=
          ⟨ms ++ [i], s1.toks, _, by rw [e1]; simp, by
            have e9 : (ms ++ [i]).sum = ns.sum + i := by rw [List.sum_append, e2]; simp
            rw [e9]; exact hS2⟩
        exact next _ (k _ rfl (slp_upd I1.bare hS' _ hS2 fun v q => by cases q) hist) ⟨_, hist⟩
      · rename_i hne
        exact absurd hc hne
    · obtain ⟨ms, e1, e2⟩ := same hS hh
      subst e1
      rw [← e2]
      exact wpAny_pure (hD ms H s1 t d I1)
  intro n
  induction n with
  | zero => exact fun s g hh => main 0 s (fun _ => True) g hh fun s' k _ => k.elim
  | succ n ih => exact fun s g hh => main (n + 1) s (fun _ => True) g hh fun s' k h' => ih s' k h'

/-! ### list.extend's loop: what a generator hands out is collected -/
def HLst (S : Addr) : HP := fun ys h => ∃ (acc : Array Value) (c : Nat), Vals ys acc.toList ∧ h.get? S = some (lstObj acc c)
theorem ext_loop {R : Result → Shared → Prop} {S : Addr} {res : Value}
    (hY : ∀ ys x H K, Y ys x H K → ys.length < sizeLine ∧ K)
    (hD : ∀ ys H s' acc c, Dn ys H → Inv X pins σ H s' → H S = none → Vals ys acc.toList → s'.heap.get? S = some (lstObj acc c) → R (.ok (.ret res)) s') : ∀ (n : Nat) (s : Shared), GIt X pins σ a [S] Y Dn (HLst S) A.in1 n s → (∃ ys, HLst S ys s.heap) →
    codeAny (model X.prog X.w) A (.builtin "list.extend.loop" ⟨[.ref S, .ref a, res], []⟩) R s := by
  have main : ∀ (n : Nat) (s : Shared), GIt X pins σ a [S] Y Dn (HLst S) A.in1 n s → (∃ ys, HLst S ys s.heap) → (∀ s', GK X pins σ a [S] Y Dn (HLst S) A.in1 n s' → (∃ ys, HLst S ys s'.heap) → codeAny (model X.prog X.w) A (.builtin "list.extend.loop" ⟨[.ref S, .ref a, res], []⟩) R s') →
      codeAny (model X.prog X.w) A (.builtin "list.extend.loop" ⟨[.ref S, .ref a, res], []⟩) R s := by
    intro n s g hh0 next
    (refine codeAny_builtin F.entry_extend_loop ?_; rw [Around.under_plainId F.plain_extend_loop _])
    refine wpAny_bind (g.open.2.2 _ _ (fun v x H s1 ys rv I1 sm _ hh y => ?_) fun H s1 ys I1 sm hn hh d => ?_)
    · obtain ⟨acc, c, r, hS⟩ := hh
      obtain ⟨hlt, k⟩ := hY _ _ _ _ y
      have hS' := sm S (List.mem_singleton.mpr rfl) _ hS
      have hsz : acc.size = ys.length := Array.length_toList.symm.trans r.length.symm
      refine wpAny_bind (m := updateSeq S (·.push v)) ?_
      refine wpAny_updateSeq hS' rfl (wpAny_pure ⟨plainId_quiet F.plain_extend_loop _, ?_⟩) (by rw [hsz]; exact Nat.le_of_lt hlt) (by show (acc.push v).size ≤ sizeLine + 1; rw [Array.size_push]; omega)
      have hS2 := Heap.get?_update_self (Obj.mapSeq (·.push v)) hS' rfl
      have hist : HLst S (ys ++ [x]) (s1.heap.update S (Obj.mapSeq (·.push v))) := ⟨acc.push v, _, by rw [Array.toList_push]; exact r.append (.cons rv .nil), hS2⟩
      exact next _ (k _ rfl (slp_upd (tk := s1.toks) I1.bare hS' _ hS2 fun v q => by cases q) hist) ⟨_, hist⟩
    · obtain ⟨acc, c, r, hS⟩ := hh
      exact wpAny_pure (hD ys H s1 acc c d I1 (hn S (List.mem_singleton.mpr rfl)) r (sm S (List.mem_singleton.mpr rfl) _ hS))
  intro n
  induction n with
  | zero => exact fun s g hh => main 0 s g hh fun s' k _ => k.elim
  | succ n ih => exact fun s g hh => main (n + 1) s g hh fun s' k h' => ih s' k h'
end
end Gx
end

section
set_option Elab.async false
set_option linter.all false
set_option maxRecDepth 100000
set_option maxHeartbeats 4100000
namespace Gx
open PySem PySem.Spec PyProof.Rows L2 GenW

section
variable {X : Cx} {pins : List (Addr × Obj)} {σ : L2.St} {Y : YP} {Dn : DP} {A : Around} {k : Nat} {s : Shared} {u : Value} {E : Value → Shared → Prop}
theorem GxM.any {Q : Value → Shared → Prop} (G : GxM X pins σ k Y Dn u s) (hr : Room (k + 3) A) (hfr : A.frames = some X.stack)
    (hY : ∀ ys x H K, Y ys x H K → ∃ b, x = V.bl b ∧ (b = true → ∀ s', Inv X pins σ H s' → Q (.bool true) s') ∧ (b = false → K))
    (hD : ∀ ys H s', Dn ys H → Inv X pins σ H s' → Q (.bool false) s') : wpAny (model X.prog X.w) A (call (.builtin "any") [u]) Q E s := by
  obtain ⟨a, n, rfl, ⟨g, hg⟩, ⟨_, I0⟩, asked⟩ := G
  have g0 := asked A.in1 [] (fun _ _ => True) s hr.in1 hfr (fun b hb => absurd hb List.not_mem_nil) (slp_refl I0.bare) rfl trivial
  have run := any_loop (A := A) (R := fun r s' => wants Q E r s') hY hD n s g0
  exact call_function_tree F.kind_any F.plain_any F.entry_any (F.args_any1 _) (wpAny_bind (m := oneArg "any" _) (wpAny_pure (wpAny_bind (wpAny_pyIter_gen hg (wpAny_pure ⟨plainId_quiet F.plain_any_loop _, run⟩)))))
theorem GxM.all {Q : Value → Shared → Prop} (G : GxM X pins σ k Y Dn u s) (hr : Room (k + 3) A) (hfr : A.frames = some X.stack)
    (hY : ∀ ys x H K, Y ys x H K → ∃ b, x = V.bl b ∧ (b = false → ∀ s', Inv X pins σ H s' → Q (.bool false) s') ∧ (b = true → K))
    (hD : ∀ ys H s', Dn ys H → Inv X pins σ H s' → Q (.bool true) s') : wpAny (model X.prog X.w) A (call (.builtin "all") [u]) Q E s := by
  obtain ⟨a, n, rfl, ⟨g, hg⟩, ⟨_, I0⟩, asked⟩ := G
  have g0 := asked A.in1 [] (fun _ _ => True) s hr.in1 hfr (fun b hb => absurd hb List.not_mem_nil) (slp_refl I0.bare) rfl trivial
  have run := all_loop (A := A) (R := fun r s' => wants Q E r s') hY hD n s g0
  exact call_function_tree F.kind_all F.plain_all F.entry_all (F.args_all1 _) (wpAny_bind (m := oneArg "all" _) (wpAny_pure (wpAny_bind (wpAny_pyIter_gen hg (wpAny_pure ⟨plainId_quiet F.plain_all_loop _, run⟩)))))

/-- an object just laid: all else sleeps -/
theorem slp_push {o : Obj} {tk : Nat} (hb : AllBare s.gens) (hc : ∀ v, o.data ≠ .cell v) (hp : (s.heap.push o).get? s.heap.objs.size = some o) : Slp [s.heap.objs.size] s { s with heap := s.heap.push o, toks := tk } :=
  ⟨rfl, hb, fun b ob _ e => Heap.get?_push_of_some _ e, fun b hm => by rw [List.mem_singleton.mp hm]; exact ⟨o, hp, hc⟩⟩
theorem one_ge {n : Nat} : ∀ b ∈ [n], n ≤ b := fun b hb => List.mem_singleton.mp hb ▸ Nat.le_refl b

/-- is the start an int? the three questions that `sum` asks -/
theorem not_text {α : Type} {M : Model} {T : String} {m : Sem α} {Q : α → Shared → Prop} {s : Shared} {i : Int} {t : Tok} {r : Bool → Sem α} (hT : isSubtype (.type "int") (.type T) = pure false) (hr : r false = m) (h : wpAny M A m Q E s) :
    wpAny M A (isInstance (.int i t) (.type T) >>= r) Q E s := wpAny_bind (wpAny_isInstance (T := "int") (b := false) (typeIs_int _ _ _) hT (hr ▸ h))

theorem GxM.sum {Q : Value → Shared → Prop} (G : GxM X pins σ k Y Dn u s) (hr : Room (k + 3) A) (hfr : A.frames = some X.stack)
    (hY : ∀ ys x H K, Y ys x H K → ∃ i, x = V.int i ∧ (∀ ns : List Int, ys = ns.map V.int → InLong i ∧ InLong (ns.sum + i)) ∧ K)
    (hD : ∀ (ns : List Int) H s' t, Dn (ns.map V.int) H → Inv X pins σ H s' → Q (.int ns.sum t) s') : wpAny (model X.prog X.w) A (call (.builtin "sum") [u]) Q E s := by
  obtain ⟨a, n, rfl, ⟨g, hg⟩, ⟨_, I0⟩, asked⟩ := G
  have bp : Builtin.Builtins.bindParams "sum" ["start"] 0 { } = pure [none] := rfl
  have hp := Heap.get?_push_size s.heap (o := { cls := .type "list", data := .seq [Value.int 0 s.toks].toArray }) rfl
  have hist : HSum s.heap.objs.size [] (s.heap.push { cls := .type "list", data := .seq [Value.int 0 s.toks].toArray }) := ⟨[], s.toks, _, rfl, hp⟩
  have g0 := asked A.in1 [s.heap.objs.size] (HSum s.heap.objs.size) _ hr.in1 hfr one_ge (slp_push (tk := s.toks + 1) I0.bare (by intro v q; cases q) hp) rfl hist
  have run := sum_loop (A := A) (R := fun r s' => wants Q E r s') hY hD n _ g0 ⟨_, hist⟩
  apply call_function_tree F.kind_sum F.plain_sum F.entry_sum (F.args_sum1 _)
  unfold Builtin.«sum»
  rw [if_neg (by simp)]
  refine wpAny_bind (wpAny_of_eq bp (wpAny_bind (wpAny_pyIter_gen hg (wpAny_bind (wpAny_mkInt (wpAny_bind (wpAny_pure ?_)))))))
  dsimp only
  rw [List.forIn_cons]
  refine wpAny_bind (wpAny_bind (not_text PySem.sub_int_str rfl (wpAny_pure ?_)))
  dsimp only
  rw [List.forIn_cons]
  refine wpAny_bind (not_text PySem.sub_int_bytes rfl (wpAny_pure ?_))
  dsimp only
  rw [List.forIn_cons]
  refine wpAny_bind (not_text PySem.sub_int_bytearray rfl (wpAny_pure ?_))
  dsimp only
  rw [List.forIn_nil]
  exact wpAny_pure (wpAny_bind (wpAny_newObj_type (wpAny_pure ⟨plainId_quiet F.plain_sum_loop _, run⟩) (by show 1 ≤ sizeLine; decide)))

/-! ### what a generator hands out is collected -/
abbrev l0 : Obj := { cls := .type "list", data := .seq ([] : List Value).toArray }
/-- a list that was touched: one place more, and given back -/
abbrev touched (h : Heap) (S : Addr) : Heap := (h.update S (Obj.mapSeq (·.push Value.none))).update S (Obj.mapSeq (·.pop))
theorem touched_else {h : Heap} {S b : Addr} (hb : b ≠ S) : (touched h S).get? b = h.get? b :=
  Eq.trans (Heap.get?_update_other _ _ hb.symm) (Heap.get?_update_other _ _ hb.symm)
theorem touched_at {h : Heap} {S : Addr} (hS : h.get? S = some l0) : ∃ c, (touched h S).get? S = some (lstObj #[] c) :=
  ⟨_, Heap.get?_update_self (Obj.mapSeq (·.pop)) (Heap.get?_update_self (Obj.mapSeq (·.push Value.none)) hS rfl) rfl⟩
theorem touch_ok {M : Model} {Q : Unit → Shared → Prop} {S : Addr} (hS : s.heap.get? S = some l0) (h : Q () { s with heap := touched s.heap S }) : wpAny M A (Builtin.List.listTouch (.ref S)) Q E s :=
  wpAny_bind (m := updateSeq S (·.push .none)) (wpAny_updateSeq hS rfl (wpAny_updateSeq (Heap.get?_update_self _ hS rfl) rfl h))

/-- a fresh list is extended by a generator: what is left is the loop -/
theorem extend_gen {a S : Addr} {g : Nat} {R : Fin → Shared → Prop} (hg : s.heap.IsGen a g) (ne : S ≠ a) (hS : s.heap.get? S = some l0)
    (h : R (.again (.builtin "list.extend.loop" ⟨[.ref S, .ref a, .ref S], []⟩)) { s with heap := touched s.heap S }) : wpAny (model X.prog X.w) A (Builtin.List.listExtendWith (.ref S) (.ref a) (.ref S)) R E s := by
  have other : (Builtin.List.listSameRef (.ref S) (.ref a) || (Value.type "generator" == Value.type "list" || Value.type "generator" == Value.type "tuple")) = false := by simp [Builtin.List.listSameRef, ne]
  have ty := hg.typeIs
  delta Builtin.List.listExtendWith Builtin.List.listLengthHint
  refine wpAny_bind (wpAny_typeOf ty ?_)
  simp only [Bool.or_assoc, other, if_false, Bool.false_eq_true]
  refine wpAny_bind (wpAny_pyIter_gen hg (wpAny_bind (wpAny_holding (wpAny_bind (wpAny_specialOf ty F.gen_no_len ?_)))))
  refine wpAny_bind (m := specialOf (Value.ref a) (Str.ofString "__length_hint__")) (wpAny_specialOf ty F.gen_no_hint (wpAny_pure ?_))
  exact wpAny_bind (m := rule "list.extend.makes-room") (wpAny_rule (wpAny_bind (touch_ok hS (wpAny_pure h))))

theorem GxM.collect {Q : List Value → Shared → Prop} (G : GxM X pins σ k Y Dn u s) (hr : Room (k + 3) A) (hfr : A.frames = some X.stack)
    (hY : ∀ ys x H K, Y ys x H K → ys.length < sizeLine ∧ K)
    (hD : ∀ ys H s' us, Dn ys H → Inv X pins σ H s' → Vals ys us → Q us s') : wpAny (model X.prog X.w) A (collect u) Q E s := by
  obtain ⟨a, n, rfl, ⟨g, hg⟩, ⟨_, I0⟩, asked⟩ := G
  have hp : (s.heap.push l0).get? s.heap.objs.size = some l0 := Heap.get?_push_size _ rfl
  have old : ∀ b o, s.heap.get? b = some o → (s.heap.push l0).get? b = some o := fun b o e => Heap.get?_push_of_some _ e
  have ne : s.heap.objs.size ≠ a := fun e => let ⟨_, _, _, ho, _⟩ := hg
    Nat.lt_irrefl _ (e ▸ Heap.lt_size ho)
  obtain ⟨c, hS⟩ := touched_at hp
  have hist : HLst s.heap.objs.size [] (touched (s.heap.push l0) s.heap.objs.size) := ⟨#[], c, .nil, hS⟩
  have slp : Slp [s.heap.objs.size] s { s with heap := touched (s.heap.push l0) s.heap.objs.size } := by
    refine ⟨rfl, I0.bare, fun b o hb e => ?_, fun b hb => ?_⟩
    · exact (touched_else fun z => hb (List.mem_singleton.mpr z)).trans (old b o e)
    · cases List.mem_singleton.mp hb
      exact ⟨_, hS, fun v q => by cases q⟩
  have g0 := asked A.in1 [s.heap.objs.size] (HLst s.heap.objs.size) _ hr.in1 hfr one_ge slp rfl hist
  have run : ∀ R : Result → Shared → Prop, (∀ us c s', s'.heap.get? s.heap.objs.size = some (lstObj us c) → Q us.toList s' → R (.ok (.ret (.ref s.heap.objs.size))) s') → codeAny (model X.prog X.w) A (.builtin "list.extend.loop" ⟨[.ref s.heap.objs.size, .ref a, .ref s.heap.objs.size], []⟩) R { s with heap := touched (s.heap.push l0) s.heap.objs.size } :=
    fun R hR => ext_loop hY (fun ys H s' us c d I' _ r e => hR us c s' e (hD ys H s' _ d I' r)) n _ g0 ⟨_, hist⟩
  unfold PySem.collect
  refine (wpAny_bind (wpAny_runValue ?_))
  (refine codeAny_builtin F.entry_proto_collect ?_; rw [Around.under_plainId F.plain_proto_collect _])
  refine wpAny_bind (m := newList []) (wpAny_newObj_type (wpAny_pure ⟨plainId_quiet F.plain_list_iadd _, ?_⟩))
  (refine codeAny_builtin F.entry_list_iadd ?_; rw [Around.under_plainId F.plain_list_iadd _])
  refine extend_gen (X := X) (s := { s with heap := s.heap.push l0 }) (hg.keeps old) ne hp ⟨plainId_quiet F.plain_extend_loop _, run _ fun us c s' e q => ?_⟩
  exact wpAny_bind (m := load s.heap.objs.size) (wpAny_load e (wpAny_pure q))

/-- the type of what a generator expression gives -/
theorem GxM.type_ (G : GxM X pins σ k Y Dn u s) : ∃ a, u = .ref a ∧ s.TypeIs (.ref a) "generator" :=
  let ⟨a, _, e, ⟨_, hg⟩, _⟩ := G
  ⟨a, e, hg.typeIs⟩

theorem code_tuple_gx {T : Value → Shared → Prop} (G : GxM X pins σ k Y Dn u s) (hr : Room (k + 4) A) (hfr : A.frames = some X.stack) (hY : ∀ ys x H K, Y ys x H K → ys.length < sizeLine ∧ K)
    (h : ∀ ys H s' us, Dn ys H → Inv X pins σ H s' → Vals ys us → T (.ref s'.heap.objs.size) { s' with heap := s'.heap.push { cls := .type "tuple", data := .seq us.toArray } }) (hn : ∀ ys H, Dn ys H → ys.length ≤ sizeLine) :
    codeAny (model X.prog X.w) A (.call (.builtin "tuple.__new__") ⟨[.type "tuple", u], []⟩) (wants T E) s := by
  obtain ⟨a, rfl, ty⟩ := G.type_
  have got : ∀ {Q : List Value → Shared → Prop} {E : Value → Shared → Prop}, (∀ ys H s' us, Dn ys H → Inv X pins σ H s' → Vals ys us → Q us s') → wpAny (model X.prog X.w) A.in1 (PySem.collect (.ref a)) Q E s := fun q => G.collect hr.in1 hfr hY q
  have self := sub_tuple_self
  have noInit := init_tuple_lookup
  have here := madeHere_tuple
  apply codeAny_of_tree
  refine wpAny_bind (m := checkBuiltinCall "tuple.__new__" ⟨[.type "tuple", .ref a], []⟩) (wpAny_of_eq (F.newCall_tuple_1 _) (wpAny_pure ⟨plainId_quiet F.plain_tuple_new _, ?_⟩))
  (refine codeAny_builtin F.entry_tuple_new ?_; rw [Around.under_plainId F.plain_tuple_new _])
  wp_walk using wpAny_typeOf ty, got
  intro ys H s' us d I' r
  have hsz : us.toArray.size ≤ sizeLine := by rw [List.size_toArray, ← r.length]; exact hn ys H d
  show wpAny _ _ (Builtin.Tuple.tupleExact us.toArray >>= fun v => ret v) _ _ _
  exact wpAny_bind (wpAny_newObj_type (wpAny_pure (h ys H s' us d I' r)) hsz)

theorem GxM.tuple {Q : Value → Shared → Prop} (G : GxM X pins σ k Y Dn u s) (hr : Room (k + 5) A) (hfr : A.frames = some X.stack)
    (hY : ∀ ys x H K, Y ys x H K → ys.length < sizeLine ∧ K)
    (hD : ∀ ys H s' p, Dn ys H → H p = none → Inv X pins σ (upd H p (.tup ys)) s' → Q (.ref p) s') (hn : ∀ ys H, Dn ys H → ys.length ≤ sizeLine) : wpAny (model X.prog X.w) A (call (.type "tuple") [u]) Q E s := by
  obtain ⟨a, rfl, _⟩ := G.type_
  have made : codeAny (model X.prog X.w) A.in1 (.call (.builtin "tuple.__new__") ⟨[.type "tuple", .ref a], []⟩) (wants (fun obj s₁ => s₁.TypeIs obj "tuple" ∧ Q obj s₁) E) s := by
    refine code_tuple_gx G hr.in1 hfr hY (fun ys H s' us d I' r => ?_) hn
    refine ⟨⟨_, Heap.get?_push_size _ rfl, rfl⟩, hD ys H _ _ d (I'.hok.fresh (Nat.le_refl _)) ?_⟩
    exact I'.laid (t' := s'.toks) (fun b o e => Heap.get?_push_of_some _ e) (Nat.le_refl _) ⟨hn _ _ d, us, r, IsTup.new s'.heap _⟩
  refine callType_codes F.called_tuple (F.typeCall_tuple_1 _) F.entry_object_init made fun obj s₁ ⟨ty, q⟩ => ⟨ty, F.args_object_init_2 obj _, ?_⟩
  exact object_init_meets F.called_tuple.init.lookup F.called_tuple.made (by decide) X.prog X.w A.in1 _ s₁ ⟨ty, rfl, q⟩
end
end Gx
end

section
set_option Elab.async false
set_option linter.all false
set_option maxRecDepth 100000
set_option maxHeartbeats 4100000
namespace Gx
open PySem PySem.Spec PyProof.Rows L2 GenW

section
variable {X : Cx} {pins : List (Addr × Obj)} {σ : L2.St} {Y : YP} {Dn : DP} {A : Around} {k : Nat} {s : Shared} {u : Value} {E : Value → Shared → Prop}
/-- the heap in which a new list of the values is about to be sorted, and behind it -/
def srtNew (h : Heap) (us : List Value) : Heap := h.push (seqObj "list" us.toArray 0)
/-- sorted(..) over what a generator expression gives -/
theorem GxM.sorted {Q : Value → Shared → Prop} (G : GxM X pins σ k Y Dn u s) (hr : Room (k + 5) A) (hfr : A.frames = some X.stack)
    (hY : ∀ ys x H K, Y ys x H K → ys.length < sizeLine ∧ K)
    (hD : ∀ ys H s' us, Dn ys H → Inv X pins σ H s' → Vals ys us → us.length ≤ sizeLine ∧ ∃ κ, PySem.W.SortsAt X.prog X.w A.in1.in1 { s' with heap := PySem.W.sortingHeap (srtNew s'.heap us) s'.heap.objs.size us } κ us ∧
      Q (.ref s'.heap.objs.size) { s' with heap := sortedHeap (srtNew s'.heap us) s'.heap.objs.size us (PySem.W.sortVals κ false us us).toArray }) :
    wpAny (model X.prog X.w) A (call (.builtin "sorted") [u]) Q E s := by
  apply Calls.call_function_entry kind_sorted plain_sorted entry_sorted (args_sorted1 _)
  unfold Builtin.«sorted»
  apply wpAny_bind (m := checkCount "sorted" 1 1 _)
  refine wpAny_pure (wpAny_bind (m := PySem.collect u) (G.collect (hr.in1.mono (by omega)) hfr hY fun ys H s' us d I' r => ?_))
  obtain ⟨hL, κ, S, q⟩ := hD ys H s' us d I' r
  have hoL : (srtNew s'.heap us).get? s'.heap.objs.size = some (seqObj "list" us.toArray 0) := Heap.get?_push_size _ rfl
  refine wpAny_bind (m := newList us) (wpAny_newList ?_ hL)
  apply wpAny_bind; apply wpAny_holding
  refine wpAny_call_entry slot_list_sort ⟨_, hoL, rfl⟩ entry_list_sort ?body (args_list_sort _)
  case body =>
    refine PySem.W.list_sort_vals (s := { s' with heap := srtNew s'.heap us }) hoL S hL ?_
    exact ⟨_, rfl, wpAny_pure ⟨_, rfl, q⟩⟩
end
end Gx
end

section
set_option Elab.async false
set_option linter.all false
set_option maxRecDepth 100000
set_option maxHeartbeats 4100000
/-! plain data, and what a reading computes over it -/
namespace Iv
open PySem PySem.Spec PyProof.Rows L2 Gx

/-- data that nothing writes to any more -/
inductive P where
  | non | bl (b : Bool) | int (i : Int) | str (x : Str) | tup (xs : List P) | lst (xs : List P) | scr (xs : List P) | dct (kvs : List (P × P)) | dcT (kvs : List (P × P)) | obj (c : Nat) (fs : List (Str × P)) | lam (i : Nat)
/-- a value: data, or the n-th cell of the store -/
inductive D where
  | p (x : P) | ref (n : Nat)
inductive Cell where
  | lst (ds : List D) | dK (kvs : List (Key × D)) | dT (kvs : List (List Key × D)) | obj (c : Nat) (fs : List (Str × D)) | fK (kvs : List (Key × D)) | fT (kvs : List (List Key × D))
abbrev Store := List Cell
abbrev Env := List (Option D)

def kP : Key → P
  | .inl i => .int i
  | .inr x => .str x

/-- a lambda: its code's name, its text, what it holds -/
structure LamD where
  q : Str
  params : Arguments
  body : Expr
  scope : Scope
  cl : List (Str × Addr)
/-- a lambda's function object at f, its code at c -/
def LamO (d : LamD) (c f : Addr) : HO := .ext fun h => ∃ pm ctv, h.get? f = some (PySem.W.kla_obj "<lambda>" d.q d.params d.body d.scope d.cl pm c ctv)
/-- what all contexts of a law share -/
structure GL where
  K : PySem.W.Frag
  CT : Nat → Addr
  T : List Addr
  L : List (Addr × Str) := []
  lm : List LamD := []
  ex : List Addr := []
/-- with other lists under way -/
def GL.wx (g : GL) (e : List Addr) : GL := { g with ex := e }
/-- what is not data: lists under way, cells -/
def GL.x (g : GL) (ι : List Addr) : List Addr := g.ex ++ ι
theorem GL.in1 {g : GL} {ι : List Addr} {a : Addr} (h : a ∈ ι) : a ∈ g.x ι := List.mem_append_right _ h
theorem GL.in2 {g : GL} {ι : List Addr} {a : Addr} (h : a ∈ g.ex) : a ∈ g.x ι := List.mem_append_left _ h

mutual
inductive Rp (g : GL) (F : Hp) : V → P → Prop
  | non : Rp g F .non .non
  | bl (b : Bool) : Rp g F (.bl b) (.bl b)
  | int (i : Int) : Rp g F (.int i) (.int i)
  | str (x : Str) : Rp g F (.str x) (.str x)
  | tup {a : Addr} {vs : List V} {xs : List P} : F a = some (.tup vs) → Rps g F vs xs → Rp g F (.ref a) (.tup xs)
  | lst {a : Addr} {vs : List V} {xs : List P} : F a = some (.lst vs) → Rps g F vs xs → Rp g F (.ref a) (.lst xs)
  | scr {a : Addr} {vs : List V} {xs : List P} : SqL g.K F a vs → Rps g F vs xs → Rp g F (.ref a) (.scr xs)
  | dK {a : Addr} {kvs : List (Key × V)} {ps : List (P × P)} : F a = some (.dK kvs) → RpK g F kvs ps → Rp g F (.ref a) (.dct ps)
  | dT {a : Addr} {kvs : List (List Key × V)} {ps : List (P × P)} : F a = some (.dT kvs) → RpT g F kvs ps → Rp g F (.ref a) (.dcT ps)
  | obj {a dx : Addr} {c : Nat} {fs : List (Str × V)} {ps : List (Str × P)} : F a = some (.ins (g.CT c) dx fs) → RpF g F fs ps → Rp g F (.ref a) (.obj c ps)
  | lam {f c : Addr} {i : Nat} {d : LamD} : g.lm[i]? = some d → F f = some (LamO d c f) → F c = some (LamX.CodeO c d.q) → Rp g F (.ref f) (.lam i)
inductive Rps (g : GL) (F : Hp) : List V → List P → Prop
  | nil : Rps g F [] []
  | cons {v : V} {x : P} {vs : List V} {xs : List P} : Rp g F v x → Rps g F vs xs → Rps g F (v :: vs) (x :: xs)
inductive RpK (g : GL) (F : Hp) : List (Key × V) → List (P × P) → Prop
  | nil : RpK g F [] []
  | cons {k : Key} {v : V} {x : P} {vs : List (Key × V)} {xs : List (P × P)} : Rp g F v x → RpK g F vs xs → RpK g F ((k, v) :: vs) ((kP k, x) :: xs)
inductive RpT (g : GL) (F : Hp) : List (List Key × V) → List (P × P) → Prop
  | nil : RpT g F [] []
  | cons {k : List Key} {v : V} {x : P} {vs : List (List Key × V)} {xs : List (P × P)} : Rp g F v x → RpT g F vs xs → RpT g F ((k, v) :: vs) ((P.tup (k.map kP), x) :: xs)
inductive RpF (g : GL) (F : Hp) : List (Str × V) → List (Str × P) → Prop
  | nil : RpF g F [] []
  | cons {n : Str} {v : V} {x : P} {vs : List (Str × V)} {xs : List (Str × P)} : Rp g F v x → RpF g F vs xs → RpF g F ((n, v) :: vs) ((n, x) :: xs)
end

/-- F' has all that F has -/
def Sub (F F' : Hp) : Prop := ∀ b o, F b = some o → F' b = some o
theorem Sub.refl (F : Hp) : Sub F F := fun _ _ e => e
theorem Sub.trans {F F1 F2 : Hp} (a : Sub F F1) (b : Sub F1 F2) : Sub F F2 := fun c o e => b c o (a c o e)
theorem Sub.sqT {K : PySem.W.Frag} {F F' : Hp} {a : Addr} {xs : List V} (s : Sub F F') (h : SqT K F a xs) : SqT K F' a xs := by
  obtain (h | ⟨o, h⟩) | h := h
  · exact .inl (.inl (s _ _ h))
  · exact .inl (.inr ⟨o, s _ _ h⟩)
  · exact .inr h
theorem Sub.sqL {K : PySem.W.Frag} {F F' : Hp} {a : Addr} {xs : List V} (s : Sub F F') (h : SqL K F a xs) : SqL K F' a xs := by
  obtain (h | ⟨o, h⟩) | h := h
  · exact .inl (.inl (s _ _ h))
  · exact .inl (.inr ⟨o, s _ _ h⟩)
  · exact .inr h
mutual
theorem Rp.sub {g : GL} {F F' : Hp} (s : Sub F F') : ∀ {v : V} {x : P}, Rp g F v x → Rp g F' v x
  | _, _, .non => .non
  | _, _, .bl b => .bl b
  | _, _, .int i => .int i
  | _, _, .str x => .str x
  | _, _, .tup h r => .tup (s _ _ h) (Rps.sub s r)
  | _, _, .lst h r => .lst (s _ _ h) (Rps.sub s r)
  | _, _, .scr h r => .scr (s.sqL h) (Rps.sub s r)
  | _, _, .dK h r => .dK (s _ _ h) (RpK.sub s r)
  | _, _, .dT h r => .dT (s _ _ h) (RpT.sub s r)
  | _, _, .obj h r => .obj (s _ _ h) (RpF.sub s r)
  | _, _, .lam h a b => .lam h (s _ _ a) (s _ _ b)
theorem Rps.sub {g : GL} {F F' : Hp} (s : Sub F F') : ∀ {v : List V} {x : List P}, Rps g F v x → Rps g F' v x
  | _, _, .nil => .nil
  | _, _, .cons r t => .cons (Rp.sub s r) (Rps.sub s t)
theorem RpK.sub {g : GL} {F F' : Hp} (s : Sub F F') : ∀ {v : List (Key × V)} {x : List (P × P)}, RpK g F v x → RpK g F' v x
  | _, _, .nil => .nil
  | _, _, .cons r t => .cons (Rp.sub s r) (RpK.sub s t)
theorem RpT.sub {g : GL} {F F' : Hp} (s : Sub F F') : ∀ {v : List (List Key × V)} {x : List (P × P)}, RpT g F v x → RpT g F' v x
  | _, _, .nil => .nil
  | _, _, .cons r t => .cons (Rp.sub s r) (RpT.sub s t)
theorem RpF.sub {g : GL} {F F' : Hp} (s : Sub F F') : ∀ {v : List (Str × V)} {x : List (Str × P)}, RpF g F v x → RpF g F' v x
  | _, _, .nil => .nil
  | _, _, .cons r t => .cons (Rp.sub s r) (RpF.sub s t)
end

mutual
theorem Rp.wx {g : GL} {F : Hp} (e : List Addr) : ∀ {v : V} {x : P}, Rp g F v x → Rp (g.wx e) F v x
  | _, _, .non => .non
  | _, _, .bl b => .bl b
  | _, _, .int i => .int i
  | _, _, .str x => .str x
  | _, _, .tup h r => .tup h (Rps.wx e r)
  | _, _, .lst h r => .lst h (Rps.wx e r)
  | _, _, .scr h r => .scr h (Rps.wx e r)
  | _, _, .dK h r => .dK h (RpK.wx e r)
  | _, _, .dT h r => .dT h (RpT.wx e r)
  | _, _, .obj h r => .obj h (RpF.wx e r)
  | _, _, .lam h a b => .lam h a b
theorem Rps.wx {g : GL} {F : Hp} (e : List Addr) : ∀ {v : List V} {x : List P}, Rps g F v x → Rps (g.wx e) F v x
  | _, _, .nil => .nil
  | _, _, .cons r t => .cons (Rp.wx e r) (Rps.wx e t)
theorem RpK.wx {g : GL} {F : Hp} (e : List Addr) : ∀ {v : List (Key × V)} {x : List (P × P)}, RpK g F v x → RpK (g.wx e) F v x
  | _, _, .nil => .nil
  | _, _, .cons r t => .cons (Rp.wx e r) (RpK.wx e t)
theorem RpT.wx {g : GL} {F : Hp} (e : List Addr) : ∀ {v : List (List Key × V)} {x : List (P × P)}, RpT g F v x → RpT (g.wx e) F v x
  | _, _, .nil => .nil
  | _, _, .cons r t => .cons (Rp.wx e r) (RpT.wx e t)
theorem RpF.wx {g : GL} {F : Hp} (e : List Addr) : ∀ {v : List (Str × V)} {x : List (Str × P)}, RpF g F v x → RpF (g.wx e) F v x
  | _, _, .nil => .nil
  | _, _, .cons r t => .cons (Rp.wx e r) (RpF.wx e t)
end

/-- what of the heap stands for good: neither cells nor tables; a locked thing is what is locked -/
def strip : HO → Option HO
  | .tbl _ => none
  | .frz o (.lst xs) => some (.frz o (.lst xs))
  | .frz _ (.dK kvs) => some (.dK kvs)
  | .frz _ (.dT kvs) => some (.dT kvs)
  | .frz _ _ => none
  | o => some o
def Fz (H : Hp) (ι : List Addr) : Hp := fun b => if b ∈ ι then none else (H b).bind strip
theorem Fz.at {H : Hp} {ι : List Addr} {b : Addr} {o : HO} (h : Fz H ι b = some o) : b ∉ ι ∧ ∃ u, H b = some u ∧ strip u = some o := by
  unfold Fz at h
  by_cases hb : b ∈ ι
  · exact nomatch (if_pos hb).symm.trans h
  · rw [if_neg hb] at h
    cases e : H b with
    | none => exact nomatch (e ▸ h : (none : Option HO).bind strip = some o)
    | some u => rw [e] at h; exact ⟨hb, u, rfl, h⟩
theorem Fz.mk {H : Hp} {ι : List Addr} {b : Addr} {o u : HO} (hb : b ∉ ι) (e : H b = some u) (s : strip u = some o) : Fz H ι b = some o := by
  unfold Fz
  rw [if_neg hb, e]
  exact s
theorem Fz.lst {H : Hp} {ι : List Addr} {b : Addr} {xs : List V} (h : Fz H ι b = some (.lst xs)) : H b = some (.lst xs) := by
  obtain ⟨_, u, e, s⟩ := Fz.at h
  cases u with
  | lst ys => cases s; exact e
  | frz o w =>
    cases w with
    | _ => cases s
  | _ => cases s
theorem Fz.frzL {H : Hp} {ι : List Addr} {b : Addr} {o : Obj} {xs : List V} (h : Fz H ι b = some (.frz o (.lst xs))) : H b = some (.frz o (.lst xs)) := by
  obtain ⟨_, u, e, s⟩ := Fz.at h
  cases u with
  | frz o w =>
    cases w with
    | lst ys => cases s; exact e
    | _ => cases s
  | _ => cases s
theorem Fz.tup {H : Hp} {ι : List Addr} {b : Addr} {xs : List V} (h : Fz H ι b = some (.tup xs)) : H b = some (.tup xs) := by
  obtain ⟨_, u, e, s⟩ := Fz.at h
  cases u with
  | tup ys => cases s; exact e
  | frz o w =>
    cases w with
    | _ => cases s
  | _ => cases s
theorem Fz.ins {H : Hp} {ι : List Addr} {b C dx : Addr} {fs : List (Str × V)} (h : Fz H ι b = some (.ins C dx fs)) : H b = some (.ins C dx fs) := by
  obtain ⟨_, u, e, s⟩ := Fz.at h
  cases u with
  | ins _ _ _ => cases s; exact e
  | frz o w =>
    cases w with
    | _ => cases s
  | _ => cases s
theorem Fz.frzT {H : Hp} {ι : List Addr} {b : Addr} {o : Obj} {xs : List V} (h : Fz H ι b = some (.frz o (.tup xs))) : False := by
  obtain ⟨_, u, e, s⟩ := Fz.at h
  cases u with
  | frz o w => cases w <;> cases s
  | _ => cases s
theorem sqL_of_fz {K : PySem.W.Frag} {H : Hp} {ι : List Addr} {a : Addr} {xs : List V} (h : SqL K (Fz H ι) a xs) : SqL K H a xs := by
  obtain (h | ⟨o, h⟩) | h := h
  · exact .inl (.inl (Fz.lst h))
  · exact .inl (.inr ⟨o, Fz.frzL h⟩)
  · exact .inr h
theorem sqT_of_fz {K : PySem.W.Frag} {H : Hp} {ι : List Addr} {a : Addr} {xs : List V} (h : SqT K (Fz H ι) a xs) : SqT K H a xs := by
  obtain (h | ⟨o, h⟩) | h := h
  · exact .inl (.inl (Fz.tup h))
  · exact (Fz.frzT h).elim
  · exact .inr h

/-! ### values, cells, the store -/
inductive RD (g : GL) (F : Hp) (ι : List Addr) : V → D → Prop
  | p {v : V} {x : P} : Rp g F v x → RD g F ι v (.p x)
  | ref {n : Nat} {a : Addr} : ι[n]? = some a → RD g F ι (.ref a) (.ref n)
abbrev RDs (g : GL) (F : Hp) (ι : List Addr) : List V → List D → Prop := Paired (RD g F ι)
def Le (ι ι' : List Addr) : Prop := ∃ ν, ι' = ι ++ ν
theorem Le.refl (ι : List Addr) : Le ι ι := ⟨[], by simp⟩
theorem Le.trans {a b c : List Addr} : Le a b → Le b c → Le a c
  | ⟨x, e⟩, ⟨y, f⟩ => ⟨x ++ y, by rw [f, e, List.append_assoc]⟩
theorem Le.get {a b : List Addr} {n : Nat} {x : Addr} (l : Le a b) (h : a[n]? = some x) : b[n]? = some x := by
  obtain ⟨ν, rfl⟩ := l
  rw [List.getElem?_append_left (List.getElem?_eq_some_iff.mp h).1]; exact h
theorem RD.sub {g : GL} {F F' : Hp} {ι ι' : List Addr} (s : Sub F F') (l : Le ι ι') {v : V} {d : D} (h : RD g F ι v d) : RD g F' ι' v d := by
  cases h with
  | p h => exact .p (h.sub s)
  | ref h => exact .ref (l.get h)
theorem RDs.sub {g : GL} {F F' : Hp} {ι ι' : List Addr} (s : Sub F F') (l : Le ι ι') {vs : List V} {ds : List D} (h : RDs g F ι vs ds) : RDs g F' ι' vs ds := Paired.mapP h fun _ _ r => r.sub s l
theorem RD.wx {g : GL} {F : Hp} {ι : List Addr} (e : List Addr) {v : V} {d : D} (h : RD g F ι v d) : RD (g.wx e) F ι v d := by
  cases h with
  | p h => exact .p (h.wx e)
  | ref h => exact .ref h
theorem RDs.wx {g : GL} {F : Hp} {ι : List Addr} (e : List Addr) {vs : List V} {ds : List D} (h : RDs g F ι vs ds) : RDs (g.wx e) F ι vs ds := Paired.mapP h fun _ _ r => r.wx e
inductive RC (g : GL) (F : Hp) (ι : List Addr) : HO → Cell → Prop
  | lst {vs : List V} {ds : List D} : RDs g F ι vs ds → RC g F ι (.lst vs) (.lst ds)
  | dK {kvs : List (Key × V)} {ds : List (Key × D)} : Paired (fun (a : Key × V) (b : Key × D) => a.1 = b.1 ∧ RD g F ι a.2 b.2) kvs ds → RC g F ι (.dK kvs) (.dK ds)
  | dT {kvs : List (List Key × V)} {ds : List (List Key × D)} : Paired (fun (a : List Key × V) (b : List Key × D) => a.1 = b.1 ∧ RD g F ι a.2 b.2) kvs ds → RC g F ι (.dT kvs) (.dT ds)
  | fK {o : Obj} {kvs : List (Key × V)} {ds : List (Key × D)} : Paired (fun (a : Key × V) (b : Key × D) => a.1 = b.1 ∧ RD g F ι a.2 b.2) kvs ds → RC g F ι (.frz o (.dK kvs)) (.fK ds)
  | fT {o : Obj} {kvs : List (List Key × V)} {ds : List (List Key × D)} : Paired (fun (a : List Key × V) (b : List Key × D) => a.1 = b.1 ∧ RD g F ι a.2 b.2) kvs ds → RC g F ι (.frz o (.dT kvs)) (.fT ds)
  | obj {dx : Addr} {c : Nat} {fs : List (Str × V)} {ds : List (Str × D)} : Paired (fun (a : Str × V) (b : Str × D) => a.1 = b.1 ∧ RD g F ι a.2 b.2) fs ds → RC g F ι (.ins (g.CT c) dx fs) (.obj c ds)
theorem RC.sub {g : GL} {F F' : Hp} {ι ι' : List Addr} (s : Sub F F') (l : Le ι ι') {o : HO} {c : Cell} (h : RC g F ι o c) : RC g F' ι' o c := by
  cases h with
  | lst h => exact .lst (RDs.sub s l h)
  | dK h => exact .dK (Paired.mapP h fun _ _ r => ⟨r.1, r.2.sub s l⟩)
  | dT h => exact .dT (Paired.mapP h fun _ _ r => ⟨r.1, r.2.sub s l⟩)
  | fK h => exact .fK (Paired.mapP h fun _ _ r => ⟨r.1, r.2.sub s l⟩)
  | fT h => exact .fT (Paired.mapP h fun _ _ r => ⟨r.1, r.2.sub s l⟩)
  | obj h => exact .obj (Paired.mapP h fun _ _ r => ⟨r.1, r.2.sub s l⟩)
theorem RC.wx {g : GL} {F : Hp} {ι : List Addr} (e : List Addr) {o : HO} {c : Cell} (h : RC g F ι o c) : RC (g.wx e) F ι o c := by
  cases h with
  | lst h => exact .lst (RDs.wx e h)
  | dK h => exact .dK (Paired.mapP h fun _ _ r => ⟨r.1, r.2.wx e⟩)
  | dT h => exact .dT (Paired.mapP h fun _ _ r => ⟨r.1, r.2.wx e⟩)
  | fK h => exact .fK (Paired.mapP h fun _ _ r => ⟨r.1, r.2.wx e⟩)
  | fT h => exact .fT (Paired.mapP h fun _ _ r => ⟨r.1, r.2.wx e⟩)
  | obj h => exact .obj (Paired.mapP h fun _ _ r => ⟨r.1, r.2.wx e⟩)
/-- what is under way: a list, a dict -/
inductive ExV where
  | lst (xs : List V) | dK (kvs : List (Key × V)) | dT (kvs : List (List Key × V))
def ExV.ho : ExV → HO
  | .lst xs => .lst xs
  | .dK kvs => .dK kvs
  | .dT kvs => .dT kvs
/-- the tables of code objects -/
structure Tbs (g : GL) (H : Hp) : Prop where
  t : ∀ P ∈ g.T, TabN 1 H P
  l : LamX.Tabs g.L H
  d : ∀ p ∈ g.L, p.1 ∉ g.T
theorem Tbs.ext {g : GL} {H H' : Hp} (x : Tbs g H) (k : ∀ b o, H b = some o → H' b = some o) : Tbs g H' := ⟨fun P hP => (x.t P hP).ext k, x.l.ext k, x.d⟩
theorem Tbs.wx {g : GL} {H : Hp} (e : List Addr) (x : Tbs g H) : Tbs (g.wx e) H := ⟨x.t, x.l, x.d⟩
theorem Tbs.but {g : GL} {H H' : Hp} {a : Addr} (x : Tbs g H) (k : ∀ b o, b ≠ a → H b = some o → H' b = some o) (hT : ∀ ps, H a ≠ some (.tbl ps)) (hX : ∀ c P, H a ≠ some (CodeGO c P)) (hL : ∀ c q, H a ≠ some (LamX.CodeO c q)) : Tbs g H' := by
  refine ⟨fun P hP => ?_, fun p hp => ?_, x.d⟩
  · obtain ⟨ps, e1, e2, e3⟩ := x.t P hP
    refine ⟨ps, k _ _ (fun z => hT ps (by rw [← z]; exact e1)) e1, e2, fun pos cv hc => ?_⟩
    obtain ⟨c', P', f1, f2, qs, f3, f4⟩ := e3 pos cv hc
    exact ⟨c', P', f1, k _ _ (fun z => hX _ _ (by rw [← z]; exact f2)) f2, qs, k _ _ (fun z => hT qs (by rw [← z]; exact f3)) f3, f4⟩
  · obtain ⟨ps, e1, e2, e3⟩ := x.l p hp
    refine ⟨ps, k _ _ (fun z => hT ps (by rw [← z]; exact e1)) e1, e2, fun pos cv hc => ?_⟩
    obtain ⟨c, f1, f2⟩ := e3 pos cv hc
    exact ⟨c, f1, k _ _ (fun z => hL _ _ (by rw [← z]; exact f2)) f2⟩
/-- a def's own table has grown -/
theorem Tbs.tg {g : GL} {H H' : Hp} {P : Addr} (x : Tbs g H) (t : TbG H H') (k : ∀ b o, b ≠ P → H b = some o → H' b = some o) (hP : P ∈ g.T) : Tbs g H' := by
  refine ⟨fun Q hQ => t.t1 Q (x.t Q hQ), fun p hp => ?_, x.d⟩
  obtain ⟨ps, e1, e2, e3⟩ := x.l p hp
  refine ⟨ps, k _ _ (fun z => x.d p hp (z ▸ hP)) e1, e2, fun pos cv hc => ?_⟩
  obtain ⟨c, f1, f2⟩ := e3 pos cv hc
  exact ⟨c, f1, t.keep _ _ f2 LamX.codeO_ne⟩
/-- the table of lambdas has grown -/
theorem Tbs.lm {g : GL} {H H' : Hp} {P : Addr} {q : Str} (x : Tbs g H) (k : ∀ b o, b ≠ P → H b = some o → H' b = some o) (hP : (P, q) ∈ g.L) (tb : LamX.Tabs g.L H') : Tbs g H' := by
  obtain ⟨ps0, e0, _, _⟩ := x.l _ hP
  refine ⟨fun Q hQ => ?_, tb, x.d⟩
  obtain ⟨ps, e1, e2, e3⟩ := x.t Q hQ
  have nQ : ∀ {b : Addr}, b ∈ g.T → b ≠ P := fun hb z => x.d _ hP (z ▸ hb)
  refine ⟨ps, k _ _ (nQ hQ) e1, e2, fun pos cv hc => ?_⟩
  obtain ⟨c', P', f1, f2, qs, f3, f4⟩ := e3 pos cv hc
  refine ⟨c', P', f1, k _ _ (fun z => ?_) f2, ?_⟩
  · rw [z, e0] at f2
    unfold CodeGO at f2
    cases f2
  · by_cases z : P' = P
    · rw [z]
      obtain ⟨ps1, u1, u2, _⟩ := tb _ hP
      exact ⟨ps1, u1, u2⟩
    · exact ⟨qs, k _ _ z f3, f4⟩
/-- the store stands in the heap -/
structure Good (g : GL) (ι : List Addr) (st : Store) (H : Hp) : Prop where
  nd : ι.Nodup
  cells : Paired (fun a c => ∃ o, H a = some o ∧ RC g (Fz H (g.x ι)) ι o c) ι st
  tabs : Tbs g H
  exs : ∀ b ∈ g.ex, ∃ xs : ExV, H b = some xs.ho
  dis : ∀ b ∈ g.ex, b ∉ ι
theorem Good.len {g : GL} {ι : List Addr} {st : Store} {H : Hp} (h : Good g ι st H) : ι.length = st.length := Paired.length h.cells
/-- what is locked stays so -/
def Fk (H H' : Hp) : Prop := ∀ b o u, H b = some (.frz o u) → H' b = some (.frz o u)
theorem Fk.refl (H : Hp) : Fk H H := fun _ _ _ e => e
theorem Fk.trans {H H1 H2 : Hp} (a : Fk H H1) (b : Fk H1 H2) : Fk H H2 := fun c o u e => b c o u (a c o u e)
theorem Fk.of {H H' : Hp} (k : ∀ b o, H b = some o → H' b = some o) : Fk H H' := fun _ _ _ e => k _ _ e
theorem Fk.upd {H : Hp} {a : Addr} {o u : HO} (h : H a = some o) (n : ∀ o' u', o ≠ .frz o' u') : Fk H (upd H a u) := fun b o' u' e => by
  rw [upd_ne (fun z => by rw [z, h] at e; exact n _ _ (Option.some.inj e))]; exact e
/-- the heap has grown -/
structure Ext (g : GL) (H : Hp) (ι : List Addr) (H' : Hp) (ι' : List Addr) : Prop where
  le : Le ι ι'
  keep : Sub (Fz H (g.x ι)) (Fz H' (g.x ι'))
  same : ∀ b ∈ g.ex, H' b = H b
  frz : Fk H H'
theorem Ext.refl {g : GL} (H : Hp) (ι : List Addr) : Ext g H ι H ι := ⟨.refl ι, .refl _, fun _ _ => rfl, .refl _⟩
theorem Ext.trans {g : GL} {H H1 H2 : Hp} {ι ι1 ι2 : List Addr} (a : Ext g H ι H1 ι1) (b : Ext g H1 ι1 H2 ι2) : Ext g H ι H2 ι2 := ⟨a.le.trans b.le, a.keep.trans b.keep, fun c h => (b.same c h).trans (a.same c h), a.frz.trans b.frz⟩
theorem RD.ext {g : GL} {H H' : Hp} {ι ι' : List Addr} (x : Ext g H ι H' ι') {v : V} {d : D} (h : RD g (Fz H (g.x ι)) ι v d) : RD g (Fz H' (g.x ι')) ι' v d := h.sub x.keep x.le
/-- the slots -/
def RE (g : GL) (F : Hp) (ι : List Addr) (σ : L2.St) (δ : Env) : Prop := σ.length = δ.length ∧ ∀ (i : Nat) (d : D), δ[i]? = some (some d) → ∃ v, σ[i]? = some (some v) ∧ RD g F ι v d
theorem RE.ext {g : GL} {H H' : Hp} {ι ι' : List Addr} (x : Ext g H ι H' ι') {σ : L2.St} {δ : Env} (h : RE g (Fz H (g.x ι)) ι σ δ) : RE g (Fz H' (g.x ι')) ι' σ δ :=
  ⟨h.1, fun i d e => let ⟨v, a, b⟩ := h.2 i d e; ⟨v, a, b.ext x⟩⟩
theorem RE.set {g : GL} {F : Hp} {ι : List Addr} {σ : L2.St} {δ : Env} {v : V} {d : D} (h : RE g F ι σ δ) (i : Nat) (r : RD g F ι v d) : RE g F ι (σ.set i (some v)) (δ.set i (some d)) := by
  refine ⟨by simpa using h.1, fun j e hj => ?_⟩
  by_cases hij : i = j
  · subst hij
    by_cases hl : i < δ.length
    · rw [List.getElem?_set_self hl] at hj
      cases hj
      exact ⟨v, List.getElem?_set_self (by rw [h.1]; exact hl), r⟩
    · rw [List.getElem?_eq_none (by simpa using hl)] at hj; cases hj
  · rw [List.getElem?_set_ne hij] at hj
    obtain ⟨w, a, b⟩ := h.2 j e hj
    exact ⟨w, by rw [List.getElem?_set_ne hij]; exact a, b⟩

/-! ### what is computed -/
inductive Res (α : Type) where
  | ok (a : α) (st : Store) | exc (c : Nat) (st : Store) | bad
def Res.bnd {α β : Type} (r : Res α) (f : α → Store → Res β) : Res β := match r with
  | .ok a st => f a st
  | .exc c st => .exc c st
  | .bad => .bad
abbrev Ev (α : Type) := Env → Store → Res α
inductive SR where
  | nx (δ : Env) (st : Store) | rt (d : D) (st : Store) | bk (δ : Env) (st : Store) | ct (δ : Env) (st : Store) | exc (c : Nat) (st : Store) | bad
abbrev Sv := Env → Store → SR

/-- behind it: the new store stands; the wish about exceptions -/
def PostX (g : GL) (H : Hp) (ι : List Addr) (c : Nat) (st : Store) (E : XK) : Prop := ∀ H' ι', Good g ι' st H' → Ext g H ι H' ι' → E (.ref (g.CT c)) none H'
def Post (g : GL) (H : Hp) (ι : List Addr) (E : XK) (r : Res D) (Q : VK) : Prop := match r with
  | .ok d st => ∀ v H' ι', Good g ι' st H' → Ext g H ι H' ι' → RD g (Fz H' (g.x ι')) ι' v d → Q v H'
  | .exc c st => PostX g H ι c st E
  | .bad => False
def PostB (g : GL) (H : Hp) (ι : List Addr) (E : XK) (r : Res Bool) (Q : Bool → Hp → Prop) : Prop := match r with
  | .ok b st => ∀ H' ι', Good g ι' st H' → Ext g H ι H' ι' → Q b H'
  | .exc c st => PostX g H ι c st E
  | .bad => False
def PostA (g : GL) (H : Hp) (ι : List Addr) (E : XK) (r : Res (List D)) (Q : List V → Hp → Prop) : Prop := match r with
  | .ok ds st => ∀ vs H' ι', Good g ι' st H' → Ext g H ι H' ι' → RDs g (Fz H' (g.x ι')) ι' vs ds → Q vs H'
  | .exc c st => PostX g H ι c st E
  | .bad => False
def PostS (g : GL) (H : Hp) (ι : List Addr) (E : XK) (r : SR) (D : Ends) : Prop := match r with
  | .nx δ st => ∀ σ H' ι', Good g ι' st H' → Ext g H ι H' ι' → RE g (Fz H' (g.x ι')) ι' σ δ → D.nx σ H'
  | .bk δ st => ∀ σ H' ι', Good g ι' st H' → Ext g H ι H' ι' → RE g (Fz H' (g.x ι')) ι' σ δ → D.bk σ H'
  | .ct δ st => ∀ σ H' ι', Good g ι' st H' → Ext g H ι H' ι' → RE g (Fz H' (g.x ι')) ι' σ δ → D.ct σ H'
  | .rt d st => ∀ v H' ι', Good g ι' st H' → Ext g H ι H' ι' → RD g (Fz H' (g.x ι')) ι' v d → D.rt v H'
  | .exc c st => PostX g H ι c st E
  | .bad => False
/-- where one stands -/
structure At (g : GL) (H : Hp) (ι : List Addr) (st : Store) (σ : L2.St) (δ : Env) : Prop where
  good : Good g ι st H
  env : RE g (Fz H (g.x ι)) ι σ δ
def SemE (g : GL) (E : XK) (f : Ev D) : TE := fun σ H Q => ∃ ex ι st δ, At (g.wx ex) H ι st σ δ ∧ Post (g.wx ex) H ι E (f δ st) Q
def SemB (g : GL) (E : XK) (f : Ev Bool) : TT := fun σ H Q => ∃ ex ι st δ, At (g.wx ex) H ι st σ δ ∧ PostB (g.wx ex) H ι E (f δ st) Q
def SemA (g : GL) (E : XK) (f : Ev (List D)) : TA := fun σ H Q => ∃ ex ι st δ, At (g.wx ex) H ι st σ δ ∧ PostA (g.wx ex) H ι E (f δ st) Q
def SemS (g : GL) (E : XK) (f : Sv) : TS := fun D σ H => ∃ ex ι st δ, At (g.wx ex) H ι st σ δ ∧ PostS (g.wx ex) H ι E (f δ st) D

theorem pe_mono {X : Cx} {e : Expr} {t t' : TE} (h : PE X e t) (k : ∀ σ H Q, t' σ H Q → t σ H Q) : PE X e t' := ⟨fun pins s σ H Q I q => h.run pins s σ H Q I (k σ H Q q)⟩
theorem pt_mono {X : Cx} {e : Expr} {t t' : TT} (h : PT X e t) (k : ∀ σ H Q, t' σ H Q → t σ H Q) : PT X e t' := ⟨fun pins s σ H Q I q => h.run pins s σ H Q I (k σ H Q q)⟩
theorem pa_mono {X : Cx} {e : List Expr} {t t' : TA} (h : PA X e t) (k : ∀ σ H Q, t' σ H Q → t σ H Q) : PA X e t' := ⟨fun pos pins s σ H Q I q => h.run pos pins s σ H Q I (k σ H Q q)⟩
theorem ps_mono {X : Cx} {e : Stmt} {t t' : TS} (h : PS X e t) (k : ∀ D σ H, t' D σ H → t D σ H) : PS X e t' := ⟨fun pins s σ H D I q => h.run pins s σ H D I (k D σ H q)⟩
theorem pss_mono {X : Cx} {e : List Stmt} {t t' : TS} (h : PSs X e t) (k : ∀ D σ H, t' D σ H → t D σ H) : PSs X e t' := ⟨fun pins s σ H D I q => h.run pins s σ H D I (k D σ H q)⟩

/-! ### binding -/
theorem PostX.ext {g : GL} {H H1 : Hp} {ι ι1 : List Addr} {c : Nat} {st : Store} {E : XK} (x : Ext g H ι H1 ι1) (h : PostX g H ι c st E) : PostX g H1 ι1 c st E := fun H' ι' a b => h H' ι' a (x.trans b)
theorem Post.ext {g : GL} {H H1 : Hp} {ι ι1 : List Addr} {r : Res D} {E : XK} {Q : VK} (x : Ext g H ι H1 ι1) (h : Post g H ι E r Q) : Post g H1 ι1 E r Q := by
  cases r with
  | ok d st => exact fun v H' ι' a b c => h v H' ι' a (x.trans b) c
  | exc c st => exact PostX.ext x h
  | bad => exact h
theorem PostB.ext {g : GL} {H H1 : Hp} {ι ι1 : List Addr} {r : Res Bool} {E : XK} {Q : Bool → Hp → Prop} (x : Ext g H ι H1 ι1) (h : PostB g H ι E r Q) : PostB g H1 ι1 E r Q := by
  cases r with
  | ok d st => exact fun H' ι' a b => h H' ι' a (x.trans b)
  | exc c st => exact PostX.ext x h
  | bad => exact h
theorem PostA.ext {g : GL} {H H1 : Hp} {ι ι1 : List Addr} {r : Res (List D)} {E : XK} {Q : List V → Hp → Prop} (x : Ext g H ι H1 ι1) (h : PostA g H ι E r Q) : PostA g H1 ι1 E r Q := by
  cases r with
  | ok d st => exact fun v H' ι' a b c => h v H' ι' a (x.trans b) c
  | exc c st => exact PostX.ext x h
  | bad => exact h
theorem PostS.ext {g : GL} {H H1 : Hp} {ι ι1 : List Addr} {r : SR} {E : XK} {D : Ends} (x : Ext g H ι H1 ι1) (h : PostS g H ι E r D) : PostS g H1 ι1 E r D := by
  cases r with
  | nx δ st => exact fun v H' ι' a b c => h v H' ι' a (x.trans b) c
  | bk δ st => exact fun v H' ι' a b c => h v H' ι' a (x.trans b) c
  | ct δ st => exact fun v H' ι' a b c => h v H' ι' a (x.trans b) c
  | rt d st => exact fun v H' ι' a b c => h v H' ι' a (x.trans b) c
  | exc c st => exact PostX.ext x h
  | bad => exact h
theorem At.ext {g : GL} {H H' : Hp} {ι ι' : List Addr} {st st' : Store} {σ : L2.St} {δ : Env} (a : At g H ι st σ δ) (x : Ext g H ι H' ι') (gd : Good g ι' st' H') : At g H' ι' st' σ δ := ⟨gd, a.env.ext x⟩
/-- an expression's reading, then what follows with its value -/
theorem semE_bnd {g : GL} {ex : List Addr} {E : XK} {f : Ev D} {H : Hp} {ι : List Addr} {st : Store} {σ : L2.St} {δ : Env} {Q : VK} (a : At (g.wx ex) H ι st σ δ)
    (h : match f δ st with
      | .ok d st1 => ∀ v H1 ι1, At (g.wx ex) H1 ι1 st1 σ δ → Ext (g.wx ex) H ι H1 ι1 → RD (g.wx ex) (Fz H1 ((g.wx ex).x ι1)) ι1 v d → Q v H1
      | .exc c st1 => PostX (g.wx ex) H ι c st1 E
      | .bad => False) : SemE g E f σ H Q := by
  refine ⟨ex, ι, st, δ, a, ?_⟩
  cases e : f δ st with
  | ok d st1 => rw [e] at h; exact fun v H1 ι1 gd x r => h v H1 ι1 (a.ext x gd) x r
  | exc c st1 => rw [e] at h; exact h
  | bad => rw [e] at h; exact h
theorem semB_bnd {g : GL} {ex : List Addr} {E : XK} {f : Ev Bool} {H : Hp} {ι : List Addr} {st : Store} {σ : L2.St} {δ : Env} {Q : Bool → Hp → Prop} (a : At (g.wx ex) H ι st σ δ)
    (h : match f δ st with
      | .ok d st1 => ∀ H1 ι1, At (g.wx ex) H1 ι1 st1 σ δ → Ext (g.wx ex) H ι H1 ι1 → Q d H1
      | .exc c st1 => PostX (g.wx ex) H ι c st1 E
      | .bad => False) : SemB g E f σ H Q := by
  refine ⟨ex, ι, st, δ, a, ?_⟩
  cases e : f δ st with
  | ok d st1 => rw [e] at h; exact fun H1 ι1 gd x => h H1 ι1 (a.ext x gd) x
  | exc c st1 => rw [e] at h; exact h
  | bad => rw [e] at h; exact h
theorem semA_bnd {g : GL} {ex : List Addr} {E : XK} {f : Ev (List D)} {H : Hp} {ι : List Addr} {st : Store} {σ : L2.St} {δ : Env} {Q : List V → Hp → Prop} (a : At (g.wx ex) H ι st σ δ)
    (h : match f δ st with
      | .ok d st1 => ∀ v H1 ι1, At (g.wx ex) H1 ι1 st1 σ δ → Ext (g.wx ex) H ι H1 ι1 → RDs (g.wx ex) (Fz H1 ((g.wx ex).x ι1)) ι1 v d → Q v H1
      | .exc c st1 => PostX (g.wx ex) H ι c st1 E
      | .bad => False) : SemA g E f σ H Q := by
  refine ⟨ex, ι, st, δ, a, ?_⟩
  cases e : f δ st with
  | ok d st1 => rw [e] at h; exact fun v H1 ι1 gd x r => h v H1 ι1 (a.ext x gd) x r
  | exc c st1 => rw [e] at h; exact h
  | bad => rw [e] at h; exact h
end Iv
end

section
set_option Elab.async false
set_option linter.all false
set_option maxRecDepth 100000
set_option maxHeartbeats 4100000
namespace Iv
open PySem PySem.Spec PyProof.Rows L2 Gx

section
variable {g : GL} {ι : List Addr} {st : Store} {H : Hp} {p : Addr} {o : HO}
theorem pd_mem {α β : Type} {R : α → β → Prop} : ∀ {xs : List α} {ys : List β} {x : α}, Paired R xs ys → x ∈ xs → ∃ y, R x y
  | _, _, _, .nil, h => by simp at h
  | _, _, _, .cons r t, h => by
    cases h with
    | head => exact ⟨_, r⟩
    | tail _ h => exact pd_mem t h
theorem pd_get {α β : Type} {R : α → β → Prop} : ∀ {xs : List α} {ys : List β} {i : Nat} {x : α}, Paired R xs ys → xs[i]? = some x → ∃ y, ys[i]? = some y ∧ R x y
  | _, _, _, _, .nil, h => by simp at h
  | _, _, 0, _, .cons r t, h => by simp at h; subst h; exact ⟨_, rfl, r⟩
  | _, _, i + 1, _, .cons r t, h => by
    obtain ⟨y, a, b⟩ := pd_get (i := i) t (by simpa using h)
    exact ⟨y, by simpa using a, b⟩
theorem pd_get' {α β : Type} {R : α → β → Prop} : ∀ {xs : List α} {ys : List β} {i : Nat} {y : β}, Paired R xs ys → ys[i]? = some y → ∃ x, xs[i]? = some x ∧ R x y
  | _, _, _, _, .nil, h => by simp at h
  | _, _, 0, _, .cons r t, h => by simp at h; subst h; exact ⟨_, rfl, r⟩
  | _, _, i + 1, _, .cons r t, h => by
    obtain ⟨y, a, b⟩ := pd_get' (i := i) t (by simpa using h)
    exact ⟨y, by simpa using a, b⟩
theorem pd_imp {α β : Type} {R R' : α → β → Prop} : ∀ {xs : List α} {ys : List β}, Paired R xs ys → (∀ x y, x ∈ xs → R x y → R' x y) → Paired R' xs ys
  | _, _, .nil, _ => .nil
  | _, _, .cons r t, h => .cons (h _ _ List.mem_cons_self r) (pd_imp t fun x y m q => h x y (List.mem_cons_of_mem _ m) q)
theorem pd_app {α β : Type} {R : α → β → Prop} : ∀ {xs xs' : List α} {ys ys' : List β}, Paired R xs ys → Paired R xs' ys' → Paired R (xs ++ xs') (ys ++ ys')
  | _, _, _, _, .nil, q => q
  | _, _, _, _, .cons r t, q => .cons r (pd_app t q)
theorem pd_set {α β : Type} {R : α → β → Prop} : ∀ {xs : List α} {ys : List β} (i : Nat) {x : α} {y : β}, Paired R xs ys → R x y → Paired R (xs.set i x) (ys.set i y)
  | _, _, _, _, _, .nil, _ => .nil
  | _, _, 0, _, _, .cons _ t, q => .cons q t
  | _, _, i + 1, _, _, .cons r t, q => .cons r (pd_set i t q)

theorem Good.in (G : Good g ι st H) {a : Addr} (h : a ∈ ι) : ∃ u, H a = some u := by
  obtain ⟨c, u, e, _⟩ := pd_mem G.cells h
  exact ⟨u, e⟩
theorem Good.out (G : Good g ι st H) {a : Addr} (h : H a = none) : a ∉ g.x ι := fun m => by
  rcases List.mem_append.mp m with m | m
  · obtain ⟨u, e⟩ := G.exs a m
    rw [h] at e; cases e
  · obtain ⟨u, e⟩ := G.in m
    rw [h] at e; cases e
theorem Good.cell (G : Good g ι st H) {n : Nat} {c : Cell} (h : st[n]? = some c) : ∃ a u, ι[n]? = some a ∧ H a = some u ∧ RC g (Fz H (g.x ι)) ι u c := by
  obtain ⟨a, e, u, h1, h2⟩ := pd_get' G.cells h
  exact ⟨a, u, e, h1, h2⟩
theorem Good.cell' (G : Good g ι st H) {n : Nat} {a : Addr} (h : ι[n]? = some a) : ∃ c u, st[n]? = some c ∧ H a = some u ∧ RC g (Fz H (g.x ι)) ι u c := by
  obtain ⟨c, e, u, h1, h2⟩ := pd_get G.cells h
  exact ⟨c, u, e, h1, h2⟩
/-- a new thing, frozen -/
theorem good_new (G : Good g ι st H) (hp : H p = none) : Good g ι st (upd H p o) ∧ Ext g H ι (upd H p o) ι := by
  have ke : ∀ b u, H b = some u → upd H p o b = some u := fun b u e => by rw [upd_ne (ne_of_none e hp)]; exact e
  have sub : Sub (Fz H (g.x ι)) (Fz (upd H p o) (g.x ι)) := fun b u e => by
    obtain ⟨h1, w, h2, h3⟩ := Fz.at e
    exact Fz.mk h1 (ke _ _ h2) h3
  exact ⟨⟨G.nd, pd_imp G.cells fun a c _ ⟨u, e, r⟩ => ⟨u, ke _ _ e, r.sub sub (.refl ι)⟩, G.tabs.ext ke, fun b hb => let ⟨o, e⟩ := G.exs b hb; ⟨o, ke _ _ e⟩, G.dis⟩, ⟨.refl ι, sub, fun b hb => upd_ne (fun z => G.out hp (z ▸ GL.in2 hb)), .of ke⟩⟩
theorem fz_new (G : Good g ι st H) (hp : H p = none) {u : HO} (s : strip o = some u) : Fz (upd H p o) (g.x ι) p = some u := Fz.mk (G.out hp) upd_same s
/-- a new cell -/
theorem good_cell {c : Cell} (G : Good g ι st H) (hp : H p = none) (r : RC g (Fz H (g.x ι)) ι o c) : Good g (ι ++ [p]) (st ++ [c]) (upd H p o) ∧ Ext g H ι (upd H p o) (ι ++ [p]) := by
  have ke : ∀ b u, H b = some u → upd H p o b = some u := fun b u e => by rw [upd_ne (ne_of_none e hp)]; exact e
  have le : Le ι (ι ++ [p]) := ⟨[p], rfl⟩
  have sub : Sub (Fz H (g.x ι)) (Fz (upd H p o) (g.x (ι ++ [p]))) := fun b u e => by
    obtain ⟨h1, w, h2, h3⟩ := Fz.at e
    refine Fz.mk (fun m => ?_) (ke _ _ h2) h3
    rcases List.mem_append.mp m with m | m
    · exact h1 (GL.in2 m)
    · rcases List.mem_append.mp m with m | m
      · exact h1 (GL.in1 m)
      · rw [List.mem_singleton.mp m, hp] at h2; cases h2
  refine ⟨⟨?_, pd_app (pd_imp G.cells fun a c _ ⟨u, e, r⟩ => ⟨u, ke _ _ e, r.sub sub le⟩) (.cons ⟨o, upd_same, r.sub sub le⟩ .nil), G.tabs.ext ke, fun b hb => let ⟨o, e⟩ := G.exs b hb; ⟨o, ke _ _ e⟩, fun b hb m => (List.mem_append.mp m).elim (G.dis b hb) fun z => G.out hp (List.mem_singleton.mp z ▸ GL.in2 hb)⟩, ⟨le, sub, fun b hb => upd_ne (fun z => G.out hp (z ▸ GL.in2 hb)), .of ke⟩⟩
  rw [List.nodup_append]
  refine ⟨G.nd, by simp, fun a ha b hb => ?_⟩
  rw [List.mem_singleton.mp hb]
  intro z
  exact G.out hp (GL.in1 (z ▸ ha))
/-- a cell is written -/
theorem good_write {n : Nat} {a : Addr} {c : Cell} {u : HO} (G : Good g ι st H) (hn : ι[n]? = some a) (r : RC g (Fz H (g.x ι)) ι u c) (hT : ∀ ps, H a ≠ some (.tbl ps)) (hX : ∀ c P, H a ≠ some (CodeGO c P)) (hL : ∀ c q, H a ≠ some (LamX.CodeO c q)) (hF : ∀ o v, H a ≠ some (.frz o v)) :
    Good g ι (st.set n c) (upd H a u) ∧ Ext g H ι (upd H a u) ι := by
  have hm : a ∈ ι := List.mem_of_getElem? hn
  have fk : Fk H (upd H a u) := by
    obtain ⟨c0, u0, _, h2, rc⟩ := G.cell' hn
    exact .upd h2 (fun o' u' z => hF o' u' (z ▸ h2))
  have sub : Sub (Fz H (g.x ι)) (Fz (upd H a u) (g.x ι)) := fun b w e => by
    obtain ⟨h1, v, h2, h3⟩ := Fz.at e
    exact Fz.mk h1 (by rw [upd_ne (fun z => h1 (GL.in1 (by rw [z]; exact hm)))]; exact h2) h3
  refine ⟨⟨G.nd, ?_, G.tabs.but (fun b o h e => by rw [upd_ne h]; exact e) hT hX hL, fun b hb => ?_, G.dis⟩, ⟨.refl ι, sub, fun b hb => upd_ne (fun z => G.dis b hb (z ▸ hm)), fk⟩⟩
  · have key : Paired (fun (b : Addr) (d : Cell) => ∃ o, upd H a u b = some o ∧ RC g (Fz (upd H a u) (g.x ι)) ι o d) (ι.set n a) (st.set n c) := by
      have base : ∀ (l : List Addr) (t : Store) (m : Nat), l.Nodup → Paired (fun a c => ∃ o, H a = some o ∧ RC g (Fz H (g.x ι)) ι o c) l t → (l[m]? = some a) → Paired (fun (b : Addr) (d : Cell) => ∃ o, upd H a u b = some o ∧ RC g (Fz (upd H a u) (g.x ι)) ι o d) (l.set m a) (t.set m c) := by
        intro l
        induction l with
        | nil => intro t m _ q e; simp at e
        | cons b l ih =>
          intro t m nd q e
          cases q with
          | cons q1 q2 =>
            rw [List.nodup_cons] at nd
            cases m with
            | zero =>
              simp at e
              subst e
              refine .cons ⟨u, upd_same, r.sub sub (.refl ι)⟩ (pd_imp q2 fun x d hx ⟨o, h1, h2⟩ => ⟨o, by rw [upd_ne (fun z => nd.1 (by rw [← z]; exact hx))]; exact h1, h2.sub sub (.refl ι)⟩)
            | succ m =>
              have e' : l[m]? = some a := by simpa using e
              obtain ⟨o, h1, h2⟩ := q1
              refine .cons ⟨o, by rw [upd_ne (fun z => nd.1 (by rw [z]; exact List.mem_of_getElem? e'))]; exact h1, h2.sub sub (.refl ι)⟩ (ih _ m nd.2 q2 e')
      exact base ι st n G.nd G.cells hn
    have e : ι.set n a = ι := by
      apply List.ext_getElem?
      intro i
      by_cases h : n = i
      · subst h
        have hl := (List.getElem?_eq_some_iff.mp hn).1
        rw [List.getElem?_set_self hl, hn]
      · rw [List.getElem?_set_ne h]
    rw [e] at key
    exact key
  · obtain ⟨o, e⟩ := G.exs b hb
    by_cases h : b = a
    · exact absurd hm (h ▸ G.dis b hb)
    · exact ⟨o, by rw [upd_ne h]; exact e⟩
end

/-! ### expressions -/
section
variable {X : Cx} {g : GL} {E : XK} {e a b c : Expr} {pos : Pos}
def vK (x : P) : Ev D := fun _ st => .ok (.p x) st
def vV (i : Nat) : Ev D := fun δ st => match δ[i]? with
  | some (some d) => .ok d st
  | _ => .bad
theorem se_var {i : Nat} {x : Str} (hN : X.N[i]? = some x) (hv : Vis X.env.scope x) (hd : (x == ("__debug__" : Str)) = false := by decide) (hcd : (x == ("__classdict__" : Str)) = false := by decide) : PE X (.Name x pos) (SemE g E (vV i)) := by
  refine pe_mono (pe_var hN hv hd hcd) fun σ H Q ⟨ex, ι, st, δ, at_, h⟩ => ?_
  unfold vV at h
  cases e : δ[i]? with
  | none => rw [e] at h; exact h.elim
  | some o =>
    cases o with
    | none => rw [e] at h; exact h.elim
    | some d =>
      rw [e] at h
      obtain ⟨v, h1, h2⟩ := at_.env.2 i d e
      exact ⟨v, h1, h v H ι at_.good (.refl _ _) h2⟩
theorem se_const {v : V} {x : P} (h : PE X e (tC v)) (r : ∀ g F, Rp g F v x) : PE X e (SemE g E (vK x)) :=
  pe_mono h fun σ H Q ⟨ex, ι, st, δ, at_, h⟩ => h v H ι at_.good (.refl _ _) (.p (r _ _))
theorem se_int {i j} : PE X (.Constant (.int i) j pos) (SemE g E (vK (.int i))) := se_const pe_int fun _ _ => .int i
theorem se_bl {b j} : PE X (.Constant (.bool b) j pos) (SemE g E (vK (.bl b))) := se_const pe_bl fun _ _ => .bl b
theorem se_non {j} : PE X (.Constant .none j pos) (SemE g E (vK .non)) := se_const pe_non fun _ _ => .non
theorem se_str {x j} : PE X (.Constant (.str x) j pos) (SemE g E (vK (.str x))) := se_const pe_str fun _ _ => .str x

/-- two expressions, then what f makes of their values -/
def v2 (f : D → D → Store → Res D) (fa fb : Ev D) : Ev D := fun δ st => (fa δ st).bnd fun x s1 => (fb δ s1).bnd fun y s2 => f x y s2
/-- f tells what the rule r asks -/
def OpSem (g : GL) (r : R2) (f : D → D → Store → Res D) : Prop := ∀ {ex : List Addr} {H : Hp} {ι : List Addr} {st : Store} {x y : V} {dx dy : D} {E : XK} {Q : VK},
  Good (g.wx ex) ι st H → RD (g.wx ex) (Fz H ((g.wx ex).x ι)) ι x dx → RD (g.wx ex) (Fz H ((g.wx ex).x ι)) ι y dy → Post (g.wx ex) H ι E (f dx dy st) Q → r x y H Q
theorem tOp_of {r : R2} {f : D → D → Store → Res D} {fa fb : Ev D} (hs : OpSem g r f) : ∀ σ H Q, SemE g E (v2 f fa fb) σ H Q → tOp r (SemE g E fa) (SemE g E fb) σ H Q := by
  rintro σ H Q ⟨ex, ι, st, δ, at_, h⟩
  refine semE_bnd at_ ?_
  unfold v2 at h
  cases ea : fa δ st with
  | bad => rw [ea] at h; exact h
  | exc c s1 => rw [ea] at h; exact h
  | ok x s1 =>
    rw [ea] at h
    intro v H1 ι1 at1 x1 r1
    refine semE_bnd at1 ?_
    have h := Post.ext x1 h
    simp only [Res.bnd] at h
    cases eb : fb δ s1 with
    | bad => rw [eb] at h; exact h
    | exc c s2 => rw [eb] at h; exact h
    | ok y s2 =>
      rw [eb] at h
      intro w H2 ι2 at2 x2 r2
      exact hs at2.good (r1.ext x2) r2 (Post.ext x2 h)
theorem se_op {op : Operator} {r : R2} {f : D → D → Store → Res D} {fa fb : Ev D} (ho : OpR X (binaryOp op) r) (hs : OpSem g r f) (ha : PE X a (SemE g E fa)) (hb : PE X b (SemE g E fb)) : PE X (.BinOp a op b pos) (SemE g E (v2 f fa fb)) :=
  pe_mono (pe_op ho ha hb) (tOp_of hs)
theorem se_cmp {op : CmpOp} {r : R2} {f : D → D → Store → Res D} {fa fb : Ev D} (ho : OpR X (compareOp op) r) (hs : OpSem g r f) (ha : PE X a (SemE g E fa)) (hb : PE X b (SemE g E fb)) (hm : behindInMarks op b = false) : PE X (.Compare a [op] [b] pos) (SemE g E (v2 f fa fb)) :=
  pe_mono (pe_cmpR ho ha hb hm) (tOp_of hs)
/-- a value that is a bool, as a test -/
def tstB (f : Ev D) : Ev Bool := fun δ st => (f δ st).bnd fun d s => match d with
  | .p (.bl b) => .ok b s
  | _ => .bad
theorem tTest_of {t : TE} {f : Ev D} (ht : ∀ σ H Q, SemE g E f σ H Q → t σ H Q) : ∀ σ H Q, SemB g E (tstB f) σ H Q → tTest t σ H Q := by
  rintro σ H Q ⟨ex, ι, st, δ, at_, h⟩
  refine ht σ H _ (semE_bnd at_ ?_)
  unfold tstB at h
  cases ea : f δ st with
  | bad => rw [ea] at h; exact h
  | exc c s1 => rw [ea] at h; exact h
  | ok x s1 =>
    rw [ea] at h
    intro v H1 ι1 at1 x1 r1
    simp only [Res.bnd] at h
    cases r1 with
    | ref _ => exact h.elim
    | p r1 =>
      cases r1 with
      | bl b => exact ⟨b, rfl, h H1 ι1 at1.good x1⟩
      | _ => exact h.elim
theorem st_cmp {op : CmpOp} {r : R2} {f : D → D → Store → Res D} {fa fb : Ev D} (ho : OpR X (compareOp op) r) (hs : OpSem g r f) (ha : PE X a (SemE g E fa)) (hb : PE X b (SemE g E fb)) (hm : behindInMarks op b = false) : PT X (.Compare a [op] [b] pos) (SemB g E (tstB (v2 f fa fb))) :=
  pt_mono (pt_cmpR ho ha hb hm) (tTest_of (tOp_of hs))
/-- a < b < c -/
def vCh (f f' : D → D → Store → Res D) (fa fb fc : Ev D) : Ev D := fun δ st => (fa δ st).bnd fun x s1 => (fb δ s1).bnd fun y s2 => (f x y s2).bnd fun z s3 => match z with
  | .p (.bl true) => (fc δ s3).bnd fun w s4 => f' y w s4
  | .p (.bl false) => .ok (.p (.bl false)) s3
  | _ => .bad
theorem tChain_of {r r' : R2} {f f' : D → D → Store → Res D} {fa fb fc : Ev D} (hs : OpSem g r f) (hs' : OpSem g r' f') : ∀ σ H Q, SemE g E (vCh f f' fa fb fc) σ H Q → tChain r r' (SemE g E fa) (SemE g E fb) (SemE g E fc) σ H Q := by
  rintro σ H Q ⟨ex, ι, st, δ, at_, h⟩
  refine semE_bnd at_ ?_
  unfold vCh at h
  cases ea : fa δ st with
  | bad => rw [ea] at h; exact h
  | exc c s1 => rw [ea] at h; exact h
  | ok x s1 =>
    rw [ea] at h
    intro v H1 ι1 at1 x1 r1
    refine semE_bnd at1 ?_
    have h := Post.ext x1 h
    simp only [Res.bnd] at h
    cases eb : fb δ s1 with
    | bad => rw [eb] at h; exact h
    | exc c s2 => rw [eb] at h; exact h
    | ok y s2 =>
      rw [eb] at h
      intro w H2 ι2 at2 x2 r2
      have h := Post.ext x2 h
      simp only [] at h
      refine hs (E := E) at2.good (r1.ext x2) r2 ?_
      cases ez : f x y s2 with
      | bad => rw [ez] at h; exact h
      | exc c s3 => rw [ez] at h; exact h
      | ok z s3 =>
        rw [ez] at h
        intro u H3 ι3 g3 x3 r3
        have h := Post.ext x3 h
        simp only [] at h
        cases r3 with
        | ref _ => exact h.elim
        | p r3 =>
          cases r3 with
          | bl k =>
            refine ⟨k, rfl, ?_⟩
            cases k with
            | false => exact h _ H3 ι3 g3 (.refl _ _) (.p (.bl false))
            | true =>
              rw [if_pos rfl]
              have at3 := at2.ext x3 g3
              refine semE_bnd at3 ?_
              cases ec : fc δ s3 with
              | bad => rw [ec] at h; exact h
              | exc c s3 => rw [ec] at h; exact h
              | ok q s4 =>
                rw [ec] at h
                intro u4 H4 ι4 at4 x4 r4
                exact hs' at4.good ((r2.ext x3).ext x4) r4 (Post.ext x4 h)
          | _ => exact h.elim
theorem se_chain {op op' : CmpOp} {r r' : R2} {f f' : D → D → Store → Res D} {fa fb fc : Ev D} (ho : OpR X (compareOp op) r) (ho' : OpR X (compareOp op') r') (hs : OpSem g r f) (hs' : OpSem g r' f') (ha : PE X a (SemE g E fa)) (hb : PE X b (SemE g E fb)) (hc : PE X c (SemE g E fc))
    (hm : lastMarks [op, op'] [b, c] = false := by with_unfolding_all rfl) : PE X (.Compare a [op, op'] [b, c] pos) (SemE g E (vCh f f' fa fb fc)) := pe_mono (pe_chain ho ho' ha hb hc hm) (tChain_of hs hs')
theorem st_chain {op op' : CmpOp} {r r' : R2} {f f' : D → D → Store → Res D} {fa fb fc : Ev D} (ho : OpR X (compareOp op) r) (ho' : OpR X (compareOp op') r') (hs : OpSem g r f) (hs' : OpSem g r' f') (ha : PE X a (SemE g E fa)) (hb : PE X b (SemE g E fb)) (hc : PE X c (SemE g E fc))
    (hm : lastMarks [op, op'] [b, c] = false := by with_unfolding_all rfl) : PT X (.Compare a [op, op'] [b, c] pos) (SemB g E (tstB (vCh f f' fa fb fc))) := pt_mono (pt_chain ho ho' ha hb hc hm) (tTest_of (tChain_of hs hs'))
theorem st_val {f : Ev D} (h : PE X e (SemE g E f)) (he : ∀ whole, isTrue e X.env whole = (do let v ← whole; standAt e.pos; holding [v] (truthy v)) := by intro _; rfl) : PT X e (SemB g E (tstB f)) := by
  refine pt_mono (pt_val h he) fun σ H Q q => ?_
  exact tTest_of (t := SemE g E f) (fun _ _ _ q => q) σ H Q q
/-! and, or, not -/
def bAnd (f h : Ev Bool) : Ev Bool := fun δ st => (f δ st).bnd fun b s => if b = true then h δ s else .ok false s
def bOr (f h : Ev Bool) : Ev Bool := fun δ st => (f δ st).bnd fun b s => if b = true then .ok true s else h δ s
def bNot (f : Ev Bool) : Ev Bool := fun δ st => (f δ st).bnd fun b s => .ok (!b) s
structure SW (X : Cx) (g : GL) (E : XK) (e : Expr) (f : Ev Bool) : Prop where
  ok : PW X e (SemB g E f)
theorem pw_mono {t t' : TT} (h : PW X e t) (k : ∀ σ H Q, t' σ H Q → t σ H Q) : PW X e t' := ⟨fun w pins s σ H Q I q => h.run w pins s σ H Q I (k σ H Q q)⟩
theorem semB_seq {f : Ev Bool} {k : Bool → Ev Bool} {t : Bool → TT} (ht : ∀ b σ H Q, SemB g E (k b) σ H Q → t b σ H Q) : ∀ σ H Q, SemB g E (fun δ st => (f δ st).bnd fun b s => k b δ s) σ H Q → SemB g E f σ H fun b H1 => t b σ H1 Q := by
  rintro σ H Q ⟨ex, ι, st, δ, at_, h⟩
  refine semB_bnd at_ ?_
  dsimp only at h
  cases ea : f δ st with
  | bad => rw [ea] at h; exact h
  | exc c s1 => rw [ea] at h; exact h
  | ok x s1 =>
    rw [ea] at h
    intro H1 ι1 at1 x1
    exact ht x σ H1 Q ⟨ex, ι1, s1, δ, at1, PostB.ext x1 h⟩
theorem sw_and1 {f : Ev Bool} (h : PT X a (SemB g E f)) : PW X (.BoolOp .And [a] pos) (SemB g E f) := pw_and1 h
theorem sw_or1 {f : Ev Bool} (h : PT X a (SemB g E f)) : PW X (.BoolOp .Or [a] pos) (SemB g E f) := pw_or1 h
theorem sw_and {f h : Ev Bool} {rest : List Expr} (ha : PT X a (SemB g E f)) (hb : PW X (.BoolOp .And (b :: rest) pos) (SemB g E h)) : PW X (.BoolOp .And (a :: b :: rest) pos) (SemB g E (bAnd f h)) := by
  refine pw_mono (pw_and ha hb) fun σ H Q q => ?_
  refine semB_seq (k := fun b δ s => if b = true then h δ s else .ok false s) (t := fun b σ H Q => if b = true then SemB g E h σ H Q else Q false H) (fun b σ H Q q => ?_) σ H Q q
  cases b with
  | true => exact q
  | false => obtain ⟨ex, ι, st, δ, at_, q⟩ := q; exact q H ι at_.good (.refl _ _)
theorem sw_or {f h : Ev Bool} {rest : List Expr} (ha : PT X a (SemB g E f)) (hb : PW X (.BoolOp .Or (b :: rest) pos) (SemB g E h)) : PW X (.BoolOp .Or (a :: b :: rest) pos) (SemB g E (bOr f h)) := by
  refine pw_mono (pw_or ha hb) fun σ H Q q => ?_
  refine semB_seq (k := fun b δ s => if b = true then .ok true s else h δ s) (t := fun b σ H Q => if b = true then Q true H else SemB g E h σ H Q) (fun b σ H Q q => ?_) σ H Q q
  cases b with
  | false => exact q
  | true => obtain ⟨ex, ι, st, δ, at_, q⟩ := q; exact q H ι at_.good (.refl _ _)
theorem st_not {f : Ev Bool} (ha : PT X a (SemB g E f)) : PT X (.UnaryOp .Not a pos) (SemB g E (bNot f)) := by
  refine pt_mono (pt_not ha) fun σ H Q q => ?_
  refine semB_seq (k := fun b δ s => .ok (!b) s) (t := fun b σ H Q => Q (!b) H) (fun b σ H Q q => ?_) σ H Q q
  obtain ⟨ex, ι, st, δ, at_, q⟩ := q; exact q H ι at_.good (.refl _ _)
/-- .. as values -/
def vAnd (f h : Ev D) : Ev D := fun δ st => (f δ st).bnd fun d s => match d with
  | .p (.bl true) => h δ s
  | .p (.bl false) => .ok (.p (.bl false)) s
  | _ => .bad
def vOr (f h : Ev D) : Ev D := fun δ st => (f δ st).bnd fun d s => match d with
  | .p (.bl true) => .ok (.p (.bl true)) s
  | .p (.bl false) => h δ s
  | _ => .bad
def vNot (f : Ev D) : Ev D := fun δ st => (f δ st).bnd fun d s => match d with
  | .p (.bl b) => .ok (.p (.bl (!b))) s
  | _ => .bad
theorem se_one {op} {f : Ev D} (h : PE X a (SemE g E f)) : PE X (.BoolOp op [a] pos) (SemE g E f) := pe_one h
/-- a bool's value, then what follows -/
theorem semE_bool {f : Ev D} {k : D → Ev D} {t : Bool → TE} (hk : ∀ d δ st, (∀ b, d ≠ .p (.bl b)) → k d δ st = .bad) (ht : ∀ b σ H Q, SemE g E (k (.p (.bl b))) σ H Q → t b σ H Q) : ∀ σ H Q, SemE g E (fun δ st => (f δ st).bnd fun d s => k d δ s) σ H Q →
    SemE g E f σ H fun x H1 => ∃ b, x = .bl b ∧ t b σ H1 Q := by
  rintro σ H Q ⟨ex, ι, st, δ, at_, h⟩
  refine semE_bnd at_ ?_
  dsimp only at h
  cases ea : f δ st with
  | bad => rw [ea] at h; exact h
  | exc c s1 => rw [ea] at h; exact h
  | ok x s1 =>
    rw [ea] at h
    intro v H1 ι1 at1 x1 r1
    simp only [Res.bnd] at h
    have no : (∀ b, x ≠ .p (.bl b)) → False := fun z => by rw [hk x δ s1 z] at h; exact h
    cases r1 with
    | ref _ => exact (no fun b z => by cases z).elim
    | p r1 =>
      cases r1 with
      | bl b => exact ⟨b, rfl, ht b σ H1 Q ⟨ex, ι1, s1, δ, at1, Post.ext x1 h⟩⟩
      | _ => exact (no fun b z => by cases z).elim
theorem se_and {f h : Ev D} {rest : List Expr} (ha : PE X a (SemE g E f)) (hb : PE X (.BoolOp .And (b :: rest) pos) (SemE g E h)) : PE X (.BoolOp .And (a :: b :: rest) pos) (SemE g E (vAnd f h)) := by
  refine pe_mono (pe_and ha hb) fun σ H Q q => ?_
  refine semE_bool (k := fun d δ s => match d with | .p (.bl true) => h δ s | .p (.bl false) => .ok (.p (.bl false)) s | _ => .bad) (t := fun b σ H Q => if b = true then SemE g E h σ H Q else Q (.bl false) H) (fun d δ st z => ?_) (fun b σ H Q q => ?_) σ H Q q
  · split
    · exact absurd rfl (z true)
    · exact absurd rfl (z false)
    · rfl
  · cases b with
    | true => exact q
    | false => obtain ⟨ex, ι, st, δ, at_, q⟩ := q; exact q _ H ι at_.good (.refl _ _) (.p (.bl false))
theorem se_or {f h : Ev D} {rest : List Expr} (ha : PE X a (SemE g E f)) (hb : PE X (.BoolOp .Or (b :: rest) pos) (SemE g E h)) : PE X (.BoolOp .Or (a :: b :: rest) pos) (SemE g E (vOr f h)) := by
  refine pe_mono (pe_or ha hb) fun σ H Q q => ?_
  refine semE_bool (k := fun d δ s => match d with | .p (.bl true) => .ok (.p (.bl true)) s | .p (.bl false) => h δ s | _ => .bad) (t := fun b σ H Q => if b = true then Q (.bl true) H else SemE g E h σ H Q) (fun d δ st z => ?_) (fun b σ H Q q => ?_) σ H Q q
  · split
    · exact absurd rfl (z true)
    · exact absurd rfl (z false)
    · rfl
  · cases b with
    | false => exact q
    | true => obtain ⟨ex, ι, st, δ, at_, q⟩ := q; exact q _ H ι at_.good (.refl _ _) (.p (.bl true))
theorem se_not {f : Ev D} (ha : PE X a (SemE g E f)) : PE X (.UnaryOp .Not a pos) (SemE g E (vNot f)) := by
  refine pe_mono (pe_not ha) fun σ H Q q => ?_
  refine semE_bool (k := fun d δ s => match d with | .p (.bl b) => .ok (.p (.bl (!b))) s | _ => .bad) (t := fun b σ H Q => Q (.bl (!b)) H) (fun d δ st z => ?_) (fun b σ H Q q => ?_) σ H Q q
  · split
    · rename_i b; exact absurd rfl (z b)
    · rfl
  · obtain ⟨ex, ι, st, δ, at_, q⟩ := q; exact q _ H ι at_.good (.refl _ _) (.p (.bl _))
/-- a if t else b -/
def vIf (t : Ev Bool) (f h : Ev D) : Ev D := fun δ st => (t δ st).bnd fun b s => if b = true then f δ s else h δ s
theorem se_if {t : Ev Bool} {f h : Ev D} (hc : PT X c (SemB g E t)) (ha : PE X a (SemE g E f)) (hb : PE X b (SemE g E h)) : PE X (.IfExp c a b pos) (SemE g E (vIf t f h)) := by
  refine pe_mono (pe_ifExp hc ha hb) fun σ H Q ⟨ex, ι, st, δ, at_, h⟩ => ?_
  refine semB_bnd at_ ?_
  unfold vIf at h
  cases ea : t δ st with
  | bad => rw [ea] at h; exact h
  | exc c s1 => rw [ea] at h; exact h
  | ok x s1 =>
    rw [ea] at h
    intro H1 ι1 at1 x1
    have h := Post.ext x1 h
    cases x with
    | true => exact ⟨ex, ι1, s1, δ, at1, h⟩
    | false => exact ⟨ex, ι1, s1, δ, at1, h⟩
/-! ### argument lists -/
def aN : Ev (List D) := fun _ st => .ok [] st
def aC (f : Ev D) (r : Ev (List D)) : Ev (List D) := fun δ st => (f δ st).bnd fun d s => (r δ s).bnd fun ds s2 => .ok (d :: ds) s2
theorem sa_nil : PA X [] (SemA g E aN) := pa_mono pa_nil fun σ H Q ⟨ex, ι, st, δ, at_, h⟩ => h [] H ι at_.good (.refl _ _) .nil
theorem sa_cons {es : List Expr} {f : Ev D} {r : Ev (List D)} (ha : PE X e (SemE g E f)) (hr : PA X es (SemA g E r)) (hs : starEach (e :: es) X.env = (false, eval e X.env) :: starEach es X.env := by rfl) : PA X (e :: es) (SemA g E (aC f r)) := by
  refine pa_mono (pa_cons ha hr hs) fun σ H Q ⟨ex, ι, st, δ, at_, h⟩ => ?_
  refine semE_bnd at_ ?_
  unfold aC at h
  cases ea : f δ st with
  | bad => rw [ea] at h; exact h
  | exc c s1 => rw [ea] at h; exact h
  | ok x s1 =>
    rw [ea] at h
    intro v H1 ι1 at1 x1 r1
    refine semA_bnd at1 ?_
    have h := PostA.ext x1 h
    simp only [Res.bnd] at h
    cases eb : r δ s1 with
    | bad => rw [eb] at h; exact h
    | exc c s2 => rw [eb] at h; exact h
    | ok ys s2 =>
      rw [eb] at h
      intro vs H2 ι2 at2 x2 r2
      exact PostA.ext x2 h (v :: vs) H2 ι2 at2.good (.refl _ _) (.cons (r1.ext x2) r2)
end
end Iv
end

section
set_option Elab.async false
set_option linter.all false
set_option maxRecDepth 100000
set_option maxHeartbeats 4100000
namespace Iv
open PySem PySem.Spec PyProof.Rows L2 Gx

/-! ### data -/
mutual
def P.toD : P → PyData
  | .non => .none
  | .bl b => .bool b
  | .int i => .int i
  | .str x => .str x
  | .tup xs => .tuple (P.toDs xs)
  | .lst xs => .list (P.toDs xs)
  | .scr xs => .list (P.toDs xs)
  | .dct _ => .dict []
  | .dcT _ => .dict []
  | .obj _ _ => .dict []
  | .lam _ => .dict []
def P.toDs : List P → List PyData
  | [] => []
  | x :: xs => x.toD :: P.toDs xs
end
mutual
theorem Rp.dp {g : GL} {H : Hp} {ι : List Addr} : ∀ {v : V} {x : P}, Rp g (Fz H ι) v x → x.toD.canLay0 = true → Dp g.K H v x.toD
  | _, _, .non, _ => .non
  | _, _, .bl b, _ => .bl b
  | _, _, .int i, _ => .int i
  | _, _, .str x, _ => .str x
  | _, _, .tup h r, c => .tup (sqT_of_fz (.inl (.inl h))) (Rps.dp r (by simpa only [P.toD, PyData.canLay0] using c))
  | _, _, .lst h r, c => .lst (.inl (.inl (Fz.lst h))) (Rps.dp r (by simpa only [P.toD, PyData.canLay0] using c))
  | _, _, .scr h r, c => .lst (sqL_of_fz h) (Rps.dp r (by simpa only [P.toD, PyData.canLay0] using c))
  | _, _, .dK _ _, c => by simp only [P.toD, PyData.canLay0] at c; cases c
  | _, _, .dT _ _, c => by simp only [P.toD, PyData.canLay0] at c; cases c
  | _, _, .obj _ _, c => by simp only [P.toD, PyData.canLay0] at c; cases c
  | _, _, .lam _ _ _, c => by simp only [P.toD, PyData.canLay0] at c; cases c
theorem Rps.dp {g : GL} {H : Hp} {ι : List Addr} : ∀ {vs : List V} {xs : List P}, Rps g (Fz H ι) vs xs → PyData.canLayAll0 (P.toDs xs) = true → DpAll g.K H vs (P.toDs xs)
  | _, _, .nil, _ => .nil
  | _, _, .cons r t, c => by
    simp only [P.toDs, PyData.canLayAll0, Bool.and_eq_true] at c
    exact .cons (Rp.dp r c.1) (Rps.dp t c.2)
end

/-- data as it stands -/
def pOf : D → Option P
  | .p x => some x
  | .ref _ => none
def pAll : List D → Option (List P)
  | [] => some []
  | .p x :: ds => (pAll ds).map (x :: ·)
  | .ref _ :: _ => none
def pKs : List (Key × D) → Option (List (P × P))
  | [] => some []
  | (k, .p x) :: ds => (pKs ds).map ((kP k, x) :: ·)
  | (_, .ref _) :: _ => none
def pTs : List (List Key × D) → Option (List (P × P))
  | [] => some []
  | (k, .p x) :: ds => (pTs ds).map ((P.tup (k.map kP), x) :: ·)
  | (_, .ref _) :: _ => none
def pFs : List (Str × D) → Option (List (Str × P))
  | [] => some []
  | (k, .p x) :: ds => (pFs ds).map ((k, x) :: ·)
  | (_, .ref _) :: _ => none
def seeC : Cell → Option P
  | .lst ds => (pAll ds).map .lst
  | .dK ds => (pKs ds).map .dct
  | .dT ds => (pTs ds).map .dcT
  | .fK ds => (pKs ds).map .dct
  | .fT ds => (pTs ds).map .dcT
  | .obj c ds => (pFs ds).map (.obj c)
def see (st : Store) : D → Option P
  | .p x => some x
  | .ref n => match st[n]? with
    | some c => seeC c
    | none => none
section
variable {g : GL} {ι : List Addr} {st : Store} {H F : Hp}
theorem rps_of : ∀ {vs : List V} {ds : List D} {xs : List P}, RDs g F ι vs ds → pAll ds = some xs → Rps g F vs xs
  | _, _, _, .nil, e => by cases e; exact .nil
  | _, _, _, .cons (.p r) t, e => by
    simp only [pAll, Option.map_eq_some_iff] at e
    obtain ⟨ys, e1, rfl⟩ := e
    exact .cons r (rps_of t e1)
  | _, _, _, .cons (.ref _) t, e => by cases e
theorem rpk_of : ∀ {vs : List (Key × V)} {ds : List (Key × D)} {xs : List (P × P)}, Paired (fun (a : Key × V) (b : Key × D) => a.1 = b.1 ∧ RD g F ι a.2 b.2) vs ds → pKs ds = some xs → RpK g F vs xs
  | _, _, _, .nil, e => by cases e; exact .nil
  | (k, v) :: _, (k', d) :: _, _, .cons ⟨e0, r⟩ t, e => by
    cases e0
    cases r with
    | ref _ => cases e
    | p r =>
      simp only [pKs, Option.map_eq_some_iff] at e
      obtain ⟨ys, e1, rfl⟩ := e
      exact .cons r (rpk_of t e1)
theorem rpt_of : ∀ {vs : List (List Key × V)} {ds : List (List Key × D)} {xs : List (P × P)}, Paired (fun (a : List Key × V) (b : List Key × D) => a.1 = b.1 ∧ RD g F ι a.2 b.2) vs ds → pTs ds = some xs → RpT g F vs xs
  | _, _, _, .nil, e => by cases e; exact .nil
  | (k, v) :: _, (k', d) :: _, _, .cons ⟨e0, r⟩ t, e => by
    cases e0
    cases r with
    | ref _ => cases e
    | p r =>
      simp only [pTs, Option.map_eq_some_iff] at e
      obtain ⟨ys, e1, rfl⟩ := e
      exact .cons r (rpt_of t e1)
theorem rpf_of : ∀ {vs : List (Str × V)} {ds : List (Str × D)} {xs : List (Str × P)}, Paired (fun (a : Str × V) (b : Str × D) => a.1 = b.1 ∧ RD g F ι a.2 b.2) vs ds → pFs ds = some xs → RpF g F vs xs
  | _, _, _, .nil, e => by cases e; exact .nil
  | (k, v) :: _, (k', d) :: _, _, .cons ⟨e0, r⟩ t, e => by
    cases e0
    cases r with
    | ref _ => cases e
    | p r =>
      simp only [pFs, Option.map_eq_some_iff] at e
      obtain ⟨ys, e1, rfl⟩ := e
      exact .cons r (rpf_of t e1)
theorem fz_all : Sub (Fz H (g.x ι)) (Fz H []) := fun b o e => by
  obtain ⟨_, u, h1, h2⟩ := Fz.at e
  exact Fz.mk (by simp) h1 h2
theorem RD.see (G : Good g ι st H) {v : V} {d : D} {x : P} (r : RD g (Fz H (g.x ι)) ι v d) (e : see st d = some x) : Rp g (Fz H []) v x := by
  cases r with
  | p r => cases e; exact r.sub fz_all
  | ref h =>
    obtain ⟨c, u, h1, h2, rc⟩ := G.cell' h
    simp only [Iv.see, h1] at e
    cases rc with
    | lst q =>
      simp only [seeC, Option.map_eq_some_iff] at e
      obtain ⟨ys, e1, rfl⟩ := e
      exact .lst (Fz.mk (by simp) h2 rfl) ((rps_of q e1).sub fz_all)
    | dK q =>
      simp only [seeC, Option.map_eq_some_iff] at e
      obtain ⟨ys, e1, rfl⟩ := e
      exact .dK (Fz.mk (by simp) h2 rfl) ((rpk_of q e1).sub fz_all)
    | dT q =>
      simp only [seeC, Option.map_eq_some_iff] at e
      obtain ⟨ys, e1, rfl⟩ := e
      exact .dT (Fz.mk (by simp) h2 rfl) ((rpt_of q e1).sub fz_all)
    | fK q =>
      simp only [seeC, Option.map_eq_some_iff] at e
      obtain ⟨ys, e1, rfl⟩ := e
      exact .dK (Fz.mk (by simp) h2 rfl) ((rpk_of q e1).sub fz_all)
    | fT q =>
      simp only [seeC, Option.map_eq_some_iff] at e
      obtain ⟨ys, e1, rfl⟩ := e
      exact .dT (Fz.mk (by simp) h2 rfl) ((rpt_of q e1).sub fz_all)
    | obj q =>
      simp only [seeC, Option.map_eq_some_iff] at e
      obtain ⟨ys, e1, rfl⟩ := e
      exact .obj (Fz.mk (by simp) h2 rfl) ((rpf_of q e1).sub fz_all)
theorem Rps.length {vs : List V} {xs : List P} (h : Rps g F vs xs) : vs.length = xs.length := by
  induction vs generalizing xs with
  | nil => cases h; rfl
  | cons v vs ih =>
    cases h with
    | cons _ t => simp [ih t]
theorem Rps.app : ∀ {vs ws : List V} {xs ys : List P}, Rps g F vs xs → Rps g F ws ys → Rps g F (vs ++ ws) (xs ++ ys)
  | _, _, _, _, .nil, q => q
  | _, _, _, _, .cons r t, q => .cons r (t.app q)
theorem Rps.get : ∀ {vs : List V} {xs : List P} {i : Nat} {v : V}, Rps g F vs xs → vs[i]? = some v → ∃ x, xs[i]? = some x ∧ Rp g F v x
  | _, _, _, _, .nil, h => by simp at h
  | _, _, 0, _, .cons r t, h => by simp at h; subst h; exact ⟨_, rfl, r⟩
  | _, _, i + 1, _, .cons r t, h => by
    obtain ⟨y, a, b⟩ := t.get (i := i) (by simpa using h)
    exact ⟨y, by simpa using a, b⟩
theorem Rps.get' : ∀ {vs : List V} {xs : List P} {i : Nat} {x : P}, Rps g F vs xs → xs[i]? = some x → ∃ v, vs[i]? = some v ∧ Rp g F v x
  | _, _, _, _, .nil, h => by simp at h
  | _, _, 0, _, .cons r t, h => by simp at h; subst h; exact ⟨_, rfl, r⟩
  | _, _, i + 1, _, .cons r t, h => by
    obtain ⟨y, a, b⟩ := t.get' (i := i) (by simpa using h)
    exact ⟨y, by simpa using a, b⟩
theorem Rps.drop {vs : List V} {xs : List P} : ∀ (n : Nat), Rps g F vs xs → Rps g F (vs.drop n) (xs.drop n)
  | 0, h => h
  | n + 1, .nil => .nil
  | n + 1, .cons _ t => t.drop n
theorem Rps.take {vs : List V} {xs : List P} : ∀ (n : Nat), Rps g F vs xs → Rps g F (vs.take n) (xs.take n)
  | 0, h => by simpa using .nil
  | n + 1, .nil => .nil
  | n + 1, .cons r t => .cons r (t.take n)
theorem Rps.rep {vs : List V} {xs : List P} (h : Rps g F vs xs) : ∀ n : Nat, Rps g F (List.replicate n vs).flatten (List.replicate n xs).flatten
  | 0 => .nil
  | n + 1 => by
    simp only [List.replicate_succ, List.flatten_cons]
    exact h.app (h.rep n)
theorem Rps.rev {vs : List V} {xs : List P} (h : Rps g F vs xs) : Rps g F vs.reverse xs.reverse := by
  induction vs generalizing xs with
  | nil => cases h; exact .nil
  | cons v vs ih =>
    cases h with
    | cons r t => simp only [List.reverse_cons]; exact (ih t).app (.cons r .nil)
end

/-! ### what the operators compute -/
theorem OpR.or {X : Cx} {f : Value → Value → Sem Value} {r r' : R2} (h : OpR X f r) (h' : OpR X f r') : OpR X f (fun x y H Q => r x y H Q ∨ r' x y H Q) :=
  fun pins s σ H x y v u Q I rx ry q => q.elim (h pins s σ H x y v u Q I rx ry) (h' pins s σ H x y v u Q I rx ry)
/-- f as a rule -/
def rSem (g : GL) (f : D → D → Store → Res D) : R2 := fun x y H Q => ∃ ex ι st dx dy, Good (g.wx ex) ι st H ∧ RD (g.wx ex) (Fz H ((g.wx ex).x ι)) ι x dx ∧ RD (g.wx ex) (Fz H ((g.wx ex).x ι)) ι y dy ∧ ∃ d st', f dx dy st = .ok d st' ∧ ∀ v H' ι', Good (g.wx ex) ι' st' H' → Ext (g.wx ex) H ι H' ι' → RD (g.wx ex) (Fz H' ((g.wx ex).x ι')) ι' v d → Q v H'
/-- f never raises -/
def NoX (f : D → D → Store → Res D) : Prop := ∀ x y st c s, f x y st ≠ .exc c s
theorem opSem_of {g : GL} {f : D → D → Store → Res D} (n : NoX f) : OpSem g (rSem g f) f := by
  intro ex H ι st x y dx dy E Q G rx ry h
  refine ⟨ex, ι, st, dx, dy, G, rx, ry, ?_⟩
  cases e : f dx dy st with
  | bad => rw [e] at h; exact h.elim
  | exc c s => exact (n _ _ _ _ _ e).elim
  | ok d s => rw [e] at h; exact ⟨d, s, rfl, h⟩
structure CxK (X : Cx) (g : GL) : Prop where
  K : X.K = g.K
  u : X.A.units + 130 < cLine
def smallI (i : Int) : Bool := decide (-18446744073709551616 < i) && decide (i < 18446744073709551616)
def mulOk (i j : Int) : Bool := smallI i || smallI j
theorem cmul {i j : Int} (h : mulOk i j = true) : CMul i j := by
  unfold mulOk smallI at h
  unfold CMul
  simp only [Bool.or_eq_true, Bool.and_eq_true, decide_eq_true_eq] at h
  omega
def szLine : Nat := 1000000
theorem szLine_le : szLine ≤ sizeLine := by decide
def oAdd (x y : D) (st : Store) : Res D := match x, y with
  | .p (.int i), .p (.int j) => .ok (.p (.int (i + j))) st
  | _, _ => match see st x, see st y with
    | some (.str a), some (.str b) => if a.length + b.length ≤ szLine then .ok (.p (.str (a ++ b))) st else .bad
    | some (.tup a), some (.tup b) => if a.length + b.length ≤ szLine then .ok (.p (.tup (a ++ b))) st else .bad
    | some (.lst a), some (.lst b) => if a.length + b.length ≤ szLine then .ok (.p (.lst (a ++ b))) st else .bad
    | _, _ => .bad
def oSub (x y : D) (st : Store) : Res D := match x, y with
  | .p (.int i), .p (.int j) => .ok (.p (.int (i - j))) st
  | _, _ => .bad
def oMul (x y : D) (st : Store) : Res D := match x, y with
  | .p (.int i), .p (.int j) => if mulOk i j = true then .ok (.p (.int (i * j))) st else .bad
  | _, .p (.int k) => match see st x with
    | some (.lst a) => if k < 1000000 ∧ -1000000 < k ∧ a.length * k.toNat ≤ szLine then .ok (.p (.lst (List.replicate k.toNat a).flatten)) st else .bad
    | some (.tup a) => if 2 ≤ k ∧ k ≤ 1000 ∧ a.length ≤ 1000 ∧ a ≠ [] then .ok (.p (.tup (List.replicate k.toNat a).flatten)) st else .bad
    | _ => .bad
  | _, _ => .bad
def oDiv (x y : D) (st : Store) : Res D := match x, y with
  | .p (.int i), .p (.int j) => if 0 < j ∧ j.natAbs.log2 < 9000 then .ok (.p (.int (i / j))) st else .bad
  | _, _ => .bad
def oMod (x y : D) (st : Store) : Res D := match x, y with
  | .p (.int i), .p (.int j) => if 0 < j then .ok (.p (.int (i % j))) st else .bad
  | _, _ => .bad
def oPow (x y : D) (st : Store) : Res D := match x, y with
  | .p (.int i), .p (.int j) => if 0 ≤ j ∧ j ≤ 1000000 ∧ smallI i = true then .ok (.p (.int (i ^ j.toNat))) st else .bad
  | _, _ => .bad
def pEq (x y : P) : Option Bool := match x, y with
  | .int i, .int j => some (decide (i = j))
  | _, _ => if SeqAt.shaped x.toD = true ∧ SeqAt.shaped y.toD = true then some (PyData.eqv x.toD y.toD) else none
def oEq (neg : Bool) (x y : D) (st : Store) : Res D := match see st x, see st y with
  | some a, some b => match pEq a b with
    | some k => .ok (.p (.bl (if neg = true then !k else k))) st
    | none => .bad
  | _, _ => .bad
def oIs (neg : Bool) (x y : D) (st : Store) : Res D := match y with
  | .p .non => match x with
    | .p .non => .ok (.p (.bl (!neg))) st
    | _ => .ok (.p (.bl neg)) st
  | _ => .bad
/-- the order of data: 0 <, 1 <=, 2 >, 3 >= -/
inductive OK where | lt | le | gt | ge
def ordI (k : OK) (i j : Int) : Bool := match k with
  | .lt => decide (i < j) | .le => decide (i ≤ j) | .gt => decide (j < i) | .ge => decide (j ≤ i)
def ordD (k : OK) (x y : PyData) : Bool := match k with
  | .lt => PySem.W.dataLt x y | .le => !PySem.W.dataLt y x | .gt => PySem.W.dataLt y x | .ge => !PySem.W.dataLt x y
def isNon : PyData → Bool
  | .none => true
  | _ => false
def oOrd (k : OK) (x y : D) (st : Store) : Res D := match x, y with
  | .p (.int i), .p (.int j) => .ok (.p (.bl (ordI k i j))) st
  | _, _ => match see st x, see st y with
    | some a, some b => if SeqAt.shaped a.toD = true ∧ SeqAt.shaped b.toD = true ∧ PySem.W.alike a.toD b.toD = true ∧ isNon a.toD = false then .ok (.p (.bl (ordD k a.toD b.toD))) st else .bad
    | _, _ => .bad
end Iv
end

section
set_option Elab.async false
set_option linter.all false
set_option maxRecDepth 100000
set_option maxHeartbeats 4100000
namespace Iv
open PySem PySem.Spec PyProof.Rows L2 Gx
section
variable {X : Cx} {g : GL} {ι : List Addr} {st : Store} {H F : Hp}
theorem noX_add : NoX oAdd := by intro x y st c s e; unfold oAdd at e; repeat' split at e
                                 all_goals cases e
theorem noX_sub : NoX oSub := by intro x y st c s e; unfold oSub at e; repeat' split at e
                                 all_goals cases e
theorem noX_mul : NoX oMul := by intro x y st c s e; unfold oMul at e; repeat' split at e
                                 all_goals cases e
theorem noX_div : NoX oDiv := by intro x y st c s e; unfold oDiv at e; repeat' split at e
                                 all_goals cases e
theorem noX_mod : NoX oMod := by intro x y st c s e; unfold oMod at e; repeat' split at e
                                 all_goals cases e
theorem noX_pow : NoX oPow := by intro x y st c s e; unfold oPow at e; repeat' split at e
                                 all_goals cases e
theorem noX_eq {n} : NoX (oEq n) := by intro x y st c s e; unfold oEq at e; repeat' split at e
                                       all_goals cases e
theorem noX_is {n} : NoX (oIs n) := by intro x y st c s e; unfold oIs at e; repeat' split at e
                                       all_goals cases e
theorem noX_ord {n} : NoX (oOrd n) := by intro x y st c s e; unfold oOrd at e; repeat' split at e
                                         all_goals cases e
theorem RD.intI {x : V} {i : Int} (r : RD g F ι x (.p (.int i))) : x = .int i := by cases r with | p r => cases r; rfl
theorem see_lst (G : Good g ι st H) {v : V} {d : D} {xs : List P} (r : RD g (Fz H (g.x ι)) ι v d) (e : see st d = some (.lst xs)) : ∃ a vs, v = .ref a ∧ H a = some (.lst vs) ∧ Rps g (Fz H (g.x ι)) vs xs := by
  cases r with
  | p r =>
    cases e
    cases r with
    | lst h q => exact ⟨_, _, rfl, Fz.lst h, q⟩
  | ref h =>
    obtain ⟨c, u, h1, h2, rc⟩ := G.cell' h
    simp only [Iv.see, h1] at e
    cases rc with
    | lst q =>
      simp only [seeC, Option.map_eq_some_iff] at e
      obtain ⟨ys, e1, e2⟩ := e
      cases e2
      exact ⟨_, _, rfl, h2, rps_of q e1⟩
    | dK q =>
      simp only [seeC, Option.map_eq_some_iff] at e
      obtain ⟨ys, e1, e2⟩ := e
      cases e2
    | dT q =>
      simp only [seeC, Option.map_eq_some_iff] at e
      obtain ⟨ys, e1, e2⟩ := e
      cases e2
    | fK q =>
      simp only [seeC, Option.map_eq_some_iff] at e
      obtain ⟨ys, e1, e2⟩ := e
      cases e2
    | fT q =>
      simp only [seeC, Option.map_eq_some_iff] at e
      obtain ⟨ys, e1, e2⟩ := e
      cases e2
    | obj q =>
      simp only [seeC, Option.map_eq_some_iff] at e
      obtain ⟨ys, e1, e2⟩ := e
      cases e2
theorem see_p (G : Good g ι st H) {v : V} {d : D} {x : P} (r : RD g (Fz H (g.x ι)) ι v d) (e : see st d = some x) (n : match x with | .lst _ | .dct _ | .dcT _ | .obj _ _ => False | _ => True) : Rp g (Fz H (g.x ι)) v x := by
  cases r with
  | p r => cases e; exact r
  | ref h =>
    obtain ⟨c, u, h1, h2, rc⟩ := G.cell' h
    simp only [Iv.see, h1] at e
    cases rc with
    | lst q =>
      simp only [seeC, Option.map_eq_some_iff] at e
      obtain ⟨ys, e1, e2⟩ := e
      cases e2
      exact n.elim
    | dK q =>
      simp only [seeC, Option.map_eq_some_iff] at e
      obtain ⟨ys, e1, e2⟩ := e
      cases e2
      exact n.elim
    | dT q =>
      simp only [seeC, Option.map_eq_some_iff] at e
      obtain ⟨ys, e1, e2⟩ := e
      cases e2
      exact n.elim
    | fK q =>
      simp only [seeC, Option.map_eq_some_iff] at e
      obtain ⟨ys, e1, e2⟩ := e
      cases e2
      exact n.elim
    | fT q =>
      simp only [seeC, Option.map_eq_some_iff] at e
      obtain ⟨ys, e1, e2⟩ := e
      cases e2
      exact n.elim
    | obj q =>
      simp only [seeC, Option.map_eq_some_iff] at e
      obtain ⟨ys, e1, e2⟩ := e
      cases e2
      exact n.elim
theorem see_tup (G : Good g ι st H) {v : V} {d : D} {xs : List P} (r : RD g (Fz H (g.x ι)) ι v d) (e : see st d = some (.tup xs)) : ∃ a vs, v = .ref a ∧ Fz H (g.x ι) a = some (.tup vs) ∧ Rps g (Fz H (g.x ι)) vs xs := by
  have q := see_p G r e trivial
  cases q with
  | tup h q => exact ⟨_, _, rfl, h, q⟩
theorem see_scr (G : Good g ι st H) {v : V} {d : D} {xs : List P} (r : RD g (Fz H (g.x ι)) ι v d) (e : see st d = some (.scr xs)) : ∃ a vs, v = .ref a ∧ SqL g.K H a vs ∧ Rps g (Fz H (g.x ι)) vs xs := by
  have q := see_p G r e trivial
  cases q with
  | scr h q => exact ⟨_, _, rfl, sqL_of_fz h, q⟩
theorem see_str (G : Good g ι st H) {v : V} {d : D} {x : Str} (r : RD g (Fz H (g.x ι)) ι v d) (e : see st d = some (.str x)) : v = .str x := by
  have q := see_p G r e trivial
  cases q; rfl
theorem see_int (G : Good g ι st H) {v : V} {d : D} {x : Int} (r : RD g (Fz H (g.x ι)) ι v d) (e : see st d = some (.int x)) : v = .int x := by
  have q := see_p G r e trivial
  cases q; rfl
/-- a list's or a tuple's items, as they stand -/
def seeSq (st : Store) (d : D) : Option (List P) := match see st d with
  | some (.lst xs) => some xs
  | some (.tup xs) => some xs
  | some (.scr xs) => some xs
  | _ => none
/-- new data -/
theorem new_data {p : Addr} {o : HO} {Q : VK} {x : P} (G : Good g ι st H) (hp : H p = none) (q : ∀ v H' ι', Good g ι' st H' → Ext g H ι H' ι' → RD g (Fz H' (g.x ι')) ι' v (.p x) → Q v H')
    (s : strip o = some o) (r : ∀ F', Sub (Fz H (g.x ι)) F' → F' p = some o → Rp g F' (.ref p) x) : Q (.ref p) (upd H p o) := by
  obtain ⟨G', x'⟩ := good_new (o := o) G hp
  exact q _ _ ι G' x' (.p (r _ x'.keep (fz_new G hp s)))
theorem or_add (k : CxK X g) : OpR X (binaryOp .Add) (rSem g oAdd) := by
  rintro pins s σ H x y v u Q I rx ry ⟨ex, ι, st, dx, dy, G, r1, r2, d, st', e, q⟩
  have kk : X.K = (g.wx ex).K := k.K
  unfold oAdd at e
  split at e
  · cases e
    obtain rfl := r1.intI
    obtain rfl := r2.intI
    exact op_add pins s σ H _ _ v u Q I rx ry ⟨_, _, rfl, rfl, q _ H ι G (.refl _ _) (.p (.int _))⟩
  · split at e
    · rename_i h1 h2
      split at e
      · cases e
        obtain rfl := see_str G r1 h1
        obtain rfl := see_str G r2 h2
        exact op_add_str pins s σ H _ _ v u Q I rx ry ⟨_, _, rfl, rfl, Nat.le_trans ‹_› szLine_le, q _ H ι G (.refl _ _) (.p (.str _))⟩
      · cases e
    · rename_i h1 h2
      split at e
      · rename_i hl
        cases e
        obtain ⟨a, vs, rfl, ha, qa⟩ := see_tup G r1 h1
        obtain ⟨b, ws, rfl, hb, qb⟩ := see_tup G r2 h2
        refine op_catA pins s σ H _ _ v u Q I rx ry ⟨_, _, vs, ws, rfl, rfl, kk ▸ sqT_of_fz (.inl (.inl ha)), kk ▸ sqT_of_fz (.inl (.inl hb)), Nat.le_trans (by rw [qa.length, qb.length]; exact hl) szLine_le, fun e => ?_, fun _ e => ?_, fun _ _ p hp => ?_⟩
        · subst e; cases qa; exact q _ H ι G (.refl _ _) (.p (.tup hb qb))
        · subst e; cases qb; exact q _ H ι G (.refl _ _) (.p (.tup ha (by rw [List.append_nil]; exact qa)))
        · exact new_data G hp q rfl fun F' s' e => .tup e ((Rps.sub s' qa).app (Rps.sub s' qb))
      · cases e
    · rename_i h1 h2
      split at e
      · rename_i hl
        cases e
        obtain ⟨a, vs, rfl, ha, qa⟩ := see_lst G r1 h1
        obtain ⟨b, ws, rfl, hb, qb⟩ := see_lst G r2 h2
        refine op_cat pins s σ H _ _ v u Q I rx ry ⟨_, _, vs, ws, rfl, rfl, ha, hb, Nat.le_trans (by rw [qa.length, qb.length]; exact hl) szLine_le, fun p hp => ?_⟩
        exact new_data G hp q rfl fun F' s' e => .lst e ((Rps.sub s' qa).app (Rps.sub s' qb))
      · cases e
    · cases e
theorem or_sub : OpR X (binaryOp .Sub) (rSem g oSub) := by
  rintro pins s σ H x y v u Q I rx ry ⟨ex, ι, st, dx, dy, G, r1, r2, d, st', e, q⟩
  unfold oSub at e
  split at e
  · cases e
    obtain rfl := r1.intI
    obtain rfl := r2.intI
    exact op_sub pins s σ H _ _ v u Q I rx ry ⟨_, _, rfl, rfl, q _ H ι G (.refl _ _) (.p (.int _))⟩
  · cases e
theorem or_mul (k : CxK X g) : OpR X (binaryOp .Mult) (rSem g oMul) := by
  rintro pins s σ H x y v u Q I rx ry ⟨ex, ι, st, dx, dy, G, r1, r2, d, st', e, q⟩
  have kk : X.K = (g.wx ex).K := k.K
  unfold oMul at e
  split at e
  · split at e
    · cases e
      obtain rfl := r1.intI
      obtain rfl := r2.intI
      exact op_mul pins s σ H _ _ v u Q I rx ry ⟨_, _, rfl, rfl, cmul ‹_›, q _ H ι G (.refl _ _) (.p (.int _))⟩
    · cases e
  · obtain rfl := r2.intI
    split at e
    · rename_i h1
      split at e
      · rename_i hl
        cases e
        obtain ⟨a, vs, rfl, ha, qa⟩ := see_lst G r1 h1
        refine op_rep pins s σ H _ _ v u Q I rx ry ⟨_, _, vs, rfl, rfl, ha, by omega, by omega, Nat.le_trans (by rw [qa.length]; exact hl.2.2) szLine_le, fun p hp => ?_⟩
        exact new_data G hp q rfl fun F' s' e => .lst e (Rps.rep (Rps.sub s' qa) _)
      · cases e
    · rename_i h1
      split at e
      · rename_i hl
        cases e
        obtain ⟨a, vs, rfl, ha, qa⟩ := see_tup G r1 h1
        refine op_repT pins s σ H _ _ v u Q I rx ry ⟨_, _, vs, rfl, rfl, kk ▸ sqT_of_fz (.inl (.inl ha)), fun z => ?_, hl.1, hl.2.1, by rw [qa.length]; exact hl.2.2.1, fun p hp => ?_⟩
        · subst z; cases qa; exact hl.2.2.2 rfl
        · exact new_data G hp q rfl fun F' s' e => .tup e (Rps.rep (Rps.sub s' qa) _)
      · cases e
    · cases e
  · cases e
theorem or_div : OpR X (binaryOp .FloorDiv) (rSem g oDiv) := by
  rintro pins s σ H x y v u Q I rx ry ⟨ex, ι, st, dx, dy, G, r1, r2, d, st', e, q⟩
  unfold oDiv at e
  split at e
  · split at e
    · cases e
      obtain rfl := r1.intI
      obtain rfl := r2.intI
      exact op_fdivW pins s σ H _ _ v u Q I rx ry ⟨_, _, rfl, rfl, ‹_›, q _ H ι G (.refl _ _) (.p (.int _))⟩
    · cases e
  · cases e
theorem or_mod : OpR X (binaryOp .Mod) (rSem g oMod) := by
  rintro pins s σ H x y v u Q I rx ry ⟨ex, ι, st, dx, dy, G, r1, r2, d, st', e, q⟩
  unfold oMod at e
  split at e
  · split at e
    · cases e
      obtain rfl := r1.intI
      obtain rfl := r2.intI
      exact op_mod pins s σ H _ _ v u Q I rx ry ⟨_, _, rfl, rfl, ‹_›, q _ H ι G (.refl _ _) (.p (.int _))⟩
    · cases e
  · cases e
theorem or_pow : OpR X (binaryOp .Pow) (rSem g oPow) := by
  rintro pins s σ H x y v u Q I rx ry ⟨ex, ι, st, dx, dy, G, r1, r2, d, st', e, q⟩
  unfold oPow at e
  split at e
  · split at e
    · rename_i h
      cases e
      obtain rfl := r1.intI
      obtain rfl := r2.intI
      refine op_pow pins s σ H _ _ v u Q I rx ry ⟨_, _, rfl, rfl, ⟨h.1, h.2.1, ?_⟩, q _ H ι G (.refl _ _) (.p (.int _))⟩
      have h := h.2.2
      unfold smallI at h
      rw [Bool.and_eq_true, decide_eq_true_eq, decide_eq_true_eq] at h
      omega
    · cases e
  · cases e
theorem dp_of {v : V} {d : D} {x : P} (G : Good g ι st H) (r : RD g (Fz H (g.x ι)) ι v d) (e : see st d = some x) (s : SeqAt.shaped x.toD = true) : Dp g.K H v x.toD := (r.see G e).dp (SeqAt.canLay_of_shaped s)
theorem pEq_spec {x y : P} {b : Bool} (h : pEq x y = some b) : SeqAt.shaped x.toD = true ∧ SeqAt.shaped y.toD = true ∧ PyData.eqv x.toD y.toD = b := by
  unfold pEq at h
  split at h
  · cases h
    refine ⟨rfl, rfl, ?_⟩
    simp only [P.toD, PyData.eqv]
    rfl
  · split at h
    · rename_i z; cases h; exact ⟨z.1, z.2, rfl⟩
    · cases h
theorem or_eq (k : CxK X g) : OpR X (compareOp .Eq) (rSem g (oEq false)) := by
  rintro pins s σ H x y v u Q I rx ry ⟨ex, ι, st, dx, dy, G, r1, r2, d, st', e, q⟩
  have kk : X.K = (g.wx ex).K := k.K
  unfold oEq at e
  split at e
  · split at e
    · rename_i h3
      obtain ⟨z1, z2, z3⟩ := pEq_spec h3
      cases e
      have hu := k.u
      exact op_eqD (by omega) pins s σ H _ _ v u Q I rx ry ⟨_, _, kk ▸ dp_of G r1 ‹_› z1, kk ▸ dp_of G r2 ‹_› z2, z1, z2, by rw [z3]; exact q _ H ι G (.refl _ _) (.p (.bl _))⟩
    · cases e
  · cases e
theorem or_ne (k : CxK X g) : OpR X (compareOp .NotEq) (rSem g (oEq true)) := by
  rintro pins s σ H x y v u Q I rx ry ⟨ex, ι, st, dx, dy, G, r1, r2, d, st', e, q⟩
  have kk : X.K = (g.wx ex).K := k.K
  unfold oEq at e
  split at e
  · split at e
    · rename_i h3
      obtain ⟨z1, z2, z3⟩ := pEq_spec h3
      cases e
      have hu := k.u
      exact op_neD (by omega) pins s σ H _ _ v u Q I rx ry ⟨_, _, kk ▸ dp_of G r1 ‹_› z1, kk ▸ dp_of G r2 ‹_› z2, z1, z2, by rw [z3]; exact q _ H ι G (.refl _ _) (.p (.bl _))⟩
    · cases e
  · cases e
theorem or_is : OpR X (compareOp .Is) (rSem g (oIs false)) := by
  rintro pins s σ H x y v u Q I rx ry ⟨ex, ι, st, dx, dy, G, r1, r2, d, st', e, q⟩
  unfold oIs at e
  split at e
  · have hy : y = .non := by cases r2 with | p r => cases r; rfl
    refine op_isN pins s σ H _ _ v u Q I rx ry ⟨hy, ?_⟩
    split at e
    · cases e
      have hx : x = .non := by cases r1 with | p r => cases r; rfl
      rw [hx]
      exact q _ H ι G (.refl _ _) (.p (.bl true))
    · rename_i no
      cases e
      have hx : decide (x = .non) = false := decide_eq_false fun z => by
        subst z
        cases r1 with
        | p r => cases r; exact no rfl
      rw [hx]
      exact q _ H ι G (.refl _ _) (.p (.bl false))
  · cases e
theorem or_isnot : OpR X (compareOp .IsNot) (rSem g (oIs true)) := by
  rintro pins s σ H x y v u Q I rx ry ⟨ex, ι, st, dx, dy, G, r1, r2, d, st', e, q⟩
  unfold oIs at e
  split at e
  · have hy : y = .non := by cases r2 with | p r => cases r; rfl
    refine op_notN pins s σ H _ _ v u Q I rx ry ⟨hy, ?_⟩
    split at e
    · cases e
      have hx : x = .non := by cases r1 with | p r => cases r; rfl
      rw [hx]
      exact q _ H ι G (.refl _ _) (.p (.bl false))
    · rename_i no
      cases e
      have hx : decide (x = .non) = false := decide_eq_false fun z => by
        subst z
        cases r1 with
        | p r => cases r; exact no rfl
      rw [hx]
      exact q _ H ι G (.refl _ _) (.p (.bl true))
  · cases e
theorem ord_case {o : OK} {x y : V} {dx dy d : D} {st st' : Store} (G : Good g ι st H) (r1 : RD g (Fz H (g.x ι)) ι x dx) (r2 : RD g (Fz H (g.x ι)) ι y dy) (e : oOrd o dx dy st = .ok d st') :
    st' = st ∧ ∃ b, d = .p (.bl b) ∧ ((∃ i j, x = .int i ∧ y = .int j ∧ b = ordI o i j) ∨ ∃ da db, Dp g.K H x da ∧ Dp g.K H y db ∧ PySem.W.alike da db = true ∧ da ≠ .none ∧ da.depth ≤ 64 ∧ b = ordD o da db) := by
  unfold oOrd at e
  split at e
  · cases e
    exact ⟨rfl, _, rfl, .inl ⟨_, _, r1.intI, r2.intI, rfl⟩⟩
  · split at e
    · split at e
      · rename_i h1 h2 z
        cases e
        refine ⟨rfl, _, rfl, .inr ⟨_, _, dp_of G r1 h1 z.1, dp_of G r2 h2 z.2.1, z.2.2.1, fun w => ?_, SeqAt.depth_of_shaped z.1, rfl⟩⟩
        have z4 := z.2.2.2
        rw [w] at z4; cases z4
      · cases e
    · cases e
theorem or_ord_of {op : CmpOp} {o : OK} (k : CxK X g)
    (h1 : OpR X (compareOp op) (rI0 fun i j => .bl (ordI o i j)))
    (h2 : ∀ {prog : Program} {w : World} {A : Around} {E : Value → Shared → Prop} {s : Shared} {a b : Value} {da db : PyData} {as bs : List Addr} {Q : Value → Shared → Prop}, Reads s.heap a da as → Reads s.heap b db bs → PySem.W.alike da db = true → da ≠ .none → A.units + min da.depth db.depth < cLine → Q (.bool (ordD o da db)) s → wpAny (model prog w) A (compareOp op a b) Q E s) :
    OpR X (compareOp op) (rSem g (oOrd o)) := by
  rintro pins s σ H x y v u Q I rx ry ⟨ex, ι, st, dx, dy, G, r1, r2, d, st', e, q⟩
  obtain ⟨rfl, b, rfl, z⟩ := ord_case G r1 r2 e
  have q := q _ H ι G (.refl _ _) (.p (.bl b))
  rcases z with ⟨i, j, rfl, rfl, rfl⟩ | ⟨da, db, d1, d2, al, nn, dep, rfl⟩
  · exact h1 pins s σ H _ _ v u Q I rx ry ⟨i, j, rfl, rfl, q⟩
  · have kk : X.K = (g.wx ex).K := k.K
    have hu := k.u
    obtain ⟨as, q1⟩ := Dp.reads I da x v (kk ▸ d1) rx
    obtain ⟨bs, q2⟩ := Dp.reads I db y u (kk ▸ d2) ry
    exact h2 q1 q2 al nn (by have := Nat.min_le_left da.depth db.depth; omega) ⟨.bl _, H, I, rfl, q⟩
theorem or_lt (k : CxK X g) : OpR X (compareOp .Lt) (rSem g (oOrd .lt)) := or_ord_of k op_lt PySem.W.lt_data
theorem or_le (k : CxK X g) : OpR X (compareOp .LtE) (rSem g (oOrd .le)) := or_ord_of k op_le PySem.W.le_data
theorem or_gt (k : CxK X g) : OpR X (compareOp .Gt) (rSem g (oOrd .gt)) := or_ord_of k op_gt PySem.W.gt_data
theorem or_ge (k : CxK X g) : OpR X (compareOp .GtE) (rSem g (oOrd .ge)) := or_ord_of k op_ge PySem.W.ge_data
end
end Iv
end

section
set_option Elab.async false
set_option linter.all false
set_option maxRecDepth 100000
set_option maxHeartbeats 4100000
namespace Iv
open PySem PySem.Spec PyProof.Rows L2 Gx

/-! ### displays -/
section
variable {X : Cx} {g : GL} {E : XK} {pos : Pos} {es : List Expr}
def vTup (fa : Ev (List D)) : Ev D := fun δ st => (fa δ st).bnd fun ds s => match pAll ds with
  | some xs => if xs.length ≤ szLine then .ok (.p (.tup xs)) s else .bad
  | none => .bad
def vLst (fa : Ev (List D)) : Ev D := fun δ st => (fa δ st).bnd fun ds s => match pAll ds with
  | some xs => if xs.length ≤ szLine then .ok (.p (.lst xs)) s else .bad
  | none => .bad
/-- a list that one means to write to -/
def vLstM (fa : Ev (List D)) : Ev D := fun δ st => (fa δ st).bnd fun ds s => if ds.length ≤ szLine then .ok (.ref s.length) (s ++ [.lst ds]) else .bad
theorem pAll_len : ∀ {ds : List D} {xs : List P}, pAll ds = some xs → ds.length = xs.length
  | [], _, e => by cases e; rfl
  | .p x :: ds, _, e => by
    simp only [pAll, Option.map_eq_some_iff] at e
    obtain ⟨ys, e1, rfl⟩ := e
    simp [pAll_len e1]
  | .ref _ :: _, _, e => by cases e
theorem se_tup {x1} {fa : Ev (List D)} (h : PA X es (SemA g E fa)) : PE X (.Tuple es x1 pos) (SemE g E (vTup fa)) := by
  refine pe_mono (pe_tup h) fun σ H Q ⟨ex, ι, st, δ, at_, h⟩ => ?_
  refine semA_bnd at_ ?_
  unfold vTup at h
  cases ea : fa δ st with
  | bad => rw [ea] at h; exact h
  | exc c s1 => rw [ea] at h; exact h
  | ok ds s1 =>
    rw [ea] at h
    intro vs H1 ι1 at1 x1 r1
    have h := Post.ext x1 h
    simp only [Res.bnd] at h
    cases ep : pAll ds with
    | none => rw [ep] at h; exact h.elim
    | some xs =>
      rw [ep] at h
      simp only [] at h
      split at h
      · have q := rps_of r1 ep
        refine ⟨Nat.le_trans (by rw [q.length]; assumption) szLine_le, fun p hp => ?_⟩
        exact new_data at1.good hp h rfl fun F' s' e => .tup e (Rps.sub s' q)
      · exact h.elim
theorem se_lst {fa : Ev (List D)} (h : PA X es (SemA g E fa)) : PE X (.List es pos) (SemE g E (vLst fa)) := by
  refine pe_mono (pe_lst h) fun σ H Q ⟨ex, ι, st, δ, at_, h⟩ => ?_
  refine semA_bnd at_ ?_
  unfold vLst at h
  cases ea : fa δ st with
  | bad => rw [ea] at h; exact h
  | exc c s1 => rw [ea] at h; exact h
  | ok ds s1 =>
    rw [ea] at h
    intro vs H1 ι1 at1 x1 r1
    have h := Post.ext x1 h
    simp only [Res.bnd] at h
    cases ep : pAll ds with
    | none => rw [ep] at h; exact h.elim
    | some xs =>
      rw [ep] at h
      simp only [] at h
      split at h
      · have q := rps_of r1 ep
        refine ⟨Nat.le_trans (by rw [q.length]; assumption) szLine_le, fun p hp => ?_⟩
        exact new_data at1.good hp h rfl fun F' s' e => .lst e (Rps.sub s' q)
      · exact h.elim
theorem Good.next {ι : List Addr} {st : Store} {H : Hp} {p : Addr} (G : Good g ι st H) : (ι ++ [p])[st.length]? = some p := by
  rw [← G.len]; simp
theorem se_lstM {fa : Ev (List D)} (h : PA X es (SemA g E fa)) : PE X (.List es pos) (SemE g E (vLstM fa)) := by
  refine pe_mono (pe_lst h) fun σ H Q ⟨ex, ι, st, δ, at_, h⟩ => ?_
  refine semA_bnd at_ ?_
  unfold vLstM at h
  cases ea : fa δ st with
  | bad => rw [ea] at h; exact h
  | exc c s1 => rw [ea] at h; exact h
  | ok ds s1 =>
    rw [ea] at h
    intro vs H1 ι1 at1 x1 r1
    have h := Post.ext x1 h
    simp only [Res.bnd] at h
    split at h
    · refine ⟨Nat.le_trans (by rw [Paired.length r1]; assumption) szLine_le, fun p hp => ?_⟩
      obtain ⟨G', x'⟩ := good_cell at1.good hp (.lst r1)
      exact h _ _ _ G' x' (.ref at1.good.next)
    · exact h.elim

/-! ### one-place operators -/
abbrev F1 := List D → Store → Res D
def NoX1 (f : F1) : Prop := ∀ ds st c s, f ds st ≠ .exc c s
def rCal (g : GL) (f : F1) : List V → Hp → VK → Prop := fun vs H Q => ∃ ex ι st ds, Good (g.wx ex) ι st H ∧ RDs (g.wx ex) (Fz H ((g.wx ex).x ι)) ι vs ds ∧ ∃ d st', f ds st = .ok d st' ∧ ∀ v H' ι', Good (g.wx ex) ι' st' H' → Ext (g.wx ex) H ι H' ι' → RD (g.wx ex) (Fz H' ((g.wx ex).x ι')) ι' v d → Q v H'
def vCal (f : F1) (fa : Ev (List D)) : Ev D := fun δ st => (fa δ st).bnd fun ds s => f ds s
theorem tCB_of {f : F1} {fa : Ev (List D)} (n : NoX1 f) : ∀ σ H Q, SemE g E (vCal f fa) σ H Q → tCB (rCal g f) (SemA g E fa) σ H Q := by
  rintro σ H Q ⟨ex, ι, st, δ, at_, h⟩
  refine semA_bnd at_ ?_
  unfold vCal at h
  cases ea : fa δ st with
  | bad => rw [ea] at h; exact h
  | exc c s1 => rw [ea] at h; exact h
  | ok ds s1 =>
    rw [ea] at h
    intro vs H1 ι1 at1 x1 r1
    have h := Post.ext x1 h
    simp only [Res.bnd] at h
    refine ⟨ex, ι1, s1, ds, at1.good, r1, ?_⟩
    cases e : f ds s1 with
    | bad => rw [e] at h; exact h.elim
    | exc c s => exact (n _ _ _ _ e).elim
    | ok d s => rw [e] at h; exact ⟨d, s, rfl, h⟩
theorem se_callB {id : String} {x : Str} {e : Expr} {p : Pos} {f : F1} {fa : Ev (List D)} (hc : CallR X (.builtin id) (rCal g f)) (n : NoX1 f) (hg : Gl X x) (hm : X.mg x = none) (hv : bootBuiltins x = some (.builtin id)) (ha : PA X (e :: es) (SemA g E fa)) (hn : x ≠ "__name__" := by decide) (hdb : (x == ("__debug__" : Str)) = false := by decide)
    (he : starEach (e :: es) X.env = (false, eval e X.env) :: starEach es X.env := by rfl) (hpl : (backTo pos (starEach es X.env)).any (·.1) = false := by rfl) : PE X (.Call (.Name x p) (e :: es) [] pos) (SemE g E (vCal f fa)) :=
  pe_mono (pe_callB hc hg hm hv ha hn hdb he hpl) (tCB_of n)
theorem se_callTy {T : String} {x : Str} {e : Expr} {p : Pos} {f : F1} {fa : Ev (List D)} (hc : CallR X (.type T) (rCal g f)) (n : NoX1 f) (hg : Gl X x) (hm : X.mg x = none) (hv : bootBuiltins x = some (.type T)) (ha : PA X (e :: es) (SemA g E fa)) (hn : x ≠ "__name__" := by decide) (hdb : (x == ("__debug__" : Str)) = false := by decide)
    (he : starEach (e :: es) X.env = (false, eval e X.env) :: starEach es X.env := by rfl) (hpl : (backTo pos (starEach es X.env)).any (·.1) = false := by rfl) : PE X (.Call (.Name x p) (e :: es) [] pos) (SemE g E (vCal f fa)) :=
  pe_mono (pe_callTy hc hg hm hv ha hn hdb he hpl) (tCB_of n)
def vU (f : D → Store → Res D) (fa : Ev D) : Ev D := fun δ st => (fa δ st).bnd fun x s1 => f x s1
def oNeg (x : D) (st : Store) : Res D := match x with
  | .p (.int i) => .ok (.p (.int (-i))) st
  | _ => .bad
theorem se_neg {e : Expr} {fa : Ev D} (ha : PE X e (SemE g E fa)) : PE X (.UnaryOp .USub e pos) (SemE g E (vU oNeg fa)) := by
  refine pe_mono (pe_un un_neg ha) fun σ H Q ⟨ex, ι, st, δ, at_, h⟩ => ?_
  refine semE_bnd at_ ?_
  unfold vU at h
  cases ea : fa δ st with
  | bad => rw [ea] at h; exact h
  | exc c s1 => rw [ea] at h; exact h
  | ok x s1 =>
    rw [ea] at h
    intro v H1 ι1 at1 x1 r1
    have h := Post.ext x1 h
    simp only [Res.bnd, oNeg] at h
    split at h
    · obtain rfl := r1.intI
      exact ⟨_, rfl, h _ H1 ι1 at1.good (.refl _ _) (.p (.int _))⟩
    · exact h.elim
end

/-! ### calls of built-ins -/
def isInt : P → Option Int
  | .int i => some i
  | _ => none
def allInt : List P → Option (List Int)
  | [] => some []
  | .int i :: xs => (allInt xs).map (i :: ·)
  | _ :: _ => none
def fLen : F1 := fun ds st => match ds with
  | [d] => match see st d with
    | some (.lst xs) => .ok (.p (.int xs.length)) st
    | some (.tup xs) => .ok (.p (.int xs.length)) st
    | some (.scr xs) => .ok (.p (.int xs.length)) st
    | some (.str x) => if x.length ≤ szLine then .ok (.p (.int x.length)) st else .bad
    | _ => match d with
      | .ref n => match st[n]? with
        | some (.lst ds) => .ok (.p (.int ds.length)) st
        | some (.dK ds) => .ok (.p (.int ds.length)) st
        | some (.dT ds) => .ok (.p (.int ds.length)) st
        | _ => .bad
      | _ => .bad
  | _ => .bad
def fAbs : F1 := fun ds st => match ds with
  | [.p (.int i)] => .ok (.p (.int (if i < 0 then -i else i))) st
  | _ => .bad
def fInt : F1 := fun ds st => match ds with
  | [.p (.int i)] => .ok (.p (.int i)) st
  | [.p (.bl k)] => .ok (.p (.int (if k = true then 1 else 0))) st
  | _ => .bad
/-- a list's or a tuple's items -/
def seqP : P → Option (List P)
  | .lst xs => some xs
  | .tup xs => some xs
  | .scr xs => some xs
  | _ => none
def fList : F1 := fun ds st => match ds with
  | [d] => match see st d with
    | some x => match seqP x with
      | some xs => .ok (.p (.lst xs)) st
      | none => .bad
    | none => .bad
  | _ => .bad
/-- a list that one means to write to -/
def fListM : F1 := fun ds st => match ds with
  | [d] => match see st d with
    | some x => match seqP x with
      | some xs => .ok (.ref st.length) (st ++ [.lst (xs.map .p)])
      | none => .bad
    | none => .bad
  | _ => .bad
def fTup : F1 := fun ds st => match ds with
  | [d] => match see st d with
    | some x => match seqP x with
      | some xs => .ok (.p (.tup xs)) st
      | none => .bad
    | none => .bad
  | _ => .bad
def fSum : F1 := fun ds st => match ds with
  | [d] => match see st d with
    | some (.lst xs) => match allInt xs with
      | some ns => .ok (.p (.int ns.sum)) st
      | none => .bad
    | _ => .bad
  | _ => .bad
/-- the first of the greatest (gt) or of the least -/
def bestP (gt : Bool) (x : P) (xs : List P) : P := xs.foldl (fun a y => if (if gt = true then PySem.W.dataLt a.toD y.toD else PySem.W.dataLt y.toD a.toD) = true then y else a) x
def alikeP (xs : List P) : Bool := xs.all fun x => SeqAt.shaped x.toD && !isNon x.toD && xs.all fun y => PySem.W.alike x.toD y.toD
def fBest (gt : Bool) : F1 := fun ds st => match ds with
  | [.p (.int i), .p (.int j)] => .ok (.p (.int (if gt = true then (if j > i then j else i) else (if j < i then j else i)))) st
  | [d] => match see st d with
    | some x => match seqP x with
      | some (y :: ys) => if alikeP (y :: ys) = true then .ok (.p (bestP gt y ys)) st else .bad
      | _ => .bad
    | none => .bad
  | _ => .bad
/-- xs.index(x) -/
def idxP (x : P) : List P → Nat → Option Nat
  | [], _ => none
  | y :: ys, n => if PyData.eqv y.toD x.toD = true then some n else idxP x ys (n + 1)
end Iv
end

section
set_option Elab.async false
set_option linter.all false
set_option maxRecDepth 100000
set_option maxHeartbeats 4100000
namespace Iv
open PySem PySem.Spec PyProof.Rows L2 Gx
section
variable {X : Cx} {g : GL} {ι : List Addr} {st : Store} {H F : Hp}
theorem nx_len : NoX1 fLen := by intro ds st c s e; unfold fLen at e; repeat' split at e
                                 all_goals cases e
theorem nx_abs : NoX1 fAbs := by intro ds st c s e; unfold fAbs at e; repeat' split at e
                                 all_goals cases e
theorem nx_int : NoX1 fInt := by intro ds st c s e; unfold fInt at e; repeat' split at e
                                 all_goals cases e
theorem nx_list : NoX1 fList := by intro ds st c s e; unfold fList at e; repeat' split at e
                                   all_goals cases e
theorem nx_listM : NoX1 fListM := by intro ds st c s e; unfold fListM at e; repeat' split at e
                                     all_goals cases e
theorem nx_tup : NoX1 fTup := by intro ds st c s e; unfold fTup at e; repeat' split at e
                                 all_goals cases e
theorem nx_sum : NoX1 fSum := by intro ds st c s e; unfold fSum at e; repeat' split at e
                                 all_goals cases e
theorem nx_best {b} : NoX1 (fBest b) := by intro ds st c s e; unfold fBest at e; repeat' split at e
                                           all_goals cases e
/-- a list or a tuple, seen -/
theorem see_seq (G : Good g ι st H) {v : V} {d : D} {x : P} {xs : List P} (r : RD g (Fz H (g.x ι)) ι v d) (e : see st d = some x) (e2 : seqP x = some xs) : ∃ a vs, v = .ref a ∧ Rps g (Fz H (g.x ι)) vs xs ∧ ((SqL g.K H a vs ∧ ((∃ ys, x = .lst ys) ∨ ∃ ys, x = .scr ys)) ∨ (Fz H (g.x ι) a = some (.tup vs) ∧ x = .tup xs)) := by
  unfold seqP at e2
  split at e2
  · cases e2
    obtain ⟨a, vs, h1, h2, h3⟩ := see_lst G r e
    exact ⟨a, vs, h1, h3, .inl ⟨.inl (.inl h2), .inl ⟨_, rfl⟩⟩⟩
  · cases e2
    obtain ⟨a, vs, h1, h2, h3⟩ := see_tup G r e
    exact ⟨a, vs, h1, h3, .inr ⟨h2, rfl⟩⟩
  · cases e2
    obtain ⟨a, vs, h1, h2, h3⟩ := see_scr G r e
    exact ⟨a, vs, h1, h3, .inl ⟨h2, .inr ⟨_, rfl⟩⟩⟩
  · cases e2
theorem rds_one {vs : List V} {d : D} (r : RDs g F ι vs [d]) : ∃ v, vs = [v] ∧ RD g F ι v d := by
  cases r with
  | cons r t => cases t; exact ⟨_, rfl, r⟩
theorem rds_two {vs : List V} {d e : D} (r : RDs g F ι vs [d, e]) : ∃ v w, vs = [v, w] ∧ RD g F ι v d ∧ RD g F ι w e := by
  cases r with
  | cons r t => cases t with | cons r2 t => cases t; exact ⟨_, _, rfl, r, r2⟩
theorem rc_len (k : CxK X g) : CallR X (.builtin "len") (rCal g fLen) := by
  rintro pins s σ H vs us Q I rv ⟨ex, ι, st, ds, G, r, d, st', e, q⟩
  have kk : X.K = (g.wx ex).K := k.K
  unfold fLen at e
  split at e
  · obtain ⟨v, rfl, rd⟩ := rds_one r
    have seqC : ∀ {a : Addr} {ws : List V} {n : Nat}, v = .ref a → ws.length = n → (SqL g.K H a ws ∨ Fz H ((g.wx ex).x ι) a = some (.tup ws)) → Res.ok (D.p (P.int n)) st = Res.ok d st' → wpAny (model X.prog X.w) X.A (call (.builtin "len") us) (EP X pins σ Q) X.xe s := by
      intro a ws n ev hn hs e
      cases e
      subst ev hn
      exact call_len_seq pins s σ H _ us Q I rv ⟨a, ws, rfl, hs.elim (fun z => .inl (kk ▸ z)) (fun z => .inr (kk ▸ sqT_of_fz (.inl (.inl z)))), q _ H ι G (.refl _ _) (.p (.int _))⟩
    split at e
    · rename_i h1
      obtain ⟨a, ws, ev, h2, h3⟩ := see_lst G rd h1
      exact seqC ev h3.length (.inl (.inl (.inl h2))) e
    · rename_i h1
      obtain ⟨a, ws, ev, h2, h3⟩ := see_tup G rd h1
      exact seqC ev h3.length (.inr h2) e
    · rename_i h1
      obtain ⟨a, ws, ev, h2, h3⟩ := see_scr G rd h1
      exact seqC ev h3.length (.inl h2) e
    · rename_i h1
      split at e
      · cases e
        obtain rfl := see_str G rd h1
        exact call_len_str pins s σ H _ us Q I rv ⟨_, rfl, Nat.le_trans ‹_› szLine_le, q _ H ι G (.refl _ _) (.p (.int _))⟩
      · cases e
    · split at e
      · rename_i n _ _ _ _
        cases rd with
        | ref hn =>
          obtain ⟨c, u, h1, h2, rc⟩ := G.cell' hn
          rw [h1] at e
          cases rc with
          | lst z => exact seqC rfl (Paired.length z) (.inl (.inl (.inl h2))) e
          | dK z =>
            cases e
            refine call_lenD pins s σ H _ us Q I rv ⟨_, _, rfl, h2, ?_⟩
            rw [Paired.length z]
            exact q _ H ι G (.refl _ _) (.p (.int _))
          | dT z =>
            cases e
            refine call_len_dT pins s σ H _ us Q I rv ⟨_, _, rfl, h2, ?_⟩
            rw [Paired.length z]
            exact q _ H ι G (.refl _ _) (.p (.int _))
          | obj z => cases e
          | fK z => cases e
          | fT z => cases e
      · cases e
  · cases e
theorem rc_abs : CallR X (.builtin "abs") (rCal g fAbs) := by
  rintro pins s σ H vs us Q I rv ⟨ex, ι, st, ds, G, r, d, st', e, q⟩
  unfold fAbs at e
  split at e
  · cases e
    obtain ⟨v, rfl, rd⟩ := rds_one r
    obtain rfl := rd.intI
    exact call_abs pins s σ H _ us Q I rv ⟨_, rfl, q _ H ι G (.refl _ _) (.p (.int _))⟩
  · cases e
theorem rc_int : CallR X (.type "int") (rCal g fInt) := by
  rintro pins s σ H vs us Q I rv ⟨ex, ι, st, ds, G, r, d, st', e, q⟩
  unfold fInt at e
  split at e
  · cases e
    obtain ⟨v, rfl, rd⟩ := rds_one r
    obtain rfl := rd.intI
    exact call_int1 pins s σ H _ us Q I rv (.inl ⟨_, rfl, q _ H ι G (.refl _ _) (.p (.int _))⟩)
  · cases e
    obtain ⟨v, rfl, rd⟩ := rds_one r
    cases rd with
    | p r => cases r; exact call_int1 pins s σ H _ us Q I rv (.inr ⟨_, rfl, q _ H ι G (.refl _ _) (.p (.int _))⟩)
  · cases e
theorem rc_list (k : CxK X g) : CallR X (.type "list") (rCal g fList) := by
  rintro pins s σ H vs us Q I rv ⟨ex, ι, st, ds, G, r, d, st', e, q⟩
  have kk : X.K = (g.wx ex).K := k.K
  unfold fList at e
  split at e
  · obtain ⟨v, rfl, rd⟩ := rds_one r
    split at e
    · split at e
      · rename_i h1 _ _ h2
        obtain ⟨a, ws, rfl, h3, h4⟩ := see_seq G rd h1 h2
        cases e
        refine call_list_of pins s σ H _ us Q I rv ⟨a, ws, rfl, h4.elim (fun z => .inl (kk ▸ z.1)) (fun z => .inr (kk ▸ sqT_of_fz (.inl (.inl z.1)))), fun p hp => ?_⟩
        exact new_data G hp q rfl fun F' s' e => .lst e (Rps.sub s' h3)
      · cases e
    · cases e
  · cases e
theorem rds_map {vs : List V} {xs : List P} (h : Rps g F vs xs) : RDs g F ι vs (xs.map .p) := by
  induction vs generalizing xs with
  | nil => cases h; exact .nil
  | cons v vs ih => cases h with | cons r t => exact .cons (.p r) (ih t)
theorem rc_listM (k : CxK X g) : CallR X (.type "list") (rCal g fListM) := by
  rintro pins s σ H vs us Q I rv ⟨ex, ι, st, ds, G, r, d, st', e, q⟩
  have kk : X.K = (g.wx ex).K := k.K
  unfold fListM at e
  split at e
  · obtain ⟨v, rfl, rd⟩ := rds_one r
    split at e
    · split at e
      · rename_i h1 _ _ h2
        obtain ⟨a, ws, rfl, h3, h4⟩ := see_seq G rd h1 h2
        cases e
        refine call_list_of pins s σ H _ us Q I rv ⟨a, ws, rfl, h4.elim (fun z => .inl (kk ▸ z.1)) (fun z => .inr (kk ▸ sqT_of_fz (.inl (.inl z.1)))), fun p hp => ?_⟩
        obtain ⟨G', x'⟩ := good_cell G hp (.lst (rds_map h3))
        exact q _ _ _ G' x' (.ref G.next)
      · cases e
    · cases e
  · cases e
theorem rc_tup (k : CxK X g) : CallR X (.type "tuple") (rCal g fTup) := by
  rintro pins s σ H vs us Q I rv ⟨ex, ι, st, ds, G, r, d, st', e, q⟩
  have kk : X.K = (g.wx ex).K := k.K
  unfold fTup at e
  split at e
  · obtain ⟨v, rfl, rd⟩ := rds_one r
    split at e
    · split at e
      · rename_i h1 _ _ h2
        obtain ⟨a, ws, rfl, h3, h4⟩ := see_seq G rd h1 h2
        cases e
        refine call_tuple_of pins s σ H _ us Q I rv ⟨a, ws, rfl, h4.elim (fun z => .inl ⟨kk ▸ z.1, fun p hp => ?_⟩) (fun z => .inr ⟨kk ▸ sqT_of_fz (.inl (.inl z.1)), ?_⟩)⟩
        · exact new_data G hp q rfl fun F' s' e => .tup e (Rps.sub s' h3)
        · exact q _ H ι G (.refl _ _) (.p (.tup z.1 h3))
      · cases e
    · cases e
  · cases e
theorem ints_of {vs : List V} {xs : List P} {ns : List Int} (h : Rps g F vs xs) (e : allInt xs = some ns) : vs = ns.map V.int := by
  induction vs generalizing xs ns with
  | nil => cases h; cases e; rfl
  | cons v vs ih =>
    cases h with
    | cons r t =>
      cases r with
      | int i =>
        simp only [allInt, Option.map_eq_some_iff] at e
        obtain ⟨ys, e1, rfl⟩ := e
        rw [List.map_cons, ← ih t e1]
      | _ => cases e
theorem rc_sum (hc : X.calm = true) (k : CxK X g) : CallR X (.builtin "sum") (rCal g fSum) := by
  rintro pins s σ H vs us Q I rv ⟨ex, ι, st, ds, G, r, d, st', e, q⟩
  have kk : X.K = (g.wx ex).K := k.K
  unfold fSum at e
  split at e
  · obtain ⟨v, rfl, rd⟩ := rds_one r
    split at e
    · rename_i h1
      split at e
      · rename_i h2
        obtain ⟨a, ws, rfl, h3, h4⟩ := see_lst G rd h1
        cases e
        refine cr_sum hc pins s σ H _ us Q I rv ⟨a, _, rfl, ints_of h4 h2 ▸ .inl (.inl h3), q _ H ι G (.refl _ _) (.p (.int _))⟩
      · cases e
    · cases e
  · cases e
theorem toDs_get (xs : List P) : ∀ i, (P.toDs xs).getD i .none = (xs.getD i .non).toD := by
  induction xs with
  | nil => intro i; rfl
  | cons x xs ih =>
    intro i
    cases i with
    | zero => rfl
    | succ i => simpa [P.toDs] using ih i
theorem toDs_eq (xs : List P) : P.toDs xs = xs.map P.toD := by
  induction xs with
  | nil => rfl
  | cons x xs ih => rw [P.toDs, ih]; rfl
theorem alike_spec {xs : List P} (h : alikeP xs = true) : PyData.canLayAll0 (P.toDs xs) = true ∧ PySem.W.AlikeAll (P.toDs xs) ∧ PyData.depthAll (P.toDs xs) ≤ 64 := by
  unfold alikeP at h
  rw [List.all_eq_true] at h
  have h1 : ∀ x ∈ xs, SeqAt.shaped x.toD = true ∧ isNon x.toD = false ∧ ∀ y ∈ xs, PySem.W.alike x.toD y.toD = true := fun x hx => by
    have := h x hx
    rw [Bool.and_eq_true, Bool.and_eq_true, List.all_eq_true] at this
    exact ⟨this.1.1, by simpa using this.1.2, this.2⟩
  refine ⟨?_, ⟨fun x hx y hy => ?_, fun x hx z => ?_⟩, ?_⟩
  · have : ∀ ys : List P, (∀ x ∈ ys, SeqAt.shaped x.toD = true) → PyData.canLayAll0 (P.toDs ys) = true := by
      intro ys
      induction ys with
      | nil => intro _; rfl
      | cons y ys ih =>
        intro hy
        simp only [P.toDs, PyData.canLayAll0, Bool.and_eq_true]
        exact ⟨SeqAt.canLay_of_shaped (hy y List.mem_cons_self), ih fun x hx => hy x (List.mem_cons_of_mem _ hx)⟩
    exact this xs fun x hx => (h1 x hx).1
  · rw [toDs_eq] at hx hy
    obtain ⟨a, ha, rfl⟩ := List.mem_map.mp hx
    obtain ⟨c, hc, rfl⟩ := List.mem_map.mp hy
    exact (h1 a ha).2.2 c hc
  · rw [toDs_eq] at hx
    obtain ⟨a, ha, rfl⟩ := List.mem_map.mp hx
    have := (h1 a ha).2.1
    rw [z] at this; cases this
  · have : ∀ ys : List P, (∀ x ∈ ys, SeqAt.shaped x.toD = true) → PyData.depthAll (P.toDs ys) ≤ 64 := by
      intro ys
      induction ys with
      | nil => intro _; exact Nat.zero_le _
      | cons y ys ih =>
        intro hy
        simp only [P.toDs, PyData.depthAll]
        have a := SeqAt.depth_of_shaped (hy y List.mem_cons_self)
        have b := ih fun x hx => hy x (List.mem_cons_of_mem _ hx)
        omega
    exact this xs fun x hx => (h1 x hx).1
theorem best_at (gt : Bool) (y : P) (ys : List P) (ds : List PyData) (e : ds = P.toDs (y :: ys)) :
    ∃ i, i = argBest (fun i j => if gt = true then PySem.W.dataLt (ds.getD j .none) (ds.getD i .none) else PySem.W.dataLt (ds.getD i .none) (ds.getD j .none)) ys.length ∧ (y :: ys)[i]? = some (bestP gt y ys) := by
  subst e
  refine ⟨_, rfl, ?_⟩
  obtain ⟨h1, h2⟩ := PySem.W.argBest_fold (fun a b : P => if gt = true then PySem.W.dataLt b.toD a.toD else PySem.W.dataLt a.toD b.toD) P.non y ys ys.length (Nat.le_refl _)
  rw [List.take_length] at h2
  have e : (fun i j => if gt = true then PySem.W.dataLt ((P.toDs (y :: ys)).getD j .none) ((P.toDs (y :: ys)).getD i .none) else PySem.W.dataLt ((P.toDs (y :: ys)).getD i .none) ((P.toDs (y :: ys)).getD j .none)) = fun i j => (fun a b : P => if gt = true then PySem.W.dataLt b.toD a.toD else PySem.W.dataLt a.toD b.toD) ((y :: ys).getD i P.non) ((y :: ys).getD j P.non) := by
    funext i j
    rw [toDs_get, toDs_get]
  rw [e]
  unfold bestP
  rw [← h2, List.getD_eq_getElem?_getD]
  generalize argBest _ ys.length = n at h1 ⊢
  have hn : n < (y :: ys).length := by rw [List.length_cons]; omega
  rw [List.getElem?_eq_getElem hn]
  rfl
/-- an item at a place, as it stands -/
theorem vals_at {vs : List V} {us : List Value} {i : Nat} {u : Value} (r : Vals vs us) (h : us[i]? = some u) : ∃ v, vs[i]? = some v ∧ RelV v u := by
  obtain ⟨v, h1, h2⟩ := pd_get' r h
  exact ⟨v, h1, h2⟩
theorem best_fin {pins : List (Addr × Obj)} {s : Shared} {σ : L2.St} {Q : VK} {its : List Value} {vs : List V} {y : P} {ys : List P} {gt : Bool} (I : Inv X pins σ H s) (rv : Vals vs its) (G : Good g ι st H) (h3 : Rps g (Fz H (g.x ι)) vs (y :: ys))
    (q : ∀ v H' ι', Good g ι' st H' → Ext g H ι H' ι' → RD g (Fz H' (g.x ι')) ι' v (.p (bestP gt y ys)) → Q v H') {h' : Heap} {tk : Nat} (hk : ∀ b o, s.heap.get? b = some o → h'.get? b = some o) {u : Value} {i : Nat} (hb : (y :: ys)[i]? = some (bestP gt y ys)) (hu : its.toArray[i]? = some u) :
    EP X pins σ Q u { s with heap := h', toks := tk } := by
  obtain ⟨v, h1, h2⟩ := vals_at rv (by simpa using hu)
  obtain ⟨x, h5, h6⟩ := h3.get h1
  rw [hb] at h5; cases h5
  exact ⟨v, H, I.kept hk, h2, q v H ι G (.refl _ _) (.p h6)⟩
theorem rc_max (hc : X.calm = true) (k : CxK X g) : CallR X (.builtin "max") (rCal g (fBest true)) := by
  rintro pins s σ H vs us Q I rv ⟨ex, ι, st, ds, G, r, d, st', e, q⟩
  have kk : X.K = (g.wx ex).K := k.K
  have hu := k.u
  unfold fBest at e
  split at e
  · cases e
    obtain ⟨v, w, rfl, r1, r2⟩ := rds_two r
    obtain rfl := r1.intI
    obtain rfl := r2.intI
    exact call_max2 hc pins s σ H _ us Q I rv ⟨_, _, rfl, q _ H ι G (.refl _ _) (.p (.int _))⟩
  · obtain ⟨v, rfl, rd⟩ := rds_one r
    split at e
    · split at e
      · rename_i h1 _ y ys h2
        split at e
        · rename_i hal
          obtain ⟨a, ws, rfl, h3, h4⟩ := see_seq G rd h1 h2
          cases e
          obtain ⟨c1, c2, c3⟩ := alike_spec hal
          have dp := Rps.dp h3 c1
          rw [Vals.ref1 rv]
          obtain ⟨i, ei, hb⟩ := best_at true y ys _ rfl
          rcases h4 with ⟨h4, _⟩ | ⟨h4, _⟩
          · obtain ⟨its, rv2, pl, hz⟩ := I.list (kk ▸ h4)
            obtain ⟨as, hr⟩ := Dp.readsAll I _ _ its (kk ▸ dp) rv2
            have hn : its.toArray.size = ys.length + 1 := by rw [List.size_toArray, ← rv2.length, h3.length]; rfl
            refine PySem.call_max_walkH (PySem.W.iter_listW (A := X.A.in1) (I.ok.hd hc) pl.isList fun s₂ e W st0 hfp hw hk => ?_)
            refine ⟨_, _, _, _, _, _, _, s.heap, _, rfl, W, st0, hfp, by omega, hw, hk, PySem.W.cmpIn_gt (A := X.A.in1) (vs := its.toArray) hr c2 (by show X.A.units + 1 + _ < _; omega), fun v s' hP m => ?_⟩
            obtain ⟨h', tk, rfl, hk'⟩ := PySem.W.moved_old e rfl m
            rw [show its.toArray.size - 1 = ys.length by omega] at hP
            exact best_fin I rv2 G h3 q hk' hb (by rw [ei]; exact hP)
          · obtain ⟨its, rv2, pl, hz⟩ := I.tuple (sqT_of_fz (.inl (.inl h4)))
            obtain ⟨as, hr⟩ := Dp.readsAll I _ _ its (kk ▸ dp) rv2
            have hn : its.toArray.size = ys.length + 1 := by rw [List.size_toArray, ← rv2.length, h3.length]; rfl
            refine PySem.call_max_walkH (PySem.W.iter_tupleW (A := X.A.in1) (I.ok.hd hc) pl fun s₂ e W st0 hfp hw hk => ?_)
            refine ⟨_, _, _, _, _, _, _, s.heap, _, rfl, W, st0, hfp, by omega, hw, hk, PySem.W.cmpIn_gt (A := X.A.in1) (vs := its.toArray) hr c2 (by show X.A.units + 1 + _ < _; omega), fun v s' hP m => ?_⟩
            obtain ⟨h', tk, rfl, hk'⟩ := PySem.W.moved_old e rfl m
            rw [show its.toArray.size - 1 = ys.length by omega] at hP
            exact best_fin I rv2 G h3 q hk' hb (by rw [ei]; exact hP)
        · cases e
      · cases e
    · cases e
  · cases e
theorem rc_min (hc : X.calm = true) (k : CxK X g) : CallR X (.builtin "min") (rCal g (fBest false)) := by
  rintro pins s σ H vs us Q I rv ⟨ex, ι, st, ds, G, r, d, st', e, q⟩
  have kk : X.K = (g.wx ex).K := k.K
  have hu := k.u
  unfold fBest at e
  split at e
  · cases e
    obtain ⟨v, w, rfl, r1, r2⟩ := rds_two r
    obtain rfl := r1.intI
    obtain rfl := r2.intI
    exact call_min2 hc pins s σ H _ us Q I rv ⟨_, _, rfl, q _ H ι G (.refl _ _) (.p (.int _))⟩
  · obtain ⟨v, rfl, rd⟩ := rds_one r
    split at e
    · split at e
      · rename_i h1 _ y ys h2
        split at e
        · rename_i hal
          obtain ⟨a, ws, rfl, h3, h4⟩ := see_seq G rd h1 h2
          cases e
          obtain ⟨c1, c2, c3⟩ := alike_spec hal
          have dp := Rps.dp h3 c1
          rw [Vals.ref1 rv]
          obtain ⟨i, ei, hb⟩ := best_at false y ys _ rfl
          rcases h4 with ⟨h4, _⟩ | ⟨h4, _⟩
          · obtain ⟨its, rv2, pl, hz⟩ := I.list (kk ▸ h4)
            obtain ⟨as, hr⟩ := Dp.readsAll I _ _ its (kk ▸ dp) rv2
            have hn : its.toArray.size = ys.length + 1 := by rw [List.size_toArray, ← rv2.length, h3.length]; rfl
            refine PySem.call_min_walkH (PySem.W.iter_listW (A := X.A.in1) (I.ok.hd hc) pl.isList fun s₂ e W st0 hfp hw hk => ?_)
            refine ⟨_, _, _, _, _, _, _, s.heap, _, rfl, W, st0, hfp, by omega, hw, hk, PySem.W.cmpIn_lt (A := X.A.in1) (vs := its.toArray) hr c2 (by show X.A.units + 1 + _ < _; omega), fun v s' hP m => ?_⟩
            obtain ⟨h', tk, rfl, hk'⟩ := PySem.W.moved_old e rfl m
            rw [show its.toArray.size - 1 = ys.length by omega] at hP
            exact best_fin I rv2 G h3 q hk' hb (by rw [ei]; exact hP)
          · obtain ⟨its, rv2, pl, hz⟩ := I.tuple (sqT_of_fz (.inl (.inl h4)))
            obtain ⟨as, hr⟩ := Dp.readsAll I _ _ its (kk ▸ dp) rv2
            have hn : its.toArray.size = ys.length + 1 := by rw [List.size_toArray, ← rv2.length, h3.length]; rfl
            refine PySem.call_min_walkH (PySem.W.iter_tupleW (A := X.A.in1) (I.ok.hd hc) pl fun s₂ e W st0 hfp hw hk => ?_)
            refine ⟨_, _, _, _, _, _, _, s.heap, _, rfl, W, st0, hfp, by omega, hw, hk, PySem.W.cmpIn_lt (A := X.A.in1) (vs := its.toArray) hr c2 (by show X.A.units + 1 + _ < _; omega), fun v s' hP m => ?_⟩
            obtain ⟨h', tk, rfl, hk'⟩ := PySem.W.moved_old e rfl m
            rw [show its.toArray.size - 1 = ys.length by omega] at hP
            exact best_fin I rv2 G h3 q hk' hb (by rw [ei]; exact hP)
        · cases e
      · cases e
    · cases e
  · cases e
end
end Iv
end

section
set_option Elab.async false
set_option linter.all false
set_option maxRecDepth 100000
set_option maxHeartbeats 4100000
namespace Iv
open PySem PySem.Spec PyProof.Rows L2 Gx

/-! ### subscripts, slices -/
def oIx (x y : D) (st : Store) : Res D := match y with
  | .p (.int i) => match x with
    | .ref n => match st[n]? with
      | some (.lst ds) => match atI ds i with
        | some d => .ok d st
        | none => .bad
      | _ => .bad
    | .p (.str z) => if z.length ≤ szLine then match atI z.cps.toList i with
        | some c => .ok (.p (.str ⟨#[c]⟩)) st
        | none => .bad
      else .bad
    | .p x => match seqP x with
      | some xs => match atI xs i with
        | some d => .ok (.p d) st
        | none => .bad
      | none => .bad
  | _ => .bad
def cutL {α : Type} (xs : List α) (lo hi : Option Int) : List α := (xs.drop (HT.sIx xs.length 0 lo)).take (HT.sIx xs.length xs.length hi - HT.sIx xs.length 0 lo)
def oSl (x : D) (lo hi : Option Int) (st : Store) : Res D := match see st x with
  | some (.lst xs) => .ok (.p (.lst (cutL xs lo hi))) st
  | some (.scr xs) => .ok (.p (.lst (cutL xs lo hi))) st
  | some (.tup xs) => .ok (.p (.tup (cutL xs lo hi))) st
  | some (.str z) => if z.length ≤ szLine then .ok (.p (.str (cutS z lo hi))) st else .bad
  | _ => .bad
def poN : Ev (Option Int) := fun _ st => .ok none st
def poS (f : Ev D) : Ev (Option Int) := fun δ st => (f δ st).bnd fun d s => match d with
  | .p (.int i) => .ok (some i) s
  | _ => .bad
def vSl (f : Ev D) (lo hi : Ev (Option Int)) : Ev D := fun δ st => (f δ st).bnd fun x s => (lo δ s).bnd fun l s2 => (hi δ s2).bnd fun h s3 => oSl x l h s3
def PostO (g : GL) (H : Hp) (ι : List Addr) (E : XK) (r : Res (Option Int)) (Q : Option Int → Hp → Prop) : Prop := match r with
  | .ok b st => ∀ H' ι', Good g ι' st H' → Ext g H ι H' ι' → Q b H'
  | .exc c st => PostX g H ι c st E
  | .bad => False
def SemO (g : GL) (E : XK) (f : Ev (Option Int)) : TO := fun σ H Q => ∃ ex ι st δ, At (g.wx ex) H ι st σ δ ∧ PostO (g.wx ex) H ι E (f δ st) Q
section
variable {X : Cx} {g : GL} {E : XK} {pos : Pos} {a b e : Expr} {ι : List Addr} {st : Store} {H F : Hp}
theorem noX_ix : NoX oIx := by intro x y st c s e; unfold oIx at e; repeat' split at e
                               all_goals cases e
theorem atI_rps {vs : List V} {xs : List P} {i : Int} {x : P} (h : Rps g F vs xs) (e : atI xs i = some x) : ∃ v, atI vs i = some v ∧ Rp g F v x := by
  unfold atI at e ⊢
  rw [h.length]
  cases q : ixN xs.length i with
  | none => rw [q] at e; exact nomatch e
  | some j => rw [q] at e; exact h.get' e
theorem atI_rds {vs : List V} {xs : List D} {i : Int} {x : D} (h : RDs g F ι vs xs) (e : atI xs i = some x) : ∃ v, atI vs i = some v ∧ RD g F ι v x := by
  unfold atI at e ⊢
  rw [Paired.length h]
  cases q : ixN xs.length i with
  | none => rw [q] at e; exact nomatch e
  | some j => rw [q] at e; exact pd_get' h e
theorem xr_ix (k : CxK X g) : IxR X (rSem g oIx) := by
  rintro value slice pins s σ H x y v u Q I rx ry ⟨ex, ι, st, dx, dy, G, r1, r2, d, st', e, q⟩ hs
  have kk : X.K = (g.wx ex).K := k.K
  unfold oIx at e
  split at e
  · obtain rfl := r2.intI
    split at e
    · split at e
      · rename_i h1
        split at e
        · rename_i h2
          cases e
          cases r1 with
          | ref hn =>
            obtain ⟨c, w, h3, h4, rc⟩ := G.cell' hn
            rw [h1] at h3; cases h3
            cases rc with
            | lst z =>
              obtain ⟨v', h5, h6⟩ := atI_rds z h2
              exact ix_list value slice pins s σ H _ _ v u Q I rx ry ⟨_, _, _, v', rfl, rfl, .inl (.inl h4), h5, q _ H ι G (.refl _ _) h6⟩ hs
        · cases e
      · cases e
    · split at e
      · split at e
        · rename_i h2
          cases e
          cases r1 with
          | p r1 =>
            cases r1
            exact ix_str value slice pins s σ H _ _ v u Q I rx ry ⟨_, _, _, rfl, rfl, Nat.le_trans ‹_› szLine_le, h2, q _ H ι G (.refl _ _) (.p (.str _))⟩ hs
        · cases e
      · cases e
    · split at e
      · rename_i h1
        split at e
        · rename_i h2
          cases e
          obtain ⟨a, ws, rfl, h3, h4⟩ := see_seq G r1 rfl h1
          obtain ⟨v', h5, h6⟩ := atI_rps h3 h2
          rcases h4 with ⟨h4, _⟩ | ⟨h4, _⟩
          · exact ix_list value slice pins s σ H _ _ v u Q I rx ry ⟨_, _, _, v', rfl, rfl, kk ▸ h4, h5, q _ H ι G (.refl _ _) (.p h6)⟩ hs
          · exact ix_tup value slice pins s σ H _ _ v u Q I rx ry ⟨_, _, _, v', rfl, rfl, kk ▸ sqT_of_fz (.inl (.inl h4)), h5, q _ H ι G (.refl _ _) (.p h6)⟩ hs
        · cases e
      · cases e
  · cases e
theorem se_ix {fa fb : Ev D} (k : CxK X g) (ha : PE X a (SemE g E fa)) (hb : PE X b (SemE g E fb)) (hs : PlainIx b) : PE X (.Subscript a b pos) (SemE g E (v2 oIx fa fb)) :=
  pe_mono (pe_ix (xr_ix k) ha hb hs) (tOp_of (opSem_of noX_ix))
theorem cut_rps {vs : List V} {xs : List P} (lo hi : Option Int) (h : Rps g F vs xs) : Rps g F (cutV vs lo hi) (cutL xs lo hi) := by
  unfold cutV cutL
  rw [h.length]
  exact (h.drop _).take _
theorem cut_whole {xs : List P} {lo hi : Option Int} (h : HT.sIx xs.length 0 lo = 0 ∧ HT.sIx xs.length xs.length hi = xs.length) : cutL xs lo hi = xs := by
  unfold cutL
  rw [h.1, h.2]
  simp
def rSl3 (g : GL) : V → Option Int → Option Int → Hp → VK → Prop := fun x lo hi H Q => ∃ ex ι st dx, Good (g.wx ex) ι st H ∧ RD (g.wx ex) (Fz H ((g.wx ex).x ι)) ι x dx ∧ ∃ d st', oSl dx lo hi st = .ok d st' ∧ ∀ v H' ι', Good (g.wx ex) ι' st' H' → Ext (g.wx ex) H ι H' ι' → RD (g.wx ex) (Fz H' ((g.wx ex).x ι')) ι' v d → Q v H'
theorem xr_sl (k : CxK X g) : SlR X (rSl3 g) := by
  rintro pins s σ H x v vl vu lo hi sl Q I rx hs pl pu ⟨ex, ι, st, dx, G, r1, d, st', e, q⟩
  have kk : X.K = (g.wx ex).K := k.K
  unfold oSl at e
  split at e
  · rename_i h1
    obtain ⟨a, ws, rfl, h3, h4⟩ := see_lst G r1 h1
    cases e
    exact sl_list pins s σ H _ v vl vu lo hi sl Q I rx hs pl pu ⟨a, ws, rfl, .inl (.inl h3), fun p hp => new_data G hp q rfl fun F' s' e => .lst e (cut_rps lo hi (Rps.sub s' h4))⟩
  · rename_i h1
    obtain ⟨a, ws, rfl, h3, h4⟩ := see_scr G r1 h1
    cases e
    exact sl_list pins s σ H _ v vl vu lo hi sl Q I rx hs pl pu ⟨a, ws, rfl, kk ▸ h3, fun p hp => new_data G hp q rfl fun F' s' e => .lst e (cut_rps lo hi (Rps.sub s' h4))⟩
  · rename_i h1
    obtain ⟨a, ws, rfl, h3, h4⟩ := see_tup G r1 h1
    cases e
    refine sl_tupA pins s σ H _ v vl vu lo hi sl Q I rx hs pl pu ⟨a, ws, rfl, kk ▸ sqT_of_fz (.inl (.inl h3)), fun z => ?_, fun _ p hp => new_data G hp q rfl fun F' s' e => .tup e (cut_rps lo hi (Rps.sub s' h4))⟩
    rw [h4.length] at z
    rw [cut_whole z] at q
    exact q _ H ι G (.refl _ _) (.p (.tup h3 h4))
  · rename_i h1
    split at e
    · cases e
      obtain rfl := see_str G r1 h1
      exact sl_str pins s σ H _ v vl vu lo hi sl Q I rx hs pl pu ⟨_, rfl, Nat.le_trans ‹_› szLine_le, q _ H ι G (.refl _ _) (.p (.str _))⟩
    · cases e
  · cases e
theorem po_mono {o : Option Expr} {t t' : TO} (h : PO X o t) (k : ∀ σ H Q, t' σ H Q → t σ H Q) : PO X o t' := ⟨fun pins s σ H Q I q => h.run pins s σ H Q I (k σ H Q q)⟩
theorem so_none : PO X none (SemO g E poN) := po_mono po_none fun σ H Q ⟨ex, ι, st, δ, at_, h⟩ => h H ι at_.good (.refl _ _)
theorem so_some {f : Ev D} (h : PE X e (SemE g E f)) : PO X (some e) (SemO g E (poS f)) := by
  refine po_mono (po_some h) fun σ H Q ⟨ex, ι, st, δ, at_, h⟩ => ?_
  refine semE_bnd at_ ?_
  unfold poS at h
  cases ea : f δ st with
  | bad => rw [ea] at h; exact h
  | exc c s1 => rw [ea] at h; exact h
  | ok x s1 =>
    rw [ea] at h
    intro v H1 ι1 at1 x1 r1
    simp only [Res.bnd] at h
    split at h
    · obtain rfl := r1.intI
      exact ⟨_, rfl, h H1 ι1 at1.good x1⟩
    · exact h.elim
theorem semO_bnd {ex : List Addr} {f : Ev (Option Int)} {σ : L2.St} {δ : Env} {Q : Option Int → Hp → Prop} (a : At (g.wx ex) H ι st σ δ)
    (h : match f δ st with
      | .ok d st1 => ∀ H1 ι1, At (g.wx ex) H1 ι1 st1 σ δ → Ext (g.wx ex) H ι H1 ι1 → Q d H1
      | .exc c st1 => PostX (g.wx ex) H ι c st1 E
      | .bad => False) : SemO g E f σ H Q := by
  refine ⟨ex, ι, st, δ, a, ?_⟩
  cases e : f δ st with
  | ok d st1 => rw [e] at h; exact fun H1 ι1 gd x => h H1 ι1 (a.ext x gd) x
  | exc c st1 => rw [e] at h; exact h
  | bad => rw [e] at h; exact h
theorem noX_sl {x lo hi st c s} : oSl x lo hi st ≠ .exc c s := by
  intro e; unfold oSl at e; repeat' split at e
  all_goals cases e
theorem se_sl {lo hi : Option Expr} {f : Ev D} {fl fh : Ev (Option Int)} {p2 : Pos} (k : CxK X g) (he : PE X e (SemE g E f)) (hl : PO X lo (SemO g E fl)) (hh : PO X hi (SemO g E fh)) : PE X (.Subscript e (.Slice lo hi none p2) pos) (SemE g E (vSl f fl fh)) := by
  refine pe_mono (pe_slice (xr_sl k) he hl hh) fun σ H Q ⟨ex, ι, st, δ, at_, h⟩ => ?_
  refine semE_bnd at_ ?_
  unfold vSl at h
  cases ea : f δ st with
  | bad => rw [ea] at h; exact h
  | exc c s1 => rw [ea] at h; exact h
  | ok x s1 =>
    rw [ea] at h
    intro v H1 ι1 at1 x1 r1
    refine semO_bnd at1 ?_
    have h := Post.ext x1 h
    simp only [Res.bnd] at h
    cases eb : fl δ s1 with
    | bad => rw [eb] at h; exact h
    | exc c s2 => rw [eb] at h; exact h
    | ok l s2 =>
      rw [eb] at h
      intro H2 ι2 at2 x2
      refine semO_bnd at2 ?_
      have h := Post.ext x2 h
      simp only [] at h
      cases ec : fh δ s2 with
      | bad => rw [ec] at h; exact h
      | exc c s3 => rw [ec] at h; exact h
      | ok u s3 =>
        rw [ec] at h
        intro H3 ι3 at3 x3
        have h := Post.ext x3 h
        simp only [] at h
        refine ⟨ex, ι3, s3, x, at3.good, (r1.ext x2).ext x3, ?_⟩
        cases ez : oSl x l u s3 with
        | bad => rw [ez] at h; exact h.elim
        | exc c s => exact (noX_sl ez).elim
        | ok d s => rw [ez] at h; exact ⟨d, s, rfl, h⟩

/-! ### methods of built-in types -/
abbrev FM := D → List D → Store → Res D
def isList (d : D) (st : Store) : Bool := match d with
  | .ref n => match st[n]? with
    | some (.lst _) => true
    | _ => false
  | .p (.lst _) => true
  | .p (.scr _) => true
  | _ => false
def isStr (d : D) (_ : Store) : Bool := match d with
  | .p (.str _) => true
  | _ => false
def isDict (d : D) (st : Store) : Bool := match d with
  | .ref n => match st[n]? with
    | some (.dK _) => true
    | some (.dT _) => true
    | _ => false
  | _ => false
def vMet (ty : D → Store → Bool) (f : FM) (fo : Ev D) (fa : Ev (List D)) : Ev D := fun δ st => (fo δ st).bnd fun o s => if ty o s = true then (fa δ s).bnd fun ds s2 => f o ds s2 else .bad
def rMet (g : GL) (f : FM) : V → List V → Hp → VK → Prop := fun x vs H Q => ∃ ex ι st dx ds, Good (g.wx ex) ι st H ∧ RD (g.wx ex) (Fz H ((g.wx ex).x ι)) ι x dx ∧ RDs (g.wx ex) (Fz H ((g.wx ex).x ι)) ι vs ds ∧ ∃ d st', f dx ds st = .ok d st' ∧ ∀ v H' ι', Good (g.wx ex) ι' st' H' → Ext (g.wx ex) H ι H' ι' → RD (g.wx ex) (Fz H' ((g.wx ex).x ι')) ι' v d → Q v H'
def NoXM (f : FM) : Prop := ∀ o ds st c s, f o ds st ≠ .exc c s
/-- ty tells the type T -/
def TyOk (g : GL) (T : String) (ty : D → Store → Bool) : Prop := ∀ {ex : List Addr} {ι : List Addr} {st : Store} {H : Hp} {v : V} {d : D}, Good (g.wx ex) ι st H → RD (g.wx ex) (Fz H ((g.wx ex).x ι)) ι v d → ty d st = true → tyV g.K T v H
theorem ty_list : TyOk g "list" isList := by
  intro ex ι st H v d G r e
  unfold isList at e
  split at e
  · split at e
    · rename_i h1
      cases r with
      | ref hn =>
        obtain ⟨c, w, h3, h4, rc⟩ := G.cell' hn
        rw [h1] at h3; cases h3
        cases rc with
        | lst z => exact .inl ⟨rfl, _, .inl (.inl h4)⟩
    · cases e
  · cases r with
    | p r => cases r with | lst h _ => exact .inl ⟨rfl, _, .inl (.inl (Fz.lst h))⟩
  · cases r with
    | p r => cases r with | scr h _ => exact .inl ⟨rfl, _, sqL_of_fz h⟩
  · cases e
theorem ty_str : TyOk g "str" isStr := by
  intro ex ι st H v d G r e
  unfold isStr at e
  split at e
  · cases r with
    | p r => cases r; exact rfl
  · cases e
theorem ty_dict : TyOk g "dict" isDict := by
  intro ex ι st H v d G r e
  unfold isDict at e
  split at e
  · split at e
    · rename_i h1
      cases r with
      | ref hn =>
        obtain ⟨c, w, h3, h4, rc⟩ := G.cell' hn
        rw [h1] at h3; cases h3
        cases rc with
        | dK z => exact .inr (.inr (.inl ⟨rfl, .inl ⟨_, h4⟩⟩))
    · rename_i h1
      cases r with
      | ref hn =>
        obtain ⟨c, w, h3, h4, rc⟩ := G.cell' hn
        rw [h1] at h3; cases h3
        cases rc with
        | dT z => exact .inr (.inr (.inl ⟨rfl, .inr ⟨_, h4⟩⟩))
    · cases e
  · cases e
theorem tBM_of {T : String} {ty : D → Store → Bool} {f : FM} {fo : Ev D} {fa : Ev (List D)} (ht : TyOk g T ty) (n : NoXM f) : ∀ σ H Q, SemE g E (vMet ty f fo fa) σ H Q → tBM g.K T (rMet g f) (SemE g E fo) (SemA g E fa) σ H Q := by
  rintro σ H Q ⟨ex, ι, st, δ, at_, h⟩
  refine semE_bnd at_ ?_
  unfold vMet at h
  cases ea : fo δ st with
  | bad => rw [ea] at h; exact h
  | exc c s1 => rw [ea] at h; exact h
  | ok x s1 =>
    rw [ea] at h
    intro v H1 ι1 at1 x1 r1
    have h := Post.ext x1 h
    simp only [Res.bnd] at h
    split at h
    · rename_i hty
      refine ⟨ht at1.good r1 hty, semA_bnd at1 ?_⟩
      cases eb : fa δ s1 with
      | bad => rw [eb] at h; exact h
      | exc c s2 => rw [eb] at h; exact h
      | ok ds s2 =>
        rw [eb] at h
        intro vs H2 ι2 at2 x2 r2
        have h := Post.ext x2 h
        simp only [] at h
        refine ⟨ex, ι2, s2, x, ds, at2.good, r1.ext x2, r2, ?_⟩
        cases ez : f x ds s2 with
        | bad => rw [ez] at h; exact h.elim
        | exc c s => exact (n _ _ _ _ _ ez).elim
        | ok d s => rw [ez] at h; exact ⟨d, s, rfl, h⟩
    · exact h.elim
/-- a short list of plain arguments -/
abbrev FewArgs (X : Cx) (e : Expr) (es : List Expr) (cp : Pos) : Prop :=
  ((backTo cp (starEach (e :: es) X.env)).all (fun x => !x.1) && (backToKw cp (keywordEach [] X.env)).all (fun x => x.1.isSome) && decide ((e :: es).length + ([] : List Keyword).length + (if ([] : List Keyword).isEmpty then 0 else 1) < 30)) = true
theorem se_met {T id : String} {ty : D → Store → Bool} {f : FM} {fo : Ev D} {fa : Ev (List D)} {o : Expr} {es : List Expr} {name : Str} {apos cpos : Pos} (k : CxK X g) (pa : PlainAttrs T) (slot : Slot T name id) (hty : typeOf (.builtin id) = pure (.type "method_descriptor")) (hm : MtR X id (rMet g f)) (ht : TyOk g T ty) (n : NoXM f)
    (ho : PE X o (SemE g E fo)) (ha : PA X (e :: es) (SemA g E fa))
    (hb : attributeBase o name X.env (eval o X.env) = eval o X.env := by rfl)
    (few : FewArgs X e es cpos := by rfl) (line1 : (apos.endLine == cpos.line) = true := by rfl) (star1 : starEach (e :: es) X.env = (false, eval e X.env) :: starEach es X.env := by rfl) (plain1 : (backTo cpos (starEach es X.env)).any (·.1) = false := by rfl) :
    PE X (.Call (.Attribute o name apos) (e :: es) [] cpos) (SemE g E (vMet ty f fo fa)) := by
  have q := pe_bm pa slot hty hm ho ha hb few line1 star1 plain1
  rw [k.K] at q
  exact pe_mono q (tBM_of ht n)
def vMet0 (ty : D → Store → Bool) (f : FM) (fo : Ev D) : Ev D := fun δ st => (fo δ st).bnd fun o s => if ty o s = true then f o [] s else .bad
theorem tBM0_of {T : String} {ty : D → Store → Bool} {f : FM} {fo : Ev D} (ht : TyOk g T ty) (n : NoXM f) : ∀ σ H Q, SemE g E (vMet0 ty f fo) σ H Q → tBM0 g.K T (rMet g f) (SemE g E fo) σ H Q := by
  rintro σ H Q ⟨ex, ι, st, δ, at_, h⟩
  refine semE_bnd at_ ?_
  unfold vMet0 at h
  cases ea : fo δ st with
  | bad => rw [ea] at h; exact h
  | exc c s1 => rw [ea] at h; exact h
  | ok x s1 =>
    rw [ea] at h
    intro v H1 ι1 at1 x1 r1
    have h := Post.ext x1 h
    simp only [Res.bnd] at h
    split at h
    · rename_i hty
      refine ⟨ht at1.good r1 hty, ex, ι1, s1, x, [], at1.good, r1, .nil, ?_⟩
      cases ez : f x [] s1 with
      | bad => rw [ez] at h; exact h.elim
      | exc c s => exact (n _ _ _ _ _ ez).elim
      | ok d s => rw [ez] at h; exact ⟨d, s, rfl, h⟩
    · exact h.elim
theorem se_met0 {T id : String} {ty : D → Store → Bool} {f : FM} {fo : Ev D} {o : Expr} {name : Str} {apos cpos : Pos} (k : CxK X g) (pa : PlainAttrs T) (slot : Slot T name id) (hty : typeOf (.builtin id) = pure (.type "method_descriptor")) (hm : MtR X id (rMet g f)) (ht : TyOk g T ty) (n : NoXM f)
    (ho : PE X o (SemE g E fo)) (hbase : attributeBase o name X.env (eval o X.env) = eval o X.env := by rfl) (hline : (apos.endLine == cpos.line) = true := by rfl) :
    PE X (.Call (.Attribute o name apos) [] [] cpos) (SemE g E (vMet0 ty f fo)) := by
  have q := pe_bm0 pa slot hty hm ho hbase hline
  rw [k.K] at q
  exact pe_mono q (tBM0_of ht n)

/-- l.append(x) -/
def mApp : FM := fun o ds st => match o, ds with
  | .ref n, [d] => match st[n]? with
    | some (.lst xs) => if xs.length < szLine then .ok (.p .non) (st.set n (.lst (xs ++ [d]))) else .bad
    | _ => .bad
  | _, _ => .bad
theorem nm_app : NoXM mApp := by intro o ds st c s e; unfold mApp at e; repeat' split at e
                                 all_goals cases e
/-- a cell that holds a list -/
theorem lst_cell (G : Good g ι st H) {v : V} {n : Nat} {xs : List D} (r : RD g (Fz H (g.x ι)) ι v (.ref n)) (h : st[n]? = some (.lst xs)) : ∃ a vs, v = .ref a ∧ ι[n]? = some a ∧ H a = some (.lst vs) ∧ RDs g (Fz H (g.x ι)) ι vs xs := by
  cases r with
  | ref hn =>
    obtain ⟨c, w, h3, h4, rc⟩ := G.cell' hn
    rw [h] at h3; cases h3
    cases rc with
    | lst z => exact ⟨_, _, rfl, hn, h4, z⟩
/-- .. is written -/
theorem lst_write (G : Good g ι st H) {n : Nat} {a : Addr} {vs ws : List V} {ds : List D} (hn : ι[n]? = some a) (h : H a = some (.lst vs)) (r : RDs g (Fz H (g.x ι)) ι ws ds) : Good g ι (st.set n (.lst ds)) (upd H a (.lst ws)) ∧ Ext g H ι (upd H a (.lst ws)) ι :=
  good_write G hn (.lst r) (fun ps e => by rw [h] at e; cases e) (fun c P e => by rw [h] at e; cases e) (fun c P e => by rw [h] at e; cases e) fun c P e => by rw [h] at e; cases e
theorem rm_app : MtR X "list.append" (rMet g mApp) := by
  rintro pins s σ H x vs v us Q I rx rv ⟨ex, ι, st, dx, ds, G, r1, r2, d, st', e, q⟩
  unfold mApp at e
  split at e
  · split at e
    · rename_i h1
      split at e
      · rename_i hz
        cases e
        obtain ⟨a, ws, rfl, hn, hH, rr⟩ := lst_cell G r1 h1
        obtain ⟨w, rfl, rw'⟩ := rds_one r2
        obtain ⟨G', x'⟩ := lst_write G hn hH (pd_app rr (.cons rw' .nil))
        exact mt_append pins s σ H _ _ v us Q I rx rv ⟨a, ws, w, rfl, rfl, hH, Nat.lt_of_lt_of_le (by rw [Paired.length rr]; exact hz) szLine_le, q _ _ ι G' x' (.p .non)⟩
      · cases e
    · cases e
  · cases e
/-- l.index(x) -/
def mIdx : FM := fun o ds st => match ds with
  | [d] => match see st o, see st d with
    | some (.lst xs), some y => if SeqAt.shaped (P.lst xs).toD = true ∧ SeqAt.shaped y.toD = true then match idxP y xs 0 with
        | some i => .ok (.p (.int (i : Nat))) st
        | none => .bad
      else .bad
    | _, _ => .bad
  | _ => .bad
theorem nm_idx : NoXM mIdx := by intro o ds st c s e; unfold mIdx at e; repeat' split at e
                                 all_goals cases e
theorem idxP_spec {y : P} : ∀ {xs : List P} {n i : Nat}, idxP y xs n = some i → ∃ j z, i = n + j ∧ xs[j]? = some z ∧ PyData.eqv z.toD y.toD = true ∧ ∀ m z', m < j → xs[m]? = some z' → PyData.eqv z'.toD y.toD = false
  | [], _, _, e => by cases e
  | x :: xs, n, i, e => by
    unfold idxP at e
    split at e
    · rename_i h
      cases e
      exact ⟨0, x, by omega, rfl, h, fun m z' hm => absurd hm (Nat.not_lt_zero _)⟩
    · rename_i h
      obtain ⟨j, z, h1, h2, h3, h4⟩ := idxP_spec e
      refine ⟨j + 1, z, by omega, by simpa using h2, h3, fun m z' hm hz => ?_⟩
      cases m with
      | zero => simp at hz; subst hz; simpa using h
      | succ m => exact h4 m z' (by omega) (by simpa using hz)
theorem rm_idx (k : CxK X g) : MtR X "list.index" (rMet g mIdx) := by
  rintro pins s σ H x vs v us Q I rx rv ⟨ex, ι, st, dx, ds, G, r1, r2, d, st', e, q⟩
  have kk : X.K = (g.wx ex).K := k.K
  have hu := k.u
  unfold mIdx at e
  split at e
  · split at e
    · rename_i xs y h1 h2
      split at e
      · rename_i hz
        split at e
        · rename_i h3
          cases e
          obtain ⟨w, rfl, rw'⟩ := rds_one r2
          have d1 := dp_of G r1 h1 hz.1
          have d2 := dp_of G rw' h2 hz.2
          obtain ⟨a, ws, ev, _, _⟩ := see_lst G r1 h1
          obtain ⟨j, z, h4, h5, h6, h7⟩ := idxP_spec h3
          rw [Nat.zero_add] at h4
          subst h4 ev
          have d1' : Dp X.K H (V.ref a) (.list (P.toDs xs)) := by rw [kk]; simpa only [P.toD] using d1
          refine mt_indexD (by omega) pins s σ H _ _ v us Q I rx rv ⟨a, w, _, _, _, _, rfl, rfl, d1', kk ▸ d2, by simpa only [P.toD] using hz.1, hz.2, ?_, h6, ?_, q _ H ι G (.refl _ _) (.p (.int _))⟩
          · rw [toDs_eq, List.getElem?_map, h5]; rfl
          · intro m z' hm hz'
            rw [toDs_eq, List.getElem?_map, Option.map_eq_some_iff] at hz'
            obtain ⟨y', e1, rfl⟩ := hz'
            exact h7 m y' hm e1
        · cases e
      · cases e
    · cases e
  · cases e
end
end Iv
end

section
set_option Elab.async false
set_option linter.all false
set_option maxRecDepth 100000
set_option maxHeartbeats 4100000
namespace Iv
open PySem PySem.Spec PyProof.Rows L2 Gx

/-! ### targets -/
abbrev Gv := D → Env → Store → SR
abbrev Gvs := List D → Env → Store → SR
def PostG (g : GL) (H : Hp) (ι : List Addr) (E : XK) (r : SR) (Q : L2.St → Hp → Prop) : Prop := match r with
  | .nx δ st => ∀ σ H' ι', Good g ι' st H' → Ext g H ι H' ι' → RE g (Fz H' (g.x ι')) ι' σ δ → Q σ H'
  | .exc c st => PostX g H ι c st E
  | _ => False
def SemG (g : GL) (E : XK) (f : Gv) : TG := fun v σ H Q => ∃ ex ι st δ d, At (g.wx ex) H ι st σ δ ∧ RD (g.wx ex) (Fz H ((g.wx ex).x ι)) ι v d ∧ PostG (g.wx ex) H ι E (f d δ st) Q
def SemGs (g : GL) (E : XK) (f : Gvs) : TGs := fun vs σ H Q => ∃ ex ι st δ ds, At (g.wx ex) H ι st σ δ ∧ RDs (g.wx ex) (Fz H ((g.wx ex).x ι)) ι vs ds ∧ PostG (g.wx ex) H ι E (f ds δ st) Q
theorem PostG.ext {g : GL} {H H1 : Hp} {ι ι1 : List Addr} {r : SR} {E : XK} {Q : L2.St → Hp → Prop} (x : Ext g H ι H1 ι1) (h : PostG g H ι E r Q) : PostG g H1 ι1 E r Q := by
  cases r with
  | nx δ st => exact fun v H' ι' a b c => h v H' ι' a (x.trans b) c
  | exc c st => exact PostX.ext x h
  | _ => exact h.elim
def gvN (i : Nat) : Gv := fun d δ st => .nx (δ.set i (some d)) st
def gsN : Gvs := fun ds δ st => match ds with
  | [] => .nx δ st
  | _ => .bad
def gsC (f : Gv) (r : Gvs) : Gvs := fun ds δ st => match ds with
  | d :: ds => match f d δ st with
    | .nx δ1 st1 => r ds δ1 st1
    | .exc c s => .exc c s
    | _ => .bad
  | [] => .bad
def gvT (n : Nat) (f : Gvs) : Gv := fun d δ st => match see st d with
  | some (.tup xs) => if xs.length = n then f (xs.map .p) δ st else .bad
  | _ => .bad
/-- o[i] = v -/
def oSet (o i v : D) (st : Store) : Option Store := match o, i with
  | .ref n, .p (.int k) => match st[n]? with
    | some (.lst ds) => match ixN ds.length k with
      | some j => some (st.set n (.lst (ds.set j v)))
      | none => none
    | _ => none
  | _, _ => none
def gvS (fo fi : Ev D) : Gv := fun v δ st => match fo δ st with
  | .ok o s1 => match fi δ s1 with
    | .ok i s2 => match oSet o i v s2 with
      | some s3 => .nx δ s3
      | none => .bad
    | .exc c s => .exc c s
    | .bad => .bad
  | .exc c s => .exc c s
  | .bad => .bad
section
variable {X : Cx} {g : GL} {E : XK} {pos : Pos} {a b e : Expr} {ι : List Addr} {st : Store} {H F : Hp}
theorem pg_mono {t t' : TG} {tg : Expr} (h : PG X tg t) (k : ∀ v σ H Q, t' v σ H Q → t v σ H Q) : PG X tg t' := ⟨fun pins s σ H v u Q I r q => h.run pins s σ H v u Q I r (k v σ H Q q)⟩
theorem pgs_mono {t t' : TGs} {tg : List Expr} (h : PGs X tg t) (k : ∀ v σ H Q, t' v σ H Q → t v σ H Q) : PGs X tg t' := ⟨fun pins s σ H v u Q I r q => h.run pins s σ H v u Q I r (k v σ H Q q)⟩
theorem sg_name {i : Nat} {x : Str} (hN : X.N.Nodup) (hi : X.N[i]? = some x) (hx : Loc X.env.scope x) (hf : X.fn x = true ∨ X.env.scope.names.lookup x = some .local := by first | exact .inl rfl | exact .inr rfl | assumption) : PG X (.Name x pos) (SemG g E (gvN i)) :=
  pg_mono (pg_name hN hi hx hf) fun v σ H Q ⟨ex, ι, st, δ, d, at_, r, h⟩ => h _ H ι at_.good (.refl _ _) (at_.env.set i r)
theorem sgs_nil : PGs X [] (SemGs g E gsN) := pgs_mono pgs_nil fun v σ H Q ⟨ex, ι, st, δ, d, at_, r, h⟩ => by
  cases r with
  | nil => exact ⟨rfl, h _ H ι at_.good (.refl _ _) at_.env⟩
  | cons _ _ => exact h.elim
theorem sgs_cons {es : List Expr} {f : Gv} {r : Gvs} (h1 : PG X e (SemG g E f)) (h2 : PGs X es (SemGs g E r)) (hs : (assignEach (e :: es) X.env).map (·.2) = assign e X.env :: (assignEach es X.env).map (·.2) := by rfl) : PGs X (e :: es) (SemGs g E (gsC f r)) :=
  pgs_mono (pgs_cons h1 h2 hs) fun v σ H Q ⟨ex, ι, st, δ, d, at_, rd, h⟩ => by
    cases rd with
    | nil => exact h.elim
    | @cons v1 d1 vs1 ds1 r1 rr =>
      refine ⟨_, _, rfl, ex, ι, st, δ, d1, at_, r1, ?_⟩
      simp only [gsC] at h
      cases ef : f d1 δ st with
      | nx δ1 st1 =>
        rw [ef] at h
        intro σ1 H1 ι1 g1 x1 e1
        exact ⟨ex, ι1, st1, δ1, ds1, ⟨g1, e1⟩, RDs.sub x1.keep x1.le rr, PostG.ext x1 h⟩
      | exc c s => rw [ef] at h; exact h
      | _ => rw [ef] at h; exact h.elim
theorem sg_tup {es : List Expr} {k : Nat} {f : Gvs} {n : Nat} (kk : CxK X g) (hc : X.calm = true) (h : PGs X es (SemGs g E f)) (hn : (assignEach es X.env).length = n := by rfl) (hst : (assignEach es X.env).findIdx? (·.1) = none := by rfl) : PG X (.Tuple es k pos) (SemG g E (gvT n f)) :=
  pg_mono (pg_tup hc h hn hst) fun v σ H Q ⟨ex, ι, st, δ, d, at_, rd, h⟩ => by
    have hK : X.K = (g.wx ex).K := kk.K
    unfold gvT at h
    split at h
    · rename_i h1
      split at h
      · rename_i h2
        obtain ⟨a, ws, rfl, h3, h4⟩ := see_tup at_.good rd h1
        exact ⟨a, ws, rfl, hK ▸ sqT_of_fz (.inl (.inl h3)), by rw [h4.length]; exact h2, ex, ι, st, δ, _, at_, rds_map h4, h⟩
      · exact h.elim
    · exact h.elim
/-- o[i] = v, by values -/
def rSet3 (g : GL) : TSet := fun o i v H Q => ∃ ex ι st do_ di dv, Good (g.wx ex) ι st H ∧ RD (g.wx ex) (Fz H ((g.wx ex).x ι)) ι o do_ ∧ RD (g.wx ex) (Fz H ((g.wx ex).x ι)) ι i di ∧ RD (g.wx ex) (Fz H ((g.wx ex).x ι)) ι v dv ∧ ∃ st', oSet do_ di dv st = some st' ∧ ∀ H', Good (g.wx ex) ι st' H' → Ext (g.wx ex) H ι H' ι → Q H'
theorem set_sem : PSet X (rSet3 g) := by
  rintro pins s σ H o i v ov iv u Q I ro ri rv ⟨ex, ι, st, do_, di, dv, G, r1, r2, r3, st', e, q⟩
  unfold oSet at e
  split at e
  · split at e
    · rename_i h1
      split at e
      · rename_i h2
        cases e
        obtain ⟨a, ws, rfl, hn, hH, rr⟩ := lst_cell G r1 h1
        obtain rfl := r2.intI
        obtain ⟨G', x'⟩ := lst_write G hn hH (pd_set _ rr r3)
        exact set_list pins s σ H _ _ v ov iv u Q I ro ri rv ⟨a, ws, _, _, rfl, rfl, hH, by rw [Paired.length rr]; exact h2, q _ G' x'⟩
      · cases e
    · cases e
  · cases e
theorem sg_sub {fo fi : Ev D} (ho : PE X a (SemE g E fo)) (hi : PE X b (SemE g E fi))
    (ha : ∀ v, assign (.Subscript a b pos) X.env v = (do
      let ov ← holding [v] (eval a X.env)
      let iv ← holding [v, ov] (eval b X.env)
      standAt pos; holding [v, ov, iv] (setItem ov iv v)
      release [v, ov, iv] []) := by intro _; rfl) : PG X (.Subscript a b pos) (SemG g E (gvS fo fi)) :=
  pg_mono (pg_sub ho hi (set_sem (g := g)) ha) fun v σ H Q ⟨ex, ι, st, δ, d, at_, rd, h⟩ => by
    refine semE_bnd at_ ?_
    unfold gvS at h
    cases ea : fo δ st with
    | bad => rw [ea] at h; exact h
    | exc c s1 => rw [ea] at h; exact h
    | ok o s1 =>
      rw [ea] at h
      intro vo H1 ι1 at1 x1 r1
      refine semE_bnd at1 ?_
      have h := PostG.ext x1 h
      simp only [] at h
      cases eb : fi δ s1 with
      | bad => rw [eb] at h; exact h
      | exc c s2 => rw [eb] at h; exact h
      | ok i s2 =>
        rw [eb] at h
        intro vi H2 ι2 at2 x2 r2
        have h := PostG.ext x2 h
        simp only [] at h
        refine ⟨ex, ι2, s2, o, i, d, at2.good, r1.ext x2, r2, (rd.ext x1).ext x2, ?_⟩
        cases es : oSet o i d s2 with
        | none => rw [es] at h; exact h.elim
        | some s3 =>
          rw [es] at h
          exact ⟨s3, rfl, fun H' G' x' => h σ H' ι2 G' x' (at2.env.ext x')⟩

/-! ### statements -/
def sNx : Sv := fun δ st => .nx δ st
def sSeq (f h : Sv) : Sv := fun δ st => match f δ st with
  | .nx δ1 s1 => h δ1 s1
  | r => r
def sIf (c : Ev Bool) (f h : Sv) : Sv := fun δ st => match c δ st with
  | .ok true s => f δ s
  | .ok false s => h δ s
  | .exc c s => .exc c s
  | .bad => .bad
def sRet (f : Ev D) : Sv := fun δ st => match f δ st with
  | .ok d s => .rt d s
  | .exc c s => .exc c s
  | .bad => .bad
def sRetN : Sv := fun _ st => .rt (.p .non) st
def sDo (f : Ev D) : Sv := fun δ st => match f δ st with
  | .ok _ s => .nx δ s
  | .exc c s => .exc c s
  | .bad => .bad
def sAsg (f : Ev D) (t : Gv) : Sv := fun δ st => match f δ st with
  | .ok d s => match t d δ s with
    | .nx δ1 s1 => .nx δ1 s1
    | .exc c s => .exc c s
    | _ => .bad
  | .exc c s => .exc c s
  | .bad => .bad
def sBrk : Sv := fun δ st => .bk δ st
def sCnt : Sv := fun δ st => .ct δ st
theorem ss_nil : PSs X [] (SemS g E sNx) := pss_mono pss_nil fun D σ H ⟨ex, ι, st, δ, at_, h⟩ => h σ H ι at_.good (.refl _ _) at_.env
theorem ss_pass : PS X (.Pass pos) (SemS g E sNx) := ps_mono ps_pass fun D σ H ⟨ex, ι, st, δ, at_, h⟩ => h σ H ι at_.good (.refl _ _) at_.env
theorem ss_brk : PS X (.Break pos) (SemS g E sBrk) := ps_mono ps_break fun D σ H ⟨ex, ι, st, δ, at_, h⟩ => h σ H ι at_.good (.refl _ _) at_.env
theorem ss_cnt : PS X (.Continue pos) (SemS g E sCnt) := ps_mono ps_continue fun D σ H ⟨ex, ι, st, δ, at_, h⟩ => h σ H ι at_.good (.refl _ _) at_.env
theorem ss_cons {s : Stmt} {ss : List Stmt} {f h : Sv} (h1 : PS X s (SemS g E f)) (h2 : PSs X ss (SemS g E h)) : PSs X (s :: ss) (SemS g E (sSeq f h)) := by
  refine pss_mono (pss_cons h1 h2) fun D σ H ⟨ex, ι, st, δ, at_, hh⟩ => ⟨ex, ι, st, δ, at_, ?_⟩
  unfold sSeq at hh
  cases ef : f δ st with
  | nx δ1 s1 =>
    rw [ef] at hh
    intro σ1 H1 ι1 g1 x1 e1
    exact ⟨ex, ι1, s1, δ1, ⟨g1, e1⟩, PostS.ext x1 hh⟩
  | _ => rw [ef] at hh; exact hh
theorem ss_one {s : Stmt} {f : Sv} (h1 : PS X s (SemS g E f)) : PSs X [s] (SemS g E f) := pss_one h1
theorem ss_if {c : Expr} {x y : List Stmt} {fc : Ev Bool} {f h : Sv} (hc : PT X c (SemB g E fc)) (ha : PSs X x (SemS g E f)) (hb : PSs X y (SemS g E h)) : PS X (.If c x y pos) (SemS g E (sIf fc f h)) := by
  refine ps_mono (ps_if hc ha hb) fun D σ H ⟨ex, ι, st, δ, at_, hh⟩ => semB_bnd at_ ?_
  unfold sIf at hh
  cases ef : fc δ st with
  | bad => rw [ef] at hh; exact hh
  | exc c s => rw [ef] at hh; exact hh
  | ok b s1 =>
    rw [ef] at hh
    intro H1 ι1 at1 x1
    cases b with
    | true => exact ⟨ex, ι1, s1, δ, at1, PostS.ext x1 hh⟩
    | false => exact ⟨ex, ι1, s1, δ, at1, PostS.ext x1 hh⟩
theorem ss_ret {f : Ev D} (he : PE X e (SemE g E f)) : PS X (.Return (some e) pos) (SemS g E (sRet f)) := by
  refine ps_mono (ps_ret he) fun D σ H ⟨ex, ι, st, δ, at_, hh⟩ => ⟨ex, ι, st, δ, at_, ?_⟩
  unfold sRet at hh
  cases ef : f δ st with
  | bad => rw [ef] at hh; exact hh
  | exc c s => rw [ef] at hh; exact hh
  | ok d s => rw [ef] at hh; exact hh
theorem ss_retN : PS X (.Return none pos) (SemS g E sRetN) := ps_mono ps_retN fun D σ H ⟨ex, ι, st, δ, at_, h⟩ => h .non H ι at_.good (.refl _ _) (.p .non)
theorem ss_do {f : Ev D} (he : PE X e (SemE g E f)) (hs : swapsWith e none pos.line X.env = pure false := by rfl) : PS X (.Expr e pos) (SemS g E (sDo f)) := by
  refine ps_mono (ps_expr he hs) fun D σ H ⟨ex, ι, st, δ, at_, hh⟩ => semE_bnd at_ ?_
  unfold sDo at hh
  cases ef : f δ st with
  | bad => rw [ef] at hh; exact hh
  | exc c s => rw [ef] at hh; exact hh
  | ok d s => rw [ef] at hh; exact fun v H1 ι1 at1 x1 r1 => hh σ H1 ι1 at1.good x1 at1.env
theorem tAsg_of {f : Ev D} {t : Gv} {u : TG} (hu : ∀ v σ H Q, SemG g E t v σ H Q → u v σ H Q) : ∀ D σ H, SemS g E (sAsg f t) D σ H → tAsg (SemE g E f) u D σ H := by
  rintro D σ H ⟨ex, ι, st, δ, at_, hh⟩
  refine semE_bnd at_ ?_
  unfold sAsg at hh
  cases ef : f δ st with
  | bad => rw [ef] at hh; exact hh
  | exc c s => rw [ef] at hh; exact hh
  | ok d s =>
    rw [ef] at hh
    intro v H1 ι1 at1 x1 r1
    have hh := PostS.ext x1 hh
    simp only [] at hh
    refine hu v σ H1 D.nx ⟨ex, ι1, s, δ, d, at1, r1, ?_⟩
    cases et : t d δ s with
    | nx δ1 s1 => rw [et] at hh; exact hh
    | exc c s => rw [et] at hh; exact hh
    | _ => rw [et] at hh; exact hh.elim
theorem ss_asg {tg : Expr} {f : Ev D} {t : Gv} (he : PE X e (SemE g E f)) (hg : PG X tg (SemG g E t)) (hs : swapsWithSole [tg] e pos.line X.env = pure false := by rfl) (hw : swappedStores [tg] e X.env = pure none := by rfl)
    (h1 : (assignEach [tg] X.env).map (·.2) = [assign tg X.env] := by rfl) : PS X (.Assign [tg] e pos) (SemS g E (sAsg f t)) := ps_mono (ps_asg he hg hs hw h1) (tAsg_of fun _ _ _ _ q => q)
theorem ss_set {i : Nat} {x : Str} {f : Ev D} {pos' : Pos} (hN : X.N.Nodup) (hi : X.N[i]? = some x) (hx : Loc X.env.scope x) (he : PE X e (SemE g E f)) (hs : swapsWith e (some (.Name x pos')) pos.line X.env = pure false := by rfl) (hf : X.fn x = true ∨ X.env.scope.names.lookup x = some .local := by first | exact .inl rfl | exact .inr rfl | assumption) :
    PS X (.Assign [.Name x pos'] e pos) (SemS g E (sAsg f (gvN i))) :=
  ps_mono (ps_set hN hi hx he hs hf) (tAsg_of fun v σ H Q ⟨ex, ι, st, δ, d, at_, r, h⟩ => h _ H ι at_.good (.refl _ _) (at_.env.set i r))
def sPar (i j : Nat) (f : Ev (List D)) : Sv := fun δ st => match f δ st with
  | .ok ds s => match ds with
    | [d, e] => .nx ((δ.set i (some d)).set j (some e)) s
    | _ => .bad
  | .exc c s => .exc c s
  | .bad => .bad
def sPar3 (i j l : Nat) (f : Ev (List D)) : Sv := fun δ st => match f δ st with
  | .ok ds s => match ds with
    | [d, e, h] => .nx (((δ.set i (some d)).set j (some e)).set l (some h)) s
    | _ => .bad
  | .exc c s => .exc c s
  | .bad => .bad
theorem ss_par {i j : Nat} {x y : Str} {fa : Ev (List D)} {px py pt : Pos} {kt k2 pt2} (hc : X.calm = true) (hN : X.N.Nodup) (hi : X.N[i]? = some x) (hj : X.N[j]? = some y) (hij : i ≠ j)
    (hx : X.env.scope.names.lookup x = some .local) (hy : X.env.scope.names.lookup y = some .local) (ha : PA X [a, b] (SemA g E fa))
    (hw : swappedStores [.Tuple [.Name x px, .Name y py] kt pt] (.Tuple [a, b] k2 pt2) X.env = pure (some [x, y])) (hs : swapsWithSole [.Tuple [.Name x px, .Name y py] kt pt] (.Tuple [a, b] k2 pt2) pos.line X.env = pure false := by rfl) :
    PS X (.Assign [.Tuple [.Name x px, .Name y py] kt pt] (.Tuple [a, b] k2 pt2) pos) (SemS g E (sPar i j fa)) := by
  refine ps_mono (ps_par hc hN hi hj hij hx hy ha hw hs) fun D σ H ⟨ex, ι, st, δ, at_, hh⟩ => semA_bnd at_ ?_
  unfold sPar at hh
  cases ef : fa δ st with
  | bad => rw [ef] at hh; exact hh
  | exc c s => rw [ef] at hh; exact hh
  | ok ds s =>
    rw [ef] at hh
    intro vs H1 ι1 at1 x1 r1
    have hh := PostS.ext x1 hh
    simp only [] at hh
    split at hh
    · obtain ⟨v, w, rfl, q1, q2⟩ := rds_two r1
      exact ⟨v, w, rfl, hh _ H1 ι1 at1.good (.refl _ _) ((at1.env.set i q1).set j q2)⟩
    · exact hh.elim
theorem rds_three {vs : List V} {d e f : D} (r : RDs g F ι vs [d, e, f]) : ∃ v w u, vs = [v, w, u] ∧ RD g F ι v d ∧ RD g F ι w e ∧ RD g F ι u f := by
  cases r with
  | cons r t => cases t with | cons r2 t => cases t with | cons r3 t => cases t; exact ⟨_, _, _, rfl, r, r2, r3⟩
theorem ss_par3 {i j l : Nat} {x y z : Str} {c : Expr} {fa : Ev (List D)} {px py pz pt : Pos} {kt k2 pt2} (hc : X.calm = true) (hN : X.N.Nodup) (hi : X.N[i]? = some x) (hj : X.N[j]? = some y) (hl : X.N[l]? = some z) (hij : i ≠ j) (hil : i ≠ l) (hjl : j ≠ l)
    (hx : X.env.scope.names.lookup x = some .local) (hy : X.env.scope.names.lookup y = some .local) (hz : X.env.scope.names.lookup z = some .local) (ha : PA X [a, b, c] (SemA g E fa))
    (hw : swappedStores [.Tuple [.Name x px, .Name y py, .Name z pz] kt pt] (.Tuple [a, b, c] k2 pt2) X.env = pure (some [x, y, z])) (hs : swapsWithSole [.Tuple [.Name x px, .Name y py, .Name z pz] kt pt] (.Tuple [a, b, c] k2 pt2) pos.line X.env = pure false := by rfl) :
    PS X (.Assign [.Tuple [.Name x px, .Name y py, .Name z pz] kt pt] (.Tuple [a, b, c] k2 pt2) pos) (SemS g E (sPar3 i j l fa)) := by
  refine ps_mono (ps_par3 hc hN hi hj hl hij hil hjl hx hy hz ha hw hs) fun D σ H ⟨ex, ι, st, δ, at_, hh⟩ => semA_bnd at_ ?_
  unfold sPar3 at hh
  cases ef : fa δ st with
  | bad => rw [ef] at hh; exact hh
  | exc c s => rw [ef] at hh; exact hh
  | ok ds s =>
    rw [ef] at hh
    intro vs H1 ι1 at1 x1 r1
    have hh := PostS.ext x1 hh
    simp only [] at hh
    split at hh
    · obtain ⟨v, w, u, rfl, q1, q2, q3⟩ := rds_three r1
      exact ⟨v, w, u, rfl, hh _ H1 ι1 at1.good (.refl _ _) (((at1.env.set i q1).set j q2).set l q3)⟩
    · exact hh.elim
end
end Iv
end

section
set_option Elab.async false
set_option linter.all false
set_option maxRecDepth 100000
set_option maxHeartbeats 4100000
namespace Iv
open PySem PySem.Spec PyProof.Rows L2 Gx

/-! ### a op= b, while -/
def iAdd (x y : D) (st : Store) : Res D := match x, y with
  | .p (.int i), .p (.int j) => .ok (.p (.int (i + j))) st
  | .p (.str a), .p (.str b) => if a.length + b.length ≤ szLine then .ok (.p (.str (a ++ b))) st else .bad
  | .ref n, y => match st[n]?, see st y with
    | some (.lst xs), some (.lst ys) => if xs.length + ys.length ≤ szLine then .ok (.ref n) (st.set n (.lst (xs ++ ys.map .p))) else .bad
    | _, _ => .bad
  | _, _ => .bad
def iSub (x y : D) (st : Store) : Res D := match x, y with
  | .p (.int i), .p (.int j) => .ok (.p (.int (i - j))) st
  | _, _ => .bad
def iMul (x y : D) (st : Store) : Res D := match x, y with
  | .p (.int i), .p (.int j) => if mulOk i j = true then .ok (.p (.int (i * j))) st else .bad
  | _, _ => .bad
def sAug (i : Nat) (op : D → D → Store → Res D) (f : Ev D) : Sv := fun δ st => match δ[i]? with
  | some (some d) => match f δ st with
    | .ok y s => match op d y s with
      | .ok z s2 => .nx (δ.set i (some z)) s2
      | _ => .bad
    | .exc c s => .exc c s
    | .bad => .bad
  | _ => .bad
def sWh (c : Ev Bool) (b : Sv) : Nat → Sv
  | 0, _, _ => .bad
  | n + 1, δ, st => match c δ st with
    | .ok true s => match b δ s with
      | .nx δ1 s1 => sWh c b n δ1 s1
      | .ct δ1 s1 => sWh c b n δ1 s1
      | .bk δ1 s1 => .nx δ1 s1
      | .rt d s => .rt d s
      | .exc c s => .exc c s
      | .bad => .bad
    | .ok false s => .nx δ s
    | .exc c s => .exc c s
    | .bad => .bad
section
variable {X : Cx} {g : GL} {E : XK} {pos : Pos} {a b e : Expr} {ι : List Addr} {st : Store} {H F : Hp}
theorem ir_add (k : CxK X g) : PIp X .Add (rSem g iAdd) := by
  rintro pins s σ H x y v u Q I rx ry ⟨ex, ι, st, dx, dy, G, r1, r2, d, st', e, q⟩
  unfold iAdd at e
  split at e
  · cases e
    obtain rfl := r1.intI
    obtain rfl := r2.intI
    exact iop_add pins s σ H _ _ v u Q I rx ry ⟨_, _, rfl, rfl, q _ H ι G (.refl _ _) (.p (.int _))⟩
  · split at e
    · cases e
      obtain rfl := see_str G r1 rfl
      obtain rfl := see_str G r2 rfl
      exact iop_add_str pins s σ H _ _ v u Q I rx ry ⟨_, _, rfl, rfl, Nat.le_trans ‹_› szLine_le, q _ H ι G (.refl _ _) (.p (.str _))⟩
    · cases e
  · split at e
    · rename_i h1 h2
      split at e
      · rename_i hz
        cases e
        obtain ⟨a, ws, rfl, hn, hH, rr⟩ := lst_cell G r1 h1
        obtain ⟨b, zs, rfl, hB, qb⟩ := see_lst G r2 h2
        obtain ⟨G', x'⟩ := lst_write G hn hH (pd_app rr (rds_map qb))
        exact iop_ext pins s σ H _ _ v u Q I rx ry ⟨a, b, ws, zs, rfl, rfl, hH, hB, Nat.le_trans (by rw [Paired.length rr, qb.length]; exact hz) szLine_le, q _ _ ι G' x' (.ref hn)⟩
      · cases e
    · cases e
  · cases e
theorem ir_sub : PIp X .Sub (rSem g iSub) := by
  rintro pins s σ H x y v u Q I rx ry ⟨ex, ι, st, dx, dy, G, r1, r2, d, st', e, q⟩
  unfold iSub at e
  split at e
  · cases e
    obtain rfl := r1.intI
    obtain rfl := r2.intI
    exact iop_sub pins s σ H _ _ v u Q I rx ry ⟨_, _, rfl, rfl, q _ H ι G (.refl _ _) (.p (.int _))⟩
  · cases e
theorem ir_mul : PIp X .Mult (rSem g iMul) := by
  rintro pins s σ H x y v u Q I rx ry ⟨ex, ι, st, dx, dy, G, r1, r2, d, st', e, q⟩
  unfold iMul at e
  split at e
  · split at e
    · cases e
      obtain rfl := r1.intI
      obtain rfl := r2.intI
      exact iop_mul pins s σ H _ _ v u Q I rx ry ⟨_, _, rfl, rfl, cmul ‹_›, q _ H ι G (.refl _ _) (.p (.int _))⟩
    · cases e
  · cases e
theorem ss_aug {i : Nat} {x : Str} {op : Operator} {f : D → D → Store → Res D} {fe : Ev D} {pos' : Pos} (hN : X.N.Nodup) (hi : X.N[i]? = some x) (hx : Loc X.env.scope x) (he : PE X e (SemE g E fe)) (ho : PIp X op (rSem g f)) (hf : X.fn x = true ∨ X.env.scope.names.lookup x = some .local := by first | exact .inl rfl | exact .inr rfl | assumption) :
    PS X (.AugAssign (.Name x pos') op e pos) (SemS g E (sAug i f fe)) := by
  refine ps_mono (ps_aug hN hi hx he ho hf) fun D σ H ⟨ex, ι, st, δ, at_, hh⟩ => ?_
  unfold sAug at hh
  split at hh
  · rename_i d hd
    obtain ⟨v, h1, h2⟩ := at_.env.2 i d hd
    refine ⟨v, h1, semE_bnd at_ ?_⟩
    cases ef : fe δ st with
    | bad => rw [ef] at hh; exact hh
    | exc c s => rw [ef] at hh; exact hh
    | ok y s =>
      rw [ef] at hh
      intro w H1 ι1 at1 x1 r1
      have hh := PostS.ext x1 hh
      simp only [] at hh
      split at hh
      · rename_i z s2 ez
        exact ⟨ex, ι1, s, d, y, at1.good, h2.ext x1, r1, z, s2, ez, fun v' H' ι' G' x' r' => hh _ H' ι' G' x' ((at1.env.ext x').set i r')⟩
      · exact hh.elim
  · exact hh.elim
theorem ss_while {c : Expr} {body : List Stmt} {fc : Ev Bool} {fb : Sv} (n : Nat) (hp : PassesOwn (model X.prog X.w) X.A X.env X.xe) (hc : PT X c (SemB g E fc)) (hb : PSs X body (SemS g E fb)) : PS X (.While c body [] pos) (SemS g E (sWh fc fb n)) := by
  refine ps_mono (ps_while hp hc hb) fun D σ H ⟨ex, ι, st, δ, at_, hh⟩ => ?_
  refine ⟨fun m σ H => ∃ ι st δ, At (g.wx ex) H ι st σ δ ∧ PostS (g.wx ex) H ι E (sWh fc fb m δ st) D, ⟨n, ι, st, δ, at_, hh⟩, ?_⟩
  rintro m σ H ⟨ι, st, δ, at_, hh⟩
  cases m with
  | zero => exact hh.elim
  | succ m =>
    refine semB_bnd at_ ?_
    unfold sWh at hh
    cases ef : fc δ st with
    | bad => rw [ef] at hh; exact hh
    | exc c s => rw [ef] at hh; exact hh
    | ok k s =>
      rw [ef] at hh
      intro H1 ι1 at1 x1
      have hh := PostS.ext x1 hh
      cases k with
      | false => rw [if_neg Bool.false_ne_true]; exact hh σ H1 ι1 at1.good (.refl _ _) at1.env
      | true =>
        rw [if_pos rfl]
        refine ⟨_, fun σ' H' q => ⟨m, Nat.lt_succ_self m, q⟩, ex, ι1, s, δ, at1, ?_⟩
        simp only [] at hh
        cases eb : fb δ s with
        | nx δ1 s1 => rw [eb] at hh; exact fun σ' H' ι' G' x' e' => ⟨ι', s1, δ1, ⟨G', e'⟩, PostS.ext x' hh⟩
        | ct δ1 s1 => rw [eb] at hh; exact fun σ' H' ι' G' x' e' => ⟨ι', s1, δ1, ⟨G', e'⟩, PostS.ext x' hh⟩
        | bk δ1 s1 => rw [eb] at hh; exact hh
        | rt d s => rw [eb] at hh; exact hh
        | exc c s => rw [eb] at hh; exact hh
        | bad => rw [eb] at hh; exact hh
end

/-! ### what one walks -/
/-- the items; the cell that holds them, if one does -/
structure Its where
  ds : List D
  cn : Option Nat := none
def getI (cn : Option Nat) (len : Nat) (st : Store) (i : Nat) (d0 : D) : Option D := match cn with
  | none => some d0
  | some n => match st[n]? with
    | some (.lst ds) => if ds.length = len then ds[i]? else none
    | _ => none
def endI (cn : Option Nat) (len : Nat) (st : Store) : Bool := match cn with
  | none => true
  | some n => match st[n]? with
    | some (.lst ds) => decide (ds.length = len)
    | _ => false
/-- with more lists under way -/
def GL.up (g : GL) (e : List Addr) : GL := { g with ex := e ++ g.ex }
/-- the heap has grown, more lists are under way -/
structure Ex2 (g : GL) (H : Hp) (ι : List Addr) (e : List Addr) (H' : Hp) (ι' : List Addr) : Prop where
  le : Le ι ι'
  keep : Sub (Fz H (g.x ι)) (Fz H' ((g.up e).x ι'))
  frz : Fk H H'
structure ItS (g : GL) (J : It) (H : Hp) (ι : List Addr) (r : Its) : Prop where
  go : ∀ {e : List Addr} {i : Nat} {H' : Hp} {ι' : List Addr} {st' : Store} {d0 d : D}, r.ds[i]? = some d0 → Good (g.up e) ι' st' H' → Ex2 g H ι e H' ι' → getI r.cn r.ds.length st' i d0 = some d → J.go i H' ∧ ∀ x H'', J.yld i H' x H'' → Good (g.up e) ι' st' H'' ∧ Ext (g.up e) H' ι' H'' ι' ∧ RD (g.up e) (Fz H'' ((g.up e).x ι')) ι' x d
  stop : ∀ {e : List Addr} {H' : Hp} {ι' : List Addr} {st' : Store}, Good (g.up e) ι' st' H' → Ex2 g H ι e H' ι' → endI r.cn r.ds.length st' = true → J.stop r.ds.length H'
def PostI (g : GL) (H : Hp) (ι : List Addr) (E : XK) (r : Res Its) (R : It → Hp → Prop) : Prop := match r with
  | .ok t st => ∀ J H' ι', Good g ι' st H' → Ext g H ι H' ι' → ItS g J H' ι' t → R J H'
  | .exc c st => PostX g H ι c st E
  | .bad => False
def SemI (g : GL) (E : XK) (f : Ev Its) : TI := fun σ H R => ∃ ex ι st δ, At (g.wx ex) H ι st σ δ ∧ PostI (g.wx ex) H ι E (f δ st) R
/-- a list or a tuple -/
def itA (f : Ev D) : Ev Its := fun δ st => (f δ st).bnd fun d s => match d with
  | .p x => match seqP x with
    | some xs => .ok ⟨xs.map .p, none⟩ s
    | none => .bad
  | .ref n => match s[n]? with
    | some (.lst ds) => .ok ⟨ds, some n⟩ s
    | _ => .bad
def itR1 (f : Ev (List D)) : Ev Its := fun δ st => (f δ st).bnd fun ds s => match ds with
  | [.p (.int j)] => if -1000000000000 ≤ j ∧ j < 1000000000000 then .ok ⟨(List.range j.toNat).map fun i => .p (.int (i : Nat)), none⟩ s else .bad
  | _ => .bad
def itR2 (f : Ev (List D)) : Ev Its := fun δ st => (f δ st).bnd fun ds s => match ds with
  | [.p (.int a), .p (.int b)] => if -1000000000000 ≤ a ∧ a < 1000000000000 ∧ -1000000000000 ≤ b ∧ b < 1000000000000 then .ok ⟨(List.range (b - a).toNat).map fun i => .p (.int (a + (i : Nat))), none⟩ s else .bad
  | _ => .bad
section
variable {X : Cx} {g : GL} {E : XK} {pos : Pos} {tg a b e : Expr} {ι : List Addr} {st : Store} {H F : Hp}
theorem pi_mono {t t' : TI} (h : PI X tg e t) (k : ∀ σ H Q, t' σ H Q → t σ H Q) : PI X tg e t' := ⟨fun pins s σ H R I q => h.run pins s σ H R I (k σ H R q)⟩
theorem its_list {a : Addr} {vs : List V} {xs : List P} (h : SqL g.K H a vs) (hs : ∀ e H' ι', Ex2 g H ι e H' ι' → SqL g.K H' a vs) (r : Rps g (Fz H (g.x ι)) vs xs) : ItS g (Itl g.K a) H ι ⟨xs.map .p, none⟩ := by
  refine ⟨fun {e i H' ι' st' d0 d} hi G x hd => ?_, fun {e H' ι' st'} G x _ => ⟨vs, hs _ _ _ x, by rw [List.length_map, r.length]; exact Nat.le_refl _⟩⟩
  cases hd
  rw [List.getElem?_map, Option.map_eq_some_iff] at hi
  obtain ⟨y, hy, rfl⟩ := hi
  obtain ⟨v, hv, rv⟩ := r.get' hy
  refine ⟨⟨vs, v, hs _ _ _ x, hv⟩, fun w H'' ⟨e, z⟩ => ?_⟩
  subst e
  have := z vs (hs _ _ _ x)
  rw [hv] at this; cases this
  exact ⟨G, .refl _ _, .p ((rv.sub x.keep).wx _)⟩
theorem its_tup {a : Addr} {vs : List V} {xs : List P} (h : SqT g.K (Fz H (g.x ι)) a vs) (r : Rps g (Fz H (g.x ι)) vs xs) : ItS g (Itt g.K a) H ι ⟨xs.map .p, none⟩ := by
  have hs : ∀ e H' ι', Ex2 g H ι e H' ι' → SqT g.K H' a vs := fun e H' ι' x => sqT_of_fz (x.keep.sqT h)
  refine ⟨fun {e i H' ι' st' d0 d} hi G x hd => ?_, fun {e H' ι' st'} G x _ => ⟨vs, hs _ _ _ x, by rw [List.length_map, r.length]; exact Nat.le_refl _⟩⟩
  cases hd
  rw [List.getElem?_map, Option.map_eq_some_iff] at hi
  obtain ⟨y, hy, rfl⟩ := hi
  obtain ⟨v, hv, rv⟩ := r.get' hy
  refine ⟨⟨vs, v, hs _ _ _ x, hv⟩, fun w H'' ⟨e, z⟩ => ?_⟩
  subst e
  have := z vs (hs _ _ _ x)
  rw [hv] at this; cases this
  exact ⟨G, .refl _ _, .p ((rv.sub x.keep).wx _)⟩
theorem its_cell {n : Nat} {a : Addr} {ds : List D} (hn : ι[n]? = some a) : ItS g (Itl g.K a) H ι ⟨ds, some n⟩ := by
  have at_ : ∀ {e : List Addr} {H' : Hp} {ι' : List Addr} {st' : Store} {zs : List D}, Good (g.up e) ι' st' H' → Ex2 g H ι e H' ι' → st'[n]? = some (.lst zs) → ∃ ws, H' a = some (.lst ws) ∧ RDs (g.up e) (Fz H' ((g.up e).x ι')) ι' ws zs := fun {e H' ι' st' zs} G x hc => by
    obtain ⟨b, ws, e, _, h1, h2⟩ := lst_cell G (.ref (x.le.get hn)) hc
    cases e
    exact ⟨ws, h1, h2⟩
  refine ⟨fun {e i H' ι' st' d0 d} hi G x hd => ?_, fun {e H' ι' st'} G x he => ?_⟩
  · simp only [getI] at hd
    split at hd
    · rename_i zs hc
      split at hd
      · obtain ⟨ws, h1, h2⟩ := at_ G x hc
        obtain ⟨v, hv, rv⟩ := pd_get' h2 hd
        refine ⟨⟨ws, v, .inl (.inl h1), hv⟩, fun w H'' ⟨e, z⟩ => ?_⟩
        subst e
        have := z ws (.inl (.inl h1))
        rw [hv] at this; cases this
        exact ⟨G, .refl _ _, rv⟩
      · cases hd
    · cases hd
  · simp only [endI] at he
    split at he
    · rename_i zs hc
      obtain ⟨ws, h1, h2⟩ := at_ G x hc
      exact ⟨ws, .inl (.inl h1), by rw [Paired.length h2]; exact Nat.le_of_eq (by simpa using he)⟩
    · cases he
/-- an iterator object just made, of which nothing else knows -/
theorem pie_new {X : Cx} {pins : List (Addr × Obj)} {σ : L2.St} {tg : Expr} {R : It → Hp → Prop} {H1 : Hp} {s1 : Shared} {o : Obj} {J : It} {tn : Nat → Heap → Prop} (I1 : Inv X pins σ H1 s1) (T : Turn X.prog X.w X.K tg J [s1.heap.objs.size] s1.heap.objs.size tn) (t0 : tn 0 (s1.heap.push o)) (q : R J H1) :
    PIE X pins σ tg R (.ref s1.heap.objs.size) { s1 with heap := s1.heap.push o } :=
  ⟨_, _, _, _, H1, rfl, I1.kept (t' := s1.toks) fun _ _ e => Heap.get?_push_of_some _ e, T, t0, fun _ hb => List.mem_singleton.mp hb ▸ I1.fpOk (Nat.le_refl _) (I1.hok.fresh (Nat.le_refl _)), q⟩
/-- over what an expression's value holds -/
theorem si_any {f : Ev D} (k : CxK X g) (h : PE X e (SemE g E f)) : PI X tg e (SemI g E (itA f)) := by
  refine ⟨fun pins s σ H R I ⟨ex, ι, st, δ, at_, hh⟩ => ?_⟩
  have kk : X.K = (g.wx ex).K := k.K
  have key : SemE g E f σ H fun x H1 => (iList X.K (fun σ H Q => Q x H) σ H1 R) ∨ (iTup X.K (fun σ H Q => Q x H) σ H1 R) := by
    refine semE_bnd at_ ?_
    unfold itA at hh
    cases ef : f δ st with
    | bad => rw [ef] at hh; exact hh
    | exc c s => rw [ef] at hh; exact hh
    | ok d s =>
      rw [ef] at hh
      intro v H1 ι1 at1 x1 r1
      simp only [Res.bnd] at hh
      split at hh
      · split at hh
        · rename_i hx
          obtain ⟨a, vs, rfl, h3, h4⟩ := see_seq at1.good r1 rfl hx
          cases r1 with
          | p r1 =>
            cases r1 with
            | tup z zs =>
              rcases h4 with ⟨h4, h5⟩ | ⟨h4, _⟩
              · rcases h5 with ⟨_, h5⟩ | ⟨_, h5⟩ <;> cases h5
              · exact .inr ⟨_, rfl, ⟨vs, kk ▸ sqT_of_fz (.inl (.inl h4))⟩, hh _ H1 ι1 at1.good x1 (kk ▸ its_tup (.inl (.inl h4)) h3)⟩
            | lst z zs =>
              rcases h4 with ⟨h4, h5⟩ | ⟨_, h5⟩
              · cases hx
                exact .inl ⟨_, rfl, ⟨_, (.inl (.inl (Fz.lst z)) : SqL X.K H1 _ _)⟩, hh _ H1 ι1 at1.good x1 (kk ▸ its_list (.inl (.inl (Fz.lst z))) (fun _ H' ι' x => .inl (.inl (Fz.lst (x.keep _ _ z)))) zs)⟩
              · cases h5
            | scr z zs =>
              rcases h4 with ⟨h4, h5⟩ | ⟨_, h5⟩
              · cases hx
                exact .inl ⟨_, rfl, ⟨_, kk ▸ sqL_of_fz z⟩, hh _ H1 ι1 at1.good x1 (kk ▸ its_list (sqL_of_fz z) (fun _ H' ι' x => sqL_of_fz (x.keep.sqL z)) zs)⟩
              · cases h5
            | _ => cases hx
        · exact hh.elim
      · split at hh
        · rename_i hc
          obtain ⟨a, ws, rfl, hn, hH, rr⟩ := lst_cell at1.good r1 hc
          exact .inl ⟨a, rfl, ⟨ws, .inl (.inl hH)⟩, hh _ H1 ι1 at1.good x1 (kk ▸ its_cell hn)⟩
        · exact hh.elim
  refine thn (h.run pins s σ H _ I key) fun v s1 ⟨x, H1, I1, r1, got⟩ => ?_
  cases got with
  | inl got =>
    obtain ⟨a, rfl, ⟨xs, hq⟩, q⟩ := got
    cases r1
    obtain ⟨_, _, p, _⟩ := I1.list hq
    exact wpAny_pyIter_list p.isList (pie_new I1 (turn_list a _) ⟨_, Heap.get?_push_size _ rfl, rfl, rfl⟩ q)
  | inr got =>
    obtain ⟨a, rfl, ⟨xs, hq⟩, q⟩ := got
    cases r1
    obtain ⟨items, _, p, _⟩ := I1.tuple hq
    have p : s1.heap.IsTuple a items.toArray := p
    exact wpAny_pyIter_tuple p (pie_new I1 (turn_tuple a _) ⟨_, Heap.get?_push_size _ rfl, rfl, rfl⟩ q)
theorem its_rng {lo : Int} {n : Nat} : ItS g (Itr lo n) H ι ⟨(List.range n).map fun i => .p (.int (lo + (i : Nat))), none⟩ := by
  refine ⟨fun {e i H' ι' st' d0 d} hi G x hd => ?_, fun {e H' ι' st'} G x _ => by simp [Itr]⟩
  cases hd
  rw [List.getElem?_map, Option.map_eq_some_iff] at hi
  obtain ⟨y, hy, rfl⟩ := hi
  have hl : i < n := by
    have := (List.getElem?_eq_some_iff.mp hy).1
    simpa using this
  have : y = i := by
    have := (List.getElem?_eq_some_iff.mp hy).2
    simpa using this.symm
  subst this
  refine ⟨hl, fun w H'' ⟨e1, z⟩ => ?_⟩
  subst e1 z
  exact ⟨G, .refl _ _, .p (.int _)⟩
theorem si_range1 {fa : Ev (List D)} {p : Pos} (hg : Gl X "range") (hm : X.mg "range" = none) (ha : PA X [a] (SemA g E fa)) (hs : starEach [a] X.env = [(false, eval a X.env)] := by rfl) : PI X tg (.Call (.Name "range" p) [a] [] pos) (SemI g E (itR1 fa)) := by
  refine pi_mono (pi_range1 hg hm ha hs) fun σ H R ⟨ex, ι, st, δ, at_, hh⟩ => semA_bnd at_ ?_
  unfold itR1 at hh
  cases ef : fa δ st with
  | bad => rw [ef] at hh; exact hh
  | exc c s => rw [ef] at hh; exact hh
  | ok ds s =>
    rw [ef] at hh
    intro vs H1 ι1 at1 x1 r1
    simp only [Res.bnd] at hh
    split at hh
    · split at hh
      · rename_i hz
        obtain ⟨v, rfl, rv⟩ := rds_one r1
        obtain rfl := rv.intI
        refine ⟨_, rfl, by omega, by omega, hh _ H1 ι1 at1.good x1 ?_⟩
        have := its_rng (g := g.wx ex) (H := H1) (ι := ι1) (lo := 0) (n := (‹Int›).toNat)
        simpa using this
      · exact hh.elim
    · exact hh.elim
theorem si_range2 {fa : Ev (List D)} {p : Pos} (hg : Gl X "range") (hm : X.mg "range" = none) (ha : PA X [a, b] (SemA g E fa)) (hs : starEach [a, b] X.env = [(false, eval a X.env), (false, eval b X.env)] := by rfl) (hs2 : starEach [b] X.env = [(false, eval b X.env)] := by rfl) : PI X tg (.Call (.Name "range" p) [a, b] [] pos) (SemI g E (itR2 fa)) := by
  refine pi_mono (pi_range2 hg hm ha hs hs2) fun σ H R ⟨ex, ι, st, δ, at_, hh⟩ => semA_bnd at_ ?_
  unfold itR2 at hh
  cases ef : fa δ st with
  | bad => rw [ef] at hh; exact hh
  | exc c s => rw [ef] at hh; exact hh
  | ok ds s =>
    rw [ef] at hh
    intro vs H1 ι1 at1 x1 r1
    simp only [Res.bnd] at hh
    split at hh
    · split at hh
      · rename_i hz
        obtain ⟨v, w, rfl, rv, rw'⟩ := rds_two r1
        obtain rfl := rv.intI
        obtain rfl := rw'.intI
        exact ⟨_, _, rfl, by omega, hh _ H1 ι1 at1.good x1 its_rng⟩
      · exact hh.elim
    · exact hh.elim
end
end Iv
end

section
set_option Elab.async false
set_option linter.all false
set_option maxRecDepth 100000
set_option maxHeartbeats 4100000
namespace Iv
open PySem PySem.Spec PyProof.Rows L2 Gx

/-! ### for -/
def sFor (cn : Option Nat) (len : Nat) (t : Gv) (b : Sv) : List D → Nat → Sv
  | [], _, δ, st => if endI cn len st = true then .nx δ st else .bad
  | d0 :: ds, i, δ, st => match getI cn len st i d0 with
    | some d => match t d δ st with
      | .nx δ1 s1 => match b δ1 s1 with
        | .nx δ2 s2 => sFor cn len t b ds (i + 1) δ2 s2
        | .ct δ2 s2 => sFor cn len t b ds (i + 1) δ2 s2
        | .bk δ2 s2 => .nx δ2 s2
        | .rt d s => .rt d s
        | .exc c s => .exc c s
        | .bad => .bad
      | .exc c s => .exc c s
      | _ => .bad
    | none => .bad
def sForI (fi : Ev Its) (t : Gv) (b : Sv) : Sv := fun δ st => match fi δ st with
  | .ok r s => sFor r.cn r.ds.length t b r.ds 0 δ s
  | .exc c s => .exc c s
  | .bad => .bad
section
variable {X : Cx} {g : GL} {E : XK} {pos : Pos} {tg a b e : Expr} {ι : List Addr} {st : Store} {H F : Hp}
theorem Ext.ex2 {H' : Hp} {ι' : List Addr} (x : Ext g H ι H' ι') : Ex2 g H ι [] H' ι' := ⟨x.le, x.keep, x.frz⟩
theorem semI_bnd {ex : List Addr} {f : Ev Its} {σ : L2.St} {δ : Env} {R : It → Hp → Prop} (a : At (g.wx ex) H ι st σ δ)
    (h : match f δ st with
      | .ok r st1 => ∀ J H1 ι1, At (g.wx ex) H1 ι1 st1 σ δ → Ext (g.wx ex) H ι H1 ι1 → ItS (g.wx ex) J H1 ι1 r → R J H1
      | .exc c st1 => PostX (g.wx ex) H ι c st1 E
      | .bad => False) : SemI g E f σ H R := by
  refine ⟨ex, ι, st, δ, a, ?_⟩
  cases e : f δ st with
  | ok d st1 => rw [e] at h; exact fun J H1 ι1 gd x r => h J H1 ι1 (a.ext x gd) x r
  | exc c st1 => rw [e] at h; exact h
  | bad => rw [e] at h; exact h
theorem ss_for {iter : Expr} {body : List Stmt} {fi : Ev Its} {t : Gv} {fb : Sv} (hp : PassesOwn (model X.prog X.w) X.A X.env X.xe) (hc : X.calm = true) (hi : PI X tg iter (SemI g E fi)) (hg : PG X tg (SemG g E t)) (hb : PSs X body (SemS g E fb))
    (hs : ∀ x, foldedSetIterable iter X.env x = pure x := by intro _; rfl) : PS X (.For tg iter body [] pos) (SemS g E (sForI fi t fb)) := by
  refine ps_mono (ps_for hp hc hi hg hb hs) fun D σ H ⟨ex, ι, st, δ, at_, hh⟩ => semI_bnd at_ ?_
  unfold sForI at hh
  cases ef : fi δ st with
  | bad => rw [ef] at hh; exact hh
  | exc c s => rw [ef] at hh; exact hh
  | ok r s =>
    rw [ef] at hh
    intro J H1 ι1 at1 x1 J1
    have hh := PostS.ext x1 hh
    simp only [] at hh
    obtain ⟨ds, cn⟩ := r
    refine ⟨fun i m σ H => m = ds.length - i ∧ i ≤ ds.length ∧ ∃ ι st δ, At (g.wx ex) H ι st σ δ ∧ Ext (g.wx ex) H1 ι1 H ι ∧ PostS (g.wx ex) H ι E (sFor cn ds.length t fb (ds.drop i) i δ st) D, ⟨ds.length, by simp, Nat.zero_le _, ι1, s, δ, at1, .refl _ _, hh⟩, ?_⟩
    rintro i m σ H ⟨rfl, hi, ι, st, δ, at2, x2, hh⟩
    by_cases hl : i < ds.length
    · rw [List.drop_eq_getElem_cons hl] at hh
      simp only [sFor] at hh
      cases eg : getI cn ds.length st i ds[i] with
      | none => rw [eg] at hh; exact hh.elim
      | some d =>
        rw [eg] at hh
        simp only [] at hh
        obtain ⟨q1, q2⟩ := J1.go (e := []) (List.getElem?_eq_getElem hl) at2.good x2.ex2 eg
        refine .inr ⟨q1, fun σ H => i + 1 ≤ ds.length ∧ ∃ ι st δ, At (g.wx ex) H ι st σ δ ∧ Ext (g.wx ex) H1 ι1 H ι ∧ PostS (g.wx ex) H ι E (sFor cn ds.length t fb (ds.drop (i + 1)) (i + 1) δ st) D, fun σ' H' q => ⟨ds.length - (i + 1), by omega, rfl, q⟩, fun x H' y => ?_⟩
        obtain ⟨G3, x3, r3⟩ := q2 x H' y
        have at3 := at2.ext x3 G3
        refine ⟨ex, ι, st, δ, d, at3, r3, ?_⟩
        have hh := PostS.ext x3 hh
        cases et : t d δ st with
        | exc c s => rw [et] at hh; exact hh
        | nx δ1 s1 =>
          rw [et] at hh
          intro σ4 H4 ι4 G4 x4 e4
          have hh := PostS.ext x4 hh
          simp only [] at hh
          have x14 : Ext (g.wx ex) H1 ι1 H4 ι4 := (x2.trans x3).trans x4
          refine ⟨ex, ι4, s1, δ1, ⟨G4, e4⟩, ?_⟩
          cases eb : fb δ1 s1 with
          | nx δ2 s2 => rw [eb] at hh; exact fun σ' H' ι' G' x' e' => ⟨hl, ι', s2, δ2, ⟨G', e'⟩, x14.trans x', PostS.ext x' hh⟩
          | ct δ2 s2 => rw [eb] at hh; exact fun σ' H' ι' G' x' e' => ⟨hl, ι', s2, δ2, ⟨G', e'⟩, x14.trans x', PostS.ext x' hh⟩
          | bk δ2 s2 => rw [eb] at hh; exact hh
          | rt d s => rw [eb] at hh; exact hh
          | exc c s => rw [eb] at hh; exact hh
          | bad => rw [eb] at hh; exact hh
        | _ => rw [et] at hh; exact hh.elim
    · have e : i = ds.length := by omega
      subst e
      rw [List.drop_length] at hh
      simp only [sFor] at hh
      split at hh
      · rename_i he
        exact .inl ⟨J1.stop (e := []) at2.good x2.ex2 he, hh σ H ι at2.good (.refl _ _) at2.env⟩
      · exact hh.elim
end

/-! ### blocks: targets that are names -/
abbrev Tv := D → Env → Option Env
abbrev Tvs := List D → Env → Option Env
def SemT (g : GL) (vs : List Nat) (f : Tv) : TG := fun v σ H Q => ∃ ex ι st δ d, At (g.wx ex) H ι st σ δ ∧ RD (g.wx ex) (Fz H ((g.wx ex).x ι)) ι v d ∧ match f d δ with
  | some δ' => ∀ σ', RE (g.wx ex) (Fz H ((g.wx ex).x ι)) ι σ' δ' → wipe σ' vs = wipe σ vs → Q σ' H
  | none => False
def SemTs (g : GL) (vs : List Nat) (f : Tvs) : TGs := fun v σ H Q => ∃ ex ι st δ d, At (g.wx ex) H ι st σ δ ∧ RDs (g.wx ex) (Fz H ((g.wx ex).x ι)) ι v d ∧ match f d δ with
  | some δ' => ∀ σ', RE (g.wx ex) (Fz H ((g.wx ex).x ι)) ι σ' δ' → wipe σ' vs = wipe σ vs → Q σ' H
  | none => False
def tvN (i : Nat) : Tv := fun d δ => some (δ.set i (some d))
def tsN : Tvs := fun ds δ => match ds with
  | [] => some δ
  | _ => none
def tsC (f : Tv) (r : Tvs) : Tvs := fun ds δ => match ds with
  | d :: ds => match f d δ with
    | some δ1 => r ds δ1
    | none => none
  | [] => none
def tvT (n : Nat) (f : Tvs) : Tv := fun d δ => match d with
  | .p (.tup xs) => if xs.length = n then f (xs.map .p) δ else none
  | _ => none
theorem wipe_set {σ : L2.St} {i : Nat} {x : Option V} : ∀ {vs : List Nat}, i ∈ vs → wipe (σ.set i x) vs = wipe σ vs
  | [], h => by cases h
  | v :: vs, h => by
    unfold wipe
    by_cases hi : i ∈ vs
    · rw [wipe_set hi]
    · have e : i = v := (List.mem_cons.mp h).resolve_right hi
      subst e
      have k : ∀ vs : List Nat, (wipe (σ.set i x) vs).set i none = (wipe σ vs).set i none := by
        intro vs
        induction vs with
        | nil => unfold wipe; rw [List.set_set]
        | cons w ws ih =>
          unfold wipe
          by_cases hw : w = i
          · subst hw; rw [List.set_set, List.set_set]; exact ih
          · rw [List.set_comm _ _ hw, ih, List.set_comm _ _ hw]
      exact k vs
theorem wipe_idem (σ : L2.St) : ∀ vs : List Nat, wipe (wipe σ vs) vs = wipe σ vs
  | [] => rfl
  | v :: vs => by
    have e : wipe σ (v :: vs) = (wipe σ vs).set v none := rfl
    rw [e, wipe_set List.mem_cons_self]
    show (wipe (wipe σ vs) vs).set v none = _
    rw [wipe_idem σ vs]
def wipE (δ : Env) : List Nat → Env
  | [] => δ
  | v :: vs => (wipE δ vs).set v none
theorem RE.wipe {g : GL} {F : Hp} {ι : List Addr} {σ : L2.St} {δ : Env} (h : RE g F ι σ δ) : ∀ vs : List Nat, RE g F ι (wipe σ vs) (wipE δ vs)
  | [] => h
  | v :: vs => by
    have ih := h.wipe vs
    unfold L2.wipe wipE
    refine ⟨by simpa using ih.1, fun j e hj => ?_⟩
    by_cases hij : v = j
    · subst hij
      by_cases hl : v < (wipE δ vs).length
      · rw [List.getElem?_set_self hl] at hj; cases hj
      · rw [List.getElem?_eq_none (by simpa using hl)] at hj; cases hj
    · rw [List.getElem?_set_ne hij] at hj
      obtain ⟨w, a, b⟩ := ih.2 j e hj
      exact ⟨w, by rw [List.getElem?_set_ne hij]; exact a, b⟩
section
variable {X : Cx} {g : GL} {E : XK} {pos : Pos} {tg a b e : Expr} {ι : List Addr} {st : Store} {H F : Hp} {vs : List Nat}
theorem tg_name {i : Nat} {x : Str} (hN : X.N.Nodup) (hi : X.N[i]? = some x) (hx : Loc X.env.scope x) (hv : i ∈ vs) (hf : X.fn x = true ∨ X.env.scope.names.lookup x = some .local := by first | exact .inl rfl | exact .inr rfl | assumption) : PG X (.Name x pos) (SemT g vs (tvN i)) :=
  pg_mono (pg_name hN hi hx hf) fun v σ H Q ⟨ex, ι, st, δ, d, at_, r, h⟩ => h _ (at_.env.set i r) (wipe_set hv)
theorem tgs_nil : PGs X [] (SemTs g vs tsN) := pgs_mono pgs_nil fun v σ H Q ⟨ex, ι, st, δ, d, at_, r, h⟩ => by
  cases r with
  | nil => exact ⟨rfl, h _ at_.env rfl⟩
  | cons _ _ => exact h.elim
theorem tgs_cons {es : List Expr} {f : Tv} {r : Tvs} (h1 : PG X e (SemT g vs f)) (h2 : PGs X es (SemTs g vs r)) (hs : (assignEach (e :: es) X.env).map (·.2) = assign e X.env :: (assignEach es X.env).map (·.2) := by rfl) : PGs X (e :: es) (SemTs g vs (tsC f r)) :=
  pgs_mono (pgs_cons h1 h2 hs) fun v σ H Q ⟨ex, ι, st, δ, d, at_, rd, h⟩ => by
    cases rd with
    | nil => exact h.elim
    | @cons v1 d1 vs1 ds1 r1 rr =>
      refine ⟨_, _, rfl, ex, ι, st, δ, d1, at_, r1, ?_⟩
      simp only [tsC] at h
      cases ef : f d1 δ with
      | none => rw [ef] at h; exact h.elim
      | some δ1 =>
        rw [ef] at h
        intro σ1 e1 w1
        refine ⟨ex, ι, st, δ1, ds1, ⟨at_.good, e1⟩, rr, ?_⟩
        simp only [] at h
        cases er : r ds1 δ1 with
        | none => rw [er] at h; exact h.elim
        | some δ2 => rw [er] at h; exact fun σ2 e2 w2 => h σ2 e2 (w2.trans w1)
theorem tg_tup {es : List Expr} {k : Nat} {f : Tvs} {n : Nat} (kk : CxK X g) (hc : X.calm = true) (h : PGs X es (SemTs g vs f)) (hn : (assignEach es X.env).length = n := by rfl) (hst : (assignEach es X.env).findIdx? (·.1) = none := by rfl) : PG X (.Tuple es k pos) (SemT g vs (tvT n f)) :=
  pg_mono (pg_tup hc h hn hst) fun v σ H Q ⟨ex, ι, st, δ, d, at_, rd, h⟩ => by
    have hK : X.K = (g.wx ex).K := kk.K
    cases ed : tvT n f d δ with
    | none => rw [ed] at h; exact h.elim
    | some δ' =>
      rw [ed] at h
      unfold tvT at ed
      split at ed
      · rename_i xs
        split at ed
        · rename_i h2
          obtain ⟨a, ws, rfl, h3, h4⟩ := see_tup at_.good rd (rfl : see st (.p (.tup xs)) = some (.tup xs))
          exact ⟨a, ws, rfl, hK ▸ sqT_of_fz (.inl (.inl h3)), by rw [h4.length]; exact h2, ex, ι, st, δ, _, at_, rds_map h4, by rw [ed]; exact h⟩
        · cases ed
      · cases ed
/-- the tests of a block -/
def bYes : Ev Bool := fun _ st => .ok true st
theorem sb_none : PTs X [] (SemB g E bYes) := ⟨fun pins s σ H Q I ⟨ex, ι, st, δ, at_, h⟩ => pts_nil.run pins s σ H Q I (h H ι at_.good (.refl _ _))⟩
theorem sb_one {c : Expr} {f : Ev Bool} (h : PT X c (SemB g E f)) : PTs X [c] (SemB g E f) := ⟨fun pins s σ H Q I q => (pts_one h).run pins s σ H Q I q⟩
end

/-! ### list comprehensions -/
def compL (cn : Option Nat) (len : Nat) (t : Tv) (c : Ev Bool) (e : Ev D) (δ0 : Env) : List D → Nat → Store → Res (List D)
  | [], _, st => if endI cn len st = true then .ok [] st else .bad
  | d0 :: ds, i, st => match getI cn len st i d0 with
    | some d => match t d δ0 with
      | some δ1 => match c δ1 st with
        | .ok true s => match e δ1 s with
          | .ok y s2 => match compL cn len t c e δ0 ds (i + 1) s2 with
            | .ok ys s3 => .ok (y :: ys) s3
            | _ => .bad
          | _ => .bad
        | .ok false s => compL cn len t c e δ0 ds (i + 1) s
        | _ => .bad
      | none => .bad
    | none => .bad
def vCmpD (fi : Ev Its) (t : Tv) (c : Ev Bool) (e : Ev D) (vs : List Nat) (k : List D → Store → Res D) : Ev D := fun δ st => match fi δ st with
  | .ok r s => if r.ds.length ≤ szLine then match compL r.cn r.ds.length t c e (wipE δ vs) r.ds 0 s with
      | .ok ys s2 => k ys s2
      | _ => .bad
    else .bad
  | .exc c s => .exc c s
  | .bad => .bad
def kLst (ys : List D) (st : Store) : Res D := match pAll ys with
  | some xs => .ok (.p (.lst xs)) st
  | none => .bad
def kCel (ys : List D) (st : Store) : Res D := .ok (.ref st.length) (st ++ [.lst ys])
abbrev vCmp (fi : Ev Its) (t : Tv) (c : Ev Bool) (e : Ev D) (vs : List Nat) : Ev D := vCmpD fi t c e vs kLst
abbrev vCmpM (fi : Ev Its) (t : Tv) (c : Ev Bool) (e : Ev D) (vs : List Nat) : Ev D := vCmpD fi t c e vs kCel
section
variable {X : Cx} {g : GL} {E : XK} {pos : Pos} {ι ι' : List Addr} {st : Store} {H H' : Hp} {D' : Addr}
/-- a list comes under way -/
theorem under (G : Good g ι st H) (hp : H D' = none) (os : List V) : Good (g.up [D']) ι st (upd H D' (.lst os)) ∧ Ex2 g H ι [D'] (upd H D' (.lst os)) ι := by
  generalize ho : HO.lst os = o
  have ke : ∀ b u, H b = some u → upd H D' o b = some u := fun b u e => by rw [upd_ne (ne_of_none e hp)]; exact e
  have sub : Sub (Fz H (g.x ι)) (Fz (upd H D' o) ((g.up [D']).x ι)) := fun b u e => by
    obtain ⟨h1, w, h2, h3⟩ := Fz.at e
    refine Fz.mk (fun m => ?_) (ke _ _ h2) h3
    rcases List.mem_append.mp m with m | m
    · rcases List.mem_append.mp m with m | m
      · rw [List.mem_singleton.mp m, hp] at h2; cases h2
      · exact h1 (GL.in2 m)
    · exact h1 (GL.in1 m)
  refine ⟨⟨G.nd, pd_imp G.cells fun a c _ ⟨u, e, r⟩ => ⟨u, ke _ _ e, (r.sub sub (.refl ι)).wx _⟩, (G.tabs.ext ke).wx _, fun b hb => ?_, fun b hb m => ?_⟩, ⟨.refl ι, sub, .of ke⟩⟩
  · obtain hb | hb := List.mem_append.mp hb
    · rw [List.mem_singleton.mp hb]; exact ⟨.lst os, ho ▸ upd_same⟩
    · obtain ⟨u, e⟩ := G.exs b hb; exact ⟨u, ke _ _ e⟩
  · obtain hb | hb := List.mem_append.mp hb
    · exact G.out hp (GL.in1 (List.mem_singleton.mp hb ▸ m))
    · exact G.dis b hb m
theorem RD.unwx {g : GL} {F : Hp} {ι : List Addr} {e : List Addr} {v : V} {d : D} (h : RD (g.wx e) F ι v d) : RD g F ι v d := by
  have := h.wx g.ex
  exact this
/-- .. and it is done -/
theorem over (G : Good (g.up [D']) ι st H) : Good g ι st H ∧ Sub (Fz H ((g.up [D']).x ι)) (Fz H (g.x ι)) := by
  have sub : Sub (Fz H ((g.up [D']).x ι)) (Fz H (g.x ι)) := fun b u e => by
    obtain ⟨h1, w, h2, h3⟩ := Fz.at e
    refine Fz.mk (fun m => h1 ?_) h2 h3
    rcases List.mem_append.mp m with m | m
    · exact List.mem_append_left _ (List.mem_append_right _ m)
    · exact List.mem_append_right _ m
  exact ⟨⟨G.nd, pd_imp G.cells fun a c _ ⟨u, e, r⟩ => ⟨u, e, (r.wx g.ex).sub sub (.refl ι)⟩, G.tabs.wx (g := g.up [D']) g.ex, fun b hb => G.exs b (List.mem_append_right _ hb), fun b hb => G.dis b (List.mem_append_right _ hb)⟩, sub⟩
/-- a list under way is written -/
theorem under_write (G : Good (g.up [D']) ι st H) {o : HO} {us : List V} (h : H D' = some o) (hT : ∀ ps, o ≠ .tbl ps) (hX : ∀ c P, o ≠ CodeGO c P) (hL : ∀ c q, o ≠ LamX.CodeO c q) : Good (g.up [D']) ι st (upd H D' (.lst us)) ∧ Sub (Fz H ((g.up [D']).x ι)) (Fz (upd H D' (.lst us)) ((g.up [D']).x ι)) := by
  generalize hu : HO.lst us = u
  have hm : D' ∈ (g.up [D']).ex := List.mem_cons_self
  have sub : Sub (Fz H ((g.up [D']).x ι)) (Fz (upd H D' u) ((g.up [D']).x ι)) := fun b w e => by
    obtain ⟨h1, v, h2, h3⟩ := Fz.at e
    exact Fz.mk h1 (by rw [upd_ne (fun z => h1 (GL.in2 (by rw [z]; exact hm)))]; exact h2) h3
  refine ⟨⟨G.nd, pd_imp G.cells fun a c ha ⟨o, e, r⟩ => ⟨o, by rw [upd_ne (fun z => G.dis _ hm (by rw [← z]; exact ha))]; exact e, r.sub sub (.refl ι)⟩, G.tabs.but (fun b o h e => by rw [upd_ne h]; exact e) (fun ps z => hT ps (by rw [h] at z; exact Option.some.inj z)) (fun c P z => hX c P (by rw [h] at z; exact Option.some.inj z)) (fun c q z => hL c q (by rw [h] at z; exact Option.some.inj z)), fun b hb => ?_, G.dis⟩, sub⟩
  · by_cases z : b = D'
    · rw [z]; exact ⟨.lst us, hu ▸ upd_same⟩
    · obtain ⟨o, e⟩ := G.exs b hb
      exact ⟨o, by rw [upd_ne z]; exact e⟩

/-- what a comprehension's end makes of its items -/
structure KOk (k : List D → Store → Res D) : Prop where
  nx : ∀ ys st c s, k ys st ≠ .exc c s
  ok : ∀ {g : GL} {ι : List Addr} {st : Store} {H : Hp} {D' : Addr} {acc : List V} {ys : List D} {d : D} {st' : Store}, Good (g.up [D']) ι st H → H D' = some (.lst acc) → RDs (g.up [D']) (Fz H ((g.up [D']).x ι)) ι acc ys → D' ∉ g.ex → k ys st = .ok d st' →
    ∃ ι', Good g ι' st' H ∧ Le ι ι' ∧ Sub (Fz H ((g.up [D']).x ι)) (Fz H (g.x ι')) ∧ RD g (Fz H (g.x ι')) ι' (.ref D') d
theorem ok_lst : KOk kLst := by
  refine ⟨fun ys st c s e => ?_, fun {g ι st H D' acc ys d st'} G h r hD e => ?_⟩
  · unfold kLst at e
    split at e <;> cases e
  · unfold kLst at e
    split at e
    · rename_i xs hx
      cases e
      obtain ⟨G', s'⟩ := over G
      refine ⟨ι, G', .refl _, s', .p (.lst (Fz.mk (fun m => ?_) h rfl) ((Rps.wx g.ex (rps_of r hx)).sub s'))⟩
      rcases List.mem_append.mp m with m | m
      · exact hD m
      · exact G.dis _ List.mem_cons_self m
    · cases e
theorem ok_cel : KOk kCel := by
  refine ⟨fun ys st c s e => (by cases e), fun {g ι st H D' acc ys d st'} G h r hD e => ?_⟩
  cases e
  obtain ⟨G', s'⟩ := over G
  have hD' : D' ∉ ι := G.dis _ List.mem_cons_self
  have le : Le ι (ι ++ [D']) := ⟨[D'], rfl⟩
  have sub : Sub (Fz H ((g.up [D']).x ι)) (Fz H (g.x (ι ++ [D']))) := fun b u e => by
    obtain ⟨h1, w, h2, h3⟩ := Fz.at e
    refine Fz.mk (fun m => h1 ?_) h2 h3
    rcases List.mem_append.mp m with m | m
    · exact List.mem_append_left _ (List.mem_append_right _ m)
    · rcases List.mem_append.mp m with m | m
      · exact List.mem_append_right _ m
      · exact List.mem_append_left _ (List.mem_append_left _ m)
  refine ⟨ι ++ [D'], ⟨?_, ?_, G'.tabs, G'.exs, fun b hb m => ?_⟩, le, sub, .ref ?_⟩
  · rw [List.nodup_append]
    refine ⟨G.nd, by simp, fun a ha b hb z => ?_⟩
    rw [List.mem_singleton.mp hb] at z
    exact hD' (z ▸ ha)
  · exact pd_app (pd_imp G.cells fun a c _ ⟨u, e, r⟩ => ⟨u, e, (r.wx g.ex).sub sub le⟩) (.cons ⟨_, h, .lst (RDs.sub sub le (show RDs g _ ι acc ys from RDs.wx (g := g.up [D']) g.ex r))⟩ .nil)
  · rcases List.mem_append.mp m with m | m
    · exact G'.dis b hb m
    · exact hD (List.mem_singleton.mp m ▸ hb)
  · rw [← G'.len]; simp
theorem tLc_gen {fi : Ev Its} {t : Tv} {c : Ev Bool} {e : Ev D} {vs : List Nat} {k : List D → Store → Res D} (hk : KOk k) {σ : L2.St} {tt : TT} {te : TE} (htt : ∀ σB H Q, wipe σB vs = wipe σ vs → SemB g E0 c σB H Q → tt σB H Q) (hte : ∀ σB H Q, wipe σB vs = wipe σ vs → SemE g E0 e σB H Q → te σB H Q) : ∀ H Q, SemE g E (vCmpD fi t c e vs k) σ H Q → tLc (SemI g E fi) (SemT g vs t) tt te vs σ H Q := by
  rintro H Q ⟨ex, ι, st, δ, at_, hh⟩
  refine semI_bnd at_ ?_
  unfold vCmpD at hh
  cases ef : fi δ st with
  | bad => rw [ef] at hh; exact hh
  | exc c s => rw [ef] at hh; exact hh
  | ok r s =>
    rw [ef] at hh
    intro J H1 ι1 at1 x1 J1
    have hh := Post.ext x1 hh
    simp only [] at hh
    obtain ⟨ds, cn⟩ := r
    split at hh
    · rename_i hz
      split at hh
      · rename_i tot sF hc
        intro D' hD
        have hDx : D' ∉ (g.wx ex).x ι1 := at1.good.out hD
        obtain ⟨G1, e1⟩ := under at1.good hD []
        refine ⟨fun i m H => m = ds.length - i ∧ i ≤ ds.length ∧ ∃ ι st acc ys zs, Good ((g.wx ex).up [D']) ι st H ∧ Ex2 (g.wx ex) H1 ι1 [D'] H ι ∧ (∀ b ∈ ex, H b = H1 b) ∧ H D' = some (.lst acc) ∧ RDs ((g.wx ex).up [D']) (Fz H (((g.wx ex).up [D']).x ι)) ι acc ys ∧ ys.length ≤ i ∧ compL cn ds.length t c e (wipE δ vs) (ds.drop i) i st = .ok zs sF ∧ tot = ys ++ zs,
          ⟨ds.length, by simp, Nat.zero_le _, ι1, s, [], [], tot, G1, e1, fun b hb => upd_ne (fun z => hDx (by rw [← z]; exact GL.in2 (g := g.wx ex) hb)), upd_same, .nil, Nat.zero_le _, hc, rfl⟩, ?_⟩
        rintro i m H ⟨rfl, hi, ι, st, acc, ys, zs, G2, e2, sm2, hD2, r2, hl2, hc2, rfl⟩
        have envAt : ∀ {H' : Hp} {ι' : List Addr}, Ext ((g.wx ex).up [D']) H ι H' ι' → RE ((g.wx ex).up [D']) (Fz H' (((g.wx ex).up [D']).x ι')) ι' (wipe σ vs) (wipE δ vs) := fun {H' ι'} x => by
          have q := (at1.env.wipe vs)
          exact ⟨q.1, fun j d hj => let ⟨v, a, b⟩ := q.2 j d hj; ⟨v, a, ((b.sub e2.keep e2.le).wx (D' :: ex)).ext x⟩⟩
        by_cases hl : i < ds.length
        · rw [List.drop_eq_getElem_cons hl] at hc2
          simp only [compL] at hc2
          cases eg : getI cn ds.length st i ds[i] with
          | none => rw [eg] at hc2; cases hc2
          | some d =>
            rw [eg] at hc2
            simp only [] at hc2
            obtain ⟨q1, q2⟩ := J1.go (List.getElem?_eq_getElem hl) G2 e2 eg
            refine .inr ⟨q1, fun H => i + 1 ≤ ds.length ∧ ∃ ι st acc ys zs', Good ((g.wx ex).up [D']) ι st H ∧ Ex2 (g.wx ex) H1 ι1 [D'] H ι ∧ (∀ b ∈ ex, H b = H1 b) ∧ H D' = some (.lst acc) ∧ RDs ((g.wx ex).up [D']) (Fz H (((g.wx ex).up [D']).x ι)) ι acc ys ∧ ys.length ≤ i + 1 ∧ compL cn ds.length t c e (wipE δ vs) (ds.drop (i + 1)) (i + 1) st = .ok zs' sF ∧ _ = ys ++ zs', fun H' q => ⟨ds.length - (i + 1), by omega, rfl, q⟩, fun x H' y => ?_⟩
            obtain ⟨G3, x3, r3⟩ := q2 x H' y
            cases et : t d (wipE δ vs) with
            | none => rw [et] at hc2; cases hc2
            | some δ1 =>
              rw [et] at hc2
              simp only [] at hc2
              refine ⟨D' :: ex, ι, st, wipE δ vs, d, ⟨G3, envAt x3⟩, r3, ?_⟩
              rw [et]
              intro σ2 e4 w4
              refine ⟨w4.trans (wipe_idem _ _), ?_⟩
              have at4 : At (g.wx (D' :: ex)) H' ι st σ2 δ1 := ⟨G3, e4⟩
              refine htt _ _ _ (w4.trans (wipe_idem _ _)) (semB_bnd at4 ?_)
              cases eb : c δ1 st with
              | bad => rw [eb] at hc2; cases hc2
              | exc c s => rw [eb] at hc2; cases hc2
              | ok k1 s1 =>
                rw [eb] at hc2
                intro H5 ι5 at5 x5
                have x15 : Ext (g.wx (D' :: ex)) H ι H5 ι5 := x3.trans x5
                have e5 : Ex2 (g.wx ex) H1 ι1 [D'] H5 ι5 := ⟨e2.le.trans x15.le, e2.keep.trans x15.keep, e2.frz.trans x15.frz⟩
                have sm5 : ∀ b ∈ ex, H5 b = H1 b := fun b hb => (x15.same b (List.mem_cons_of_mem _ hb)).trans (sm2 b hb)
                have hD5 : H5 D' = some (.lst acc) := (x15.same D' List.mem_cons_self).trans hD2
                have r5 := RDs.sub x15.keep x15.le r2
                cases k1 with
                | false =>
                  simp only [if_false, Bool.false_eq_true]
                  exact ⟨hl, ι5, s1, acc, ys, zs, at5.good, e5, sm5, hD5, r5, Nat.le_succ_of_le hl2, hc2, rfl⟩
                | true =>
                  rw [if_pos rfl]
                  simp only [] at hc2
                  refine hte _ _ _ (w4.trans (wipe_idem _ _)) (semE_bnd at5 ?_)
                  cases ee : e δ1 s1 with
                  | bad => rw [ee] at hc2; cases hc2
                  | exc c s => rw [ee] at hc2; cases hc2
                  | ok y1 s2 =>
                    rw [ee] at hc2
                    simp only [] at hc2
                    intro v H6 ι6 at6 x6 r6
                    cases er : compL cn ds.length t c e (wipE δ vs) (ds.drop (i + 1)) (i + 1) s2 with
                    | bad => rw [er] at hc2; cases hc2
                    | exc c s => rw [er] at hc2; cases hc2
                    | ok zs' s3 =>
                      rw [er] at hc2
                      cases hc2
                      have hD6 : H6 D' = some (.lst acc) := (x6.same D' List.mem_cons_self).trans hD5
                      have r6' := RDs.sub x6.keep x6.le r5
                      obtain ⟨G7, s7⟩ := under_write (us := acc ++ [v]) (g := g.wx ex) (D' := D') at6.good hD6 (fun ps z => by cases z) (fun c P z => by cases z) (fun c P z => by cases z)
                      refine ⟨acc, hD6, Nat.lt_of_lt_of_le (by rw [Paired.length r6']; omega) (Nat.le_trans (Nat.le_trans hl hz) szLine_le), hl, ι6, s2, acc ++ [v], ys ++ [y1], zs', G7, ⟨e5.le.trans x6.le, (e5.keep.trans x6.keep).trans s7, (e5.frz.trans x6.frz).trans (.upd hD6 fun _ _ z => by cases z)⟩, fun b hb => ?_, upd_same, RDs.sub s7 (.refl _) (pd_app r6' (.cons r6 .nil)), by rw [List.length_append]; simpa using hl2, er, by simp⟩
                      rw [upd_ne (fun z => hDx (by rw [← z]; exact GL.in2 (g := g.wx ex) hb))]
                      exact (x6.same b (List.mem_cons_of_mem _ hb)).trans (sm5 b hb)
        · have ei : i = ds.length := by omega
          subst ei
          rw [List.drop_length] at hc2
          simp only [compL] at hc2
          split at hc2
          · rename_i he
            cases hc2
            rw [List.append_nil] at hh
            refine .inl ⟨J1.stop G2 e2 he, ?_⟩
            cases ek : k ys sF with
            | bad => rw [ek] at hh; exact hh.elim
            | exc c s => exact (hk.nx _ _ _ _ ek).elim
            | ok d s' =>
              rw [ek] at hh
              obtain ⟨ι', G', le', s', r'⟩ := hk.ok G2 hD2 r2 (fun m => hDx (GL.in2 (g := g.wx ex) m)) ek
              exact hh _ _ ι' G' ⟨e2.le.trans le', e2.keep.trans s', sm2, e2.frz⟩ r'
          · cases hc2
      · exact hh.elim
    · exact hh.elim
theorem tLc_of {fi : Ev Its} {t : Tv} {c : Ev Bool} {e : Ev D} {vs : List Nat} {k : List D → Store → Res D} (hk : KOk k) : ∀ σ H Q, SemE g E (vCmpD fi t c e vs k) σ H Q → tLc (SemI g E fi) (SemT g vs t) (SemB g E0 c) (SemE g E0 e) vs σ H Q := fun σ H Q h => tLc_gen hk (fun _ _ _ _ q => q) (fun _ _ _ _ q => q) H Q h
theorem se_lc {elt tg iter : Expr} {ifs : List Expr} {scope : Scope} {own : List (Str × Nat)} {fi : Ev Its} {t : Tv} {c : Ev Bool} {e : Ev D} {k : List D → Store → Res D} (hk : KOk k) (hc : X.calm = true) (hN : X.N.Nodup) (hi : PI X tg iter (SemI g E fi)) (ok : BlkOk X.N X.env.scope scope own)
    (hg : ∀ (s : Shared) (H : Hp) (C : Addr) (cl : List (Str × Addr)) (fp : List Addr), PG (X.blk s H scope (compEnvC scope cl C X.env) fp) tg (SemT g (own.map (·.2)) t)) (ht : ∀ (s : Shared) (H : Hp) (C : Addr) (cl : List (Str × Addr)) (fp : List Addr), PTs (X.blk s H scope (compEnvC scope cl C X.env) fp) ifs (SemB g E0 c))
    (he : ∀ (s : Shared) (H : Hp) (C : Addr) (cl : List (Str × Addr)) (fp : List Addr), PE (X.blk s H scope (compEnvC scope cl C X.env) fp) elt (SemE g E0 e)) (hs : ∀ x, foldedSetIterable iter X.env x = pure x := by intro _; rfl) :
    PE X (.ListComp elt [⟨tg, iter, ifs, 0⟩] scope pos) (SemE g E (vCmpD fi t c e (own.map (·.2)) k)) :=
  pe_mono (pe_lc hc hN hi ok hg ht he hs) (tLc_of hk)
end
end Iv
end

section
set_option Elab.async false
set_option linter.all false
set_option maxRecDepth 100000
set_option maxHeartbeats 4100000
namespace Iv
open PySem PySem.Spec PyProof.Rows L2 Gx GenW

/-! ### generator expressions -/
theorem good_tb {g : GL} {ι : List Addr} {st : Store} {H H2 : Hp} (G : Good g ι st H) (t : TbG H H2) {P : Addr} (kx : ∀ b o, b ≠ P → H b = some o → H2 b = some o) (hP : P ∈ g.T) : Good g ι st H2 ∧ Ext g H ι H2 ι := by
  have sub : Sub (Fz H (g.x ι)) (Fz H2 (g.x ι)) := fun b u e => by
    obtain ⟨h1, w, h2, h3⟩ := Fz.at e
    refine Fz.mk h1 (t.keep _ _ h2 fun ps z => ?_) h3
    subst z
    cases h3
  have rcn : ∀ {o : HO} {c : Cell} {F : Hp}, RC g F ι o c → NotTbl o := fun r ps z => by
    subst z
    cases r
  refine ⟨⟨G.nd, pd_imp G.cells fun a c _ ⟨u, e, r⟩ => ⟨u, t.keep _ _ e (rcn r), r.sub sub (.refl ι)⟩, G.tabs.tg t kx hP, fun b hb => ?_, G.dis⟩, ⟨.refl ι, sub, fun b hb => ?_, fun b o u e => t.keep _ _ e fun ps z => by cases z⟩⟩
  · obtain ⟨o, e⟩ := G.exs b hb
    exact ⟨o, t.keep _ _ e fun ps z => by cases o <;> cases z⟩
  · obtain ⟨o, e⟩ := G.exs b hb
    rw [e]
    exact t.keep _ _ e fun ps z => by cases o <;> cases z
def YL (g : GL) (tot : List D) : YP := fun ys x _ K => K ∧ ∃ pre d rest F ι, tot = pre ++ d :: rest ∧ RDs g F ι ys pre ∧ RD g F ι x d
def DL (g : GL) (H1 : Hp) (ι1 : List Addr) (sF : Store) (tot : List D) : DP := fun ys H => ∃ ι', Good g ι' sF H ∧ Ext g H1 ι1 H ι' ∧ RDs g (Fz H (g.x ι')) ι' ys tot
theorem yl_mono {g : GL} {tot : List D} : YMono (YL g tot) := fun ys x H K K' f ⟨a, b⟩ => ⟨f a, b⟩
section
variable {X : Cx} {g : GL} {E : XK} {pos : Pos} {ex : List Addr} {ι1 : List Addr} {s sF : Store} {H0 H1 H2 : Hp} {σ : L2.St} {δ : Env} {vs : List Nat} {J : It} {ds tot : List D} {cn : Option Nat} {t : Tv} {c : Ev Bool} {e : Ev D} {ι0 : List Addr}
theorem gx_turns (at1 : At (g.wx ex) H2 ι1 s σ δ) (x01 : Ext (g.wx ex) H0 ι0 H2 ι1) {H1 : Hp} (x12 : Ext (g.wx ex) H1 ι1 H2 ι1) (J1 : ItS (g.wx ex) J H1 ι1 ⟨ds, cn⟩) (hc : compL cn ds.length t c e (wipE δ vs) ds 0 s = .ok tot sF) :
    ∃ W, (∃ m, W 0 m [] H2) ∧ GTurns J (SemT g vs t) (SemB g E0 c) (SemE g E0 e) vs σ (YL (g.wx ex) tot) (DL (g.wx ex) H0 ι0 sF tot) W := by
  refine ⟨fun i m ys H => m = ds.length - i ∧ i ≤ ds.length ∧ ∃ ι st pre zs, Good (g.wx ex) ι st H ∧ Ext (g.wx ex) H2 ι1 H ι ∧ RDs (g.wx ex) (Fz H ((g.wx ex).x ι)) ι ys pre ∧ compL cn ds.length t c e (wipE δ vs) (ds.drop i) i st = .ok zs sF ∧ tot = pre ++ zs,
    ⟨ds.length, by simp, Nat.zero_le _, ι1, s, [], tot, at1.good, .refl _ _, .nil, hc, rfl⟩, ?_⟩
  rintro i m ys H ⟨rfl, hi, ι, st, pre, zs, G2, x2, r2, hc2, rfl⟩
  have e2 : Ex2 (g.wx ex) H1 ι1 [] H ι := (x12.trans x2).ex2
  by_cases hl : i < ds.length
  · rw [List.drop_eq_getElem_cons hl] at hc2
    simp only [compL] at hc2
    cases eg : getI cn ds.length st i ds[i] with
    | none => rw [eg] at hc2; cases hc2
    | some d =>
      rw [eg] at hc2
      simp only [] at hc2
      obtain ⟨q1, q2⟩ := J1.go (e := []) (List.getElem?_eq_getElem hl) G2 e2 eg
      refine .inr ⟨q1, fun x H' y => ?_⟩
      obtain ⟨G3, x3, r3⟩ := q2 x H' y
      cases et : t d (wipE δ vs) with
      | none => rw [et] at hc2; cases hc2
      | some δ1 =>
        rw [et] at hc2
        simp only [] at hc2
        refine ⟨ex, ι, st, wipE δ vs, d, ⟨G3, (at1.env.ext (x2.trans x3)).wipe vs⟩, r3, ?_⟩
        rw [et]
        intro σ2 e4 w4
        refine ⟨w4.trans (wipe_idem _ _), ?_⟩
        have at4 : At (g.wx ex) H' ι st σ2 δ1 := ⟨G3, e4⟩
        refine semB_bnd at4 ?_
        cases eb : c δ1 st with
        | bad => rw [eb] at hc2; cases hc2
        | exc c s => rw [eb] at hc2; cases hc2
        | ok k1 s1 =>
          rw [eb] at hc2
          intro H5 ι5 at5 x5
          have x25 : Ext (g.wx ex) H2 ι1 H5 ι5 := (x2.trans x3).trans x5
          have r5 := RDs.sub (Ext.trans x3 x5).keep x5.le r2
          cases k1 with
          | false =>
            simp only [if_false, Bool.false_eq_true]
            exact ⟨ds.length - (i + 1), by omega, rfl, hl, ι5, s1, pre, zs, at5.good, x25, r5, hc2, rfl⟩
          | true =>
            rw [if_pos rfl]
            simp only [] at hc2
            refine semE_bnd at5 ?_
            cases ee : e δ1 s1 with
            | bad => rw [ee] at hc2; cases hc2
            | exc c s => rw [ee] at hc2; cases hc2
            | ok y1 s2 =>
              rw [ee] at hc2
              simp only [] at hc2
              intro v H6 ι6 at6 x6 r6
              cases er : compL cn ds.length t c e (wipE δ vs) (ds.drop (i + 1)) (i + 1) s2 with
              | bad => rw [er] at hc2; cases hc2
              | exc c s => rw [er] at hc2; cases hc2
              | ok zs' s3 =>
                rw [er] at hc2
                cases hc2
                have r6' := RDs.sub x6.keep x6.le r5
                exact ⟨⟨ds.length - (i + 1), by omega, rfl, hl, ι6, s2, pre ++ [y1], zs', at6.good, x25.trans x6, pd_app r6' (.cons r6 .nil), er, by simp⟩, pre, y1, zs', _, ι6, rfl, r6', r6⟩
  · have ei : i = ds.length := by omega
    subst ei
    rw [List.drop_length] at hc2
    simp only [compL] at hc2
    split at hc2
    · rename_i he
      cases hc2
      rw [List.append_nil]
      exact .inl ⟨J1.stop (e := []) G2 e2 he, ι, G2, x01.trans x2, r2⟩
    · cases hc2
/-- the search of any (stop = true) and all (stop = false) -/
def anyL (stop : Bool) (cn : Option Nat) (len : Nat) (t : Tv) (c : Ev Bool) (e : Ev D) (δ0 : Env) : List D → Nat → Store → Res Bool
  | [], _, st => if endI cn len st = true then .ok false st else .bad
  | d0 :: ds, i, st => match getI cn len st i d0 with
    | some d => match t d δ0 with
      | some δ1 => match c δ1 st with
        | .ok true s => match e δ1 s with
          | .ok (.p (.bl b)) s2 => if b = stop then .ok true s2 else anyL stop cn len t c e δ0 ds (i + 1) s2
          | _ => .bad
        | .ok false s => anyL stop cn len t c e δ0 ds (i + 1) s
        | _ => .bad
      | none => .bad
    | none => .bad
def YA (g : GL) (H1 : Hp) (ι1 : List Addr) (stop : Bool) (sF : Store) (r : Bool) : YP := fun _ x H K => ∃ b, x = .bl b ∧ (b = stop → r = true ∧ ∃ ι', Good g ι' sF H ∧ Ext g H1 ι1 H ι') ∧ (b ≠ stop → K)
def DA (g : GL) (H1 : Hp) (ι1 : List Addr) (sF : Store) (r : Bool) : DP := fun _ H => r = false ∧ ∃ ι', Good g ι' sF H ∧ Ext g H1 ι1 H ι'
theorem ya_mono {stop r : Bool} : YMono (YA g H1 ι1 stop sF r) := fun ys x H K K' f ⟨b, a1, a2, a3⟩ => ⟨b, a1, a2, fun z => f (a3 z)⟩
theorem ga_turns {stop r : Bool} (at1 : At (g.wx ex) H2 ι1 s σ δ) (x01 : Ext (g.wx ex) H0 ι0 H2 ι1) {H1 : Hp} (x12 : Ext (g.wx ex) H1 ι1 H2 ι1) (J1 : ItS (g.wx ex) J H1 ι1 ⟨ds, cn⟩) (hc : anyL stop cn ds.length t c e (wipE δ vs) ds 0 s = .ok r sF) :
    ∃ W, (∃ m, W 0 m [] H2) ∧ GTurns J (SemT g vs t) (SemB g E0 c) (SemE g E0 e) vs σ (YA (g.wx ex) H0 ι0 stop sF r) (DA (g.wx ex) H0 ι0 sF r) W := by
  refine ⟨fun i m ys H => m = ds.length - i ∧ i ≤ ds.length ∧ ∃ ι st, Good (g.wx ex) ι st H ∧ Ext (g.wx ex) H2 ι1 H ι ∧ anyL stop cn ds.length t c e (wipE δ vs) (ds.drop i) i st = .ok r sF,
    ⟨ds.length, by simp, Nat.zero_le _, ι1, s, at1.good, .refl _ _, hc⟩, ?_⟩
  rintro i m ys H ⟨rfl, hi, ι, st, G2, x2, hc2⟩
  have e2 : Ex2 (g.wx ex) H1 ι1 [] H ι := (x12.trans x2).ex2
  by_cases hl : i < ds.length
  · rw [List.drop_eq_getElem_cons hl] at hc2
    simp only [anyL] at hc2
    cases eg : getI cn ds.length st i ds[i] with
    | none => rw [eg] at hc2; cases hc2
    | some d =>
      rw [eg] at hc2
      simp only [] at hc2
      obtain ⟨q1, q2⟩ := J1.go (e := []) (List.getElem?_eq_getElem hl) G2 e2 eg
      refine .inr ⟨q1, fun x H' y => ?_⟩
      obtain ⟨G3, x3, r3⟩ := q2 x H' y
      cases et : t d (wipE δ vs) with
      | none => rw [et] at hc2; cases hc2
      | some δ1 =>
        rw [et] at hc2
        simp only [] at hc2
        refine ⟨ex, ι, st, wipE δ vs, d, ⟨G3, (at1.env.ext (x2.trans x3)).wipe vs⟩, r3, ?_⟩
        rw [et]
        intro σ2 e4 w4
        refine ⟨w4.trans (wipe_idem _ _), ?_⟩
        have at4 : At (g.wx ex) H' ι st σ2 δ1 := ⟨G3, e4⟩
        refine semB_bnd at4 ?_
        cases eb : c δ1 st with
        | bad => rw [eb] at hc2; cases hc2
        | exc c s => rw [eb] at hc2; cases hc2
        | ok k1 s1 =>
          rw [eb] at hc2
          intro H5 ι5 at5 x5
          have x25 : Ext (g.wx ex) H2 ι1 H5 ι5 := (x2.trans x3).trans x5
          cases k1 with
          | false =>
            simp only [if_false, Bool.false_eq_true]
            exact ⟨ds.length - (i + 1), by omega, rfl, hl, ι5, s1, at5.good, x25, hc2⟩
          | true =>
            rw [if_pos rfl]
            simp only [] at hc2
            refine semE_bnd at5 ?_
            split at hc2
            · rename_i b s2 ee
              rw [ee]
              intro v H6 ι6 at6 x6 r6
              cases r6 with
              | p r6 =>
                cases r6
                refine ⟨b, rfl, fun z => ?_, fun z => ?_⟩
                · rw [if_pos z] at hc2
                  cases hc2
                  exact ⟨rfl, ι6, at6.good, x01.trans (x25.trans x6)⟩
                · rw [if_neg z] at hc2
                  exact ⟨ds.length - (i + 1), by omega, rfl, hl, ι6, s2, at6.good, x25.trans x6, hc2⟩
            · cases hc2
  · have ei : i = ds.length := by omega
    subst ei
    rw [List.drop_length] at hc2
    simp only [anyL] at hc2
    split at hc2
    · rename_i he
      cases hc2
      exact .inl ⟨J1.stop (e := []) G2 e2 he, rfl, ι, G2, x01.trans x2⟩
    · cases hc2
/-- what a context of generator expressions needs -/
structure GxOk (X : Cx) (g : GL) (k : Nat) : Prop where
  nd : X.N.Nodup
  calm : X.calm = true
  dot : (".0" : Str) ∉ X.N
  room : Room (k + 6) X.A
  blt : BltM X
  code : ∃ c P, X.env.code = .ref c ∧ P ∈ g.T ∧ PySem.W.CodeHd X.base c P
/-- what a block's parts compute, in the generator's context -/
structure GxB (X : Cx) (g : GL) (k : Nat) (elt tg iter : Expr) (ifs : List Expr) (scope : Scope) (own : List (Str × Nat)) (t : Tv) (c : Ev Bool) (e : Ev D) : Prop where
  blk : BlkOk X.N X.env.scope scope own
  /-- no coroutine -/ co : scope.isCoroutine = false
  h0 : scope.names.lookup (".0" : Str) = some NameKind.local
  hg : ∀ (A : Around) (s : Shared) (H : Hp) (cenv : PySem.Env) (fp : List Addr) (pn : List (Addr × Obj)), Room k A → cenv.scope = scope → PG (gCx X A s H cenv fp pn) tg (SemT g (own.map (·.2)) t)
  ht : ∀ (A : Around) (s : Shared) (H : Hp) (cenv : PySem.Env) (fp : List Addr) (pn : List (Addr × Obj)), Room k A → cenv.scope = scope → PTs (gCx X A s H cenv fp pn) ifs (SemB g E0 c)
  he : ∀ (A : Around) (s : Shared) (H : Hp) (cenv : PySem.Env) (fp : List Addr) (pn : List (Addr × Obj)), Room k A → cenv.scope = scope → PE (gCx X A s H cenv fp pn) elt (SemE g E0 e)
  hs : ∀ x, genFold iter X.env x = pure x

section
variable {X : Cx} {g : GL} {E : XK} {k : Nat} {pins : List (Addr × Obj)} {σ : L2.St} {H : Hp} {s : Shared} {elt tg iter : Expr} {ifs : List Expr} {scope : Scope} {own : List (Str × Nat)} {gpos : Pos} {t : Tv} {c : Ev Bool} {e : Ev D} {fi : Ev Its}
/-- the generator, made -/
theorem gx_list {ex ι : List Addr} {st sF : Store} {δ : Env} {tot : List D} {r : Its} {s1 : Store} (ok : GxOk X g k) (b : GxB X g k elt tg iter ifs scope own t c e) (hi : PI X tg iter (SemI g E fi)) (I : Inv X pins σ H s)
    (at_ : At (g.wx ex) H ι st σ δ) (ef : fi δ st = .ok r s1) (hc : compL r.cn r.ds.length t c e (wipE δ (own.map (·.2))) r.ds 0 s1 = .ok tot sF) :
    wpAny (model X.prog X.w) X.A (eval (.GeneratorExp elt [⟨tg, iter, ifs, 0⟩] scope gpos) X.env) (GxM X pins σ k (YL (g.wx ex) tot) (DL (g.wx ex) H ι sF tot)) X.xe s := by
  obtain ⟨cc, P, h1, h2, h3⟩ := ok.code
  refine pgx (P := P) (tt := fun _ => SemB g E0 c) (te := fun _ => SemE g E0 e) I ok.nd hi b.blk b.co b.h0 ok.dot ok.room.depth h1 ok.blt yl_mono b.hg b.ht b.he b.hs ?_
  refine semI_bnd at_ ?_
  rw [ef]
  intro J H1 ι1 at1 x1 J1
  refine ⟨(at1.good.tabs.t P h2).zero, .inl h3, fun cv H2 tb tx _ => ?_⟩
  obtain ⟨G2, x2⟩ := good_tb at1.good tb tx h2
  exact gx_turns (at1.ext x2 G2) (x1.trans x2) x2 J1 hc
theorem gx_any {ex ι : List Addr} {st sF : Store} {δ : Env} {stop rr : Bool} {r : Its} {s1 : Store} (ok : GxOk X g k) (b : GxB X g k elt tg iter ifs scope own t c e) (hi : PI X tg iter (SemI g E fi)) (I : Inv X pins σ H s)
    (at_ : At (g.wx ex) H ι st σ δ) (ef : fi δ st = .ok r s1) (hc : anyL stop r.cn r.ds.length t c e (wipE δ (own.map (·.2))) r.ds 0 s1 = .ok rr sF) :
    wpAny (model X.prog X.w) X.A (eval (.GeneratorExp elt [⟨tg, iter, ifs, 0⟩] scope gpos) X.env) (GxM X pins σ k (YA (g.wx ex) H ι stop sF rr) (DA (g.wx ex) H ι sF rr)) X.xe s := by
  obtain ⟨cc, P, h1, h2, h3⟩ := ok.code
  refine pgx (P := P) (tt := fun _ => SemB g E0 c) (te := fun _ => SemE g E0 e) I ok.nd hi b.blk b.co b.h0 ok.dot ok.room.depth h1 ok.blt ya_mono b.hg b.ht b.he b.hs ?_
  refine semI_bnd at_ ?_
  rw [ef]
  intro J H1 ι1 at1 x1 J1
  refine ⟨(at1.good.tabs.t P h2).zero, .inl h3, fun cv H2 tb tx _ => ?_⟩
  obtain ⟨G2, x2⟩ := good_tb at1.good tb tx h2
  exact ga_turns (at1.ext x2 G2) (x1.trans x2) x2 J1 hc
def vGenD (fi : Ev Its) (t : Tv) (c : Ev Bool) (e : Ev D) (vs : List Nat) (k : List D → Store → Res D) : Ev D := fun δ st => match fi δ st with
  | .ok r s => if r.ds.length ≤ szLine then match compL r.cn r.ds.length t c e (wipE δ vs) r.ds 0 s with
      | .ok ys s2 => k ys s2
      | _ => .bad
    else .bad
  | _ => .bad
def vAnyG (stop neg : Bool) (fi : Ev Its) (t : Tv) (c : Ev Bool) (e : Ev D) (vs : List Nat) : Ev D := fun δ st => match fi δ st with
  | .ok r s => match anyL stop r.cn r.ds.length t c e (wipE δ vs) r.ds 0 s with
      | .ok b s2 => .ok (.p (.bl (if neg = true then !b else b))) s2
      | _ => .bad
  | _ => .bad
def sumLe (m : Int) (ns : List Int) : Bool := ns.all fun i => decide (-m ≤ i) && decide (i ≤ m)
/-- numbers whose sums stay in one word: any number of small ones, or a few greater ones -/
def sumOk (ns : List Int) : Bool := sumLe 1000000000000 ns || (decide (ns.length ≤ 8) && sumLe 1000000000000000000 ns)
def kSum (ys : List D) (st : Store) : Res D := match pAll ys with
  | some xs => match allInt xs with
    | some ns => if ys.length ≤ szLine ∧ sumOk ns = true then .ok (.p (.int ns.sum)) st else .bad
    | none => .bad
  | none => .bad
def kTup (ys : List D) (st : Store) : Res D := match pAll ys with
  | some xs => if ys.length ≤ szLine then .ok (.p (.tup xs)) st else .bad
  | none => .bad
theorem compL_len {cn : Option Nat} {len : Nat} {t : Tv} {c : Ev Bool} {e : Ev D} {δ0 : Env} : ∀ {ds : List D} {i : Nat} {st sF : Store} {tot : List D}, compL cn len t c e δ0 ds i st = .ok tot sF → tot.length ≤ ds.length
  | [], i, st, sF, tot, h => by
    unfold compL at h
    split at h
    · cases h; exact Nat.le_refl _
    · cases h
  | d0 :: ds, i, st, sF, tot, h => by
    unfold compL at h
    repeat' split at h
    all_goals first
      | (cases h; done)
      | (rename_i hh; cases h; have := compL_len hh; simp only [List.length_cons]; omega)
      | (have := compL_len h; simp only [List.length_cons]; omega)
theorem sum_le {m : Int} : ∀ {ns : List Int}, sumLe m ns = true → -((ns.length : Int) * m) ≤ ns.sum ∧ ns.sum ≤ (ns.length : Int) * m
  | [], _ => by simp
  | n :: ns, h => by
    unfold sumLe at h
    rw [List.all_cons, Bool.and_eq_true, Bool.and_eq_true, decide_eq_true_eq, decide_eq_true_eq] at h
    have ih := sum_le (ns := ns) h.2
    rw [List.length_cons, List.sum_cons, Int.natCast_succ, Int.add_mul, Int.one_mul]
    omega
theorem sumLe_app {m : Int} {a b : List Int} (h : sumLe m (a ++ b) = true) : sumLe m a = true ∧ sumLe m b = true := by
  unfold sumLe at h ⊢
  rw [List.all_append, Bool.and_eq_true] at h
  exact h
theorem sumLe_cons {m n : Int} {ns : List Int} (h : sumLe m (n :: ns) = true) : (-m ≤ n ∧ n ≤ m) ∧ sumLe m ns = true := by
  unfold sumLe at h ⊢
  rw [List.all_cons, Bool.and_eq_true, Bool.and_eq_true, decide_eq_true_eq, decide_eq_true_eq] at h
  exact h
theorem sumOk_of {ns : List Int} (h : sumOk ns = true) : sumLe 1000000000000 ns = true ∨ (ns.length ≤ 8 ∧ sumLe 1000000000000000000 ns = true) := by
  unfold sumOk at h
  rw [Bool.or_eq_true, Bool.and_eq_true, decide_eq_true_eq] at h
  exact h
end
section
variable {X : Cx} {g : GL} {E : XK} {k : Nat} {elt tg iter : Expr} {ifs : List Expr} {scope : Scope} {own : List (Str × Nat)} {gpos p cpos : Pos} {t : Tv} {c : Ev Bool} {e : Ev D} {fi : Ev Its}
theorem ints_pre {g : GL} {F : Hp} {ι : List Addr} : ∀ {pre : List D} {ys : List V} {xs : List P} {ns : List Int} {ms : List Int}, RDs g F ι ys pre → pAll pre = some xs → allInt xs = some ns → ys = ms.map V.int → ms = ns
  | pre, ys, xs, ns, ms, h, h1, h2, h3 => by
    have q := ints_of (rps_of h h1) h2
    rw [q] at h3
    have : ∀ {a b : List Int}, a.map V.int = b.map V.int → a = b := by
      intro a
      induction a with
      | nil => intro b z; cases b with
        | nil => rfl
        | cons _ _ => cases z
      | cons x a ih => intro b z; cases b with
        | nil => cases z
        | cons y b => simp only [List.map_cons, List.cons.injEq] at z; rw [ih z.2]; cases z.1; rfl
    exact (this h3).symm
theorem pAll_app : ∀ {a b : List D} {xs : List P}, pAll (a ++ b) = some xs → ∃ ys zs, pAll a = some ys ∧ pAll b = some zs ∧ xs = ys ++ zs
  | [], b, xs, h => ⟨[], xs, rfl, h, rfl⟩
  | .p x :: a, b, xs, h => by
    simp only [List.cons_append, pAll, Option.map_eq_some_iff] at h
    obtain ⟨ws, h1, rfl⟩ := h
    obtain ⟨ys, zs, h2, h3, rfl⟩ := pAll_app h1
    exact ⟨x :: ys, zs, by simp [pAll, h2], h3, rfl⟩
  | .ref _ :: a, b, xs, h => by cases h
theorem allInt_app : ∀ {a b : List P} {ns : List Int}, allInt (a ++ b) = some ns → ∃ ys zs, allInt a = some ys ∧ allInt b = some zs ∧ ns = ys ++ zs
  | [], b, xs, h => ⟨[], xs, rfl, h, rfl⟩
  | x :: a, b, ns, h => by
    cases x with
    | int i =>
      simp only [List.cons_append, allInt, Option.map_eq_some_iff] at h
      obtain ⟨ws, h1, rfl⟩ := h
      obtain ⟨ys, zs, h2, h3, rfl⟩ := allInt_app h1
      exact ⟨i :: ys, zs, by simp [allInt, h2], h3, rfl⟩
    | _ => cases h
theorem allInt_len : ∀ {a : List P} {ns : List Int}, allInt a = some ns → ns.length = a.length
  | [], _, h => by cases h; rfl
  | x :: a, ns, h => by
    cases x with
    | int i =>
      simp only [allInt, Option.map_eq_some_iff] at h
      obtain ⟨ws, h1, rfl⟩ := h
      simp [allInt_len h1]
    | _ => cases h
theorem se_sumG (ok : GxOk X g k) (b : GxB X g k elt tg iter ifs scope own t c e) (hi : PI X tg iter (SemI g E fi)) (hg : Gl X "sum") (hm : X.mg "sum" = none) (hv : bootBuiltins "sum" = some (.builtin "sum"))
    (he : starEach [.GeneratorExp elt [⟨tg, iter, ifs, 0⟩] scope gpos] X.env = (false, eval (.GeneratorExp elt [⟨tg, iter, ifs, 0⟩] scope gpos) X.env) :: starEach [] X.env := by rfl) :
    PE X (.Call (.Name "sum" p) [.GeneratorExp elt [⟨tg, iter, ifs, 0⟩] scope gpos] [] cpos) (SemE g E (vGenD fi t c e (own.map (·.2)) kSum)) := by
  refine ⟨fun pins s σ H Q I ⟨ex, ι, st, δ, at_, hh⟩ => ?_⟩
  unfold vGenD at hh
  split at hh
  · rename_i r s1 ef
    split at hh
    · split at hh
      · rename_i tot sF hc
        refine wpAny_Call_Name_kw (ld_blt I hg hm hv (PyProof.Rows.callWith_builtin1 ?_ he (by rfl)))
        rw [he]
        show wpAny _ _ (spliced ((false, eval (.GeneratorExp elt [⟨tg, iter, ifs, 0⟩] scope gpos) X.env) :: backTo cpos (starEach [] X.env))) _ _ s
        refine Calls.spliced_cons (thn (gx_list ok b hi I at_ ef hc) fun u s' G => Calls.spliced_nil ?_)
        unfold kSum at hh
        split at hh
        · rename_i xs hx
          split at hh
          · rename_i ns hn
            split at hh
            · rename_i hz
              refine GxM.sum G (ok.room.mono (by omega)) I.ok.frames (fun ys x H K hY => ?_) fun ms H s2 tk hD I2 => ?_
              · obtain ⟨hK, pre, d, rest, F, ι', rfl, r1, r2⟩ := hY
                obtain ⟨a1, a2, h1, h2, rfl⟩ := pAll_app hx
                cases d with
                | ref _ => cases h2
                | p y =>
                  simp only [pAll, Option.map_eq_some_iff] at h2
                  obtain ⟨a3, h3, rfl⟩ := h2
                  obtain ⟨n1, n2, h4, h5, rfl⟩ := allInt_app hn
                  cases y with
                  | int i =>
                    simp only [allInt, Option.map_eq_some_iff] at h5
                    obtain ⟨n3, h6, rfl⟩ := h5
                    refine ⟨i, by cases r2 with | p r2 => cases r2; rfl, fun ms hms => ?_, hK⟩
                    rw [ints_pre r1 h1 h4 hms]
                    have l1 := allInt_len h4
                    have l2 := pAll_len h1
                    have l3 : n1.length ≤ szLine := by
                      have := hz.1
                      rw [List.length_append] at this
                      omega
                    unfold szLine at l3
                    rcases sumOk_of hz.2 with o | ⟨l4, o⟩
                    · obtain ⟨o1, o2⟩ := sumLe_app o
                      have q := sum_le o1
                      have q2 := (sumLe_cons o2).1
                      unfold InLong
                      omega
                    · obtain ⟨o1, o2⟩ := sumLe_app o
                      have q := sum_le o1
                      have q2 := (sumLe_cons o2).1
                      rw [List.length_append] at l4
                      unfold InLong
                      omega
                  | _ => cases h5
              · obtain ⟨ι', G', x', rr⟩ := hD
                rw [ints_pre rr hx hn rfl]
                exact ⟨.int _, H, I2, ⟨_, rfl⟩, hh _ H ι' G' x' (.p (.int _))⟩
            · exact hh.elim
          · exact hh.elim
        · exact hh.elim
      · exact hh.elim
    · exact hh.elim
  · exact hh.elim
theorem se_anyG (ok : GxOk X g k) (b : GxB X g k elt tg iter ifs scope own t c e) (hi : PI X tg iter (SemI g E fi)) (hg : Gl X "any") (hm : X.mg "any" = none) (hv : bootBuiltins "any" = some (.builtin "any"))
    (he : starEach [.GeneratorExp elt [⟨tg, iter, ifs, 0⟩] scope gpos] X.env = (false, eval (.GeneratorExp elt [⟨tg, iter, ifs, 0⟩] scope gpos) X.env) :: starEach [] X.env := by rfl) :
    PE X (.Call (.Name "any" p) [.GeneratorExp elt [⟨tg, iter, ifs, 0⟩] scope gpos] [] cpos) (SemE g E (vAnyG true false fi t c e (own.map (·.2)))) := by
  refine ⟨fun pins s σ H Q I ⟨ex, ι, st, δ, at_, hh⟩ => ?_⟩
  unfold vAnyG at hh
  split at hh
  · rename_i r s1 ef
    split at hh
    · rename_i rr sF hc
      refine wpAny_Call_Name_kw (ld_blt I hg hm hv (PyProof.Rows.callWith_builtin1 ?_ he (by rfl)))
      rw [he]
      show wpAny _ _ (spliced ((false, eval (.GeneratorExp elt [⟨tg, iter, ifs, 0⟩] scope gpos) X.env) :: backTo cpos (starEach [] X.env))) _ _ s
      refine Calls.spliced_cons (thn (gx_any ok b hi I at_ ef hc) fun u s' G => Calls.spliced_nil ?_)
      refine GxM.any G (ok.room.mono (by omega)) I.ok.frames (fun ys x H K hY => ?_) fun ys H s2 hD I2 => ?_
      · obtain ⟨b, rfl, h1, h2⟩ := hY
        refine ⟨b, rfl, fun z s2 I2 => ?_, fun z => h2 (by rw [z]; decide)⟩
        obtain ⟨rfl, ι', G', x'⟩ := h1 z
        exact ⟨.bl true, H, I2, rfl, hh _ H ι' G' x' (.p (.bl true))⟩
      · obtain ⟨rfl, ι', G', x'⟩ := hD
        exact ⟨.bl false, H, I2, rfl, hh _ H ι' G' x' (.p (.bl false))⟩
    · exact hh.elim
  · exact hh.elim
theorem se_allG (ok : GxOk X g k) (b : GxB X g k elt tg iter ifs scope own t c e) (hi : PI X tg iter (SemI g E fi)) (hg : Gl X "all") (hm : X.mg "all" = none) (hv : bootBuiltins "all" = some (.builtin "all"))
    (he : starEach [.GeneratorExp elt [⟨tg, iter, ifs, 0⟩] scope gpos] X.env = (false, eval (.GeneratorExp elt [⟨tg, iter, ifs, 0⟩] scope gpos) X.env) :: starEach [] X.env := by rfl) :
    PE X (.Call (.Name "all" p) [.GeneratorExp elt [⟨tg, iter, ifs, 0⟩] scope gpos] [] cpos) (SemE g E (vAnyG false true fi t c e (own.map (·.2)))) := by
  refine ⟨fun pins s σ H Q I ⟨ex, ι, st, δ, at_, hh⟩ => ?_⟩
  unfold vAnyG at hh
  split at hh
  · rename_i r s1 ef
    split at hh
    · rename_i rr sF hc
      refine wpAny_Call_Name_kw (ld_blt I hg hm hv (PyProof.Rows.callWith_builtin1 ?_ he (by rfl)))
      rw [he]
      show wpAny _ _ (spliced ((false, eval (.GeneratorExp elt [⟨tg, iter, ifs, 0⟩] scope gpos) X.env) :: backTo cpos (starEach [] X.env))) _ _ s
      refine Calls.spliced_cons (thn (gx_any ok b hi I at_ ef hc) fun u s' G => Calls.spliced_nil ?_)
      refine GxM.all G (ok.room.mono (by omega)) I.ok.frames (fun ys x H K hY => ?_) fun ys H s2 hD I2 => ?_
      · obtain ⟨b, rfl, h1, h2⟩ := hY
        refine ⟨b, rfl, fun z s2 I2 => ?_, fun z => h2 (by rw [z]; decide)⟩
        obtain ⟨rfl, ι', G', x'⟩ := h1 z
        exact ⟨.bl false, H, I2, rfl, hh _ H ι' G' x' (.p (.bl false))⟩
      · obtain ⟨rfl, ι', G', x'⟩ := hD
        exact ⟨.bl true, H, I2, rfl, hh _ H ι' G' x' (.p (.bl true))⟩
    · exact hh.elim
  · exact hh.elim
theorem se_tupG (ok : GxOk X g k) (b : GxB X g k elt tg iter ifs scope own t c e) (hi : PI X tg iter (SemI g E fi)) (hg : Gl X "tuple") (hm : X.mg "tuple" = none) (hv : bootBuiltins "tuple" = some (.type "tuple"))
    (he : starEach [.GeneratorExp elt [⟨tg, iter, ifs, 0⟩] scope gpos] X.env = (false, eval (.GeneratorExp elt [⟨tg, iter, ifs, 0⟩] scope gpos) X.env) :: starEach [] X.env := by rfl) :
    PE X (.Call (.Name "tuple" p) [.GeneratorExp elt [⟨tg, iter, ifs, 0⟩] scope gpos] [] cpos) (SemE g E (vGenD fi t c e (own.map (·.2)) kTup)) := by
  refine ⟨fun pins s σ H Q I ⟨ex, ι, st, δ, at_, hh⟩ => ?_⟩
  unfold vGenD at hh
  split at hh
  · rename_i r s1 ef
    split at hh
    · split at hh
      · rename_i tot sF hc
        refine wpAny_Call_Name_kw (ld_blt I hg hm hv (PyProof.Rows.callWith_type1 ?_ he (by rfl)))
        rw [he]
        show wpAny _ _ (spliced ((false, eval (.GeneratorExp elt [⟨tg, iter, ifs, 0⟩] scope gpos) X.env) :: backTo cpos (starEach [] X.env))) _ _ s
        refine Calls.spliced_cons (thn (gx_list ok b hi I at_ ef hc) fun u s' G => Calls.spliced_nil ?_)
        unfold kTup at hh
        split at hh
        · rename_i xs hx
          split at hh
          · rename_i hz
            refine GxM.tuple G (ok.room.mono (by omega)) I.ok.frames (fun ys x H K hY => ?_) (fun ys H s2 q hD hq I2 => ?_) fun ys H hD => ?_
            · obtain ⟨hK, pre, d, rest, F, ι', rfl, r1, r2⟩ := hY
              refine ⟨Nat.lt_of_lt_of_le ?_ szLine_le, hK⟩
              rw [Paired.length r1]
              rw [List.length_append, List.length_cons] at hz
              omega
            · obtain ⟨ι', G', x', rr⟩ := hD
              refine ⟨.ref q, _, I2, rfl, ?_⟩
              have := new_data (Q := Q) G' hq (fun v H2 ι2 g2 x2 r2 => hh v H2 ι2 g2 (x'.trans x2) r2) rfl (o := .tup ys) fun F' s' e => .tup e (Rps.sub s' (rps_of rr hx))
              exact this
            · obtain ⟨ι', G', x', rr⟩ := hD
              rw [Paired.length rr]
              exact Nat.le_trans hz szLine_le
          · exact hh.elim
        · exact hh.elim
      · exact hh.elim
    · exact hh.elim
  · exact hh.elim
end
end
end Iv
end

section
set_option Elab.async false
set_option linter.all false
set_option maxRecDepth 100000
set_option maxHeartbeats 4100000
namespace Iv
open PySem PySem.Spec PyProof.Rows L2 Gx

/-! ### own functions -/
def wfD (m : Nat) : D → Bool
  | .p _ => true
  | .ref n => decide (n < m)
def wfC (m : Nat) : Cell → Bool
  | .lst ds => ds.all (wfD m)
  | .dK ds => ds.all fun x => wfD m x.2
  | .dT ds => ds.all fun x => wfD m x.2
  | .fK ds => ds.all fun x => wfD m x.2
  | .fT ds => ds.all fun x => wfD m x.2
  | .obj _ ds => ds.all fun x => wfD m x.2
/-- a call is done: its own cells are closed -/
def retF (m : Nat) (d : D) (s : Store) : Res D :=
  if s.length = m then .ok d s else
  if (s.take m).all (wfC m) = true then match d with
    | .p x => .ok (.p x) (s.take m)
    | .ref n => if n < m then .ok (.ref n) (s.take m) else match see s (.ref n) with
      | some x => .ok (.p x) (s.take m)
      | none => .bad
  else .bad
def excF (m : Nat) (c : Nat) (s : Store) : Res D :=
  if s.length = m then .exc c s else if (s.take m).all (wfC m) = true then .exc c (s.take m) else .bad
def startE (n : Nat) (ds : List D) : Env := ds.map some ++ List.replicate (n - ds.length) none
/-- what a def's body computes; keep: its cells stay open -/
def fnF (keep : Bool) (n k : Nat) (b : Sv) : F1 := fun ds st => if ds.length = k then match b (startE n ds) st with
    | .nx _ s => if keep = true then .ok (.p .non) s else retF st.length (.p .non) s
    | .rt d s => if keep = true then .ok d s else retF st.length d s
    | .exc c s => if keep = true then .exc c s else excF st.length c s
    | _ => .bad
  else .bad
/-- the promise -/
def SpF (g : GL) (k : Nat) (f : F1) : Sp := fun vs H Q E => vs.length = k ∧ ∃ ex ι st ds, Good (g.wx ex) ι st H ∧ RDs (g.wx ex) (Fz H ((g.wx ex).x ι)) ι vs ds ∧ Post (g.wx ex) H ι E (f ds st) Q
section
variable {g : GL} {ι ι' : List Addr} {st s : Store} {H H' : Hp} {E : XK} {Q : VK}
theorem pd_take {α β : Type} {R : α → β → Prop} : ∀ {xs : List α} {ys : List β} (n : Nat), Paired R xs ys → Paired R (xs.take n) (ys.take n)
  | _, _, 0, _ => by simpa using .nil
  | _, _, n + 1, .nil => .nil
  | _, _, n + 1, .cons r t => .cons r (pd_take n t)
theorem le_take (l : Le ι ι') : ι'.take ι.length = ι := by
  obtain ⟨ν, rfl⟩ := l
  simp
theorem rd_down {F F' : Hp} (sub : Sub F F') (l : Le ι ι') {v : V} {d : D} (r : RD g F ι' v d) (w : wfD ι.length d = true) : RD g F' ι v d := by
  cases r with
  | p r => exact .p (r.sub sub)
  | ref h =>
    simp only [wfD, decide_eq_true_eq] at w
    obtain ⟨ν, rfl⟩ := l
    rw [List.getElem?_append_left w] at h
    exact .ref h
theorem rc_down {F F' : Hp} (sub : Sub F F') (l : Le ι ι') {o : HO} {c : Cell} (r : RC g F ι' o c) (w : wfC ι.length c = true) : RC g F' ι o c := by
  cases r with
  | lst h =>
    simp only [wfC, List.all_eq_true] at w
    refine .lst ?_
    induction h with
    | nil => exact .nil
    | cons r t ih => exact .cons (rd_down sub l r (w _ List.mem_cons_self)) (ih fun d hd => w d (List.mem_cons_of_mem _ hd))
  | dK h =>
    simp only [wfC, List.all_eq_true] at w
    refine .dK ?_
    induction h with
    | nil => exact .nil
    | cons r t ih => exact .cons ⟨r.1, rd_down sub l r.2 (w _ List.mem_cons_self)⟩ (ih fun d hd => w d (List.mem_cons_of_mem _ hd))
  | dT h =>
    simp only [wfC, List.all_eq_true] at w
    refine .dT ?_
    induction h with
    | nil => exact .nil
    | cons r t ih => exact .cons ⟨r.1, rd_down sub l r.2 (w _ List.mem_cons_self)⟩ (ih fun d hd => w d (List.mem_cons_of_mem _ hd))
  | fK h =>
    simp only [wfC, List.all_eq_true] at w
    refine .fK ?_
    induction h with
    | nil => exact .nil
    | cons r t ih => exact .cons ⟨r.1, rd_down sub l r.2 (w _ List.mem_cons_self)⟩ (ih fun d hd => w d (List.mem_cons_of_mem _ hd))
  | fT h =>
    simp only [wfC, List.all_eq_true] at w
    refine .fT ?_
    induction h with
    | nil => exact .nil
    | cons r t ih => exact .cons ⟨r.1, rd_down sub l r.2 (w _ List.mem_cons_self)⟩ (ih fun d hd => w d (List.mem_cons_of_mem _ hd))
  | obj h =>
    simp only [wfC, List.all_eq_true] at w
    refine .obj ?_
    induction h with
    | nil => exact .nil
    | cons r t ih => exact .cons ⟨r.1, rd_down sub l r.2 (w _ List.mem_cons_self)⟩ (ih fun d hd => w d (List.mem_cons_of_mem _ hd))
/-- the cells above are closed -/
theorem good_drop (G : Good g ι' s H') (l : Le ι ι') (w : (s.take ι.length).all (wfC ι.length) = true) : Good g ι (s.take ι.length) H' ∧ Sub (Fz H' (g.x ι')) (Fz H' (g.x ι)) := by
  have sub : Sub (Fz H' (g.x ι')) (Fz H' (g.x ι)) := fun b u e => by
    obtain ⟨h1, w, h2, h3⟩ := Fz.at e
    refine Fz.mk (fun m => h1 ?_) h2 h3
    obtain ⟨ν, rfl⟩ := l
    rcases List.mem_append.mp m with m | m
    · exact GL.in2 m
    · exact GL.in1 (List.mem_append_left _ m)
  have hc := pd_take ι.length G.cells
  rw [le_take l] at hc
  refine ⟨⟨?_, ?_, G.tabs, G.exs, fun b hb m => ?_⟩, sub⟩
  · obtain ⟨ν, rfl⟩ := l
    exact (List.nodup_append.mp G.nd).1
  · rw [List.all_eq_true] at w
    have : ∀ {l' : List Addr} {t : List Cell}, Paired (fun a c => ∃ o, H' a = some o ∧ RC g (Fz H' (g.x ι')) ι' o c) l' t → (∀ c ∈ t, wfC ι.length c = true) → Paired (fun a c => ∃ o, H' a = some o ∧ RC g (Fz H' (g.x ι)) ι o c) l' t := by
      intro l' t h
      induction h with
      | nil => intro _; exact .nil
      | cons r t ih =>
        intro hw
        obtain ⟨o, h1, h2⟩ := r
        exact .cons ⟨o, h1, rc_down sub l h2 (hw _ List.mem_cons_self)⟩ (ih fun c hc => hw c (List.mem_cons_of_mem _ hc))
    exact this hc w
  · obtain ⟨ν, rfl⟩ := l
    exact G.dis b hb (List.mem_append_left _ m)
theorem ext_down (x : Ext g H ι H' ι') (sub : Sub (Fz H' (g.x ι')) (Fz H' (g.x ι))) : Ext g H ι H' ι := ⟨.refl ι, x.keep.trans sub, x.same, x.frz⟩
theorem le_eq (l : Le ι ι') (h : ι'.length = ι.length) : ι' = ι := by
  obtain ⟨ν, rfl⟩ := l
  rw [List.length_append] at h
  have : ν = [] := List.eq_nil_of_length_eq_zero (by omega)
  rw [this, List.append_nil]
theorem ret_ok {v : V} {d d' : D} {s' : Store} (G0 : Good g ι st H) (G : Good g ι' s H') (x : Ext g H ι H' ι') (r : RD g (Fz H' (g.x ι')) ι' v d) (e : retF st.length d s = .ok d' s') : ∃ ι'', Good g ι'' s' H' ∧ Ext g H ι H' ι'' ∧ RD g (Fz H' (g.x ι'')) ι'' v d' := by
  rw [← G0.len] at e
  unfold retF at e
  split at e
  · cases e; exact ⟨ι', G, x, r⟩
  · split at e
    · rename_i w
      obtain ⟨G', sub⟩ := good_drop G x.le w
      have x' := ext_down x sub
      split at e
      · cases e
        cases r with
        | p r => exact ⟨ι, G', x', .p (r.sub sub)⟩
      · split at e
        · rename_i hn
          cases e
          exact ⟨ι, G', x', rd_down sub x.le r (by simpa [wfD] using hn)⟩
        · rename_i hn
          split at e
          · rename_i y hs
            cases e
            cases r with
            | ref h =>
              rename_i n a
              obtain ⟨c, u, h1, h2, rc⟩ := G.cell' h
              have na : a ∉ g.x ι := fun m => by
                rcases List.mem_append.mp m with m | m
                · exact G.dis a m (List.mem_of_getElem? h)
                · obtain ⟨ν, e'⟩ := x.le
                  have nd := G.nd
                  subst e'
                  rw [List.getElem?_append_right (by omega)] at h
                  exact (List.nodup_append.mp nd).2.2 a m a (List.mem_of_getElem? h) rfl
              simp only [Iv.see, h1] at hs
              refine ⟨ι, G', x', .p ?_⟩
              cases rc with
              | lst q =>
                simp only [seeC, Option.map_eq_some_iff] at hs
                obtain ⟨ys, e1, rfl⟩ := hs
                exact .lst (Fz.mk na h2 rfl) ((rps_of q e1).sub sub)
              | dK q =>
                simp only [seeC, Option.map_eq_some_iff] at hs
                obtain ⟨ys, e1, rfl⟩ := hs
                exact .dK (Fz.mk na h2 rfl) ((rpk_of q e1).sub sub)
              | dT q =>
                simp only [seeC, Option.map_eq_some_iff] at hs
                obtain ⟨ys, e1, rfl⟩ := hs
                exact .dT (Fz.mk na h2 rfl) ((rpt_of q e1).sub sub)
              | fK q =>
                simp only [seeC, Option.map_eq_some_iff] at hs
                obtain ⟨ys, e1, rfl⟩ := hs
                exact .dK (Fz.mk na h2 rfl) ((rpk_of q e1).sub sub)
              | fT q =>
                simp only [seeC, Option.map_eq_some_iff] at hs
                obtain ⟨ys, e1, rfl⟩ := hs
                exact .dT (Fz.mk na h2 rfl) ((rpt_of q e1).sub sub)
              | obj q =>
                simp only [seeC, Option.map_eq_some_iff] at hs
                obtain ⟨ys, e1, rfl⟩ := hs
                exact .obj (Fz.mk na h2 rfl) ((rpf_of q e1).sub sub)
          · cases e
    · cases e
theorem retF_x {m : Nat} {d : D} {s : Store} {c : Nat} {s' : Store} : retF m d s ≠ .exc c s' := by
  intro e; unfold retF at e; repeat' split at e
  all_goals cases e
theorem ret_post {v : V} {d : D} (G0 : Good g ι st H) (G : Good g ι' s H') (x : Ext g H ι H' ι') (r : RD g (Fz H' (g.x ι')) ι' v d) (h : Post g H ι E (retF st.length d s) Q) : Q v H' := by
  cases e : retF st.length d s with
  | bad => rw [e] at h; exact h.elim
  | exc c s' => exact (retF_x e).elim
  | ok d' s' =>
    rw [e] at h
    obtain ⟨ι'', G', x', r'⟩ := ret_ok G0 G x r e
    exact h v H' ι'' G' x' r'
theorem exc_post {c : Nat} (G0 : Good g ι st H) (h : Post g H ι E (excF st.length c s) Q) : PostX g H ι c s E := by
  intro H' ι' G x
  rw [← G0.len] at h
  unfold excF at h
  split at h
  · exact h H' ι' G x
  · split at h
    · rename_i w
      obtain ⟨G', sub⟩ := good_drop G x.le w
      exact h H' ι G' (ext_down x sub)
    · exact h.elim
theorem re_start {F : Hp} {N : List Str} {vs : List V} {ds : List D} (r : RDs g F ι vs ds) : RE g F ι (L2.start N vs) (startE N.length ds) := by
  unfold L2.start startE
  have hl := Paired.length r
  refine ⟨by simp [hl], fun i d h => ?_⟩
  by_cases hi : i < ds.length
  · rw [List.getElem?_append_left (by simpa using hi), List.getElem?_map, Option.map_eq_some_iff] at h
    obtain ⟨d', h1, h2⟩ := h
    cases h2
    obtain ⟨v, h3, h4⟩ := pd_get' r h1
    exact ⟨v, by rw [List.getElem?_append_left (by simpa [hl] using hi), List.getElem?_map, h3]; rfl, h4⟩
  · rw [List.getElem?_append_right (by simpa using Nat.le_of_not_lt hi)] at h
    rw [List.getElem?_replicate] at h
    split at h <;> cases h
/-- the body's reading, from the promise -/
theorem fn_body {keep : Bool} {N : List Str} {k : Nat} {b : Sv} {vs : List V} (h : SpF g k (fnF keep N.length k b) vs H Q E) : SemS g E b { nx := fun _ H' => Q .non H', rt := Q } (L2.start N vs) H := by
  obtain ⟨hl, ex, ι, st, ds, G, r, h⟩ := h
  refine ⟨ex, ι, st, startE N.length ds, ⟨G, re_start r⟩, ?_⟩
  unfold fnF at h
  split at h
  · cases e : b (startE N.length ds) st with
    | nx δ s =>
      rw [e] at h
      intro σ H' ι' G' x' e'
      cases keep with
      | true => exact h .non H' ι' G' x' (.p .non)
      | false => exact ret_post G G' x' (.p .non) h
    | rt d s =>
      rw [e] at h
      intro v H' ι' G' x' r'
      cases keep with
      | true => exact h v H' ι' G' x' r'
      | false => exact ret_post G G' x' r' h
    | exc c s =>
      rw [e] at h
      cases keep with
      | true => exact h
      | false => exact exc_post G h
    | _ => rw [e] at h; exact h.elim
  · exact h.elim
end

/-! ### calls, raise -/
section
variable {X : Cx} {g : GL} {E : XK} {pos : Pos} {e : Expr} {es : List Expr}
def vFn (f : F1) (fa : Ev (List D)) (dds : List D) : Ev D := fun δ st => (fa δ st).bnd fun ds s => f (ds ++ dds) s
theorem vK_rd {F : Hp} {ι : List Addr} : RDs g F ι [] [] := .nil
/-- defaults: data that asks nothing of the heap -/
inductive RdC : V → D → Prop
  | non : RdC .non (.p .non)
  | bl (b : Bool) : RdC (.bl b) (.p (.bl b))
  | int (i : Int) : RdC (.int i) (.p (.int i))
  | str (x : Str) : RdC (.str x) (.p (.str x))
theorem RdC.rd {F : Hp} {ι : List Addr} {v : V} {d : D} (h : RdC v d) : RD g F ι v d := by
  cases h with
  | non => exact .p .non
  | bl b => exact .p (.bl b)
  | int i => exact .p (.int i)
  | str x => exact .p (.str x)
theorem rdc_all {F : Hp} {ι : List Addr} {vs : List V} {ds : List D} (h : Paired RdC vs ds) : RDs g F ι vs ds := Paired.mapP h fun _ _ r => r.rd
theorem tCall_of {k : Nat} {f : F1} {fa : Ev (List D)} {dvs : List V} {dds : List D} (hd : Paired RdC dvs dds) (hk : ∀ ds st, ds.length ≠ k → f ds st = .bad) : ∀ σ H Q, SemE g E (vFn f fa dds) σ H Q → tCall (SpF g k f) dvs E (SemA g E fa) σ H Q := by
  rintro σ H Q ⟨ex, ι, st, δ, at_, h⟩
  refine semA_bnd at_ ?_
  unfold vFn at h
  cases ea : fa δ st with
  | bad => rw [ea] at h; exact h
  | exc c s1 => rw [ea] at h; exact h
  | ok ds s1 =>
    rw [ea] at h
    intro vs H1 ι1 at1 x1 r1
    have h := Post.ext x1 h
    simp only [Res.bnd] at h
    have rr := pd_app r1 (rdc_all (g := g.wx ex) hd)
    refine ⟨?_, ex, ι1, s1, ds ++ dds, at1.good, rr, h⟩
    rw [Paired.length rr]
    apply Classical.byContradiction
    intro z
    rw [hk _ _ z] at h
    exact h
theorem fnF_len {keep : Bool} {n k : Nat} {b : Sv} : ∀ ds st, ds.length ≠ k → fnF keep n k b ds st = .bad := fun ds st h => if_neg h
theorem se_call {CX : CXT} {k n : Nat} {fa : Ev (List D)} {f : Addr} {fd : FuncData} {ps : List Str} {x : Str} {p : Pos} {ff : F1} {dvs : List V} {ds : List Value} {dds : List D} (F : FnOk X.prog X.w X.K X.mg X.base CX n f fd ps (SpF g k ff)) (hlen : ∀ ds st, ds.length ≠ k → ff ds st = .bad) (hr : Room n X.A) (hg : Gl X x) (hm : X.mg x = some (.ref f)) (hk : PySem.W.keepIn X.K (.ref f) = true) (hb : Binds X.K fd ps ds) (hd : Vals dvs ds) (hdd : Paired RdC dvs dds) (hx : Passes CX X E)
    (ha : PA X (e :: es) (SemA g E fa)) (hdb : (x == ("__debug__" : Str)) = false := by decide) (he : starEach (e :: es) X.env = (false, eval e X.env) :: starEach es X.env := by rfl) (hpl : (backTo pos (starEach es X.env)).any (·.1) = false := by rfl) :
    PE X (.Call (.Name x p) (e :: es) [] pos) (SemE g E (vFn ff fa dds)) := pe_mono (pe_call F hr hg hm hk hb hd hx ha hdb he hpl) (tCall_of hdd hlen)
def sRaise (c : Nat) : Sv := fun _ st => .exc c st
theorem ss_raise {c : Nat} {x m : Str} {j : Nat} {p p2 p3 : Pos} {C : Addr} (hc : X.calm = true) (tk : Takes X (fun cls d _ H => E cls d H)) (hC : g.CT c = C) (hmk : PMk X (.Call (.Name x p) [.Constant (.str m) j p2] [] p3) (fun _ H Q => Q (.ref C) none H)) : PS X (.Raise (some (.Call (.Name x p) [.Constant (.str m) j p2] [] p3)) none pos) (SemS g E (sRaise c)) := by
  subst hC
  exact ps_mono (ps_raise hc tk hmk) fun D σ H ⟨ex, ι, st, δ, at_, h⟩ => h H ι at_.good (.refl _ _)
def vBad {α : Type} : Ev α := fun _ _ => .bad
def sBad : Sv := fun _ _ => .bad
theorem se_bad : PE X e (SemE g E vBad) := ⟨fun pins s σ H Q I ⟨ex, ι, st, δ, at_, h⟩ => h.elim⟩
theorem ss_bad {s : Stmt} : PS X s (SemS g E sBad) := ⟨fun pins s σ H D I ⟨ex, ι, st, δ, at_, h⟩ => h.elim⟩
theorem sss_bad {s : List Stmt} : PSs X s (SemS g E sBad) := ⟨fun pins s σ H D I ⟨ex, ι, st, δ, at_, h⟩ => h.elim⟩
/-- no exception leaves -/
theorem passE0 {P : Program} {w : World} (hp : X.prog = P) (hw : X.w = w) : Passes (L2.CX P w) X C8.E0 := by
  subst hp hw
  exact passes_call takes0 fun _ _ _ _ h => h
end
end Iv
end

section
set_option Elab.async false
set_option linter.all false
set_option maxRecDepth 100000
set_option maxHeartbeats 4100000
namespace Iv
open PySem PySem.Spec PyProof.Rows L2 Gx

/-! ### short names -/
section
variable {X : Cx} {g : GL} {E : XK} {pos : Pos} {a b c e : Expr} {fa fb fc : Ev D}
theorem sv (i : Nat) {x : Str} (hN : X.N[i]? = some x := by rfl) (hv : Vis X.env.scope x := by first | exact Or.inl rfl | exact Or.inr (Or.inl rfl) | exact Or.inr (Or.inr rfl)) (hd : (x == ("__debug__" : Str)) = false := by decide)
    (hcd : (x == ("__classdict__" : Str)) = false := by decide) : PE X (.Name x pos) (SemE g E (vV i)) := se_var hN hv hd hcd
theorem sgint {x : Str} {i : Int} (hg : Gl X x) (h : ∃ t, X.mg x = some (.int i t)) (hd : (x == ("__debug__" : Str)) = false := by decide) : PE X (.Name x pos) (SemE g E (vK (.int i))) := by
  obtain ⟨t, h⟩ := h
  exact se_const (pe_glob (v := V.int i) hg h ⟨t, rfl⟩ hd) fun _ _ => .int i
theorem sgstr {x z : Str} (hg : Gl X x) (h : ∃ t, X.mg x = some (.str z t)) (hd : (x == ("__debug__" : Str)) = false := by decide) : PE X (.Name x pos) (SemE g E (vK (.str z))) := by
  obtain ⟨t, h⟩ := h
  exact se_const (pe_glob (v := V.str z) hg h ⟨t, rfl⟩ hd) fun _ _ => .str z
theorem sAddE (k : CxK X g) (ha : PE X a (SemE g E fa)) (hb : PE X b (SemE g E fb)) : PE X (.BinOp a .Add b pos) (SemE g E (v2 oAdd fa fb)) := se_op (or_add k) (opSem_of noX_add) ha hb
theorem sSubE (ha : PE X a (SemE g E fa)) (hb : PE X b (SemE g E fb)) : PE X (.BinOp a .Sub b pos) (SemE g E (v2 oSub fa fb)) := se_op or_sub (opSem_of noX_sub) ha hb
theorem sMulE (k : CxK X g) (ha : PE X a (SemE g E fa)) (hb : PE X b (SemE g E fb)) : PE X (.BinOp a .Mult b pos) (SemE g E (v2 oMul fa fb)) := se_op (or_mul k) (opSem_of noX_mul) ha hb
theorem sDivE (ha : PE X a (SemE g E fa)) (hb : PE X b (SemE g E fb)) : PE X (.BinOp a .FloorDiv b pos) (SemE g E (v2 oDiv fa fb)) := se_op or_div (opSem_of noX_div) ha hb
theorem sModE (ha : PE X a (SemE g E fa)) (hb : PE X b (SemE g E fb)) : PE X (.BinOp a .Mod b pos) (SemE g E (v2 oMod fa fb)) := se_op or_mod (opSem_of noX_mod) ha hb
theorem sPowE (ha : PE X a (SemE g E fa)) (hb : PE X b (SemE g E fb)) : PE X (.BinOp a .Pow b pos) (SemE g E (v2 oPow fa fb)) := se_op or_pow (opSem_of noX_pow) ha hb
/-- which comparison is which function -/
def cmpF : CmpOp → Option (D → D → Store → Res D)
  | .Lt => some (oOrd .lt) | .LtE => some (oOrd .le) | .Gt => some (oOrd .gt) | .GtE => some (oOrd .ge) | .Eq => some (oEq false) | .NotEq => some (oEq true) | .Is => some (oIs false) | .IsNot => some (oIs true)
  | _ => none
theorem cmp_or {op : CmpOp} {f : D → D → Store → Res D} (k : CxK X g) (h : cmpF op = some f) : OpR X (compareOp op) (rSem g f) ∧ NoX f := by
  cases op <;> first
    | (cases h; done)
    | (cases h; exact ⟨or_lt k, noX_ord⟩)
    | (cases h; exact ⟨or_le k, noX_ord⟩)
    | (cases h; exact ⟨or_gt k, noX_ord⟩)
    | (cases h; exact ⟨or_ge k, noX_ord⟩)
    | (cases h; exact ⟨or_eq k, noX_eq⟩)
    | (cases h; exact ⟨or_ne k, noX_eq⟩)
    | (cases h; exact ⟨or_is, noX_is⟩)
    | (cases h; exact ⟨or_isnot, noX_is⟩)
theorem scmp {op : CmpOp} {f : D → D → Store → Res D} (k : CxK X g) (ha : PE X a (SemE g E fa)) (hb : PE X b (SemE g E fb)) (h : cmpF op = some f := by rfl) (hm : behindInMarks op b = false := by exact nomark _) : PE X (.Compare a [op] [b] pos) (SemE g E (v2 f fa fb)) := se_cmp (cmp_or k h).1 (opSem_of (cmp_or k h).2) ha hb hm
theorem tcmp {op : CmpOp} {f : D → D → Store → Res D} (k : CxK X g) (ha : PE X a (SemE g E fa)) (hb : PE X b (SemE g E fb)) (h : cmpF op = some f := by rfl) (hm : behindInMarks op b = false := by exact nomark _) : PT X (.Compare a [op] [b] pos) (SemB g E (tstB (v2 f fa fb))) := st_cmp (cmp_or k h).1 (opSem_of (cmp_or k h).2) ha hb hm
theorem schn {op op' : CmpOp} {f f' : D → D → Store → Res D} (k : CxK X g) (ha : PE X a (SemE g E fa)) (hb : PE X b (SemE g E fb)) (hc : PE X c (SemE g E fc)) (h : cmpF op = some f := by rfl) (h' : cmpF op' = some f' := by rfl)
    (hm : lastMarks [op, op'] [b, c] = false := by with_unfolding_all rfl) : PE X (.Compare a [op, op'] [b, c] pos) (SemE g E (vCh f f' fa fb fc)) := se_chain (cmp_or k h).1 (cmp_or k h').1 (opSem_of (cmp_or k h).2) (opSem_of (cmp_or k h').2) ha hb hc hm
theorem tchn {op op' : CmpOp} {f f' : D → D → Store → Res D} (k : CxK X g) (ha : PE X a (SemE g E fa)) (hb : PE X b (SemE g E fb)) (hc : PE X c (SemE g E fc)) (h : cmpF op = some f := by rfl) (h' : cmpF op' = some f' := by rfl)
    (hm : lastMarks [op, op'] [b, c] = false := by with_unfolding_all rfl) : PT X (.Compare a [op, op'] [b, c] pos) (SemB g E (tstB (vCh f f' fa fb fc))) := st_chain (cmp_or k h).1 (cmp_or k h').1 (opSem_of (cmp_or k h).2) (opSem_of (cmp_or k h').2) ha hb hc hm
/-- a context's facts -/
theorem kx_of {n : Nat} (hK : X.K = g.K) (hr : Room n X.A) : CxK X g := ⟨hK, by have := hr.un; omega⟩
end

/-! ### functions by their facts -/
structure Cal2 (P : Program) (w : World) (K : PySem.W.Frag) (mg : Str → Option Value) (base : Heap) (g : GL) (n : Nat) (x : Str) (k : Nat) (ff : F1) (dds : List D) : Prop where
  ex : ∃ (f : Addr) (fd : FuncData) (ps : List Str) (ds : List Value) (dvs : List V), FnOk P w K mg base (L2.CX P w) n f fd ps (SpF g k ff) ∧ mg x = some (.ref f) ∧ PySem.W.keepIn K (.ref f) = true ∧ Binds K fd ps ds ∧ Vals dvs ds ∧ Paired RdC dvs dds
  len : ∀ ds st, ds.length ≠ k → ff ds st = .bad
theorem scall {X : Cx} {g : GL} {E : XK} {pos p : Pos} {e : Expr} {es : List Expr} {n j k : Nat} {x : Str} {ff : F1} {dds : List D} {fa : Ev (List D)} (c : Cal2 X.prog X.w X.K X.mg X.base g n x k ff dds) (hr : Room j X.A) (hn : n ≤ j) (hg : Gl X x) (hx : Passes (L2.CX X.prog X.w) X E)
    (ha : PA X (e :: es) (SemA g E fa)) (hdb : (x == ("__debug__" : Str)) = false := by decide) (he : starEach (e :: es) X.env = (false, eval e X.env) :: starEach es X.env := by rfl) (hpl : (backTo pos (starEach es X.env)).any (·.1) = false := by rfl) :
    PE X (.Call (.Name x p) (e :: es) [] pos) (SemE g E (vFn ff fa dds)) := by
  obtain ⟨f, fd, ps, ds, dvs, F, hm, hk, hb, hd, hdd⟩ := c.ex
  exact se_call F c.len (hr.mono hn) hg hm hk hb hd hdd hx ha hdb he hpl
/-- the rule of a def -/
theorem fn_ok {P : Program} {w : World} {K : PySem.W.Frag} {mg : Str → Option Value} {base : Heap} {g : GL} {x qual : Str} {params : Arguments} {body : List Stmt} {scope : Scope} {dvs : List V} {kws : List (Str × V)} {p : He.Defn} {fd : FuncData} {N ps : List Str} {k : Nat} (keep : Bool) {b : Sv} (F : FunD K x qual params body scope dvs kws (He.fAd K p) fd) (S : FnScope N ps scope)
    (hbody : ∀ (A : Around) (outer : List PySem.Env) (s : Shared) (H : Hp) (E : XK), Room k (A.deeper (envOfC qual scope s.heap.objs.size (He.fAd K p) (.ref (He.codeOf K p)))) → PSs (cxOf (L2.CX P w) P w K mg base N qual scope (He.fAd K p) (.ref (He.codeOf K p)) A outer s H E) body (SemS g E b)) :
    FnOk P w K mg base (L2.CX P w) (k + 1) (He.fAd K p) fd ps (SpF g ps.length (fnF keep N.length ps.length b)) := by
  obtain ⟨_, _, dV, kV, doc, pm, an, cdv, ct, _, rfl, lk, hcd, -, -⟩ := F.ex
  obtain ⟨c, rfl⟩ := He.codeIn_ref hcd
  have e : He.codeOf K p = c := He.codeOf_eq lk rfl
  refine fn_of lk hcd S (fun vs H Q E h => h.1) fun A outer s H vs Q E hr hsp => ⟨SemS g E b, ?_, fn_body hsp⟩
  rw [← e] at hr ⊢
  exact hbody A outer s H E hr
theorem cal_of {P : Program} {w : World} {K : PySem.W.Frag} {mg : Str → Option Value} {base : Heap} {g : GL} {x qual : Str} {params : Arguments} {body : List Stmt} {scope : Scope} {kws : List (Str × V)} {p : He.Defn} {fd : FuncData} {N ps : List Str} {n k : Nat} {keep : Bool} {b : Sv} (F : FunD K x qual params body scope [] kws (He.fAd K p) fd)
    (h : FnOk P w K mg base (L2.CX P w) n (He.fAd K p) fd ps (SpF g k (fnF keep N.length k b))) (hm : mg x = some (.ref (He.fAd K p))) (hb : Binds K fd ps []) : Cal2 P w K mg base g n x k (fnF keep N.length k b) [] :=
  ⟨⟨_, _, _, _, _, h, hm, F.kp, hb, .nil, .nil⟩, fnF_len⟩
/-- an own exception -/
structure ExF (K : PySem.W.Frag) (mg : Str → Option Value) (g : GL) (i : Nat) (x : Str) : Prop where
  mg : mg x = some (.ref (g.CT i))
  ex : PySem.W.excIn K (g.CT i) He.veBase "ValueError.__new__" = true
  kp : PySem.W.keepIn K (.ref (g.CT i)) = true
  sub : PySem.W.subIn K (.ref (g.CT i)) (.type "BaseException") = some true
  ty : PySem.W.typeIn K (.ref (g.CT i)) = some (.type "type")
theorem sraise {X : Cx} {g : GL} {E : XK} {pos : Pos} {i : Nat} {x m : Str} {j : Nat} {p p2 p3 : Pos} (ef : ExF X.K X.mg g i x) (hc : X.calm = true) (tk : Takes X (fun cls d _ H => E cls d H)) (hg : Gl X x) (hdb : (x == ("__debug__" : Str)) = false := by decide) :
    PS X (.Raise (some (.Call (.Name x p) [.Constant (.str m) j p2] [] p3)) none pos) (SemS g E (sRaise i)) :=
  ss_raise hc tk rfl (pmk_own PySem.F.excBase_ValueError ef.ex ef.mg ef.kp (raises_own ef.sub ef.ty) hg hdb)
/-- a generator expression's context: a def's own body -/
theorem gx_of {P : Program} {w : World} {K : PySem.W.Frag} {mg : Str → Option Value} {base : Heap} {g : GL} {qual : Str} {scope : Scope} {f : Addr} {p : He.Defn} {A : Around} {outer : List PySem.Env} {s : Shared} {H : Hp} {E : XK} {N : List Str} {k : Nat} (nd : N.Nodup) (dot : (".0" : Str) ∉ N) (hr : Room (k + 6) (A.deeper (envOfC qual scope s.heap.objs.size f (.ref (He.codeOf K p)))))
    (TB : LamX.TabB base mg (He.cT K p).1 (He.cT K p).2) (hT : (He.cT K p).2 ∈ g.T) : GxOk (cxOf (L2.CX P w) P w K mg base N qual scope f (.ref (He.codeOf K p)) A outer s H E) g k :=
  ⟨nd, rfl, dot, hr, BltM.of TB.bm, _, _, rfl, hT, TB.code⟩
theorem bt_len : bootBuiltins "len" = some (.builtin "len") := by decide +kernel
theorem bt_abs : bootBuiltins "abs" = some (.builtin "abs") := by decide +kernel
theorem bt_max : bootBuiltins "max" = some (.builtin "max") := by decide +kernel
theorem bt_min : bootBuiltins "min" = some (.builtin "min") := by decide +kernel
theorem bt_sum : bootBuiltins "sum" = some (.builtin "sum") := by decide +kernel
theorem bt_any : bootBuiltins "any" = some (.builtin "any") := by decide +kernel
theorem bt_all : bootBuiltins "all" = some (.builtin "all") := by decide +kernel
theorem bt_sorted : bootBuiltins "sorted" = some (.builtin "sorted") := by decide +kernel
theorem bt_int : bootBuiltins "int" = some (.type "int") := by decide +kernel
theorem bt_list : bootBuiltins "list" = some (.type "list") := by decide +kernel
theorem bt_tuple : bootBuiltins "tuple" = some (.type "tuple") := by decide +kernel
theorem bt_str : bootBuiltins "str" = some (.type "str") := by decide +kernel
theorem bt_dict : bootBuiltins "dict" = some (.type "dict") := by decide +kernel
/-! ### what a def's context lets pass -/
section
variable {P : Program} {w : World} {K : PySem.W.Frag} {mg : Str → Option Value} {base : Heap} {N : List Str} {qual : Str} {scope : Scope} {f : Addr} {cd : Value} {A : Around} {outer : List PySem.Env} {s : Shared} {H : Hp} {E : XK}
theorem tk_fn : Takes (cxOf (L2.CX P w) P w K mg base N qual scope f cd A outer s H E) (fun cls d _ H => E cls d H) := takes_of rfl rfl rfl rfl
theorem px_fn : Passes (L2.CX P w) (cxOf (L2.CX P w) P w K mg base N qual scope f cd A outer s H E) E := passes_call tk_fn fun _ _ _ _ h => h
theorem po_fn : PassesOwn (model P w) (cxOf (L2.CX P w) P w K mg base N qual scope f cd A outer s H E).A (cxOf (L2.CX P w) P w K mg base N qual scope f cd A outer s H E).env (cxOf (L2.CX P w) P w K mg base N qual scope f cd A outer s H E).xe := passes_of rfl
end
theorem ss_setLc {X : Cx} {g : GL} {E : XK} {i : Nat} {y : Str} {py : Pos} {elt tg iter : Expr} {ifs : List Expr} {scope : Scope} {own : List (Str × Nat)} {pos spos : Pos} {fi : Ev Its} {t : Tv} {c : Ev Bool} {e : Ev D} {k : List D → Store → Res D} (hy : X.N[i]? = some y) (hyl : X.env.scope.names.lookup y = some .local)
    (hsw : swapsWith (.ListComp elt [⟨tg, iter, ifs, 0⟩] scope pos) (some (.Name y py)) spos.line X.env = pure true) (hk : KOk k) (hc : X.calm = true) (hN : X.N.Nodup) (hi : PI X tg iter (SemI g E fi)) (ok : BlkOk X.N X.env.scope scope own)
    (hg : ∀ (s : Shared) (H : Hp) (C : Addr) (cl : List (Str × Addr)) (fp : List Addr), PG (X.blk s H scope (compEnvC scope cl C X.env) fp) tg (SemT g (own.map (·.2)) t)) (ht : ∀ (s : Shared) (H : Hp) (C : Addr) (cl : List (Str × Addr)) (fp : List Addr), PTs (X.blk s H scope (compEnvC scope cl C X.env) fp) ifs (SemB g C8.E0 c))
    (he : ∀ (s : Shared) (H : Hp) (C : Addr) (cl : List (Str × Addr)) (fp : List Addr), PE (X.blk s H scope (compEnvC scope cl C X.env) fp) elt (SemE g C8.E0 e)) (hs : ∀ x, foldedSetIterable iter X.env x = pure x := by intro _; rfl) :
    PS X (.Assign [.Name y py] (.ListComp elt [⟨tg, iter, ifs, 0⟩] scope pos) spos) (SemS g E (sAsg (vCmpD fi t c e (own.map (·.2)) k) (gvN i))) := by
  refine ps_mono (ps_setLc hc hN hy hyl hsw hi ok hg ht he hs) fun D σ H q => ?_
  exact tLc_of hk σ H _ (tAsg_of (u := gName i) (fun v σ H Q ⟨ex, ι, st, δ, d, at_, r, h⟩ => h _ H ι at_.good (.refl _ _) (at_.env.set i r)) D σ H q)
end Iv
end

section
set_option Elab.async false
set_option linter.all false
set_option maxRecDepth 100000
set_option maxHeartbeats 4100000
namespace Iv
open PySem PySem.Spec PyProof.Rows L2 Gx LamX

/-! ### range with a step -/
def itR3 (f : Ev (List D)) : Ev Its := fun δ st => (f δ st).bnd fun ds s => match ds with
  | [.p (.int a), .p (.int b), .p (.int c)] => if c ≠ 0 ∧ c.natAbs < 1073741824 ∧ Builtin.Range.small a b c = true ∧ 0 ≤ Builtin.Range.rangeSize a b c then .ok ⟨(List.range (Builtin.Range.rangeSize a b c).toNat).map fun i => .p (.int (a + (i : Nat) * c)), none⟩ s else .bad
  | _ => .bad
section
variable {X : Cx} {g : GL} {E : XK} {pos : Pos} {tg a b c : Expr} {ι : List Addr} {st : Store} {H F : Hp}
theorem its_rngC {lo c : Int} {n : Nat} : ItS g (Itc lo c n) H ι ⟨(List.range n).map fun i => .p (.int (lo + (i : Nat) * c)), none⟩ := by
  refine ⟨fun {e i H' ι' st' d0 d} hi G x hd => ?_, fun {e H' ι' st'} G x _ => by simp [Itc]⟩
  cases hd
  rw [List.getElem?_map, Option.map_eq_some_iff] at hi
  obtain ⟨y, hy, rfl⟩ := hi
  have hl : i < n := by
    have := (List.getElem?_eq_some_iff.mp hy).1
    simpa using this
  have : y = i := by
    have := (List.getElem?_eq_some_iff.mp hy).2
    simpa using this.symm
  subst this
  refine ⟨hl, fun w H'' ⟨e1, z⟩ => ?_⟩
  subst e1 z
  exact ⟨G, .refl _ _, .p (.int _)⟩
theorem si_range3 {fa : Ev (List D)} {p : Pos} (hg : Gl X "range") (hm : X.mg "range" = none) (ha : PA X [a, b, c] (SemA g E fa)) (hs : starEach [a, b, c] X.env = (false, eval a X.env) :: starEach [b, c] X.env := by rfl) (hpl : (backTo pos (starEach [b, c] X.env)).any (·.1) = false := by rfl) :
    PI X tg (.Call (.Name "range" p) [a, b, c] [] pos) (SemI g E (itR3 fa)) := by
  refine pi_mono (pi_range3 hg hm ha hs hpl) fun σ H R ⟨ex, ι, st, δ, at_, hh⟩ => semA_bnd at_ ?_
  unfold itR3 at hh
  cases ef : fa δ st with
  | bad => rw [ef] at hh; exact hh
  | exc c s => rw [ef] at hh; exact hh
  | ok ds s =>
    rw [ef] at hh
    intro vs H1 ι1 at1 x1 r1
    simp only [Res.bnd] at hh
    split at hh
    · split at hh
      · rename_i hz
        obtain ⟨v, w, u, rfl, rv, rw', ru⟩ := rds_three r1
        obtain rfl := rv.intI
        obtain rfl := rw'.intI
        obtain rfl := ru.intI
        exact ⟨_, _, _, _, rfl, ⟨hz.1, hz.2.1, hz.2.2.1, (Int.toNat_of_nonneg hz.2.2.2).symm⟩, hh _ H1 ι1 at1.good x1 its_rngC⟩
      · exact hh.elim
    · exact hh.elim
end

/-! ### a lambda is made -/
section
variable {X : Cx} {σ : L2.St} {H : Hp} {s : Shared} {pins : List (Addr × Obj)}
theorem lam_mk {T : List (Addr × Str)} {c P : Addr} {params : Arguments} {body : Expr} {scope : Scope} {pos : Pos} {E : Value → Shared → Prop} {Q : Value → Shared → Prop} (I : Inv X pins σ H s) (TB : TabB X.base X.mg c P) (hcode : X.env.code = .ref c)
    (hT : Tabs T H) (hm : (P, X.env.qual ++ "<lambda>") ∈ T) (hu : ∀ p ∈ T, p.1 = P → p.2 = X.env.qual ++ "<lambda>") (hdef : defaultsOf params X.env = ([], [])) (hfree : ∀ y ∈ scope.names, y.2 = .free → ∃ c, X.env.cells.lookup y.1 = some c)
    (h : ∀ (f c' : Addr) (pm ctv : Value) (H1 : Hp) (s' : Shared), Inv X pins σ H1 s' → (∀ b o, b ≠ P → H b = some o → H1 b = some o) → Tabs T H1 →
      s'.heap.get? f = some (PySem.W.kla_obj "<lambda>" (X.env.qual ++ "<lambda>") params body scope (cloFrom X.env.cells scope.names []) pm c' ctv) → H1 f = none → H f = none → f ∉ frs X.stack → s.heap.objs.size ≤ f → H1 c' = some (CodeO c' (X.env.qual ++ "<lambda>")) → Q (.ref f) s') :
    wpAny (model X.prog X.w) X.A (eval (Expr.Lambda params body scope pos) X.env) Q E s := by
  obtain ⟨ps, tab, triples, known⟩ := hT _ hm
  have onHeap : s.heap.get? P = some { cls := .none, data := .fields ps } := I.hok P _ tab
  have built : s.heap.BuiltinsAt X.mg P := TB.bm.keeps I.bk
  have notFrame : ∀ f, s.heap.objs.size ≤ f → f ∉ frs X.stack := fun f hf z => (List.mem_cons.mp (I.stkSub _ z)).elim (fun e => Nat.lt_irrefl _ (Nat.lt_of_lt_of_le (e ▸ I.lt) hf)) (I.nofs hf)
  apply PySem.W.kla_eval hdef
  cases look : codeAmong pos ps.toList with
  | some cv =>
    obtain ⟨c', rfl, isCode⟩ := known pos cv look
    refine PySem.W.kla_makeFunctionHit (mg := X.mg) (c := c) (P := P) (ps := ps) (closure_ok hfree) I.ok.glob (I.mod.glob.keeps I.bk) hcode (TB.code.keeps I.bk) onHeap triples look built fun ctv h' tk grown big => ?_
    exact h h'.objs.size c' ((X.mg "__name__").getD .none) ctv H _ (I.kept fun b o e => Heap.get?_push_of_some _ (grown b o e)) (fun _ _ _ e => e) hT (Heap.get?_push_size _ rfl) (I.hok.fresh big) (I.hok.fresh big) (notFrame _ big) big isCode
  | none =>
    refine PySem.W.kla_makeFunction (mg := X.mg) (c := c) (P := P) (ps := ps) (closure_ok hfree) I.ok.glob (I.mod.glob.keeps I.bk) hcode (TB.code.keeps I.bk) onHeap triples look TB.gP built fun c' ctv h' tk grown newer lt record table => ?_
    obtain ⟨_, oc, vs, t, ec, ocAt, ocData, ocName⟩ := record
    cases ec
    have big : s.heap.objs.size ≤ h'.objs.size := Nat.le_trans newer (Nat.le_of_lt lt)
    have unknown : H c' = none := I.hok.fresh newer
    have I1 := inv_table (t' := tk) (more := #[rawInt pos.line, rawInt pos.col, .ref c']) (h' := h'.push (PySem.W.kla_obj "<lambda>" (X.env.qual ++ "<lambda>") params body scope (cloFrom X.env.cells scope.names []) ((X.mg "__name__").getD .none) c' ctv)) I tab
      (fun b o hb e => Heap.get?_push_of_some _ (grown b o hb e)) (Heap.get?_push_of_some _ table) newer ⟨oc, vs, t, Heap.get?_push_of_some _ ocAt, ocData, ocName⟩
    have keep : ∀ b o, b ≠ P → H b = some o → (upd (upd H P (.tbl (ps ++ #[rawInt pos.line, rawInt pos.col, .ref c']))) c' (CodeO c' (X.env.qual ++ "<lambda>"))) b = some o := fun b o nb e => by
      rw [upd_ne (ne_of_none e unknown), upd_ne nb]; exact e
    have toL : (ps ++ #[rawInt pos.line, rawInt pos.col, .ref c']).toList = ps.toList ++ [rawInt pos.line, rawInt pos.col, .ref c'] := by simp
    have codeStays : ∀ {c0 : Addr} {q : Str}, H c0 = some (CodeO c0 q) → (upd (upd H P (.tbl (ps ++ #[rawInt pos.line, rawInt pos.col, .ref c']))) c' (CodeO c' (X.env.qual ++ "<lambda>"))) c0 = some (CodeO c0 q) := fun {c0 q} e =>
      keep _ _ (fun z => codeO_ne ps (Option.some.inj (e.symm.trans (z ▸ tab)))) e
    refine h h'.objs.size c' ((X.mg "__name__").getD .none) ctv _ _ I1 keep (fun p hp => ?_) (Heap.get?_push_size _ rfl) ?_ (I.hok.fresh big) (notFrame _ big) big upd_same
    · have ⟨ps', a1, a2, a3⟩ := hT p hp
      by_cases hb : p.1 = P
      · rw [hu p hp hb, hb]
        refine ⟨_, by rw [upd_ne (ne_of_none tab unknown), upd_same], by rw [toL]; exact PySem.TriplesOk_snoc _ _ _ _ triples, fun p' cv hcv => ?_⟩
        rw [toL] at hcv
        rcases among_app _ triples hcv with z | z
        · obtain ⟨c0, e1, e2⟩ := known p' cv z
          exact ⟨c0, e1, codeStays e2⟩
        · exact ⟨c', z, upd_same⟩
      · exact ⟨ps', keep _ _ hb a1, a2, fun p' cv hcv => let ⟨c0, e1, e2⟩ := a3 p' cv hcv; ⟨c0, e1, codeStays e2⟩⟩
    · rw [upd_ne (Nat.ne_of_gt lt), upd_ne (Nat.ne_of_gt (Nat.lt_of_lt_of_le (Heap.lt_size onHeap) big))]
      exact I.hok.fresh big
end
/-- the store stands behind the making of a lambda -/
theorem good_lam {g : GL} {ι : List Addr} {st : Store} {H H1 : Hp} {P : Addr} {q : Str} (G : Good g ι st H) (hP : (P, q) ∈ g.L) (k : ∀ b o, b ≠ P → H b = some o → H1 b = some o) (tb : Tabs g.L H1) : Good g ι st H1 ∧ Ext g H ι H1 ι := by
  obtain ⟨ps0, e0, _, _⟩ := G.tabs.l _ hP
  have nt : ∀ {b : Addr} {o : HO}, H b = some o → (∀ ps, o ≠ .tbl ps) → H1 b = some o := fun {b o} e n => k _ _ (fun z => n ps0 (by rw [z, e0] at e; exact (Option.some.inj e).symm)) e
  have sub : Sub (Fz H (g.x ι)) (Fz H1 (g.x ι)) := fun b u e => by
    obtain ⟨h1, w, h2, h3⟩ := Fz.at e
    exact Fz.mk h1 (nt h2 fun ps z => by subst z; cases h3) h3
  have rcn : ∀ {o : HO} {c : Cell} {F : Hp}, RC g F ι o c → ∀ ps, o ≠ .tbl ps := fun r ps z => by
    subst z
    cases r
  refine ⟨⟨G.nd, pd_imp G.cells fun a c _ ⟨u, e, r⟩ => ⟨u, nt e (rcn r), r.sub sub (.refl ι)⟩, G.tabs.lm k hP tb, fun b hb => ?_, G.dis⟩, ⟨.refl ι, sub, fun b hb => ?_, fun b o u e => nt e fun ps z => by cases z⟩⟩
  · obtain ⟨o, e⟩ := G.exs b hb
    exact ⟨o, nt e fun ps z => by cases o <;> cases z⟩
  · obtain ⟨o, e⟩ := G.exs b hb
    rw [e]
    exact nt e fun ps z => by cases o <;> cases z

/-! ### told(lambda: e) -/
def vTold (c : Nat) (ret : Str) (f : Ev D) : Ev D := fun δ st => match f δ st with
  | .ok d s => .ok d s
  | .exc c' s => if c' = c then .ok (.p (.str ret)) s else .bad
  | .bad => .bad
/-- the def that tells: one parameter, called; its one exception told by a text -/
structure TolD (K : PySem.W.Frag) (mg : Str → Option Value) (g : GL) (x a e : Str) (c : Nat) (ret : Str) (Ng : List Str) (pg : Arguments) (sg : Scope) (bg : List Stmt) (fT : Addr) : Prop where
  ex : ∃ (dV kV doc pm cdv ct oc : Value) (an od : Option Addr) (osl : Array (Option Value)), K.lookup fT = some ⟨oc, od, .func (PySem.W.fnOf x x pg bg sg dV kV doc pm an cdv ct), osl⟩ ∧ PySem.W.codeIn K cdv x = true ∧ Binds K (PySem.W.fnOf x x pg bg sg dV kV doc pm an cdv ct) [a] []
  gm : mg x = some (.ref fT)
  kp : PySem.W.keepIn K (.ref fT) = true
  sc : FnScope Ng [a] sg
  n0 : Ng[0]? = some a
  va : Vis sg a
  ge : sg.names.lookup e = some .globalImplicit
  ef : ExF K mg g c e
  de : (e == ("__debug__" : Str)) = false
  bd : ∃ (j : Nat) (p1 p2 p3 p4 p5 p6 p7 p8 : Pos), bg = [.Try [.Return (some (.Call (.Name a p1) [] [] p2)) p3] [.ExceptHandler (some (.Name e p4)) none [.Return (some (.Constant (.str ret) j p5)) p6] p7] [] [] p8]
  exm : PySem.W.exmOne K (.ref (g.CT c)) (.ref (g.CT c)) = some true

/-- a lambda without parameters -/
def NoPar (params : Arguments) (body : Expr) (scope : Scope) : Prop := ∀ (q : Str) (cl : List (Str × Addr)) (pm cv ctv : Value), bindArgs (PySem.W.kla_fn "<lambda>" q params body scope cl pm cv ctv) ⟨[], []⟩ = pure []
/-- from the def's code to the call of it -/
theorem after_call {X : Cx} {pins : List (Addr × Obj)} {σ : L2.St} {H1 : Hp} {s1 : Shared} {f : Value} {us : List Value} {Q : VK} (I1 : Inv X pins σ H1 s1) (rc : codeAny (model X.prog X.w) X.A (.call f ⟨us, []⟩) (CR C8.CX0 X.stack X.prog X.w H1 s1 Q C8.E0) s1) :
    wpAny (model X.prog X.w) X.A (call f us) (EP X pins σ Q) X.xe s1 := by
  apply wpAny_call
  apply codeAny_mono rc
  rintro (_ | (u | _ | _ | _)) s2 hq
  all_goals first
    | exact I1.after hq
    | exact False.elim hq

theorem px_lam {X : Cx} {P : Program} {w : World} {A : Around} {outer : List PySem.Env} {s : Shared} {H : Hp} {E : XK} {scope : Scope} {f c' : Addr} (hp : X.prog = P) (hw : X.w = w) : Passes (L2.CX P w) (lamCx X A outer s H E scope f c') E := by
  subst hp hw
  exact passes_call (X := lamCx X A outer s H E scope f c') (takes_of (X := lamCx X A outer s H E scope f c') rfl rfl rfl rfl) fun _ _ _ _ h => h
theorem se_told {X : Cx} {g : GL} {E : XK} {x a e : Str} {cx : Nat} {ret : Str} {Ng : List Str} {pg : Arguments} {sg : Scope} {bg : List Stmt} {fT c P : Addr} {k : Nat} {params : Arguments} {body : Expr} {scope : Scope} {p lpos pos : Pos} {f' : Ev D} (td : TolD X.K X.mg g x a e cx ret Ng pg sg bg fT) (hg : Gl X x)
    (TB : TabB X.base X.mg c P) (hcode : X.env.code = .ref c) (hmT : (P, X.env.qual ++ "<lambda>") ∈ g.L) (hu : ∀ p ∈ g.L, p.1 = P → p.2 = X.env.qual ++ "<lambda>") (hr : Room (k + 2) X.A) (L : LamS X.env.scope scope) (hdef : defaultsOf params X.env = ([], []))
    (hbind : NoPar params body scope)
    (hbody : ∀ (A : Around) (outer : List PySem.Env) (s : Shared) (H : Hp) (E : XK) (f c' : Addr), Room k (A.deeper (lamEnv X scope s.heap.objs.size f c')) → PE (lamCx X A outer s H E scope f c') body (SemE g E f'))
    (hd : (a == ("__debug__" : Str)) = false := by decide) (hcd : (a == ("__classdict__" : Str)) = false := by decide) (hdb : (x == ("__debug__" : Str)) = false := by decide) :
    PE X (.Call (.Name x p) [.Lambda params body scope lpos] [] pos) (SemE g E (vTold cx ret f')) := by
  refine ⟨fun pins s σ H Q I ⟨ex, ι, st, δ, at_, hh⟩ => ?_⟩
  obtain ⟨dV, kV, doc, pm, cdv, ct, oc, an, od, osl, lk, hcg, hb⟩ := td.ex
  obtain ⟨j, q1, q2, q3, q4, q5, q6, q7, q8, rfl⟩ := td.bd
  refine wpAny_Call_Name_kw (ld_glob I hg td.gm ?_ hdb)
  refine PySem.W.callWith_K (h₀ := X.base) I.ok.mod.kin td.kp ?_ (by rfl) (by rfl)
  change wpAny _ _ (spliced ((false, eval (Expr.Lambda params body scope lpos) X.env) :: backTo pos (starEach [] X.env))) _ _ s
  refine Calls.spliced_cons (lam_mk I TB hcode at_.good.tabs.l hmT hu hdef (L.has I.ok) fun f c' pm' ctv H1 s' I1 keep T1 hf hfn _ hfr _ hco => ?_)
  obtain ⟨G1, x1⟩ := good_lam at_.good hmT keep T1
  have at1 := at_.ext x1 G1
  apply Calls.spliced_nil
  refine ⟨I1.kIn, ?_⟩
  have rc : codeAny (model X.prog X.w) X.A (.call (.ref fT) ⟨[.ref f], []⟩) (CR C8.CX0 X.stack X.prog X.w H1 s' Q C8.E0) s' := by
    refine run_ofS (N := Ng) (ps := [a]) (us := [.ref f]) (vs := [.ref f]) lk hcg td.sc hr I1.env0 (hb s' [.ref f] I1.kIn rfl) (.cons rfl .nil) rfl fun hr' => ?_
    have h0 : ∀ f : Addr, (L2.start Ng [V.ref f])[0]? = some (some (V.ref f)) := fun f => rfl
    obtain ⟨t', ht', hq'⟩ := told_gives (X := X) (Ng := Ng) (x := x) (g := fT) (cdg := cdv) (j := j) (p1 := q1) (p2 := q2) (p3 := q3) (p4 := q4) (p5 := q5) (p6 := q6) (p7 := q7) (p8 := q8) (ret := ret) (q := X.env.qual ++ "<lambda>") td.ge td.ef.mg td.de h0 f c' s' H1 Q (fun E H' Q' => SemE g E f' σ H' Q')
      (fun W pn xe E p1 p2 tk hW => pe_act (i := 0) I1 L hf hfn hfr (hbind _ _ _ _ _) tk hW hr' (fun A outer s H hr2 => hbody A outer s H E f c' hr2) td.n0 td.va hd hcd) hco (by
        refine ⟨ex, ι, st, δ, at1, ?_⟩
        unfold vTold at hh
        cases ef : f' δ st with
        | bad => rw [ef] at hh; exact hh
        | ok d s =>
          rw [ef] at hh
          exact fun v H' ι' G' x' r' => hh v H' ι' G' (x1.trans x') r'
        | exc c2 s =>
          rw [ef] at hh
          simp only [] at hh
          split at hh
          · rename_i hc
            subst hc
            exact fun H' ι' G' x' => ⟨true, td.exm, fun _ => hh (.str ret) H' ι' G' (x1.trans x') (.p (.str _)), fun z => Bool.noConfusion z⟩
          · exact hh.elim)
    exact ⟨t', ht'.nox, hq'⟩
  exact after_call I1 rc
end Iv
end

section
set_option Elab.async false
set_option linter.all false
set_option maxRecDepth 100000
set_option maxHeartbeats 4100000
namespace Iv
open PySem PySem.Spec PyProof.Rows L2 Gx LamX

/-- the i-th lambda, made -/
theorem se_lam {X : Cx} {g : GL} {E : XK} {c P : Addr} {params : Arguments} {body : Expr} {scope : Scope} {lpos : Pos} (i : Nat) (hi : g.lm[i]? = some ⟨X.env.qual ++ "<lambda>", params, body, scope, cloFrom X.env.cells scope.names []⟩) (TB : TabB X.base X.mg c P) (hcode : X.env.code = .ref c)
    (hmT : (P, X.env.qual ++ "<lambda>") ∈ g.L) (hu : ∀ p ∈ g.L, p.1 = P → p.2 = X.env.qual ++ "<lambda>") (L : LamS X.env.scope scope) (hdef : defaultsOf params X.env = ([], [])) : PE X (.Lambda params body scope lpos) (SemE g E (vK (.lam i))) := by
  refine ⟨fun pins s σ H Q I ⟨ex, ι, st, δ, at_, hh⟩ => ?_⟩
  refine lam_mk I TB hcode at_.good.tabs.l hmT hu hdef (L.has I.ok) fun f c' pm' ctv H1 s' I1 keep T1 hf hfn hfn0 hfr big hco => ?_
  obtain ⟨G1, x1⟩ := good_lam at_.good hmT keep T1
  obtain ⟨a1, a2, a3, a4, a5⟩ := inv_new (sz := 0) (a := f) I I big
  have new : ObjOk X.prog X.w (upd H1 f (LamO ⟨X.env.qual ++ "<lambda>", params, body, scope, cloFrom X.env.cells scope.names []⟩ c' f)) s'.heap f (LamO ⟨X.env.qual ++ "<lambda>", params, body, scope, cloFrom X.env.cells scope.names []⟩ c' f) :=
    ⟨⟨pm', ctv, hf⟩, ⟨_, hf⟩, fun h1 h2 ⟨pm, ctv, z⟩ k => ⟨pm, ctv, k _ z⟩⟩
  have I2 := inv_track (a := f) I1 hfn a1 a2 a3 a4 new
  have ne : c' ≠ f := fun z => by rw [z, hfn] at hco; cases hco
  obtain ⟨G2, x2⟩ := good_new (o := LamO ⟨X.env.qual ++ "<lambda>", params, body, scope, cloFrom X.env.cells scope.names []⟩ c' f) G1 hfn
  refine ⟨.ref f, _, I2, rfl, hh _ _ ι G2 (x1.trans x2) (.p (.lam hi (fz_new G1 hfn rfl) (Fz.mk (fun m => ?_) (by rw [upd_ne ne]; exact hco) rfl)))⟩
  rcases List.mem_append.mp m with m | m
  · obtain ⟨xs, e⟩ := G1.exs c' m
    rw [hco] at e
    cases xs <;> cases e
  · obtain ⟨cc, u, e, r⟩ := pd_mem G1.cells m
    rw [hco] at e
    cases e
    cases r
end Iv
end

section
set_option Elab.async false
set_option linter.all false
set_option maxRecDepth 100000
set_option maxHeartbeats 4100000
namespace Iv
open PySem PySem.Spec PyProof.Rows L2 Gx LamX

/-! ### a list comprehension whose parts may lean on the frame around it, as it stood when the block began -/
section
variable {X : Cx} {pins : List (Addr × Obj)} {σ : L2.St}
/-- what is fixed while such a block runs: its beginning, its iterator, the list that it makes -/
structure BlkRun (X : Cx) (pins : List (Addr × Obj)) (σ : L2.St) (scope : Scope) (own : List (Str × Nat)) (tg : Expr) where
  s : Shared
  H : Hp
  env : PySem.Env
  fp : List Addr
  it : Addr
  tn : Nat → Heap → Prop
  J : It
  out : Inv X pins σ H s
  fps : ∀ b ∈ fp, FpOk X pins H b
  turn : Turn X.prog X.w X.K tg J fp it tn
  loc : env.locals = s.heap.objs.size
/-- the block's own context -/
abbrev BlkRun.cx {scope : Scope} {own : List (Str × Nat)} {tg : Expr} (B : BlkRun X pins σ scope own tg) : Cx := X.blk B.s B.H scope B.env B.fp
/-- between two turns -/
structure BlkRun.Sits {scope : Scope} {own : List (Str × Nat)} {tg : Expr} (B : BlkRun X pins σ scope own tg) (W : Nat → Nat → Hp → Prop) (m : Nat) (s' : Shared) : Prop where
  ex : ∃ (i : Nat) (H' : Hp), Inv B.cx [] (wipe σ (own.map (·.2))) H' s' ∧ B.tn i s'.heap ∧ (∀ b ∈ B.fp, H' b = none) ∧ W i m H'
variable {scope : Scope} {own : List (Str × Nat)} {tg : Expr} (B : BlkRun X pins σ scope own tg)
theorem BlkRun.fpIn {σ' : L2.St} {H' : Hp} {s' : Shared} (I : Inv B.cx [] σ' H' s') (free : ∀ b ∈ B.fp, H' b = none) : ∀ b ∈ B.fp, FpOk B.cx [] H' b := by
  intro b hb
  have q := I.ok.exf b hb
  exact ⟨free b hb, q.1, I.ok.exfs b hb, Or.inl hb, q.2, fun p hp => by cases hp⟩
/-- the frame around, at any later moment -/
theorem BlkRun.outer {σ' : L2.St} {H' : Hp} {s' : Shared} {pp : List (Addr × Obj)} (I : Inv B.cx pp σ' H' s') : Inv X pins σ H' s' := by
  refine Inv.call' B.out I.os I.base I.hok I.bare ?_
  intro b hb
  obtain ⟨_, z1, _, z2, z3, z4⟩ := B.fps b hb
  exact ⟨z2, z1, z3, z4⟩
/-- a turn is done -/
theorem BlkRun.sits {W : Nat → Nat → Hp → Prop} {Nx : Hp → Prop} {m i : Nat} {sA sB : Shared} {σ8 : L2.St} {H' : Hp} (next : ∀ H', Nx H' → ∃ m', m' < m ∧ W (i + 1) m' H') (at1 : B.tn (i + 1) sA.heap) (same : wipe σ8 (own.map (·.2)) = wipe σ (own.map (·.2)))
    (I : Inv B.cx ([] ++ pinsAt B.fp sA.heap) σ8 H' sB) (nx : Nx H') : ∃ m', m' < m ∧ B.Sits W m' sB := by
  obtain ⟨m', less, w⟩ := next H' nx
  have held : ∀ b ∈ B.fp, ∀ o, sA.heap.get? b = some o → sB.heap.get? b = some o ∧ H' b = none := by
    intro b hb o e
    have q := I.pin (b, o) (List.mem_append_right _ (List.mem_append_right _ (mem_pinsAt hb e)))
    exact ⟨q.1, q.2.1⟩
  have len : (wipe σ (own.map (·.2))).length = σ8.length := by rw [← same, wipe_length]
  have back : Inv B.cx [] (wipe σ (own.map (·.2))) H' sB := Inv.weak (Inv.unpinned (pins := []) I) len fun j v e => by
    rw [← same] at e
    exact (wipe_some e).1
  refine ⟨m', less, ⟨i + 1, H', back, B.turn.keep _ _ _ at1 fun b hb o e => (held b hb o e).1, fun b hb => ?_, w⟩⟩
  obtain ⟨o, e, _⟩ := B.turn.obj _ _ at1 b hb
  exact (held b hb o e).2
end
theorem lcz {X : Cx} {pins : List (Addr × Obj)} {s : Shared} {σ : L2.St} {H : Hp} {Q : VK} {elt tg iter : Expr} {ifs : List Expr} {scope : Scope} {own : List (Str × Nat)} {pos : Pos} {wi : TI} {g : TG} {tt : TT} {te : TE} (calm : X.calm = true) (nd : X.N.Nodup) (I : Inv X pins σ H s) (hi : PI X tg iter wi) (ok : BlkOk X.N X.env.scope scope own)
    (hg : ∀ (s : Shared) (H : Hp) (C : Addr) (cl : List (Str × Addr)) (fp : List Addr), PG (X.blk s H scope (compEnvC scope cl C X.env) fp) tg g)
    (ht : ∀ (s : Shared) (H : Hp) (C : Addr) (cl : List (Str × Addr)) (fp : List Addr), Inv X pins σ H s → (∀ b ∈ fp, FpOk X pins H b) → PTs (X.blk s H scope (compEnvC scope cl C X.env) fp) ifs tt)
    (he : ∀ (s : Shared) (H : Hp) (C : Addr) (cl : List (Str × Addr)) (fp : List Addr), Inv X pins σ H s → (∀ b ∈ fp, FpOk X pins H b) → PE (X.blk s H scope (compEnvC scope cl C X.env) fp) elt te) (plain : ∀ x, foldedSetIterable iter X.env x = pure x)
    (h : tLc wi g tt te (own.map (·.2)) σ H Q) : wpAny (model X.prog X.w) X.A (eval (.ListComp elt [⟨tg, iter, ifs, 0⟩] scope pos) X.env) (EP X pins σ Q) X.xe s := by
  have captured : ∀ y ∈ scope.names, y.2 = .free → ∃ c, X.env.cells.lookup y.1 = some c := fun y hy e => I.ok.has _ (ok.free y hy e)
  rw [eval_ListComp]
  apply wpAny_comprehension_free (use := none) rfl plain (closure_ok captured) ok.kind
  · intro y hy e
    rw [ok.uniq y hy, e]
  refine thn (hi.run pins s σ H _ I h) fun _ _ walked => thn walked ?_
  rintro itv s2 ⟨it, fp, tn, J, H2, rfl, I2, T, tn2, fp2, made⟩
  refine wpAny_newObj_type (newEnv_comp ?_) (show 0 ≤ sizeLine from Nat.zero_le _)
  have I3 := I2.lnew (its := []) (t' := s2.toks) .nil (Nat.zero_le _)
  obtain ⟨W, ⟨m0, w0⟩, turns⟩ := made s2.heap.objs.size I2.fresh
  have below : ∀ b ∈ fp, b < s2.heap.objs.size := fun b hb => let ⟨_, e, _⟩ := T.obj _ _ tn2 b hb; Heap.lt_size e
  have fp3 : ∀ b ∈ fp, FpOk X pins (upd H2 s2.heap.objs.size (.lst [])) b := fun b hb => ⟨by rw [upd_ne (Nat.ne_of_lt (below b hb))]; exact (fp2 b hb).1, (fp2 b hb).2⟩
  generalize hs3 : ({ s2 with heap := s2.heap.push { cls := .type "list", data := .seq ([] : List Value).toArray }, toks := s2.toks } : Shared) = s3 at I3
  have size3 : ∀ b ∈ fp, b < s3.heap.objs.size := fun b hb => by rw [← hs3]; show b < (s2.heap.push _).objs.size; rw [Heap.size_push]; exact Nat.lt_succ_of_lt (below b hb)
  have tn3 : tn 0 s3.heap := T.keep _ _ _ tn2 fun b _ o e => by rw [← hs3]; exact Heap.get?_push_of_some _ e
  have started := block_start I3 ok nd fun b hb => ⟨fp3 b hb, size3 b hb⟩
  let B : BlkRun X pins σ scope own tg := ⟨s3, upd H2 s2.heap.objs.size (.lst []), compEnvC scope (cellsFrom (s3.heap.objs.size + 1) scope.names (cloFrom X.env.cells scope.names [])) s3.heap.objs.size X.env, fp, it, tn, J, I3, fp3, T, rfl⟩
  have pg := hg B.s B.H s3.heap.objs.size (cellsFrom (s3.heap.objs.size + 1) scope.names (cloFrom X.env.cells scope.names [])) fp
  have pt := ht B.s B.H s3.heap.objs.size (cellsFrom (s3.heap.objs.size + 1) scope.names (cloFrom X.env.cells scope.names [])) fp I3 fp3
  have pe := he B.s B.H s3.heap.objs.size (cellsFrom (s3.heap.objs.size + 1) scope.names (cloFrom X.env.cells scope.names [])) fp I3 fp3
  show codeAny _ _ (.compStart (.ListComp elt [⟨tg, iter, ifs, 0⟩] scope pos) 0 (.ref it) (.ref s2.heap.objs.size) B.env) (compPost (model X.prog X.w) X.A X.xe none (EP X pins σ Q) (.ref s2.heap.objs.size) B.s.heap.objs.size) _
  have first : B.Sits W m0 { s3 with heap := pushCells (s3.heap.push { cls := .type "dict", data := .dict #[] }) scope.names } :=
    ⟨0, _, started, T.keep _ _ _ tn3 fun b _ o e => pushCells_keeps _ _ _ _ (Heap.get?_push_of_some _ e), fun b hb => (fp3 b hb).1, w0⟩
  suffices turn : ∀ n s', B.Sits W n s' → _ from
    codeAny_compStart_list (compLoop_any (B.Sits W) turn m0 first) (T.self X.A 0 _ _ _ (T.keep _ _ _ tn3 fun b _ o e => pushCells_keeps _ _ _ _ (Heap.get?_push_of_some _ e)) (compLoop_any (B.Sits W) turn m0 first))
  rintro n sA ⟨i, HA, IA, tnA, freeA, wA⟩
  have fpA := B.fpIn IA freeA
  rcases turns i n HA wA with ⟨stop, fin⟩ | ⟨go, Nx, next, step⟩
  · refine thnF (T.done B.cx rfl rfl rfl calm i [] sA _ HA (fun _ _ => False) IA fpA tnA stop) ?_
    rintro _ sB ⟨rfl, IB⟩
    obtain ⟨m, names, _⟩ := IB.loc
    have free : HA s3.heap.objs.size = none := IB.free
    have frame : FpOk X pins HA s3.heap.objs.size := I3.fpOk (Nat.le_refl _) free
    refine ⟨m, names, fun hC but => ⟨V.ref s2.heap.objs.size, HA, ?_, rfl, fin⟩⟩
    exact (B.outer IB).turned (t' := sB.toks) (fun b o hb e => (but.2 b hb).trans e) frame.1 frame.2.1 frame.2.2.2.1 frame.2.2.2.2.1 frame.2.2.2.2.2
  · refine thnF (T.item B.cx rfl rfl rfl calm i [] sA _ HA (fun _ _ => False) IA fpA tnA go) ?_
    rintro _ sB ⟨u, rfl, item⟩
    refine thnF item ?_
    rintro _ sC ⟨x, HC, IC, rC, yielded, tnC, freeC⟩
    have held := IC.pinned (B.fpIn IC freeC) (T.obj _ _ tnC)
    refine thnF (pg.run _ sC _ HC x u _ held rC (step x HC yielded)) ?_
    rintro _ sD ⟨σD, HD, ID, wiped, test⟩
    refine thnF (pt.run _ sD σD HD _ ID test) ?_
    rintro yes sE ⟨HE, IE, rest⟩
    cases yes
    · exact B.sits next tnC wiped IE rest
    · refine thnF (pe.run _ sE σD HE _ IE rest) ?_
      rintro v sF ⟨y, HF, IF, rF, acc, listed, short, nx⟩
      exact app_ok (X := B.cx) IF listed short rF fun sG IG => B.sits next tnC wiped IG nx
theorem Fz.ext_ {H : Hp} {l : List Addr} {b : Addr} {p : Heap → Prop} (h : Fz H l b = some (.ext p)) : H b = some (.ext p) := by
  obtain ⟨_, u, e, s⟩ := Fz.at h
  cases u with
  | ext _ => cases s; exact e
  | frz o w => cases w <;> cases s
  | _ => cases s
/-- the lambdas of a frame: their texts, what they compute -/
structure LamOk (X : Cx) (g : GL) (k : Nat) (lams : Nat → Ev D) : Prop where
  ok : ∀ (i : Nat) (d : LamD), g.lm[i]? = some d → d.q = X.env.qual ++ "<lambda>" ∧ d.cl = cloFrom X.env.cells d.scope.names [] ∧ LamS X.env.scope d.scope ∧
    (∀ (q : Str) (cl : List (Str × Addr)) (pm cv ctv : Value), bindArgs (PySem.W.kla_fn "<lambda>" q d.params d.body d.scope cl pm cv ctv) ⟨[], []⟩ = pure []) ∧
    ∀ (A : Around) (outer : List PySem.Env) (s : Shared) (H : Hp) (E : XK) (f c' : Addr), Room k (A.deeper (lamEnv X d.scope s.heap.objs.size f c')) → PE (lamCx X A outer s H E d.scope f c') d.body (SemE g E (lams i))
/-- the lambda's object is called, wherever one stands -/
theorem lam_runs {X : Cx} {pins : List (Addr × Obj)} {σ : L2.St} {H HZ : Hp} {s s1 : Shared} {A : Around} {outer : List PySem.Env} {d : LamD} {f c' : Addr} {k : Nat} {E : XK} {Q : VK} {tb : TE} {pm ctv : Value} (I : Inv X pins σ H s) (L : LamS X.env.scope d.scope) (e0 : Env0 X.prog X.w X.K X.mg X.base A outer s1 HZ) (room : Room (k + 1) A)
    (since : Un (frs X.stack) [] H HZ s.heap s1.heap) (lim : s1.heap.NoLimit) (obj : s1.heap.get? f = some (PySem.W.kla_obj "<lambda>" (X.env.qual ++ "<lambda>") d.params d.body d.scope (cloFrom X.env.cells d.scope.names []) pm c' ctv)) (code : HZ c' = some (CodeO c' (X.env.qual ++ "<lambda>")))
    (bind : bindArgs (PySem.W.kla_fn "<lambda>" (X.env.qual ++ "<lambda>") d.params d.body d.scope (cloFrom X.env.cells d.scope.names []) pm (.ref c') ctv) ⟨[], []⟩ = pure []) (hbody : PE (lamCx X A outer s1 HZ E d.scope f c') d.body tb) (ht : tb σ HZ Q) :
    codeAny (model X.prog X.w) A (.call (.ref f) ⟨[], []⟩) (CR (L2.CX X.prog X.w) outer X.prog X.w HZ s1 Q E) s1 := by
  have record : ∃ (oc : Obj) (vs : Array Value) (t : Tok), s1.heap.get? c' = some oc ∧ oc.data = .fields vs ∧ vs[1]? = some (.str (X.env.qual ++ "<lambda>") t) := (e0.hok c' _ code).1
  obtain ⟨oc, vs, t, at_, data, name⟩ := record
  apply PySem.W.kla_callFunE room.depth obj rfl L.co L.gen rfl ⟨c', oc, vs, t, rfl, at_, data, name⟩
  rw [bind]
  apply wpAny_pure
  apply wpAny_newFunctionEnv (fun y hy => (L.own y hy).2) (fun y hy => by cases hy) _ L.kind
  intro h₁ names but
  refine ⟨lim.fresh _ but, ?_⟩
  have inside := lam_start2 (E := E) (f := f) (c' := c') (tk := s1.toks + 0) I L e0 room.hd since names fun b o e => but.extBut b o (Nat.ne_of_lt (Heap.lt_size e)) (Heap.get?_push_of_some _ e)
  apply PySem.W.kla_codeExpr
  refine wpAny_mono (hbody.run [] _ _ HZ Q inside ht) ?_ fun _ _ x => x
  rintro u s2 ⟨v, H2, J, rel, q⟩
  exact ⟨v, H2, J.os, J.bare, J.base, J.hok, rel, q⟩
/-- .. in the def that tells -/
theorem pe_actB {X : Cx} {pins : List (Addr × Obj)} {σ : L2.St} {H : Hp} {s : Shared} {CXg : CXT} {Eg : XK} {Ng : List Str} {qg : Str} {sg : Scope} {g f c' : Addr} {cdg : Value} {d : LamD} {k i : Nat} {a : Str} {pn : List (Addr × Obj)} {xe : Value → Shared → Prop} {W : WX} {E : XK} {tb : TE} {p1 p2 : Pos} (I : Inv X pins σ H s)
    (L : LamS X.env.scope d.scope) (hq : d.q = X.env.qual ++ "<lambda>") (hcl : d.cl = cloFrom X.env.cells d.scope.names []) (bind : ∀ (q : Str) (cl : List (Str × Addr)) (pm cv ctv : Value), bindArgs (PySem.W.kla_fn "<lambda>" q d.params d.body d.scope cl pm cv ctv) ⟨[], []⟩ = pure [])
    (takes : Takes ((cxOf CXg X.prog X.w X.K X.mg X.base Ng qg sg g cdg X.A X.stack s H Eg).tr pn xe) W) (wish : ∀ cls d σ' H', E cls d H' → W cls d σ' H') (room : Room (k + 1) (X.A.deeper (envOfC qg sg s.heap.objs.size g cdg)))
    (hbody : ∀ (A : Around) (outer : List PySem.Env) (s : Shared) (H : Hp), Room k (A.deeper (lamEnv X d.scope s.heap.objs.size f c')) → PE (lamCx X A outer s H E d.scope f c') d.body tb) (slot : Ng[i]? = some a) (seen : Vis sg a) (n1 : (a == ("__debug__" : Str)) = false := by decide) (n2 : (a == ("__classdict__" : Str)) = false := by decide) :
    PE ((cxOf CXg X.prog X.w X.K X.mg X.base Ng qg sg g cdg X.A X.stack s H Eg).tr pn xe) (.Call (.Name a p1) [] [] p2) fun σZ HZ Q => σZ[i]? = some (some (.ref f)) ∧ HZ c' = some (CodeO c' (X.env.qual ++ "<lambda>")) ∧ HZ f = some (LamO d c' f) ∧ tb σ HZ Q := by
  constructor
  rintro pinsZ sZ σZ HZ Q IZ ⟨here, code, held, ht⟩
  have name := (pe_var (pos := p1) (i := i) slot seen n1 n2).run pinsZ sZ σZ HZ (fun v H1 => v = .ref f ∧ H1 = HZ) IZ ⟨.ref f, here, rfl, rfl⟩
  apply wpAny_Call_Name_kw
  refine thn name ?_
  rintro u s1 ⟨v, H1, I1, rel, rfl, rfl⟩
  cases rel
  obtain ⟨⟨pm, ctv, obj⟩, _, _⟩ := I1.hok f _ held
  rw [hq, hcl] at obj
  apply PySem.W.callWith_F0 ⟨_, _, _, _, obj⟩
  have ran := lam_runs (E := E) (Q := Q) I L I1.env0 room I1.base I1.nolimit obj code (bind _ _ _ _ _) (hbody _ _ s1 H1 (room.deeper _)) ht
  have out : Passes (L2.CX X.prog X.w) ((cxOf CXg X.prog X.w X.K X.mg X.base Ng qg sg g cdg X.A X.stack s H Eg).tr pn xe) E := passes_call takes wish
  refine wpAny_call (codeAny_mono ran ?_)
  rintro (e | fl) s2 back
  · exact out pinsZ σZ H1 s1 e s2 I1 back
  · cases fl with
    | ret u => exact I1.after back
    | _ => cases back
def vToldL (fs : Nat) (vs : List Nat) (c : Nat) (ret : Str) (lams : Nat → Ev D) : Ev D := fun δ st => match δ[fs]? with
  | some (some (.p (.lam i))) => vTold c ret (lams i) (wipE δ vs) st
  | _ => .bad
theorem wipe_out' {σ σ2 : L2.St} {vs : List Nat} {i : Nat} (h : wipe σ2 vs = wipe σ vs) (hi : i ∉ vs) : σ2[i]? = σ[i]? := by
  rw [← wipe_out (σ := σ2) hi, h, wipe_out hi]
theorem wipE_some {δ : Env} {i : Nat} {d : D} : ∀ {vs : List Nat}, (wipE δ vs)[i]? = some (some d) → δ[i]? = some (some d) ∧ i ∉ vs
  | [], h => ⟨h, by simp⟩
  | v :: vs, h => by
    unfold wipE at h
    by_cases hv : v = i
    · subst hv
      by_cases hl : v < (wipE δ vs).length
      · rw [List.getElem?_set_self hl] at h; cases h
      · rw [List.getElem?_eq_none (by simpa using hl)] at h; cases h
    · rw [List.getElem?_set_ne hv] at h
      obtain ⟨a, b⟩ := wipE_some h
      exact ⟨a, fun m => (List.mem_cons.mp m).elim (fun e => hv e.symm) b⟩
theorem wipE_len (δ : Env) : ∀ vs : List Nat, (wipE δ vs).length = δ.length
  | [] => rfl
  | v :: vs => by unfold wipE; rw [List.length_set, wipE_len δ vs]
end Iv
end

section
set_option Elab.async false
set_option linter.all false
set_option maxRecDepth 100000
set_option maxHeartbeats 4100000
namespace Iv
open PySem PySem.Spec PyProof.Rows L2 Gx LamX
section
variable {X : Cx} {g : GL} {E : XK} {pins : List (Addr × Obj)} {σ : L2.St} {H0 : Hp} {s0 : Shared}
theorem se_toldB {x a e fv : Str} {cx fs : Nat} {ret : Str} {Ng : List Str} {pg : Arguments} {sg scope : Scope} {bg : List Stmt} {fT : Addr} {k : Nat} {own : List (Str × Nat)} {p pf pos : Pos} {lams : Nat → Ev D} {C : Addr} {cl : List (Str × Addr)} {fp : List Addr} (td : TolD X.K X.mg g x a e cx ret Ng pg sg bg fT)
    (I0 : Inv X pins σ H0 s0) (hfp : ∀ b ∈ fp, FpOk X pins H0 b) (hg : Gl (X.blk s0 H0 scope (compEnvC scope cl C X.env) fp) x) (hr : Room (k + 2) X.A) (LK : LamOk X g k lams)
    (hfv : X.N[fs]? = some fv) (hvf : Vis (X.blk s0 H0 scope (compEnvC scope cl C X.env) fp).env.scope fv) (hdb : (x == ("__debug__" : Str)) = false := by decide) (hd : (a == ("__debug__" : Str)) = false := by decide) (hcd : (a == ("__classdict__" : Str)) = false := by decide) (hd2 : (fv == ("__debug__" : Str)) = false := by decide) (hcd2 : (fv == ("__classdict__" : Str)) = false := by decide) :
    PE (X.blk s0 H0 scope (compEnvC scope cl C X.env) fp) (.Call (.Name x p) [.Name fv pf] [] pos) (fun σB H Q => wipe σB (own.map (·.2)) = wipe σ (own.map (·.2)) ∧ SemE g E (vToldL fs (own.map (·.2)) cx ret lams) σB H Q) := by
  refine ⟨fun pinsB s σB H Q IB ⟨hw, ex, ι, st, δ, at_, hh⟩ => ?_⟩
  obtain ⟨dV, kV, doc, pm, cdv, ct, oc, an, od, osl, lk, hcg, hb⟩ := td.ex
  obtain ⟨j, q1, q2, q3, q4, q5, q6, q7, q8, rfl⟩ := td.bd
  unfold vToldL at hh
  split at hh
  · rename_i i hδ
    obtain ⟨v, hv, rv⟩ := at_.env.2 fs _ hδ
    cases rv with
    | p rv =>
      cases rv with
      | @lam f c' i d hi hF hC =>
        have hF' : H f = some (LamO d c' f) := Fz.ext_ hF
        have hC' : H c' = some (CodeO c' d.q) := Fz.ext_ hC
        obtain ⟨hq, hcl, L, hbind, hbody⟩ := LK.ok i d hi
        rw [hq] at hC'
        refine wpAny_Call_Name_kw (ld_glob IB hg td.gm ?_ hdb)
        have ha : PA (X.blk s0 H0 scope (compEnvC scope cl C X.env) fp) [.Name fv pf] (tCons (tVar fs) tNil) := pa_cons (pe_var hfv hvf hd2 hcd2) pa_nil
        refine PySem.W.callWith_K (h₀ := X.base) IB.ok.mod.kin td.kp (thn (ha.run pos pinsB s σB H (fun vs H1 => vs = [V.ref f] ∧ H1 = H) IB ⟨_, hv, rfl, rfl⟩) fun us s1 ⟨vs, H1, I1, r1, e1, e2⟩ => ?_) (by rfl) (by rfl)
        subst e1 e2
        obtain rfl := Vals.ref1 r1
        refine ⟨I1.kIn, ?_⟩
        have Io : Inv X pins σ H1 s1 := I0.call' (ch := fp) I1.os I1.base I1.hok I1.bare fun b hb => ⟨(hfp b hb).2.2.2.1, (hfp b hb).2.1, (hfp b hb).2.2.2.2.1, (hfp b hb).2.2.2.2.2⟩
        have lens : (wipe σB (own.map (·.2))).length = (wipe σ (own.map (·.2))).length := by rw [hw]
        have at1 : At (g.wx ex) H1 ι st σ (wipE δ (own.map (·.2))) := by
          refine ⟨at_.good, ⟨?_, fun m d hm => ?_⟩⟩
          · rw [wipE_len, ← at_.env.1, ← wipe_length σB (own.map (·.2)), lens, wipe_length]
          · obtain ⟨hm1, hm2⟩ := wipE_some hm
            obtain ⟨v', hv', rv'⟩ := at_.env.2 m d hm1
            exact ⟨v', by rw [← wipe_out' hw hm2]; exact hv', rv'⟩
        have rc : codeAny (model X.prog X.w) X.A (.call (.ref fT) ⟨[.ref f], []⟩) (CR C8.CX0 X.stack X.prog X.w H1 s1 Q C8.E0) s1 := by
          refine run_ofS (N := Ng) (ps := [a]) (us := [.ref f]) (vs := [.ref f]) lk hcg td.sc hr Io.env0 (hb s1 [.ref f] I1.kIn rfl) (.cons rfl .nil) rfl fun hr' => ?_
          have h0 : ∀ f : Addr, (L2.start Ng [V.ref f])[0]? = some (some (V.ref f)) := fun f => rfl
          obtain ⟨t', ht', hq'⟩ := told_gives (X := X) (Ng := Ng) (x := x) (g := fT) (cdg := cdv) (j := j) (p1 := q1) (p2 := q2) (p3 := q3) (p4 := q4) (p5 := q5) (p6 := q6) (p7 := q7) (p8 := q8) (ret := ret) (q := X.env.qual ++ "<lambda>") td.ge td.ef.mg td.de h0 f c' s1 H1 Q (fun E H' Q' => H' f = some (LamO d c' f) ∧ SemE g E (lams i) σ H' Q')
            (fun W pn xe E p1 p2 tk hW => pe_actB (i := 0) Io L hq hcl hbind tk hW hr' (fun A outer s H hr2 => hbody A outer s H E f c' hr2) td.n0 td.va hd hcd) hC' (by
              refine ⟨hF', ex, ι, st, _, at1, ?_⟩
              unfold vTold at hh
              cases ef : lams i (wipE δ (own.map (·.2))) st with
              | bad => rw [ef] at hh; exact hh
              | ok d s => rw [ef] at hh; exact hh
              | exc c2 s =>
                rw [ef] at hh
                simp only [] at hh
                split at hh
                · rename_i hc
                  subst hc
                  exact fun H' ι' G' x' => ⟨true, td.exm, fun _ => hh (.str ret) H' ι' G' x' (.p (.str _)), fun z => Bool.noConfusion z⟩
                · exact hh.elim)
          exact ⟨t', ht'.nox, hq'⟩
        exact after_call I1 rc
  · exact hh.elim
/-- [1 for f in bad if told(f) != z] -/
theorem se_lcL {x a e fv z : Str} {cx fs : Nat} {ret : Str} {Ng : List Str} {pg : Arguments} {sg scope : Scope} {bg : List Stmt} {fT : Addr} {k : Nat} {own : List (Str × Nat)} {p pf pt pc pz pos : Pos} {jz : Nat} {lams : Nat → Ev D} {elt tg iter : Expr} {fi : Ev Its} {t : Tv} {ee : Ev D} {kf : List D → Store → Res D} (td : TolD X.K X.mg g x a e cx ret Ng pg sg bg fT) (kx : CxK X g)
    (hk : KOk kf) (hc : X.calm = true) (hN : X.N.Nodup) (hi : PI X tg iter (SemI g E fi)) (ok : BlkOk X.N X.env.scope scope own)
    (hg : ∀ (s : Shared) (H : Hp) (C : Addr) (cl : List (Str × Addr)) (fp : List Addr), PG (X.blk s H scope (compEnvC scope cl C X.env) fp) tg (SemT g (own.map (·.2)) t))
    (hgx : ∀ (s : Shared) (H : Hp) (C : Addr) (cl : List (Str × Addr)) (fp : List Addr), Gl (X.blk s H scope (compEnvC scope cl C X.env) fp) x)
    (he : ∀ (s : Shared) (H : Hp) (C : Addr) (cl : List (Str × Addr)) (fp : List Addr), PE (X.blk s H scope (compEnvC scope cl C X.env) fp) elt (SemE g L2.E0 ee))
    (hr : Room (k + 2) X.A) (LK : LamOk X g k lams) (hfv : X.N[fs]? = some fv) (hvf : ∀ (s : Shared) (H : Hp) (C : Addr) (cl : List (Str × Addr)) (fp : List Addr), Vis (X.blk s H scope (compEnvC scope cl C X.env) fp).env.scope fv) (hs : ∀ x, foldedSetIterable iter X.env x = pure x := by intro _; rfl)
    (hdb : (x == ("__debug__" : Str)) = false := by decide) (hd : (a == ("__debug__" : Str)) = false := by decide) (hcd : (a == ("__classdict__" : Str)) = false := by decide) (hd2 : (fv == ("__debug__" : Str)) = false := by decide) (hcd2 : (fv == ("__classdict__" : Str)) = false := by decide) :
    PE X (.ListComp elt [⟨tg, iter, [.Compare (.Call (.Name x p) [.Name fv pf] [] pt) [.NotEq] [.Constant (.str z) jz pz] pc], 0⟩] scope pos) (SemE g E (vCmpD fi t (tstB (v2 (oEq true) (vToldL fs (own.map (·.2)) cx ret lams) (vK (.str z)))) ee (own.map (·.2)) kf)) := by
  refine PE.mk fun pins s σ H Q I q => ?_
  refine lcz hc hN I hi ok hg (tt := fun σB H Q => wipe σB (own.map (·.2)) = wipe σ (own.map (·.2)) ∧ SemB g L2.E0 (tstB (v2 (oEq true) (vToldL fs (own.map (·.2)) cx ret lams) (vK (.str z)))) σB H Q) (te := SemE g L2.E0 ee) (fun s0 H0 C cl fp I0 hfp => ?_) (fun s0 H0 C cl fp _ _ => he s0 H0 C cl fp) hs (tLc_gen hk (fun σB H Q w q => ⟨w, q⟩) (fun _ _ _ _ q => q) H Q q)
  have kb : CxK (X.blk s0 H0 scope (compEnvC scope cl C X.env) fp) g := ⟨kx.K, kx.u⟩
  refine pts_one (pt_mono (pt_cmpR (or_ne kb) (se_toldB (own := own) (E := L2.E0) td I0 hfp (hgx s0 H0 C cl fp) hr LK hfv (hvf s0 H0 C cl fp) hdb hd hcd hd2 hcd2) (se_str (E := L2.E0) (g := g)) (nomark _)) fun σB H Q ⟨w, q⟩ => ?_)
  have q2 := tTest_of (t := tOp (rSem g (oEq true)) (SemE g L2.E0 (vToldL fs (own.map (·.2)) cx ret lams)) (SemE g L2.E0 (vK (.str z)))) (tOp_of (opSem_of noX_eq)) σB H Q q
  exact ⟨w, q2⟩
end
end Iv
end

section
set_option Elab.async false
set_option linter.all false
set_option maxRecDepth 100000
set_option maxHeartbeats 4100000
namespace Iv
open PySem PySem.Spec PyProof.Rows L2 Gx LamX

/-! ### the law -/
/-- the script as the law gets it; the tables of code objects are empty -/
def SpLaw (K : PySem.W.Frag) (cs : List (Addr × Addr)) (n : Nat) : Sp := fun vs H Q _ => ∃ (a : Addr) (ns : List Int), vs = [.ref a] ∧ SqL K H a (ns.map V.int) ∧ (∀ p ∈ cs, H p.2 = some (.tbl #[])) ∧ ns.length ≤ n ∧ (∀ z ∈ ns, Builtin.Int.intBits z ≤ 1048576) ∧ ∀ H', Q (.bl true) H'
def scrD (ns : List Int) : D := .p (.scr (ns.map .int))
theorem rps_ints {g : GL} {F : Hp} : ∀ ns : List Int, Rps g F (ns.map V.int) (ns.map .int)
  | [] => .nil
  | n :: ns => .cons (.int n) (rps_ints ns)
theorem sqL_fz {K : PySem.W.Frag} {H : Hp} {l : List Addr} {a : Addr} {xs : List V} (h : SqL K H a xs) (hl : a ∉ l) : SqL K (Fz H l) a xs := by
  obtain (h | ⟨o, h⟩) | h := h
  · exact .inl (.inl (Fz.mk hl h rfl))
  · exact .inl (.inr ⟨o, Fz.mk hl h rfl⟩)
  · exact .inr h
theorem fn_law {P : Program} {w : World} {K : PySem.W.Frag} {mg : Str → Option Value} {base : Heap} {x qual : Str} {params : Arguments} {body : List Stmt} {scope : Scope} {dvs : List V} {kws : List (Str × V)} {p : He.Defn} {fd : FuncData} {N : List Str} {a0 : Str} {k n : Nat} {b : Sv} {cs : List (Addr × Addr)} (F : FunD K x qual params body scope dvs kws (He.fAd K p) fd) (S : FnScope N [a0] scope)
    (hb : ∀ ns : List Int, ns.length ≤ n → (∀ z ∈ ns, Builtin.Int.intBits z ≤ 1048576) → ∃ s, b (startE N.length [scrD ns]) [] = .rt (.p (.bl true)) s)
    (hbody : ∀ (A : Around) (outer : List PySem.Env) (s : Shared) (H : Hp) (E : XK), Room k (A.deeper (envOfC qual scope s.heap.objs.size (He.fAd K p) (.ref (He.codeOf K p)))) →
      ∃ g : GL, g.K = K ∧ (∀ P ∈ g.T, P ∈ cs.map (·.2)) ∧ (∀ q ∈ g.L, q.1 ∈ cs.map (·.2)) ∧ (∀ q ∈ g.L, q.1 ∉ g.T) ∧ PSs (cxOf (L2.CX P w) P w K mg base N qual scope (He.fAd K p) (.ref (He.codeOf K p)) A outer s H E) body (SemS g E b)) :
    FnOk P w K mg base (L2.CX P w) (k + 1) (He.fAd K p) fd [a0] (SpLaw K cs n) := by
  obtain ⟨_, _, dV, kV, doc, pm, an, cdv, ct, _, rfl, lk, hcd, -, -⟩ := F.ex
  obtain ⟨c, rfl⟩ := He.codeIn_ref hcd
  have e : He.codeOf K p = c := He.codeOf_eq lk rfl
  refine fn_of lk hcd S (fun vs H Q E ⟨a, ns, h, _⟩ => by rw [h]; rfl) fun A outer s H vs Q E hr ⟨a, ns, ev, hS, hT, hl, hz, hQ⟩ => ?_
  rw [← e] at hr ⊢
  obtain ⟨g, hK, h1, h2, h3, hp⟩ := hbody A outer s H E hr
  refine ⟨SemS g E b, hp, ?_⟩
  subst ev
  obtain ⟨sF, hb⟩ := hb ns hl hz
  have tab : ∀ {P : Addr}, P ∈ cs.map (·.2) → H P = some (.tbl #[]) := fun {P} hP => by
    obtain ⟨q, hq, rfl⟩ := List.mem_map.mp hP
    exact hT q hq
  have G : Good (g.wx []) [] [] H := ⟨.nil, .nil, ⟨fun P hP => ⟨#[], tab (h1 P hP), True.intro, fun pos cv hc => by simp [codeAmong] at hc⟩, fun q hq => TabS.nil (tab (h2 q hq)), h3⟩, (fun b hb => by cases hb), (fun b hb => by cases hb)⟩
  refine ⟨[], [], [], startE N.length [scrD ns], ⟨G, re_start (.cons (.p (.scr (hK ▸ sqL_fz hS (fun m => by cases m)) (rps_ints ns))) .nil)⟩, ?_⟩
  rw [hb]
  intro v H' ι' _ _ r
  cases r with
  | p r => cases r; exact hQ H'
/-- the lambdas written in a list -/
def lamsOf : Stmt → List (Arguments × Expr × Scope)
  | .Assign _ (.List es _) _ => es.filterMap fun
    | .Lambda p b s _ => some (p, b, s)
    | _ => none
  | _ => []
def lmOf (q : Str) (cells : List (Str × Addr)) (st : Stmt) : List LamD := (lamsOf st).map fun z => ⟨q, z.1, z.2.1, z.2.2, cloFrom cells z.2.2.names []⟩
theorem told_of {K : PySem.W.Frag} {mg : Str → Option Value} {g : GL} {x a e : Str} {c : Nat} {ret : Str} {Ng : List Str} {pg : Arguments} {sg : Scope} {bg : List Stmt} {fT : Addr} {fd : FuncData} (F : FunD K x x pg bg sg [] [] fT fd) (gm : mg x = some (.ref fT))
    (hb : ∀ (kV doc pm : Value) (an : Option Addr) (cdv ct : Value) (us : List Value), us.length = [a].length → bindArgs (PySem.W.fnOf x x pg bg sg .none kV doc pm an cdv ct) ⟨us, []⟩ = pure ([a].zip us)) (sc : FnScope Ng [a] sg) (n0 : Ng[0]? = some a) (va : Vis sg a) (ge : sg.names.lookup e = some .globalImplicit) (ef : ExF K mg g c e) (de : (e == ("__debug__" : Str)) = false)
    (bd : ∃ (j : Nat) (p1 p2 p3 p4 p5 p6 p7 p8 : Pos), bg = [.Try [.Return (some (.Call (.Name a p1) [] [] p2)) p3] [.ExceptHandler (some (.Name e p4)) none [.Return (some (.Constant (.str ret) j p5)) p6] p7] [] [] p8]) (exm : PySem.W.exmOne K (.ref (g.CT c)) (.ref (g.CT c)) = some true) : TolD K mg g x a e c ret Ng pg sg bg fT := by
  have b : Binds K fd [a] [] := F.bindsN hb
  obtain ⟨_, _, dV, kV, doc, pm, an, cdv, ct, _, rfl, lk, hcd, -, -⟩ := F.ex
  exact ⟨⟨_, _, _, _, _, _, _, _, _, _, lk, hcd, b⟩, gm, F.kp, sc, n0, va, ge, ef, de, bd, exm⟩
end Iv
end

section
set_option Elab.async false
set_option linter.all false
set_option maxRecDepth 100000
set_option maxHeartbeats 4100000
namespace Iv
open PySem PySem.Spec PyProof.Rows L2 Gx

/-! ### instances of own classes -/
theorem rpf_get {g : GL} {F : Hp} {f : Str} {x : P} : ∀ {fs : List (Str × V)} {ps : List (Str × P)}, RpF g F fs ps → ps.lookup f = some x → ∃ v, fs.lookup f = some v ∧ Rp g F v x
  | _, _, .nil, e => by cases e
  | _, _, .cons (n := n) r t, e => by
    rw [List.lookup_cons] at e ⊢
    cases hb : (f == n) with
    | true => rw [hb] at e; cases e; exact ⟨_, rfl, r⟩
    | false => rw [hb] at e; exact rpf_get t e
theorem rpf_none {g : GL} {F : Hp} {f : Str} : ∀ {fs : List (Str × V)} {ps : List (Str × P)}, RpF g F fs ps → ps.lookup f = none → fs.lookup f = none
  | _, _, .nil, _ => rfl
  | _, _, .cons (n := n) r t, e => by
    rw [List.lookup_cons] at e ⊢
    cases hb : (f == n) with
    | true => rw [hb] at e; cases e
    | false => rw [hb] at e; exact rpf_none t e
abbrev Flds (g : GL) (F : Hp) (ι : List Addr) (fs : List (Str × V)) (ds : List (Str × D)) : Prop := Paired (fun (a : Str × V) (b : Str × D) => a.1 = b.1 ∧ RD g F ι a.2 b.2) fs ds
theorem fld_get {g : GL} {F : Hp} {ι : List Addr} {f : Str} {d : D} : ∀ {fs : List (Str × V)} {ds : List (Str × D)}, Flds g F ι fs ds → ds.lookup f = some d → ∃ v, fs.lookup f = some v ∧ RD g F ι v d
  | _, _, .nil, e => by cases e
  | (n, v) :: fs, (m, d') :: ds, .cons r t, e => by
    obtain ⟨rfl, r2⟩ := r
    rw [List.lookup_cons] at e ⊢
    cases hb : (f == n) with
    | true => rw [hb] at e; cases e; exact ⟨_, rfl, r2⟩
    | false => rw [hb] at e; exact fld_get t e
theorem fld_none {g : GL} {F : Hp} {ι : List Addr} {f : Str} : ∀ {fs : List (Str × V)} {ds : List (Str × D)}, Flds g F ι fs ds → ds.lookup f = none → fs.lookup f = none
  | _, _, .nil, _ => rfl
  | (n, v) :: fs, (m, d') :: ds, .cons r t, e => by
    obtain ⟨rfl, r2⟩ := r
    rw [List.lookup_cons] at e ⊢
    cases hb : (f == n) with
    | true => rw [hb] at e; cases e
    | false => rw [hb] at e; exact fld_none t e
def putD (f : Str) (d : D) : List (Str × D) → List (Str × D)
  | [] => [(f, d)]
  | (n, x) :: r => if n = f then (n, d) :: r else (n, x) :: putD f d r
theorem fld_put {g : GL} {F : Hp} {ι : List Addr} {f : Str} {v : V} {d : D} (r0 : RD g F ι v d) : ∀ {fs : List (Str × V)} {ds : List (Str × D)}, Flds g F ι fs ds → Flds g F ι (putF f v fs) (putD f d ds)
  | _, _, .nil => .cons ⟨rfl, r0⟩ .nil
  | (n, v') :: fs, (m, d') :: ds, .cons r t => by
    obtain ⟨e, r2⟩ := r
    dsimp only at e
    subst e
    unfold putF putD
    split
    · exact .cons ⟨rfl, r0⟩ t
    · exact .cons ⟨rfl, r2⟩ (fld_put r0 t)
/-- the class and the fields of an instance; none: it is none of the classes -/
def getF (cs : List Nat) (f : Str) (d : D) (s : Store) : Res D := match d with
  | .p (.obj c fs) => if c ∈ cs then (match fs.lookup f with
    | some x => .ok (.p x) s
    | none => .bad) else .bad
  | .ref n => match s[n]? with
    | some (.obj c fs) => if c ∈ cs then (match fs.lookup f with
      | some d => .ok d s
      | none => .bad) else .bad
    | _ => .bad
  | _ => .bad
def vFld (cs : List Nat) (f : Str) (fo : Ev D) : Ev D := fun δ st => (fo δ st).bnd fun d s => getF cs f d s
/-- of class c, and no field has the name m -/
def isObj (c : Nat) (m : Str) (d : D) (s : Store) : Bool := match d with
  | .p (.obj c' fs) => decide (c' = c) && (fs.lookup m).isNone
  | .ref n => match s[n]? with
    | some (.obj c' fs) => decide (c' = c) && (fs.lookup m).isNone
    | _ => false
  | _ => false
section
variable {X : Cx} {g : GL} {E : XK} {pos : Pos} {a b e o : Expr} {es : List Expr} {ι : List Addr} {st : Store} {H : Hp}
theorem getF_ok {cs : List Nat} {f : Str} {d d' : D} {s' : Store} {v : V} (G : Good g ι st H) (r : RD g (Fz H (g.x ι)) ι v d) (e : getF cs f d st = .ok d' s') :
    s' = st ∧ ∃ a c dx fs w, c ∈ cs ∧ v = .ref a ∧ H a = some (.ins (g.CT c) dx fs) ∧ fs.lookup f = some w ∧ RD g (Fz H (g.x ι)) ι w d' := by
  cases r with
  | p r =>
    cases r with
    | obj h r =>
      rename_i a dx c fs ps
      simp only [getF] at e
      split at e
      · rename_i hc
        split at e
        · rename_i x hx
          cases e
          obtain ⟨w, h1, h2⟩ := rpf_get r hx
          exact ⟨rfl, a, c, dx, fs, w, hc, rfl, Fz.ins h, h1, .p h2⟩
        · cases e
      · cases e
    | _ => cases e
  | ref hn =>
    rename_i n a
    simp only [getF] at e
    split at e
    · rename_i c ds hs
      split at e
      · rename_i hc
        split at e
        · rename_i x hx
          cases e
          obtain ⟨a', u, h1, h2, rc⟩ := G.cell hs
          rw [hn] at h1; cases h1
          cases rc with
          | obj q =>
            rename_i dx fs
            obtain ⟨w, h3, h4⟩ := fld_get q hx
            exact ⟨rfl, a, c, dx, fs, w, hc, rfl, h2, h3, h4⟩
        · cases e
      · cases e
    · cases e
theorem getF_x {cs : List Nat} {f : Str} {d : D} {s s' : Store} {c : Nat} : getF cs f d s ≠ .exc c s' := by
  intro e; unfold getF at e; repeat' split at e
  all_goals cases e
theorem isObj_ok {c : Nat} {m : Str} {d : D} {v : V} (G : Good g ι st H) (r : RD g (Fz H (g.x ι)) ι v d) (e : isObj c m d st = true) : ∃ a dx fs, v = .ref a ∧ H a = some (.ins (g.CT c) dx fs) ∧ fs.lookup m = none := by
  cases r with
  | p r =>
    cases r with
    | obj h r =>
      rename_i a dx c' fs ps
      simp only [isObj, Bool.and_eq_true, decide_eq_true_eq, Option.isNone_iff_eq_none] at e
      obtain ⟨rfl, e⟩ := e
      exact ⟨a, dx, fs, rfl, Fz.ins h, rpf_none r e⟩
    | _ => cases e
  | ref hn =>
    rename_i n a
    simp only [isObj] at e
    split at e
    · rename_i c' ds hs
      simp only [Bool.and_eq_true, decide_eq_true_eq, Option.isNone_iff_eq_none] at e
      obtain ⟨rfl, e⟩ := e
      obtain ⟨a', u, h1, h2, rc⟩ := G.cell hs
      rw [hn] at h1; cases h1
      cases rc with
      | obj q => exact ⟨a, _, _, rfl, h2, fld_none q e⟩
    · cases e
/-- o.f -/
theorem se_fld {cs : List Nat} {f : Str} {fo : Ev D} (hK : X.K = g.K) (hc : ∀ c ∈ cs, Cls g.K (g.CT c) ∧ NoAttr g.K (g.CT c) f) (he : PE X e (SemE g E fo)) (hb : attributeBase e f X.env (eval e X.env) = eval e X.env := by rfl) :
    PE X (.Attribute e f pos) (SemE g E (vFld cs f fo)) := by
  refine pe_mono (pe_fld he hb) fun σ H Q ⟨ex, ι, st, δ, at_, h⟩ => ?_
  refine semE_bnd at_ ?_
  unfold vFld at h
  cases ea : fo δ st with
  | bad => rw [ea] at h; exact h
  | exc c s1 => rw [ea] at h; exact h
  | ok d s1 =>
    rw [ea] at h
    intro v H1 ι1 at1 x1 r1
    have hq := Post.ext x1 h
    simp only [Res.bnd] at hq
    cases eg : getF cs f d s1 with
    | bad => rw [eg] at hq; exact hq.elim
    | exc c s2 => exact (getF_x eg).elim
    | ok d' s2 =>
      rw [eg] at hq
      obtain ⟨rfl, a, c, dx, fs, w, hcs, rfl, h1, h2, h3⟩ := getF_ok at1.good r1 eg
      obtain ⟨k1, k2⟩ := hc c hcs
      exact ⟨a, g.CT c, dx, fs, w, rfl, h1, hK ▸ k1, hK ▸ k2, h2, hq w H1 ι1 at1.good (.refl _ _) h3⟩
/-- o.m(..) -/
def vMeth (c : Nat) (m : Str) (ff : F1) (fo : Ev D) (fa : Ev (List D)) (dds : List D) : Ev D := fun δ st => (fo δ st).bnd fun d s => if isObj c m d s = true then (fa δ s).bnd fun ds s2 => ff (d :: (ds ++ dds)) s2 else .bad
theorem tMeth_of {c k : Nat} {m : Str} {ff : F1} {fo : Ev D} {fa : Ev (List D)} {dvs : List V} {dds : List D} (hd : Paired RdC dvs dds) (hk : ∀ ds st, ds.length ≠ k → ff ds st = .bad) :
    ∀ σ H Q, SemE g E (vMeth c m ff fo fa dds) σ H Q → tMeth (g.CT c) m (SpF g k ff) dvs E (SemE g E fo) (SemA g E fa) σ H Q := by
  rintro σ H Q ⟨ex, ι, st, δ, at_, h⟩
  refine semE_bnd at_ ?_
  unfold vMeth at h
  cases ea : fo δ st with
  | bad => rw [ea] at h; exact h
  | exc c s1 => rw [ea] at h; exact h
  | ok d s1 =>
    rw [ea] at h
    intro v H1 ι1 at1 x1 r1
    have h := Post.ext x1 h
    simp only [Res.bnd] at h
    split at h
    · rename_i ho
      obtain ⟨a, dx, fs, rfl, h1, h2⟩ := isObj_ok at1.good r1 ho
      refine ⟨a, dx, fs, rfl, h1, h2, semA_bnd at1 ?_⟩
      cases eb : fa δ s1 with
      | bad => rw [eb] at h; exact h
      | exc c s2 => rw [eb] at h; exact h
      | ok ds s2 =>
        rw [eb] at h
        intro vs H2 ι2 at2 x2 r2
        have h := Post.ext x2 h
        simp only [Res.bnd] at h
        have rr : RDs (g.wx ex) (Fz H2 ((g.wx ex).x ι2)) ι2 (V.ref a :: (vs ++ dvs)) (d :: (ds ++ dds)) := .cons (r1.ext x2) (pd_app r2 (rdc_all (g := g.wx ex) hd))
        refine ⟨?_, ex, ι2, s2, _, at2.good, rr, h⟩
        rw [Paired.length rr]
        apply Classical.byContradiction
        intro z
        rw [hk _ _ z] at h
        exact h
    · exact h.elim
/-- a method by its facts -/
structure Cal3 (P : Program) (w : World) (K : PySem.W.Frag) (mg : Str → Option Value) (base : Heap) (g : GL) (n c : Nat) (m : Str) (k : Nat) (ff : F1) (dds : List D) : Prop where
  cl : Cls K (g.CT c)
  ex : ∃ (f : Addr) (fd : FuncData) (ps : List Str) (ds : List Value) (dvs : List V), FnOk P w K mg base (L2.CX P w) n f fd ps (SpF g k ff) ∧ L2.Meth K (g.CT c) m f ∧ Binds K fd ps ds ∧ Vals dvs ds ∧ Paired RdC dvs dds
  len : ∀ ds st, ds.length ≠ k → ff ds st = .bad
theorem smeth {n j c k : Nat} {m : Str} {ff : F1} {dds : List D} {fo : Ev D} {fa : Ev (List D)} {atp : Pos} (cl : Cal3 X.prog X.w X.K X.mg X.base g n c m k ff dds) (hr : Room j X.A) (hn : n ≤ j) (hx : Passes (L2.CX X.prog X.w) X E)
    (ho : PE X o (SemE g E fo)) (ha : PA X (e :: es) (SemA g E fa)) (hst : starEach (e :: es) X.env = (false, eval e X.env) :: starEach es X.env := by rfl) (hpl : (backTo pos (starEach es X.env)).any (·.1) = false := by rfl) {pl : Sem Bool}
    (ht : eval (.Call (.Attribute o m atp) (e :: es) [] pos) X.env = (do
      let ov ← eval o X.env
      standAt atp.atName
      let (fm, fst1) ← holding [ov] (getMethod ov m pl)
      callWith pos fm fst1 (backTo pos (starEach (e :: es) X.env)) (backToKw pos (keywordEach [] X.env))) := by rfl) :
    PE X (.Call (.Attribute o m atp) (e :: es) [] pos) (SemE g E (vMeth c m ff fo fa dds)) := by
  obtain ⟨f, fd, ps, ds, dvs, F, hm, hb, hd, hdd⟩ := cl.ex
  exact pe_mono (pe_meth ho cl.cl hm F (hr.mono hn) hb hd hx ha hst hpl ht) (tMeth_of hdd cl.len)
theorem smeth0 {n j c k : Nat} {m : Str} {ff : F1} {dds : List D} {fo : Ev D} {atp : Pos} (cl : Cal3 X.prog X.w X.K X.mg X.base g n c m k ff dds) (hr : Room j X.A) (hn : n ≤ j) (hx : Passes (L2.CX X.prog X.w) X E)
    (ho : PE X o (SemE g E fo)) {pl : Sem Bool}
    (ht : eval (.Call (.Attribute o m atp) [] [] pos) X.env = (do
      let ov ← eval o X.env
      standAt atp.atName
      let (fm, fst1) ← holding [ov] (getMethod ov m pl)
      callWith pos fm fst1 (backTo pos (starEach [] X.env)) (backToKw pos (keywordEach [] X.env))) := by rfl) :
    PE X (.Call (.Attribute o m atp) [] [] pos) (SemE g E (vMeth c m ff fo aN dds)) := by
  obtain ⟨f, fd, ps, ds, dvs, F, hm, hb, hd, hdd⟩ := cl.ex
  refine pe_mono (pe_meth0 ho cl.cl hm F (hr.mono hn) hb hd hx ht) fun σ H Q q => ?_
  obtain ⟨ex, ι, st, δ, at_, h⟩ := q
  refine semE_bnd at_ ?_
  unfold vMeth at h
  cases ea : fo δ st with
  | bad => rw [ea] at h; exact h
  | exc c s1 => rw [ea] at h; exact h
  | ok d s1 =>
    rw [ea] at h
    intro v H1 ι1 at1 x1 r1
    have h := Post.ext x1 h
    simp only [Res.bnd] at h
    split at h
    · rename_i ho
      obtain ⟨a, dx, fs, rfl, h1, h2⟩ := isObj_ok at1.good r1 ho
      refine ⟨a, dx, fs, rfl, h1, h2, ?_⟩
      simp only [aN] at h
      have rr : RDs (g.wx ex) (Fz H1 ((g.wx ex).x ι1)) ι1 (V.ref a :: ([] ++ dvs)) (d :: ([] ++ dds)) := .cons r1 (rdc_all (g := g.wx ex) hdd)
      refine ⟨?_, ex, ι1, s1, _, at1.good, rr, h⟩
      rw [Paired.length rr]
      apply Classical.byContradiction
      intro z
      rw [cl.len _ _ z] at h
      exact h
    · exact h.elim
/-! ### a new instance -/
def vMake (c : Nat) (ff : F1) (keep : Bool) (fa : Ev (List D)) (dds : List D) : Ev D := fun δ st => (fa δ st).bnd fun ds s => match ff (.ref s.length :: (ds ++ dds)) (s ++ [.obj c []]) with
  | .ok (.p .non) s2 => if keep = true then .ok (.ref s.length) s2 else retF s.length (.ref s.length) s2
  | .exc e s2 => if keep = true then .exc e s2 else excF s.length e s2
  | _ => .bad
theorem tMake_of {c k : Nat} {ff : F1} {keep : Bool} {fa : Ev (List D)} {dvs : List V} {dds : List D} (hd : Paired RdC dvs dds) (hk : ∀ ds st, ds.length ≠ k → ff ds st = .bad) :
    ∀ σ H Q, SemE g E (vMake c ff keep fa dds) σ H Q → tMake (g.CT c) (SpF g k ff) dvs E (SemA g E fa) σ H Q := by
  rintro σ H Q ⟨ex, ι, st, δ, at_, h⟩
  refine semA_bnd at_ ?_
  unfold vMake at h
  cases ea : fa δ st with
  | bad => rw [ea] at h; exact h
  | exc c s1 => rw [ea] at h; exact h
  | ok ds s1 =>
    rw [ea] at h
    intro vs H1 ι1 at1 x1 r1 x dx hx hdx hne
    have h := Post.ext x1 h
    simp only [Res.bnd] at h
    obtain ⟨G1, e1⟩ := good_new (o := .own x) at1.good hdx
    obtain ⟨G2, e2⟩ := good_cell (p := x) (o := .ins (g.CT c) dx []) (c := .obj c []) G1 (by rw [upd_ne hne.symm]; exact hx) (.obj .nil)
    have e12 := e1.trans e2
    have hn : (ι1 ++ [x])[s1.length]? = some x := Good.next at1.good
    have rr : RDs (g.wx ex) (Fz (upd (upd H1 dx (.own x)) x (.ins (g.CT c) dx [])) ((g.wx ex).x (ι1 ++ [x]))) (ι1 ++ [x]) (V.ref x :: (vs ++ dvs)) (.ref s1.length :: (ds ++ dds)) :=
      .cons (.ref hn) (pd_app (Paired.mapP r1 fun _ _ r => r.ext e12) (rdc_all (g := g.wx ex) hd))
    have hp : Post (g.wx ex) (upd (upd H1 dx (.own x)) x (.ins (g.CT c) dx [])) (ι1 ++ [x]) E (ff (.ref s1.length :: (ds ++ dds)) (s1 ++ [.obj c []])) (fun v H2 => v = .non ∧ Q (.ref x) H2) := by
      cases ef : ff (.ref s1.length :: (ds ++ dds)) (s1 ++ [.obj c []]) with
      | bad => rw [ef] at h; exact h.elim
      | exc i s2 =>
        rw [ef] at h
        cases keep with
        | true =>
          intro H' ι' G' x'
          exact h H' ι' G' (e12.trans x')
        | false =>
          have q := exc_post at1.good h
          intro H' ι' G' x'
          exact q H' ι' G' (e12.trans x')
      | ok d s2 =>
        rw [ef] at h
        cases d with
        | ref n => exact h.elim
        | p y =>
          cases y with
          | non =>
            intro v H' ι' G' x' r'
            have hv : v = .non := by
              cases r' with
              | p r => cases r; rfl
            have rx : RD (g.wx ex) (Fz H' ((g.wx ex).x ι')) ι' (.ref x) (.ref s1.length) := RD.ext x' (.ref hn)
            refine ⟨hv, ?_⟩
            cases keep with
            | true => exact h _ H' ι' G' (e12.trans x') rx
            | false => exact ret_post at1.good G' (e12.trans x') rx h
          | _ => exact h.elim
    refine ⟨?_, ex, ι1 ++ [x], _, _, G2, rr, hp⟩
    rw [Paired.length rr]
    apply Classical.byContradiction
    intro z
    rw [hk _ _ z] at hp
    exact hp
structure Cal4 (P : Program) (w : World) (K : PySem.W.Frag) (mg : Str → Option Value) (base : Heap) (g : GL) (n c : Nat) (x : Str) (k : Nat) (ff : F1) (dds : List D) : Prop where
  ex : ∃ (f : Addr) (fd : FuncData) (ps : List Str) (ds : List Value) (dvs : List V), FnOk P w K mg base (L2.CX P w) n f fd ps (SpF g k ff) ∧ Mk K (g.CT c) f ∧ mg x = some (.ref (g.CT c)) ∧ Binds K fd ps ds ∧ Vals dvs ds ∧ Paired RdC dvs dds
  len : ∀ ds st, ds.length ≠ k → ff ds st = .bad
theorem smake {n j c k : Nat} {x : Str} {ff : F1} {keep : Bool} {dds : List D} {fa : Ev (List D)} {p : Pos} (cl : Cal4 X.prog X.w X.K X.mg X.base g n c x k ff dds) (hr : Room j X.A) (hn : n + 1 ≤ j) (hg : Gl X x) (hx : Passes (L2.CX X.prog X.w) X E)
    (ha : PA X (e :: es) (SemA g E fa)) (hdb : (x == ("__debug__" : Str)) = false := by decide) (he : starEach (e :: es) X.env = (false, eval e X.env) :: starEach es X.env := by rfl) (hpl : (backTo pos (starEach es X.env)).any (·.1) = false := by rfl) :
    PE X (.Call (.Name x p) (e :: es) [] pos) (SemE g E (vMake c ff keep fa dds)) := by
  obtain ⟨f, fd, ps, ds, dvs, F, M, hm, hb, hd, hdd⟩ := cl.ex
  exact pe_mono (pe_make M F (hr.mono hn) hg hm hb hd hx ha hdb he hpl) (tMake_of hdd cl.len)
theorem smake0 {n j c k : Nat} {x : Str} {ff : F1} {keep : Bool} {dds : List D} {p : Pos} (cl : Cal4 X.prog X.w X.K X.mg X.base g n c x k ff dds) (hr : Room j X.A) (hn : n + 1 ≤ j) (hg : Gl X x) (hx : Passes (L2.CX X.prog X.w) X E)
    (hdb : (x == ("__debug__" : Str)) = false := by decide) :
    PE X (.Call (.Name x p) [] [] pos) (SemE g E (vMake c ff keep aN dds)) := by
  obtain ⟨f, fd, ps, ds, dvs, F, M, hm, hb, hd, hdd⟩ := cl.ex
  refine pe_mono (pe_make0 M F (hr.mono hn) hg hm hb hd hx hdb) fun σ H Q q => ?_
  have z := tMake_of (fa := aN) hdd cl.len σ H Q q
  obtain ⟨ex, ι, st, δ, at_, z⟩ := z
  exact z [] H ι at_.good (.refl _ _) .nil
/-! ### o.f = v -/
def sSetF (cs : List Nat) (f : Str) (fo fv : Ev D) : Sv := fun δ st => match fv δ st with
  | .ok v s1 => match fo δ s1 with
    | .ok (.ref n) s2 => match s2[n]? with
      | some (.obj c fs) => if c ∈ cs ∧ fs.length < 1000 then .nx δ (s2.set n (.obj c (putD f v fs))) else .bad
      | _ => .bad
    | .exc c s => .exc c s
    | _ => .bad
  | .exc c s => .exc c s
  | .bad => .bad
theorem ss_fld {cs : List Nat} {f : Str} {fo fv : Ev D} {value : Expr} {pos' : Pos} (hK : X.K = g.K) (hc : ∀ c ∈ cs, Cls g.K (g.CT c) ∧ NoAttr g.K (g.CT c) f) (ho : PE X o (SemE g E fo)) (hv : PE X value (SemE g E fv)) (hs : swapsWith value (some (.Attribute o f pos')) pos.line X.env = pure false := by rfl) :
    PS X (.Assign [.Attribute o f pos'] value pos) (SemS g E (sSetF cs f fo fv)) := by
  refine ps_mono (ps_fld ho hv hs) fun D σ H ⟨ex, ι, st, δ, at_, h⟩ => ?_
  refine semE_bnd at_ ?_
  unfold sSetF at h
  cases ea : fv δ st with
  | bad => rw [ea] at h; exact h
  | exc c s1 => rw [ea] at h; exact h
  | ok dv s1 =>
    rw [ea] at h
    intro y H1 ι1 at1 x1 r1
    refine semE_bnd at1 ?_
    simp only at h
    cases eb : fo δ s1 with
    | bad => rw [eb] at h; exact h.elim
    | exc c s2 =>
      rw [eb] at h
      intro H' ι' G' x'
      exact h H' ι' G' (x1.trans x')
    | ok d s2 =>
      rw [eb] at h
      intro v H2 ι2 at2 x2 r2
      cases d with
      | p _ => exact h.elim
      | ref n =>
        simp only at h
        split at h
        · rename_i c fs hs2
          split at h
          · rename_i hc2
            obtain ⟨a, u, h1, h2, rc⟩ := at2.good.cell hs2
            cases r2 with
            | ref hn =>
              rw [hn] at h1; cases h1
              cases rc with
              | obj q =>
                rename_i dx vs
                obtain ⟨k1, k2⟩ := hc c hc2.1
                obtain ⟨G', x'⟩ := good_write (c := .obj c (putD f dv fs)) at2.good hn (.obj (fld_put (r1.ext x2) q)) (fun ps e => by rw [h2] at e; cases e) (fun c P e => by rw [h2] at e; cases e) (fun c P e => by rw [h2] at e; cases e) (fun c P e => by rw [h2] at e; cases e)
                refine ⟨a, g.CT c, dx, vs, rfl, h2, hK ▸ k1, hK ▸ k2, by rw [Paired.length q]; exact hc2.2, ?_⟩
                exact h σ _ ι2 G' (x1.trans (x2.trans x')) (at2.env.ext x')
          · exact h.elim
        · exact h.elim
end
end Iv
end

section
set_option Elab.async false
set_option linter.all false
set_option maxRecDepth 100000
set_option maxHeartbeats 4100000
namespace Iv
open PySem PySem.Spec PyProof.Rows L2 Gx

/-! ### zip -/
def zipP (xs ys : List P) : List P := (xs.zip ys).map fun z => .tup [z.1, z.2]
theorem zip_get {α β : Type} : ∀ {xs : List α} {ys : List β} {i : Nat} {z : α × β}, (xs.zip ys)[i]? = some z → xs[i]? = some z.1 ∧ ys[i]? = some z.2
  | [], ys, i, z, h => by simp at h
  | x :: xs, [], i, z, h => by simp at h
  | x :: xs, y :: ys, 0, z, h => by
    obtain rfl : (x, y) = z := by simpa using h
    exact ⟨rfl, rfl⟩
  | x :: xs, y :: ys, i + 1, z, h => by
    have := zip_get (xs := xs) (ys := ys) (i := i) (z := z) (by simpa using h)
    simpa using this
/-- data, as a list or as a tuple: the items -/
def lstP : P → Option (List P)
  | .lst xs => some xs
  | .scr xs => some xs
  | _ => none
def tupP : P → Option (List P)
  | .tup xs => some xs
  | _ => none
def zip2 (d e : D) : Option (List P) := match d, e with
  | .p x, .p y => match lstP x, lstP y with
    | some xs, some ys => some (zipP xs ys)
    | _, _ => match tupP x, tupP y with
      | some xs, some ys => some (zipP xs ys)
      | _, _ => none
  | _, _ => none
def itZ (f : Ev (List D)) : Ev Its := fun δ st => (f δ st).bnd fun ds s => match ds with
  | [d, e] => match zip2 d e with
    | some zs => .ok ⟨zs.map .p, none⟩ s
    | none => .bad
  | _ => .bad
section
variable {X : Cx} {g : GL} {E : XK} {pos : Pos} {tg a b e : Expr} {ι : List Addr} {st : Store} {H F : Hp}
/-- a pair, just made -/
theorem pair_new {e : List Addr} {H' : Hp} {ι' : List Addr} {st' : Store} {T : Addr} {vx vy : V} {x y : P} (G : Good (g.up e) ι' st' H') (hT : H' T = none) (rx : Rp (g.up e) (Fz H' ((g.up e).x ι')) vx x) (ry : Rp (g.up e) (Fz H' ((g.up e).x ι')) vy y) :
    Good (g.up e) ι' st' (upd H' T (.tup [vx, vy])) ∧ Ext (g.up e) H' ι' (upd H' T (.tup [vx, vy])) ι' ∧ RD (g.up e) (Fz (upd H' T (.tup [vx, vy])) ((g.up e).x ι')) ι' (.ref T) (.p (.tup [x, y])) := by
  obtain ⟨G2, x2⟩ := good_new (o := .tup [vx, vy]) G hT
  have hz : Fz (upd H' T (.tup [vx, vy])) ((g.up e).x ι') T = some (.tup [vx, vy]) := fz_new G hT rfl
  exact ⟨G2, x2, .p (.tup hz (.cons (rx.sub x2.keep) (.cons (ry.sub x2.keep) .nil)))⟩
theorem its_zipL {a b : Addr} {vs ws : List V} {xs ys : List P} (hs : ∀ e H' ι', Ex2 g H ι e H' ι' → SqL g.K H' a vs) (ht : ∀ e H' ι', Ex2 g H ι e H' ι' → SqL g.K H' b ws) (r : Rps g (Fz H (g.x ι)) vs xs) (q : Rps g (Fz H (g.x ι)) ws ys) : ItS g (Itz g.K a b) H ι ⟨(zipP xs ys).map .p, none⟩ := by
  refine ⟨fun {e i H' ι' st' d0 d} hi G x hd => ?_, fun {e H' ι' st'} G x _ => ⟨vs, ws, hs _ _ _ x, ht _ _ _ x, ?_⟩⟩
  · cases hd
    rw [List.getElem?_map, Option.map_eq_some_iff] at hi
    obtain ⟨z, hz, rfl⟩ := hi
    unfold zipP at hz
    rw [List.getElem?_map, Option.map_eq_some_iff] at hz
    obtain ⟨z, hz, rfl⟩ := hz
    obtain ⟨h1, h2⟩ := zip_get hz
    obtain ⟨v, hv, rv⟩ := r.get' h1
    obtain ⟨w, hw, rw_⟩ := q.get' h2
    refine ⟨⟨vs, ws, v, w, hs _ _ _ x, ht _ _ _ x, hv, hw⟩, fun u H'' ⟨T, x', y', e1, e2, e3, e4, e5⟩ => ?_⟩
    subst e1 e3
    have k1 := e4 vs (hs _ _ _ x)
    have k2 := e5 ws (ht _ _ _ x)
    rw [hv] at k1; cases k1
    rw [hw] at k2; cases k2
    exact pair_new G e2 ((rv.sub x.keep).wx _) ((rw_.sub x.keep).wx _)
  · simp only [List.length_map, zipP, List.length_zip, r.length, q.length]
    omega
theorem its_zipT {a b : Addr} {vs ws : List V} {xs ys : List P} (hs : ∀ e H' ι', Ex2 g H ι e H' ι' → SqT g.K H' a vs) (ht : ∀ e H' ι', Ex2 g H ι e H' ι' → SqT g.K H' b ws) (r : Rps g (Fz H (g.x ι)) vs xs) (q : Rps g (Fz H (g.x ι)) ws ys) : ItS g (RZ.ItzT g.K a b) H ι ⟨(zipP xs ys).map .p, none⟩ := by
  refine ⟨fun {e i H' ι' st' d0 d} hi G x hd => ?_, fun {e H' ι' st'} G x _ => ⟨vs, ws, hs _ _ _ x, ht _ _ _ x, ?_⟩⟩
  · cases hd
    rw [List.getElem?_map, Option.map_eq_some_iff] at hi
    obtain ⟨z, hz, rfl⟩ := hi
    unfold zipP at hz
    rw [List.getElem?_map, Option.map_eq_some_iff] at hz
    obtain ⟨z, hz, rfl⟩ := hz
    obtain ⟨h1, h2⟩ := zip_get hz
    obtain ⟨v, hv, rv⟩ := r.get' h1
    obtain ⟨w, hw, rw_⟩ := q.get' h2
    refine ⟨⟨vs, ws, v, w, hs _ _ _ x, ht _ _ _ x, hv, hw⟩, fun u H'' ⟨T, x', y', e1, e2, e3, e4, e5⟩ => ?_⟩
    subst e1 e3
    have k1 := e4 vs (hs _ _ _ x)
    have k2 := e5 ws (ht _ _ _ x)
    rw [hv] at k1; cases k1
    rw [hw] at k2; cases k2
    exact pair_new G e2 ((rv.sub x.keep).wx _) ((rw_.sub x.keep).wx _)
  · simp only [List.length_map, zipP, List.length_zip, r.length, q.length]
    omega
/-- frozen lists stay -/
theorem lstP_ok {v : V} {x : P} {xs : List P} (r : Rp g (Fz H (g.x ι)) v x) (e : lstP x = some xs) : ∃ a vs, v = .ref a ∧ Rps g (Fz H (g.x ι)) vs xs ∧ SqL g.K H a vs ∧ ∀ e H' ι', Ex2 g H ι e H' ι' → SqL g.K H' a vs := by
  cases r with
  | lst h r => cases e; exact ⟨_, _, rfl, r, .inl (.inl (Fz.lst h)), fun _ H' ι' x => .inl (.inl (Fz.lst (x.keep _ _ h)))⟩
  | scr h r => cases e; exact ⟨_, _, rfl, r, sqL_of_fz h, fun _ H' ι' x => sqL_of_fz (x.keep.sqL h)⟩
  | _ => cases e
theorem tupP_ok {v : V} {x : P} {xs : List P} (r : Rp g (Fz H (g.x ι)) v x) (e : tupP x = some xs) : ∃ a vs, v = .ref a ∧ Rps g (Fz H (g.x ι)) vs xs ∧ SqT g.K H a vs ∧ ∀ e H' ι', Ex2 g H ι e H' ι' → SqT g.K H' a vs := by
  cases r with
  | tup h r => cases e; exact ⟨_, _, rfl, r, sqT_of_fz (.inl (.inl h)), fun _ H' ι' x => sqT_of_fz (x.keep.sqT (.inl (.inl h)))⟩
  | _ => cases e
/-- zip of two lists or of two tuples -/
theorem si_zip {elts : List Expr} {kk : Nat} {tpos p : Pos} {fa : Ev (List D)} (k : CxK X g) (hg : Gl X "zip") (hm : X.mg "zip" = none) (ha : PA X [a, b] (SemA g E fa))
    (hs : starEach [a, b] X.env = (false, eval a X.env) :: starEach [b] X.env := by rfl) (hpl : (backTo pos (starEach [b] X.env)).any (·.1) = false := by rfl) :
    PI X (.Tuple elts kk tpos) (.Call (.Name "zip" p) [a, b] [] pos) (SemI g E (itZ fa)) := by
  refine pi_mono (RZ.pi_zipA hg hm ha hs hpl) fun σ H R ⟨ex, ι, st, δ, at_, hh⟩ => ?_
  have kk : X.K = (g.wx ex).K := k.K
  refine semA_bnd at_ ?_
  unfold itZ at hh
  cases ef : fa δ st with
  | bad => rw [ef] at hh; exact hh
  | exc c s => rw [ef] at hh; exact hh
  | ok ds s =>
    rw [ef] at hh
    intro vs H1 ι1 at1 x1 r1
    simp only [Res.bnd] at hh
    split at hh
    · rename_i d1 d2
      split at hh
      · rename_i zs hz
        cases r1 with
        | cons r1 r2 =>
          cases r2 with
          | cons r2 r3 =>
            cases r3
            unfold zip2 at hz
            split at hz
            · cases r1 with
              | p r1 =>
                cases r2 with
                | p r2 =>
                  split at hz
                  · rename_i xs ys hx hy
                    cases hz
                    obtain ⟨p1, ws1, rfl, q1, s1, t1⟩ := lstP_ok r1 hx
                    obtain ⟨p2, ws2, rfl, q2, s2, t2⟩ := lstP_ok r2 hy
                    exact ⟨p1, p2, ws1, ws2, rfl, .inl ⟨kk ▸ s1, kk ▸ s2, hh _ H1 ι1 at1.good x1 (kk ▸ its_zipL t1 t2 q1 q2)⟩⟩
                  · split at hz
                    · rename_i xs ys hx hy
                      cases hz
                      obtain ⟨p1, ws1, rfl, q1, s1, t1⟩ := tupP_ok r1 hx
                      obtain ⟨p2, ws2, rfl, q2, s2, t2⟩ := tupP_ok r2 hy
                      exact ⟨p1, p2, ws1, ws2, rfl, .inr ⟨kk ▸ s1, kk ▸ s2, hh _ H1 ι1 at1.good x1 (kk ▸ its_zipT t1 t2 q1 q2)⟩⟩
                    · cases hz
            · cases hz
      · exact hh.elim
    · exact hh.elim
end
end Iv
end

section
set_option Elab.async false
set_option linter.all false
set_option maxRecDepth 100000
set_option maxHeartbeats 4100000
namespace Iv
open PySem PySem.Spec PyProof.Rows L2 Gx

/-! ### sorted -/
def tup1 : P → Bool
  | .tup (_ :: _) => true
  | _ => false
def noTup : P → Bool
  | .tup _ => false
  | .non => false
  | _ => true
def sortB (xs : List P) : Bool := xs.all tup1 || xs.all noTup
def lePP : P → P → Bool := PySem.W.dataLe false P.toD
def sortP (xs : List P) : List P := xs.mergeSort lePP
def fSorted : F1 := fun ds st => match ds with
  | [d] => match see st d with
    | some x => match lstP x with
      | some xs => if alikeP xs = true ∧ sortB xs = true ∧ xs.length ≤ szLine then .ok (.p (.lst (sortP xs))) st else .bad
      | none => .bad
    | none => .bad
  | _ => .bad
theorem nx_sorted : NoX1 fSorted := by intro ds st c s e; unfold fSorted at e; repeat' split at e
                                       all_goals cases e
theorem toDs_map : ∀ xs : List P, P.toDs xs = xs.map P.toD
  | [] => rfl
  | x :: xs => by rw [P.toDs, toDs_map xs]; rfl
theorem sortB_ok {xs : List P} (h : sortB xs = true) : PySem.W.Sortable (xs.map P.toD) := by
  unfold sortB at h
  rw [Bool.or_eq_true, List.all_eq_true, List.all_eq_true] at h
  rcases h with h | h
  · refine .inl fun d hd => ?_
    obtain ⟨x, hx, rfl⟩ := List.mem_map.mp hd
    have := h x hx
    unfold tup1 at this
    split at this
    · rename_i y ys
      exact ⟨y.toD, P.toDs ys, by rw [P.toD, P.toDs]⟩
    · cases this
  · refine .inr fun d hd => ?_
    obtain ⟨x, hx, rfl⟩ := List.mem_map.mp hd
    have := h x hx
    unfold noTup at this
    split at this
    · cases this
    · cases this
    · cases x <;> simp_all [P.toD]
section
variable {X : Cx} {g : GL} {E : XK} {pos : Pos} {ι : List Addr} {st : Store} {H F : Hp}
/-- what a value stands for -/
def Std (g : GL) (F : Hp) (u : Value) (x : P) : Prop := ∃ v, RelV v u ∧ Rp g F v x
theorem std_in : ∀ {vs : List V} {its : List Value} {xs : List P}, Vals vs its → Rps g F vs xs → PySem.W.EachIs (Std g F) its xs
  | _, _, _, .nil, .nil => .nil
  | _, _, _, .cons a b, .cons c d => .cons ⟨_, a, c⟩ (std_in b d)
theorem std_out : ∀ {out : List Value} {xs : List P}, PySem.W.EachIs (Std g F) out xs → ∃ vs, Vals vs out ∧ Rps g F vs xs
  | _, _, .nil => ⟨[], .nil, .nil⟩
  | _, _, .cons ⟨v, a, c⟩ t => by
    obtain ⟨vs, b, d⟩ := std_out t
    exact ⟨v :: vs, .cons a b, .cons c d⟩
theorem rc_sorted (k : CxK X g) : CallR X (.builtin "sorted") (rCal g fSorted) := by
  rintro pins s σ H vs us Q I rv ⟨ex, ι, st, ds, G, r, d, st', e, q⟩
  have kk : X.K = (g.wx ex).K := k.K
  have hu := k.u
  unfold fSorted at e
  split at e
  · obtain ⟨v, rfl, rd⟩ := rds_one r
    split at e
    · split at e
      · rename_i x h1 _ xs h2
        split at e
        · rename_i hal
          cases e
          obtain ⟨hal, hso, hle⟩ := hal
          have h2' : seqP x = some xs := by
            unfold lstP at h2
            split at h2 <;> cases h2 <;> rfl
          obtain ⟨a, ws, rfl, h3, h4⟩ := see_seq G rd h1 h2'
          obtain ⟨c1, c2, c3⟩ := alike_spec hal
          have dp := Rps.dp h3 c1
          rw [Vals.ref1 rv]
          rcases h4 with ⟨h4, _⟩ | ⟨h4, hx⟩
          · obtain ⟨its, rv2, pl, hz⟩ := I.list (kk ▸ h4)
            obtain ⟨as, hr⟩ := Dp.readsAll I _ _ its (kk ▸ dp) rv2
            rw [toDs_map] at hr
            have hdep : ∀ b, b ∈ xs → X.A.units + 2 + b.toD.depth < cLine := fun b hb => by
              have : ∀ ys : List P, b ∈ ys → b.toD.depth ≤ PyData.depthAll (P.toDs ys) := by
                intro ys
                induction ys with
                | nil => intro h; cases h
                | cons y ys ih =>
                  intro h
                  rw [P.toDs, PyData.depthAll]
                  rcases List.mem_cons.mp h with h | h
                  · subst h; exact Nat.le_max_left _ _
                  · exact Nat.le_trans (ih h) (Nat.le_max_right _ _)
              have := this xs hb
              omega
            have hAA : PySem.W.AllAlike (xs.map P.toD) := fun d hd d' hd' => c2.1 d (by rw [toDs_map]; exact hd) d' (by rw [toDs_map]; exact hd')
            refine PySem.W.sorted_data (enc := P.toD) (bs := xs) (R := Std (g.wx ex) (Fz H ((g.wx ex).x ι))) pl.isList (std_in rv2 h3) (PySem.W.readsAll_each P.toD hr) hAA (sortB_ok hso) (Nat.le_trans hle szLine_le) hdep fun out ho hE => ?_
            have ⟨ep, he'⟩ := PyProof.Rows.sortedAll_at s.heap its out.toArray
            obtain ⟨zs, hv, hr2⟩ := std_out hE
            have hzl : zs.length ≤ sizeLine := by rw [hv.length, ho]; exact Nat.le_trans hle szLine_le
            have hp : H (s.heap.objs.size + 1) = none := I.hok.fresh (Nat.le_succ _)
            refine ⟨.ref (s.heap.objs.size + 1), upd H (s.heap.objs.size + 1) (.lst zs), I.laid (t' := s.toks) (fun _ _ => PyProof.Rows.sortedAll_old) (Nat.le_succ _) ⟨hzl, out, ep, hv, he'⟩, rfl, ?_⟩
            exact new_data (o := .lst zs) (x := .lst (sortP xs)) G hp q rfl fun F' sub e => .lst e (hr2.sub sub)
          · rw [hx] at h2; cases h2
        · cases e
      · cases e
    · cases e
  · cases e
end
end Iv
end

section
set_option Elab.async false
set_option linter.all false
set_option maxRecDepth 100000
set_option maxHeartbeats 4100000
namespace Iv
open PySem PySem.Spec PyProof.Rows L2 Gx

/-! ### in a list -/
def isSeqD : P → Bool
  | .lst _ => true
  | .scr _ => true
  | _ => false
def oIn (neg : Bool) (x y : D) (st : Store) : Res D := match see st x, see st y with
  | some a, some b => match lstP b with
    | some xs => if SeqAt.shaped a.toD = true ∧ SeqAt.shaped b.toD = true then .ok (.p (.bl (if neg = true then !(xs.any fun z => PyData.eqv z.toD a.toD) else xs.any fun z => PyData.eqv z.toD a.toD))) st else .bad
    | none => .bad
  | _, _ => .bad
theorem noX_in {neg : Bool} : NoX (oIn neg) := by
  intro x y st c s e
  unfold oIn at e
  repeat' split at e
  all_goals cases e
section
variable {X : Cx} {g : GL} {E : XK} {pos : Pos} {a b e : Expr} {ι : List Addr} {st : Store} {H F : Hp} {fa fb fo : Ev D}
theorem lstP_toD {b : P} {xs : List P} (h : lstP b = some xs) : b.toD = .list (xs.map P.toD) := by
  unfold lstP at h
  split at h
  · cases h; rw [P.toD, toDs_map]
  · cases h; rw [P.toD, toDs_map]
  · cases h
theorem or_in (k : CxK X g) : OpR X (compareOp .In) (rSem g (oIn false)) := by
  rintro pins s σ H x y v u Q I rx ry ⟨ex, ι, st, dx, dy, G, r1, r2, d, st', e, q⟩
  have kk : X.K = (g.wx ex).K := k.K
  have hu := k.u
  unfold oIn at e
  split at e
  · split at e
    · rename_i xs h3
      split at e
      · rename_i h4
        cases e
        have hd := lstP_toD h3
        have dq := dp_of G r2 ‹_› h4.2
        rw [hd] at dq
        refine op_inD (by omega) pins s σ H _ _ v u Q I rx ry ⟨_, _, kk ▸ dp_of G r1 ‹_› h4.1, kk ▸ dq, h4.1, hd ▸ h4.2, ?_⟩
        rw [List.any_map]
        exact q _ H ι G (.refl _ _) (.p (.bl _))
      · cases e
    · cases e
  · cases e
theorem or_notin (k : CxK X g) : OpR X (compareOp .NotIn) (rSem g (oIn true)) := by
  rintro pins s σ H x y v u Q I rx ry ⟨ex, ι, st, dx, dy, G, r1, r2, d, st', e, q⟩
  have kk : X.K = (g.wx ex).K := k.K
  have hu := k.u
  unfold oIn at e
  split at e
  · split at e
    · rename_i xs h3
      split at e
      · rename_i h4
        cases e
        have hd := lstP_toD h3
        have dq := dp_of G r2 ‹_› h4.2
        rw [hd] at dq
        refine op_notInD (by omega) pins s σ H _ _ v u Q I rx ry ⟨_, _, kk ▸ dp_of G r1 ‹_› h4.1, kk ▸ dq, h4.1, hd ▸ h4.2, ?_⟩
        rw [List.any_map]
        exact q _ H ι G (.refl _ _) (.p (.bl _))
      · cases e
    · cases e
  · cases e
theorem sinn (k : CxK X g) (ha : PE X a (SemE g E fa)) (hb : PE X b (SemE g E fb)) (hm : behindInMarks .In b = false := by with_unfolding_all rfl) : PE X (.Compare a [.In] [b] pos) (SemE g E (v2 (oIn false) fa fb)) := se_cmp (or_in k) (opSem_of noX_in) ha hb hm
theorem snotin (k : CxK X g) (ha : PE X a (SemE g E fa)) (hb : PE X b (SemE g E fb)) (hm : behindInMarks .NotIn b = false := by with_unfolding_all rfl) : PE X (.Compare a [.NotIn] [b] pos) (SemE g E (v2 (oIn true) fa fb)) := se_cmp (or_notin k) (opSem_of noX_in) ha hb hm
theorem tinn (k : CxK X g) (ha : PE X a (SemE g E fa)) (hb : PE X b (SemE g E fb)) (hm : behindInMarks .In b = false := by with_unfolding_all rfl) : PT X (.Compare a [.In] [b] pos) (SemB g E (tstB (v2 (oIn false) fa fb))) := st_cmp (or_in k) (opSem_of noX_in) ha hb hm
theorem tnotin (k : CxK X g) (ha : PE X a (SemE g E fa)) (hb : PE X b (SemE g E fb)) (hm : behindInMarks .NotIn b = false := by with_unfolding_all rfl) : PT X (.Compare a [.NotIn] [b] pos) (SemB g E (tstB (v2 (oIn true) fa fb))) := st_cmp (or_notin k) (opSem_of noX_in) ha hb hm
/-! ### l[::-1] -/
def vRev (fo : Ev D) : Ev D := fun δ st => (fo δ st).bnd fun d s => match see s d with
  | some x => match lstP x with
    | some xs => .ok (.p (.lst xs.reverse)) s
    | none => .bad
  | none => .bad
theorem rps_snoc {g : GL} {F : Hp} : ∀ {vs ws : List V} {xs ys : List P}, Rps g F vs xs → Rps g F ws ys → Rps g F (vs ++ ws) (xs ++ ys)
  | _, _, _, _, .nil, h => h
  | _, _, _, _, .cons r t, h => .cons r (rps_snoc t h)
theorem rps_rev {g : GL} {F : Hp} : ∀ {vs : List V} {xs : List P}, Rps g F vs xs → Rps g F vs.reverse xs.reverse
  | _, _, .nil => .nil
  | _, _, .cons r t => by rw [List.reverse_cons, List.reverse_cons]; exact rps_snoc (rps_rev t) (.cons r .nil)
theorem se_rev {n : Nat} {p1 p2 p3 : Pos} (k : CxK X g) (he : PE X e (SemE g E fo)) : PE X (.Subscript e (.Slice none none (some (.UnaryOp .USub (.Constant (.int 1) n p1) p2)) p3) pos) (SemE g E (vRev fo)) := by
  refine pe_mono (pe_revL he) fun σ H Q ⟨ex, ι, st, δ, at_, h⟩ => ?_
  have kk : X.K = (g.wx ex).K := k.K
  refine semE_bnd at_ ?_
  unfold vRev at h
  cases ea : fo δ st with
  | bad => rw [ea] at h; exact h
  | exc c s1 => rw [ea] at h; exact h
  | ok d s1 =>
    rw [ea] at h
    intro v H1 ι1 at1 x1 r1
    have hq := Post.ext x1 h
    simp only [Res.bnd] at hq
    split at hq
    · rename_i x hx
      split at hq
      · rename_i xs hxs
        have h2' : seqP x = some xs := by
          unfold lstP at hxs
          split at hxs <;> cases hxs <;> rfl
        obtain ⟨a, ws, rfl, h3, h4⟩ := see_seq at1.good r1 hx h2'
        rcases h4 with ⟨h4, _⟩ | ⟨h4, hx2⟩
        · refine ⟨a, ws, rfl, kk ▸ h4, fun p hp => ?_⟩
          exact new_data (o := .lst ws.reverse) (x := .lst xs.reverse) at1.good hp hq rfl fun F' sub e => .lst e ((rps_rev h3).sub sub)
        · rw [hx2] at hxs; cases hxs
      · exact hq.elim
    · exact hq.elim
/-! ### dicts -/
def putX {α : Type} (kvs : List (Key × α)) (k : Key) (v : α) : List (Key × α) :=
  if (kvs.any fun kv => decide (kv.1 = k)) = true
  then kvs.map fun kv => if kv.1 = k then (kv.1, v) else kv
  else kvs ++ [(k, v)]
def keyP : P → Option Key
  | .int i => some (.inl i)
  | .str x => some (.inr x)
  | _ => none
def keyD : D → Option Key
  | .p x => keyP x
  | _ => none
abbrev KVs (g : GL) (F : Hp) (ι : List Addr) (vs : List (Key × V)) (ds : List (Key × D)) : Prop := Paired (fun (a : Key × V) (b : Key × D) => a.1 = b.1 ∧ RD g F ι a.2 b.2) vs ds
theorem kvs_any {g : GL} {F : Hp} {ι : List Addr} {k : Key} : ∀ {vs : List (Key × V)} {ds : List (Key × D)}, KVs g F ι vs ds → (vs.any fun kv => decide (kv.1 = k)) = ds.any fun kv => decide (kv.1 = k)
  | _, _, .nil => rfl
  | (a, v) :: vs, (b, d) :: ds, .cons r t => by
    obtain ⟨e, _⟩ := r
    dsimp only at e
    subst e
    rw [List.any_cons, List.any_cons, kvs_any t]
theorem kvs_map {g : GL} {F : Hp} {ι : List Addr} {k : Key} {z : V} {d : D} (r0 : RD g F ι z d) : ∀ {vs : List (Key × V)} {ds : List (Key × D)}, KVs g F ι vs ds → KVs g F ι (vs.map fun kv => if kv.1 = k then (kv.1, z) else kv) (ds.map fun kv => if kv.1 = k then (kv.1, d) else kv)
  | _, _, .nil => .nil
  | (a, v) :: vs, (b, d') :: ds, .cons r t => by
    obtain ⟨e, r2⟩ := r
    dsimp only at e
    subst e
    rw [List.map_cons]; rw [List.map_cons]
    refine .cons ?_ (kvs_map r0 t)
    dsimp only
    split
    · exact ⟨rfl, r0⟩
    · exact ⟨rfl, r2⟩
theorem kvs_put {g : GL} {F : Hp} {ι : List Addr} {k : Key} {z : V} {d : D} (r0 : RD g F ι z d) {vs : List (Key × V)} {ds : List (Key × D)} (h : KVs g F ι vs ds) : KVs g F ι (putK vs k z) (putX ds k d) := by
  unfold putK putX
  rw [kvs_any h]
  split
  · exact kvs_map r0 h
  · exact pd_app h (.cons ⟨rfl, r0⟩ .nil)
theorem kvs_sub {g : GL} {F F' : Hp} {ι ι' : List Addr} (s : Sub F F') (l : Le ι ι') {vs : List (Key × V)} {ds : List (Key × D)} (h : KVs g F ι vs ds) : KVs g F' ι' vs ds := Paired.mapP h fun _ _ r => ⟨r.1, r.2.sub s l⟩
theorem keyD_ok {g : GL} {F : Hp} {ι : List Addr} {v : V} {d : D} {k : Key} (r : RD g F ι v d) (h : keyD d = some k) : v = kV k := by
  unfold keyD at h
  split at h
  · cases r with
    | p r =>
      unfold keyP at h
      split at h
      · cases h; cases r; rfl
      · cases h; cases r; rfl
      · cases h
  · cases h
theorem putX_len {α : Type} (kvs : List (Key × α)) (k : Key) (v : α) : (putX kvs k v).length ≤ kvs.length + 1 := by
  unfold putX
  split <;> simp
/-- a dict comprehension -/
def dcL (cn : Option Nat) (len : Nat) (t : Tv) (c : Ev Bool) (ek ev : Ev D) (δ0 : Env) : List D → Nat → List (Key × D) → Store → Res (List (Key × D))
  | [], _, acc, st => if endI cn len st = true then .ok acc st else .bad
  | d0 :: ds, i, acc, st => match getI cn len st i d0 with
    | some d => match t d δ0 with
      | some δ1 => match c δ1 st with
        | .ok true s => match ek δ1 s with
          | .ok y s2 => match keyD y with
            | some k => match ev δ1 s2 with
              | .ok z s3 => dcL cn len t c ek ev δ0 ds (i + 1) (putX acc k z) s3
              | _ => .bad
            | none => .bad
          | _ => .bad
        | .ok false s => dcL cn len t c ek ev δ0 ds (i + 1) acc s
        | _ => .bad
      | none => .bad
    | none => .bad
def vDcD (fi : Ev Its) (t : Tv) (c : Ev Bool) (ek ev : Ev D) (vs : List Nat) (k : List (Key × D) → Store → Res D) : Ev D := fun δ st => match fi δ st with
  | .ok r s => if r.ds.length ≤ szLine then match dcL r.cn r.ds.length t c ek ev (wipE δ vs) r.ds 0 [] s with
      | .ok ys s2 => k ys s2
      | _ => .bad
    else .bad
  | .exc c s => .exc c s
  | .bad => .bad
def kDct (ys : List (Key × D)) (st : Store) : Res D := match pKs ys with
  | some xs => .ok (.p (.dct xs)) st
  | none => .bad
def kDctM (ys : List (Key × D)) (st : Store) : Res D := .ok (.ref st.length) (st ++ [.dK ys])
structure KOkD (k : List (Key × D) → Store → Res D) : Prop where
  nx : ∀ ys st c s, k ys st ≠ .exc c s
  ok : ∀ {g : GL} {ι : List Addr} {st : Store} {H : Hp} {D' : Addr} {acc : List (Key × V)} {ys : List (Key × D)} {d : D} {st' : Store}, Good (g.up [D']) ι st H → H D' = some (.dK acc) → KVs (g.up [D']) (Fz H ((g.up [D']).x ι)) ι acc ys → D' ∉ g.ex → k ys st = .ok d st' →
    ∃ ι', Good g ι' st' H ∧ Le ι ι' ∧ Sub (Fz H ((g.up [D']).x ι)) (Fz H (g.x ι')) ∧ RD g (Fz H (g.x ι')) ι' (.ref D') d
theorem ok_dct : KOkD kDct := by
  refine ⟨fun ys st c s e => ?_, fun {g ι st H D' acc ys d st'} G h r hD e => ?_⟩
  · unfold kDct at e
    split at e <;> cases e
  · unfold kDct at e
    split at e
    · rename_i xs hx
      cases e
      obtain ⟨G', s'⟩ := over G
      refine ⟨ι, G', .refl _, s', .p (.dK (Fz.mk (fun m => ?_) h rfl) ((RpK.wx g.ex (rpk_of r hx)).sub s'))⟩
      rcases List.mem_append.mp m with m | m
      · exact hD m
      · exact G.dis _ List.mem_cons_self m
    · cases e
theorem ok_dctM : KOkD kDctM := by
  refine ⟨fun ys st c s e => (by cases e), fun {g ι st H D' acc ys d st'} G h r hD e => ?_⟩
  cases e
  obtain ⟨G', s'⟩ := over G
  have hD' : D' ∉ ι := G.dis _ List.mem_cons_self
  have le : Le ι (ι ++ [D']) := ⟨[D'], rfl⟩
  have sub : Sub (Fz H ((g.up [D']).x ι)) (Fz H (g.x (ι ++ [D']))) := fun b u e => by
    obtain ⟨h1, w, h2, h3⟩ := Fz.at e
    refine Fz.mk (fun m => h1 ?_) h2 h3
    rcases List.mem_append.mp m with m | m
    · exact List.mem_append_left _ (List.mem_append_right _ m)
    · rcases List.mem_append.mp m with m | m
      · exact List.mem_append_right _ m
      · exact List.mem_append_left _ (List.mem_append_left _ m)
  refine ⟨ι ++ [D'], ⟨?_, ?_, G'.tabs, G'.exs, fun b hb m => ?_⟩, le, sub, .ref ?_⟩
  · rw [List.nodup_append]
    refine ⟨G.nd, by simp, fun a ha b hb z => ?_⟩
    rw [List.mem_singleton.mp hb] at z
    exact hD' (z ▸ ha)
  · refine pd_app (pd_imp G.cells fun a c _ ⟨u, e, r⟩ => ⟨u, e, (r.wx g.ex).sub sub le⟩) (.cons ⟨_, h, .dK ?_⟩ .nil)
    exact Paired.mapP r fun _ _ q => ⟨q.1, RD.sub sub le (RD.wx (g := g.up [D']) g.ex q.2)⟩
  · rcases List.mem_append.mp m with m | m
    · exact G'.dis b hb m
    · exact hD (List.mem_singleton.mp m ▸ hb)
  · rw [← G'.len]; simp
/-- a dict comes under way -/
theorem underD {D' : Addr} (G : Good g ι st H) (hp : H D' = none) (os : List (Key × V)) : Good (g.up [D']) ι st (upd H D' (.dK os)) ∧ Ex2 g H ι [D'] (upd H D' (.dK os)) ι := by
  generalize ho : HO.dK os = o
  have ke : ∀ b u, H b = some u → upd H D' o b = some u := fun b u e => by rw [upd_ne (ne_of_none e hp)]; exact e
  have sub : Sub (Fz H (g.x ι)) (Fz (upd H D' o) ((g.up [D']).x ι)) := fun b u e => by
    obtain ⟨h1, w, h2, h3⟩ := Fz.at e
    refine Fz.mk (fun m => ?_) (ke _ _ h2) h3
    rcases List.mem_append.mp m with m | m
    · rcases List.mem_append.mp m with m | m
      · rw [List.mem_singleton.mp m, hp] at h2; cases h2
      · exact h1 (GL.in2 m)
    · exact h1 (GL.in1 m)
  refine ⟨⟨G.nd, pd_imp G.cells fun a c _ ⟨u, e, r⟩ => ⟨u, ke _ _ e, (r.sub sub (.refl ι)).wx _⟩, (G.tabs.ext ke).wx _, fun b hb => ?_, fun b hb m => ?_⟩, ⟨.refl ι, sub, .of ke⟩⟩
  · obtain hb | hb := List.mem_append.mp hb
    · rw [List.mem_singleton.mp hb]; exact ⟨.dK os, ho ▸ upd_same⟩
    · obtain ⟨u, e⟩ := G.exs b hb; exact ⟨u, ke _ _ e⟩
  · obtain hb | hb := List.mem_append.mp hb
    · exact G.out hp (GL.in1 (List.mem_singleton.mp hb ▸ m))
    · exact G.dis b hb m
theorem under_writeD {D' : Addr} (G : Good (g.up [D']) ι st H) {o : HO} {us : List (Key × V)} (h : H D' = some o) (hT : ∀ ps, o ≠ .tbl ps) (hX : ∀ c P, o ≠ CodeGO c P) (hL : ∀ c q, o ≠ LamX.CodeO c q) : Good (g.up [D']) ι st (upd H D' (.dK us)) ∧ Sub (Fz H ((g.up [D']).x ι)) (Fz (upd H D' (.dK us)) ((g.up [D']).x ι)) := by
  generalize hu : HO.dK us = u
  have hm : D' ∈ (g.up [D']).ex := List.mem_cons_self
  have sub : Sub (Fz H ((g.up [D']).x ι)) (Fz (upd H D' u) ((g.up [D']).x ι)) := fun b w e => by
    obtain ⟨h1, v, h2, h3⟩ := Fz.at e
    exact Fz.mk h1 (by rw [upd_ne (fun z => h1 (GL.in2 (by rw [z]; exact hm)))]; exact h2) h3
  refine ⟨⟨G.nd, pd_imp G.cells fun a c ha ⟨o, e, r⟩ => ⟨o, by rw [upd_ne (fun z => G.dis _ hm (by rw [← z]; exact ha))]; exact e, r.sub sub (.refl ι)⟩, G.tabs.but (fun b o h e => by rw [upd_ne h]; exact e) (fun ps z => hT ps (by rw [h] at z; exact Option.some.inj z)) (fun c P z => hX c P (by rw [h] at z; exact Option.some.inj z)) (fun c q z => hL c q (by rw [h] at z; exact Option.some.inj z)), fun b hb => ?_, G.dis⟩, sub⟩
  · by_cases z : b = D'
    · rw [z]; exact ⟨.dK us, hu ▸ upd_same⟩
    · obtain ⟨o, e⟩ := G.exs b hb
      exact ⟨o, by rw [upd_ne z]; exact e⟩
end
end Iv
end

section
set_option Elab.async false
set_option linter.all false
set_option maxRecDepth 100000
set_option maxHeartbeats 4100000
namespace Iv
open PySem PySem.Spec PyProof.Rows L2 Gx
section
variable {X : Cx} {g : GL} {E : XK} {pos : Pos} {ι : List Addr} {st : Store} {H F : Hp}
theorem tDc_of {fi : Ev Its} {t : Tv} {c : Ev Bool} {ek ev : Ev D} {vs : List Nat} {k : List (Key × D) → Store → Res D} (hk : KOkD k) {σ : L2.St} : ∀ H Q, SemE g E (vDcD fi t c ek ev vs k) σ H Q → tDc (SemI g E fi) (SemT g vs t) (SemB g E0 c) (SemE g E0 ek) (SemE g E0 ev) vs σ H Q := by
  rintro H Q ⟨ex, ι, st, δ, at_, hh⟩
  refine semI_bnd at_ ?_
  unfold vDcD at hh
  cases ef : fi δ st with
  | bad => rw [ef] at hh; exact hh
  | exc c s => rw [ef] at hh; exact hh
  | ok r s =>
    rw [ef] at hh
    intro J H1 ι1 at1 x1 J1
    have hh := Post.ext x1 hh
    simp only [] at hh
    obtain ⟨ds, cn⟩ := r
    split at hh
    · rename_i hz
      split at hh
      · rename_i tot sF hc
        intro D' hD
        have hDx : D' ∉ (g.wx ex).x ι1 := at1.good.out hD
        obtain ⟨G1, e1⟩ := underD at1.good hD []
        refine ⟨fun i m H => m = ds.length - i ∧ i ≤ ds.length ∧ ∃ ι st acc ys, Good ((g.wx ex).up [D']) ι st H ∧ Ex2 (g.wx ex) H1 ι1 [D'] H ι ∧ (∀ b ∈ ex, H b = H1 b) ∧ H D' = some (.dK acc) ∧ KVs ((g.wx ex).up [D']) (Fz H (((g.wx ex).up [D']).x ι)) ι acc ys ∧ ys.length ≤ i ∧ dcL cn ds.length t c ek ev (wipE δ vs) (ds.drop i) i ys st = .ok tot sF,
          ⟨ds.length, by simp, Nat.zero_le _, ι1, s, [], [], G1, e1, fun b hb => upd_ne (fun z => hDx (by rw [← z]; exact GL.in2 (g := g.wx ex) hb)), upd_same, .nil, Nat.zero_le _, hc⟩, ?_⟩
        rintro i m H ⟨rfl, hi, ι, st, acc, ys, G2, e2, sm2, hD2, r2, hl2, hc2⟩
        have envAt : ∀ {H' : Hp} {ι' : List Addr}, Ext ((g.wx ex).up [D']) H ι H' ι' → RE ((g.wx ex).up [D']) (Fz H' (((g.wx ex).up [D']).x ι')) ι' (wipe σ vs) (wipE δ vs) := fun {H' ι'} x => by
          have q := (at1.env.wipe vs)
          exact ⟨q.1, fun j d hj => let ⟨v, a, b⟩ := q.2 j d hj; ⟨v, a, ((b.sub e2.keep e2.le).wx (D' :: ex)).ext x⟩⟩
        by_cases hl : i < ds.length
        · rw [List.drop_eq_getElem_cons hl] at hc2
          simp only [dcL] at hc2
          cases eg : getI cn ds.length st i ds[i] with
          | none => rw [eg] at hc2; cases hc2
          | some d =>
            rw [eg] at hc2
            simp only [] at hc2
            obtain ⟨q1, q2⟩ := J1.go (List.getElem?_eq_getElem hl) G2 e2 eg
            refine .inr ⟨q1, fun H => i + 1 ≤ ds.length ∧ ∃ ι st acc ys, Good ((g.wx ex).up [D']) ι st H ∧ Ex2 (g.wx ex) H1 ι1 [D'] H ι ∧ (∀ b ∈ ex, H b = H1 b) ∧ H D' = some (.dK acc) ∧ KVs ((g.wx ex).up [D']) (Fz H (((g.wx ex).up [D']).x ι)) ι acc ys ∧ ys.length ≤ i + 1 ∧ dcL cn ds.length t c ek ev (wipE δ vs) (ds.drop (i + 1)) (i + 1) ys st = .ok tot sF, fun H' q => ⟨ds.length - (i + 1), by omega, rfl, q⟩, fun x H' y => ?_⟩
            obtain ⟨G3, x3, r3⟩ := q2 x H' y
            cases et : t d (wipE δ vs) with
            | none => rw [et] at hc2; cases hc2
            | some δ1 =>
              rw [et] at hc2
              simp only [] at hc2
              refine ⟨D' :: ex, ι, st, wipE δ vs, d, ⟨G3, envAt x3⟩, r3, ?_⟩
              rw [et]
              intro σ2 e4 w4
              refine ⟨w4.trans (wipe_idem _ _), ?_⟩
              have at4 : At (g.wx (D' :: ex)) H' ι st σ2 δ1 := ⟨G3, e4⟩
              refine semB_bnd at4 ?_
              cases eb : c δ1 st with
              | bad => rw [eb] at hc2; cases hc2
              | exc c s => rw [eb] at hc2; cases hc2
              | ok k1 s1 =>
                rw [eb] at hc2
                intro H5 ι5 at5 x5
                have x15 : Ext (g.wx (D' :: ex)) H ι H5 ι5 := x3.trans x5
                have e5 : Ex2 (g.wx ex) H1 ι1 [D'] H5 ι5 := ⟨e2.le.trans x15.le, e2.keep.trans x15.keep, e2.frz.trans x15.frz⟩
                have sm5 : ∀ b ∈ ex, H5 b = H1 b := fun b hb => (x15.same b (List.mem_cons_of_mem _ hb)).trans (sm2 b hb)
                have hD5 : H5 D' = some (.dK acc) := (x15.same D' List.mem_cons_self).trans hD2
                have r5 := kvs_sub x15.keep x15.le r2
                cases k1 with
                | false =>
                  simp only [if_false, Bool.false_eq_true]
                  exact ⟨hl, ι5, s1, acc, ys, at5.good, e5, sm5, hD5, r5, Nat.le_succ_of_le hl2, hc2⟩
                | true =>
                  rw [if_pos rfl]
                  simp only [] at hc2
                  refine semE_bnd at5 ?_
                  cases ee : ek δ1 s1 with
                  | bad => rw [ee] at hc2; cases hc2
                  | exc c s => rw [ee] at hc2; cases hc2
                  | ok y1 s2 =>
                    rw [ee] at hc2
                    simp only [] at hc2
                    intro v H6 ι6 at6 x6 r6
                    cases ekd : keyD y1 with
                    | none => rw [ekd] at hc2; cases hc2
                    | some ky =>
                      rw [ekd] at hc2
                      simp only [] at hc2
                      have hv := keyD_ok r6 ekd
                      refine semE_bnd at6 ?_
                      cases ev1 : ev δ1 s2 with
                      | bad => rw [ev1] at hc2; cases hc2
                      | exc c s => rw [ev1] at hc2; cases hc2
                      | ok z1 s3 =>
                        rw [ev1] at hc2
                        simp only [] at hc2
                        intro w H7 ι7 at7 x7 r7
                        have x67 := x6.trans x7
                        have hD7 : H7 D' = some (.dK acc) := (x67.same D' List.mem_cons_self).trans hD5
                        have r7' := kvs_sub x67.keep x67.le r5
                        obtain ⟨G8, s8⟩ := under_writeD (us := putK acc ky w) (g := g.wx ex) (D' := D') at7.good hD7 (fun ps z => by cases z) (fun c P z => by cases z) (fun c P z => by cases z)
                        refine ⟨acc, ky, hv, hD7, Nat.lt_of_lt_of_le (by rw [Paired.length r7']; omega) (Nat.le_trans (Nat.le_trans hl hz) szLine_le), hl, ι7, s3, putK acc ky w, putX ys ky z1, G8, ⟨e5.le.trans x67.le, (e5.keep.trans x67.keep).trans s8, (e5.frz.trans x67.frz).trans (.upd hD7 fun _ _ z => by cases z)⟩, fun b hb => ?_, upd_same, kvs_sub s8 (.refl _) (kvs_put r7 r7'), Nat.le_trans (putX_len _ _ _) (by omega), hc2⟩
                        rw [upd_ne (fun z => hDx (by rw [← z]; exact GL.in2 (g := g.wx ex) hb))]
                        exact (x67.same b (List.mem_cons_of_mem _ hb)).trans (sm5 b hb)
        · have ei : i = ds.length := by omega
          subst ei
          rw [List.drop_length] at hc2
          simp only [dcL] at hc2
          split at hc2
          · rename_i he
            have hyt : ys = tot ∧ st = sF := by cases hc2; exact ⟨rfl, rfl⟩
            obtain ⟨rfl, rfl⟩ := hyt
            refine .inl ⟨J1.stop G2 e2 he, ?_⟩
            cases ekk : k ys st with
            | bad => rw [ekk] at hh; exact hh.elim
            | exc c s => exact (hk.nx _ _ _ _ ekk).elim
            | ok d s' =>
              rw [ekk] at hh
              obtain ⟨ι', G', le', s', r'⟩ := hk.ok G2 hD2 r2 (fun m => hDx (GL.in2 (g := g.wx ex) m)) ekk
              exact hh _ _ ι' G' ⟨e2.le.trans le', e2.keep.trans s', sm2, e2.frz⟩ r'
          · cases hc2
      · exact hh.elim
    · exact hh.elim
theorem se_dc {kx vx tg iter : Expr} {ifs : List Expr} {scope : Scope} {own : List (Str × Nat)} {fi : Ev Its} {t : Tv} {c : Ev Bool} {ek ev : Ev D} {k : List (Key × D) → Store → Res D} (hk : KOkD k) (hc : X.calm = true) (hN : X.N.Nodup) (hi : PI X tg iter (SemI g E fi)) (ok : BlkOk X.N X.env.scope scope own)
    (hg : ∀ (s : Shared) (H : Hp) (C : Addr) (cl : List (Str × Addr)) (fp : List Addr), PG (X.blk s H scope (compEnvC scope cl C X.env) fp) tg (SemT g (own.map (·.2)) t)) (ht : ∀ (s : Shared) (H : Hp) (C : Addr) (cl : List (Str × Addr)) (fp : List Addr), PTs (X.blk s H scope (compEnvC scope cl C X.env) fp) ifs (SemB g E0 c))
    (hkx : ∀ (s : Shared) (H : Hp) (C : Addr) (cl : List (Str × Addr)) (fp : List Addr), PE (X.blk s H scope (compEnvC scope cl C X.env) fp) kx (SemE g E0 ek))
    (hvx : ∀ (s : Shared) (H : Hp) (C : Addr) (cl : List (Str × Addr)) (fp : List Addr), PE (X.blk s H scope (compEnvC scope cl C X.env) fp) vx (SemE g E0 ev)) (hs : ∀ x, foldedSetIterable iter X.env x = pure x := by intro _; rfl) :
    PE X (.DictComp kx vx [⟨tg, iter, ifs, 0⟩] scope pos) (SemE g E (vDcD fi t c ek ev (own.map (·.2)) k)) :=
  pe_mono (pe_dc hc hN hi ok hg ht hkx hvx hs) fun σ H Q h => tDc_of hk H Q h
/-! ### sorted over a dict's keys -/
def intKs : List (P × P) → Option (List Int)
  | [] => some []
  | (.int i, _) :: r => (intKs r).map (i :: ·)
  | _ => none
def sortI (xs : List Int) : List Int := xs.mergeSort fun a b => decide (a ≤ b)
def fSortedD : F1 := fun ds st => match ds with
  | [d] => match see st d with
    | some (.dct kvs) => match intKs kvs with
      | some ks => if ks.length < 64 ∧ ks ≠ [] then .ok (.p (.lst ((sortI ks).map .int))) st else .bad
      | none => .bad
    | _ => .bad
  | _ => .bad
theorem nx_sortedD : NoX1 fSortedD := by
  intro ds st c s e
  unfold fSortedD at e
  repeat' split at e
  all_goals cases e
theorem intKs_ok {g : GL} {F : Hp} : ∀ {vs : List (Key × V)} {ps : List (P × P)} {ks : List Int}, RpK g F vs ps → intKs ps = some ks → vs.map (·.1) = ks.map Sum.inl
  | _, _, _, .nil, h => by cases h; rfl
  | _, _, _, .cons (k := k) r t, h => by
    cases k with
    | inr x => cases h
    | inl i =>
      simp only [kP, intKs, Option.map_eq_some_iff] at h
      obtain ⟨ys, h1, rfl⟩ := h
      rw [List.map_cons, List.map_cons, intKs_ok t h1]
theorem sortI_uniq {xs ys : List Int} (hp : ys.Perm xs) (hs : ys.Pairwise (· ≤ ·)) : ys = sortI xs := by
  have h1 : (sortI xs).Perm xs := List.mergeSort_perm _ _
  have h2 : (sortI xs).Pairwise (· ≤ ·) := by
    have := List.pairwise_mergeSort (le := fun a b : Int => decide (a ≤ b)) (fun a b c h1 h2 => by simp at h1 h2 ⊢; omega) (fun a b => by simp; omega) xs
    exact this.imp fun h => by simpa using h
  exact (hp.trans h1.symm).eq_of_pairwise (fun a b _ _ h3 h4 => by omega) hs h2
theorem rps_ints' {g : GL} {F : Hp} : ∀ ns : List Int, Rps g F (ns.map V.int) (ns.map .int)
  | [] => .nil
  | n :: ns => .cons (.int n) (rps_ints' ns)
theorem see_dct (G : Good g ι st H) {v : V} {d : D} {kvs : List (P × P)} {ks : List Int} (r : RD g (Fz H (g.x ι)) ι v d) (e : see st d = some (.dct kvs)) (h : intKs kvs = some ks) (hne : ks ≠ []) : ∃ a vs, v = .ref a ∧ Rd H a (.dK vs) ∧ vs.map (·.1) = ks.map Sum.inl := by
  cases r with
  | p r =>
    cases e
    cases r with
    | dK h1 r2 =>
      refine ⟨_, _, rfl, ?_, intKs_ok r2 h⟩
      obtain ⟨_, u, h2, h3⟩ := Fz.at h1
      cases u with
      | dK kvs => cases h3; exact .inl h2
      | frz o w =>
        cases w with
        | dK kvs => cases h3; exact .inr ⟨o, h2⟩
        | _ => cases h3
      | _ => cases h3
  | ref hn =>
    rename_i n a
    simp only [Iv.see] at e
    split at e
    · rename_i c hs
      obtain ⟨a', u, h1, h2, rc⟩ := G.cell hs
      rw [hn] at h1; cases h1
      cases rc with
      | lst q => simp only [seeC, Option.map_eq_some_iff] at e; obtain ⟨_, _, z⟩ := e; cases z
      | obj q => simp only [seeC, Option.map_eq_some_iff] at e; obtain ⟨_, _, z⟩ := e; cases z
      | dK q =>
        simp only [seeC, Option.map_eq_some_iff] at e
        obtain ⟨ys, e1, z⟩ := e
        cases z
        exact ⟨_, _, rfl, .inl h2, intKs_ok (rpk_of q e1) h⟩
      | dT q =>
        simp only [seeC, Option.map_eq_some_iff] at e
        obtain ⟨ys, e1, z⟩ := e
        cases z
      | fK q =>
        simp only [seeC, Option.map_eq_some_iff] at e
        obtain ⟨ys, e1, z⟩ := e
        cases z
        exact ⟨_, _, rfl, .inr ⟨_, h2⟩, intKs_ok (rpk_of q e1) h⟩
      | fT q =>
        simp only [seeC, Option.map_eq_some_iff] at e
        obtain ⟨ys, e1, z⟩ := e
        cases z
    · cases e
theorem rc_sortedD (hc : X.calm = true) (k : CxK X g) : CallR X (.builtin "sorted") (rCal g fSortedD) := by
  rintro pins s σ H vs us Q I rv ⟨ex, ι, st, ds, G, r, d, st', e, q⟩
  have kk : X.K = (g.wx ex).K := k.K
  unfold fSortedD at e
  split at e
  · obtain ⟨v, rfl, rd⟩ := rds_one r
    split at e
    · rename_i kvs h1
      split at e
      · rename_i ks h2
        split at e
        · rename_i hal
          cases e
          obtain ⟨a, ws, rfl, h3, h4⟩ := see_dct G rd h1 h2 hal.2
          refine call_sortedDI hc pins s σ H _ us Q I rv ⟨a, ws, ks, rfl, h3, h4, hal.1, fun ys p hp hs hn => ?_⟩
          rw [sortI_uniq hp hs]
          exact new_data (o := .lst ((sortI ks).map V.int)) (x := .lst ((sortI ks).map .int)) G hn q rfl fun F' sub e => .lst e (rps_ints' _)
        · cases e
      · cases e
    · cases e
  · cases e
/-! ### dict(pairs) -/
def pairK : P → Option (Key × P)
  | .tup [k, x] => (keyP k).map fun k => (k, x)
  | _ => none
def pairsK : List P → Option (List (Key × P))
  | [] => some []
  | x :: xs => (pairK x).bind fun p => (pairsK xs).map (p :: ·)
def mergeX {α : Type} (kvs more : List (Key × α)) : List (Key × α) := more.foldl (fun acc kv => putX acc kv.1 kv.2) kvs
def fDict : F1 := fun ds st => match ds with
  | [d] => match see st d with
    | some x => match lstP x with
      | some xs => match pairsK xs with
        | some ps => .ok (.p (.dct ((mergeX [] ps).map fun kv => (kP kv.1, kv.2)))) st
        | none => .bad
      | none => .bad
    | none => .bad
  | _ => .bad
theorem nx_dict : NoX1 fDict := by
  intro ds st c s e
  unfold fDict at e
  repeat' split at e
  all_goals cases e
abbrev KPs (g : GL) (F : Hp) (vs : List (Key × V)) (ps : List (Key × P)) : Prop := Paired (fun (a : Key × V) (b : Key × P) => a.1 = b.1 ∧ Rp g F a.2 b.2) vs ps
theorem kps_any {g : GL} {F : Hp} {k : Key} : ∀ {vs : List (Key × V)} {ds : List (Key × P)}, KPs g F vs ds → (vs.any fun kv => decide (kv.1 = k)) = ds.any fun kv => decide (kv.1 = k)
  | _, _, .nil => rfl
  | (a, v) :: vs, (b, d) :: ds, .cons r t => by
    obtain ⟨e, _⟩ := r
    dsimp only at e
    subst e
    rw [List.any_cons, List.any_cons, kps_any t]
theorem kps_map {g : GL} {F : Hp} {k : Key} {z : V} {d : P} (r0 : Rp g F z d) : ∀ {vs : List (Key × V)} {ds : List (Key × P)}, KPs g F vs ds → KPs g F (vs.map fun kv => if kv.1 = k then (kv.1, z) else kv) (ds.map fun kv => if kv.1 = k then (kv.1, d) else kv)
  | _, _, .nil => .nil
  | (a, v) :: vs, (b, d') :: ds, .cons r t => by
    obtain ⟨e, r2⟩ := r
    dsimp only at e
    subst e
    rw [List.map_cons]; rw [List.map_cons]
    refine .cons ?_ (kps_map r0 t)
    dsimp only
    split
    · exact ⟨rfl, r0⟩
    · exact ⟨rfl, r2⟩
theorem kps_put {g : GL} {F : Hp} {k : Key} {z : V} {d : P} (r0 : Rp g F z d) {vs : List (Key × V)} {ds : List (Key × P)} (h : KPs g F vs ds) : KPs g F (putK vs k z) (putX ds k d) := by
  unfold putK putX
  rw [kps_any h]
  split
  · exact kps_map r0 h
  · exact pd_app h (.cons ⟨rfl, r0⟩ .nil)
theorem kps_merge {g : GL} {F : Hp} : ∀ {ms : List (Key × V)} {ps : List (Key × P)} {vs : List (Key × V)} {ds : List (Key × P)}, KPs g F ms ps → KPs g F vs ds → KPs g F (mergeK vs ms) (mergeX ds ps)
  | _, _, vs, ds, .nil, h => h
  | (a, v) :: ms, (b, d) :: ps, vs, ds, .cons r t, h => by
    obtain ⟨e, r2⟩ := r
    dsimp only at e
    subst e
    have := kps_merge (vs := putK vs a v) (ds := putX ds a d) t (kps_put r2 h)
    exact this
theorem kps_rpk {g : GL} {F : Hp} : ∀ {vs : List (Key × V)} {ps : List (Key × P)}, KPs g F vs ps → RpK g F vs (ps.map fun kv => (kP kv.1, kv.2))
  | _, _, .nil => .nil
  | (a, v) :: vs, (b, d) :: ps, .cons r t => by
    obtain ⟨e, r2⟩ := r
    dsimp only at e
    subst e
    exact .cons r2 (kps_rpk t)
theorem keyP_ok {g : GL} {F : Hp} {v : V} {x : P} {k : Key} (r : Rp g F v x) (h : keyP x = some k) : v = kV k := by
  unfold keyP at h
  split at h
  · cases h; cases r; rfl
  · cases h; cases r; rfl
  · cases h
theorem pairs_ok : ∀ {vs : List V} {xs : List P} {ps : List (Key × P)}, Rps g (Fz H (g.x ι)) vs xs → pairsK xs = some ps → ∃ (as : List Addr) (ms : List (Key × V)), vs = as.map V.ref ∧ Paired (fun p (kv : Key × V) => SqT g.K H p [kV kv.1, kv.2]) as ms ∧ KPs g (Fz H (g.x ι)) ms ps
  | _, _, _, .nil, h => by cases h; exact ⟨[], [], rfl, .nil, .nil⟩
  | _, _, _, .cons r t, h => by
    simp only [pairsK, Option.bind_eq_some_iff, Option.map_eq_some_iff] at h
    obtain ⟨p, h1, qs, h2, rfl⟩ := h
    obtain ⟨as, ms, rfl, h3, h4⟩ := pairs_ok t h2
    unfold pairK at h1
    split at h1
    · rename_i k x
      simp only [Option.map_eq_some_iff] at h1
      obtain ⟨ky, h5, rfl⟩ := h1
      cases r with
      | tup q r =>
        cases r with
        | cons r1 r =>
          cases r with
          | cons r2 r3 =>
            cases r3
            have := keyP_ok r1 h5
            subst this
            exact ⟨_ :: as, (ky, _) :: ms, rfl, .cons (sqT_of_fz (.inl (.inl q))) h3, .cons ⟨rfl, r2⟩ h4⟩
    · cases h1
theorem rc_dict (hc : X.calm = true) (k : CxK X g) : CallR X (.type "dict") (rCal g fDict) := by
  rintro pins s σ H vs us Q I rv ⟨ex, ι, st, ds, G, r, d, st', e, q⟩
  have kk : X.K = (g.wx ex).K := k.K
  unfold fDict at e
  split at e
  · obtain ⟨v, rfl, rd⟩ := rds_one r
    split at e
    · rename_i x h1
      split at e
      · rename_i xs hxs
        split at e
        · rename_i ps hps
          cases e
          have h2' : seqP x = some xs := by
            unfold lstP at hxs
            split at hxs <;> cases hxs <;> rfl
          obtain ⟨a, ws, rfl, h3, h4⟩ := see_seq G rd h1 h2'
          rcases h4 with ⟨h4, _⟩ | ⟨h4, hx2⟩
          · obtain ⟨as, ms, rfl, p1, p2⟩ := pairs_ok h3 hps
            refine call_dictP hc pins s σ H _ us Q I rv ⟨a, as, ms, rfl, kk ▸ h4, kk ▸ p1, fun p hp => ?_⟩
            exact new_data (o := .dK (mergeK [] ms)) (x := .dct ((mergeX [] ps).map fun kv => (kP kv.1, kv.2))) G hp q rfl fun F' sub e => .dK e ((kps_rpk (kps_merge p2 .nil)).sub sub)
          · rw [hx2] at hxs; cases hxs
        · cases e
      · cases e
    · cases e
  · cases e
end
end Iv
end

section
set_option Elab.async false
set_option linter.all false
set_option maxRecDepth 100000
set_option maxHeartbeats 4100000
namespace Iv
open PySem PySem.Spec PyProof.Rows L2 Gx

/-! ### sorted over a generator expression -/
def kSort (ys : List D) (st : Store) : Res D := match pAll ys with
  | some xs => if alikeP xs = true ∧ sortB xs = true ∧ ys.length ≤ szLine then .ok (.p (.lst (sortP xs))) st else .bad
  | none => .bad
section
variable {X : Cx} {g : GL} {E : XK} {k : Nat} {elt tg iter : Expr} {ifs : List Expr} {scope : Scope} {own : List (Str × Nat)} {gpos p cpos : Pos} {t : Tv} {c : Ev Bool} {e : Ev D} {fi : Ev Its} {ι : List Addr} {st : Store} {H : Hp}
theorem dep_le {b : P} : ∀ {xs : List P}, b ∈ xs → b.toD.depth ≤ PyData.depthAll (P.toDs xs) := by
  intro ys
  induction ys with
  | nil => intro h; cases h
  | cons y ys ih =>
    intro h
    rw [P.toDs, PyData.depthAll]
    rcases List.mem_cons.mp h with h | h
    · subst h; exact Nat.le_max_left _ _
    · exact Nat.le_trans (ih h) (Nat.le_max_right _ _)
theorem se_sortG (kk : CxK X g) (ok : GxOk X g k) (b : GxB X g k elt tg iter ifs scope own t c e) (hi : PI X tg iter (SemI g E fi)) (hg : Gl X "sorted") (hm : X.mg "sorted" = none) (hv : bootBuiltins "sorted" = some (.builtin "sorted"))
    (he : starEach [.GeneratorExp elt [⟨tg, iter, ifs, 0⟩] scope gpos] X.env = (false, eval (.GeneratorExp elt [⟨tg, iter, ifs, 0⟩] scope gpos) X.env) :: starEach [] X.env := by rfl) :
    PE X (.Call (.Name "sorted" p) [.GeneratorExp elt [⟨tg, iter, ifs, 0⟩] scope gpos] [] cpos) (SemE g E (vGenD fi t c e (own.map (·.2)) kSort)) := by
  refine ⟨fun pins s σ H Q I ⟨ex, ι, st, δ, at_, hh⟩ => ?_⟩
  have hK : X.K = (g.wx ex).K := kk.K
  have hu := kk.u
  unfold vGenD at hh
  split at hh
  · rename_i r s1 ef
    split at hh
    · split at hh
      · rename_i tot sF hc
        refine wpAny_Call_Name_kw (ld_blt I hg hm hv (PyProof.Rows.callWith_builtin1 ?_ he (by rfl)))
        rw [he]
        show wpAny _ _ (spliced ((false, eval (.GeneratorExp elt [⟨tg, iter, ifs, 0⟩] scope gpos) X.env) :: backTo cpos (starEach [] X.env))) _ _ s
        refine Calls.spliced_cons (thn (gx_list ok b hi I at_ ef hc) fun u s' G => Calls.spliced_nil ?_)
        unfold kSort at hh
        split at hh
        · rename_i xs hx
          split at hh
          · rename_i hz
            obtain ⟨hal, hso, hle⟩ := hz
            obtain ⟨c1, c2, c3⟩ := alike_spec hal
            refine GxM.sorted G (ok.room.mono (by omega)) I.ok.frames (fun ys x H K hY => ?_) (fun ys H s2 us hD I2 rv => ?_)
            · obtain ⟨hKK, pre, d, rest, F, ι', rfl, r1, r2⟩ := hY
              refine ⟨Nat.lt_of_lt_of_le ?_ szLine_le, hKK⟩
              rw [Paired.length r1]
              rw [List.length_append, List.length_cons] at hle
              omega
            · obtain ⟨ι', G', x', rr⟩ := hD
              have rp := rps_of rr hx
              have hlen : us.length ≤ sizeLine := by rw [← rv.length, Paired.length rr]; exact Nat.le_trans hle szLine_le
              have dp := Rps.dp rp c1
              obtain ⟨as, hr⟩ := Dp.readsAll I2 _ _ us (hK ▸ dp) rv
              rw [toDs_map] at hr
              have hAA : PySem.W.AllAlike (xs.map P.toD) := fun d hd d' hd' => c2.1 d (by rw [toDs_map]; exact hd) d' (by rw [toDs_map]; exact hd')
              have er : PySem.W.EachIs (fun v b => ∃ as, Reads (PySem.W.sortingHeap (srtNew s2.heap us) s2.heap.objs.size us) v (P.toD b) as) us xs := (PySem.W.readsAll_each P.toD hr).mono fun _ _ ⟨as, r⟩ => ⟨as, PyProof.Rows.Reads.keeps (fun b o e => PySem.W.sortingHeap_old (Nat.ne_of_lt (Heap.lt_size e)) (Heap.get?_push_of_some _ e)) r⟩
              have hs := PySem.W.sortVals_data (R := Std (g.wx ex) (Fz H ((g.wx ex).x ι'))) (enc := P.toD) (h' := PySem.W.sortingHeap (srtNew s2.heap us) s2.heap.objs.size us) false (std_in rv rp) er hAA
              refine ⟨hlen, _, PySem.W.SortsAt.data (s := { s2 with heap := PySem.W.sortingHeap (srtNew s2.heap us) s2.heap.objs.size us }) (PySem.W.each_map (R := fun v d => ∃ as, Reads (PySem.W.sortingHeap (srtNew s2.heap us) s2.heap.objs.size us) v d as) P.toD er) hAA (sortB_ok hso) (fun d hd => ?_), ?_⟩
              · obtain ⟨b, hb, rfl⟩ := List.mem_map.mp hd
                have := dep_le hb
                show X.A.units + 1 + 1 + _ < _
                omega
              · obtain ⟨zs, hv2, hr2⟩ := std_out hs
                have hoL : (srtNew s2.heap us).get? s2.heap.objs.size = some (seqObj "list" us.toArray 0) := Heap.get?_push_size _ rfl
                obtain ⟨ep, he'⟩ := sortedHeap_at (vs := us) (out := (PySem.W.sortVals (PySem.W.dataKind (PySem.W.sortingHeap (srtNew s2.heap us) s2.heap.objs.size us) (xs.map P.toD)) false us us).toArray) hoL
                have hp : H s2.heap.objs.size = none := I2.hok.fresh (Nat.le_refl _)
                have hzl : zs.length ≤ sizeLine := by rw [hv2.length, PySem.W.sortVals_length false rfl]; exact hlen
                refine ⟨.ref s2.heap.objs.size, upd H s2.heap.objs.size (.lst zs), I2.laid (t' := s2.toks) (fun b o e => ?_) (Nat.le_refl _) ⟨hzl, _, ep, hv2, he'⟩, rfl, ?_⟩
                · have hlt := Heap.lt_size e
                  exact (sortedHeap_old (h := srtNew s2.heap us) (Nat.ne_of_lt hlt) (Heap.lt_size (o := o) (Heap.get?_push_of_some _ e))).trans (Heap.get?_push_of_some _ e)
                · have := new_data (Q := Q) (o := .lst zs) (x := .lst (sortP xs)) G' hp (fun v H2 ι2 g2 x2 r2 => hh v H2 ι2 g2 (x'.trans x2) r2) rfl fun F' sub e => .lst e (hr2.sub sub)
                  exact this
          · exact hh.elim
        · exact hh.elim
      · exact hh.elim
    · exact hh.elim
  · exact hh.elim
end
end Iv
end

section
set_option Elab.async false
set_option linter.all false
set_option maxRecDepth 100000
set_option maxHeartbeats 4100000
namespace Iv
open PySem PySem.Spec PyProof.Rows L2 Gx

/-! ### a def with a list of lambdas of its own: none goes out -/
mutual
def nlP : P → Bool
  | .tup xs => nlPs xs
  | .lst xs => nlPs xs
  | .scr xs => nlPs xs
  | .dct kvs => nlKs kvs
  | .dcT kvs => nlKs kvs
  | .obj _ fs => nlFs fs
  | .lam _ => false
  | .non => true
  | .bl _ => true
  | .int _ => true
  | .str _ => true
def nlPs : List P → Bool
  | [] => true
  | x :: xs => nlP x && nlPs xs
def nlKs : List (P × P) → Bool
  | [] => true
  | (_, x) :: xs => nlP x && nlKs xs
def nlFs : List (Str × P) → Bool
  | [] => true
  | (_, x) :: xs => nlP x && nlFs xs
end
def GL.lms (g : GL) (lm : List LamD) : GL := { g with lm := lm }
section
variable {g : GL} {F : Hp} {lm : List LamD}
mutual
theorem Rp.lmUp (h0 : g.lm = []) : ∀ {v : V} {x : P}, Rp g F v x → Rp (g.lms lm) F v x
  | _, _, .non => .non
  | _, _, .bl b => .bl b
  | _, _, .int i => .int i
  | _, _, .str x => .str x
  | _, _, .tup h r => .tup h (Rps.lmUp h0 r)
  | _, _, .lst h r => .lst h (Rps.lmUp h0 r)
  | _, _, .scr h r => .scr h (Rps.lmUp h0 r)
  | _, _, .dK h r => .dK h (RpK.lmUp h0 r)
  | _, _, .dT h r => .dT h (RpT.lmUp h0 r)
  | _, _, .obj h r => .obj h (RpF.lmUp h0 r)
  | _, _, .lam h a b => by rw [h0] at h; cases h
theorem Rps.lmUp (h0 : g.lm = []) : ∀ {v : List V} {x : List P}, Rps g F v x → Rps (g.lms lm) F v x
  | _, _, .nil => .nil
  | _, _, .cons r t => .cons (Rp.lmUp h0 r) (Rps.lmUp h0 t)
theorem RpK.lmUp (h0 : g.lm = []) : ∀ {v : List (Key × V)} {x : List (P × P)}, RpK g F v x → RpK (g.lms lm) F v x
  | _, _, .nil => .nil
  | _, _, .cons r t => .cons (Rp.lmUp h0 r) (RpK.lmUp h0 t)
theorem RpT.lmUp (h0 : g.lm = []) : ∀ {v : List (List Key × V)} {x : List (P × P)}, RpT g F v x → RpT (g.lms lm) F v x
  | _, _, .nil => .nil
  | _, _, .cons r t => .cons (Rp.lmUp h0 r) (RpT.lmUp h0 t)
theorem RpF.lmUp (h0 : g.lm = []) : ∀ {v : List (Str × V)} {x : List (Str × P)}, RpF g F v x → RpF (g.lms lm) F v x
  | _, _, .nil => .nil
  | _, _, .cons r t => .cons (Rp.lmUp h0 r) (RpF.lmUp h0 t)
end
mutual
theorem Rp.lmDn : ∀ {v : V} {x : P}, Rp (g.lms lm) F v x → nlP x = true → Rp g F v x
  | _, _, .non, _ => .non
  | _, _, .bl b, _ => .bl b
  | _, _, .int i, _ => .int i
  | _, _, .str x, _ => .str x
  | _, _, .tup h r, n => .tup h (Rps.lmDn r (by unfold nlP at n; exact n))
  | _, _, .lst h r, n => .lst h (Rps.lmDn r (by unfold nlP at n; exact n))
  | _, _, .scr h r, n => .scr h (Rps.lmDn r (by unfold nlP at n; exact n))
  | _, _, .dK h r, n => .dK h (RpK.lmDn r (by unfold nlP at n; exact n))
  | _, _, .dT h r, n => .dT h (RpT.lmDn r (by unfold nlP at n; exact n))
  | _, _, .obj h r, n => .obj h (RpF.lmDn r (by unfold nlP at n; exact n))
  | _, _, .lam h a b, n => by unfold nlP at n; cases n
theorem Rps.lmDn : ∀ {v : List V} {x : List P}, Rps (g.lms lm) F v x → nlPs x = true → Rps g F v x
  | _, _, .nil, _ => .nil
  | _, _, .cons r t, n => by unfold nlPs at n; rw [Bool.and_eq_true] at n; exact .cons (Rp.lmDn r n.1) (Rps.lmDn t n.2)
theorem RpK.lmDn : ∀ {v : List (Key × V)} {x : List (P × P)}, RpK (g.lms lm) F v x → nlKs x = true → RpK g F v x
  | _, _, .nil, _ => .nil
  | _, _, .cons r t, n => by unfold nlKs at n; rw [Bool.and_eq_true] at n; exact .cons (Rp.lmDn r n.1) (RpK.lmDn t n.2)
theorem RpT.lmDn : ∀ {v : List (List Key × V)} {x : List (P × P)}, RpT (g.lms lm) F v x → nlKs x = true → RpT g F v x
  | _, _, .nil, _ => .nil
  | _, _, .cons r t, n => by unfold nlKs at n; rw [Bool.and_eq_true] at n; exact .cons (Rp.lmDn r n.1) (RpT.lmDn t n.2)
theorem RpF.lmDn : ∀ {v : List (Str × V)} {x : List (Str × P)}, RpF (g.lms lm) F v x → nlFs x = true → RpF g F v x
  | _, _, .nil, _ => .nil
  | _, _, .cons r t, n => by unfold nlFs at n; rw [Bool.and_eq_true] at n; exact .cons (Rp.lmDn r n.1) (RpF.lmDn t n.2)
end
def nlD : D → Bool
  | .p x => nlP x
  | .ref _ => true
def nlC : Cell → Bool
  | .lst ds => ds.all nlD
  | .dK ds => ds.all fun x => nlD x.2
  | .dT ds => ds.all fun x => nlD x.2
  | .fK ds => ds.all fun x => nlD x.2
  | .fT ds => ds.all fun x => nlD x.2
  | .obj _ ds => ds.all fun x => nlD x.2
variable {ι ι' : List Addr} {st s : Store} {H H' : Hp} {E : XK} {Q : VK}
theorem RD.lmUp (h0 : g.lm = []) {v : V} {d : D} (r : RD g F ι v d) : RD (g.lms lm) F ι v d := by
  cases r with
  | p r => exact .p (r.lmUp h0)
  | ref h => exact .ref h
theorem RD.lmDn {v : V} {d : D} (r : RD (g.lms lm) F ι v d) (n : nlD d = true) : RD g F ι v d := by
  cases r with
  | p r => exact .p (Rp.lmDn r n)
  | ref h => exact .ref h
theorem pd_all {α β : Type} {R S : α → β → Prop} {p : β → Bool} (k : ∀ a b, R a b → p b = true → S a b) : ∀ {xs : List α} {ys : List β}, Paired R xs ys → ys.all p = true → Paired S xs ys
  | _, _, .nil, _ => .nil
  | _, _, .cons r t, n => by
    rw [List.all_cons, Bool.and_eq_true] at n
    exact .cons (k _ _ r n.1) (pd_all k t n.2)
theorem RC.lmUp (h0 : g.lm = []) {o : HO} {c : Cell} (r : RC g F ι o c) : RC (g.lms lm) F ι o c := by
  cases r with
  | lst q => exact .lst (Paired.mapP q fun _ _ r => r.lmUp h0)
  | dK q => exact .dK (Paired.mapP q fun _ _ r => ⟨r.1, r.2.lmUp h0⟩)
  | dT q => exact .dT (Paired.mapP q fun _ _ r => ⟨r.1, r.2.lmUp h0⟩)
  | fK q => exact .fK (Paired.mapP q fun _ _ r => ⟨r.1, r.2.lmUp h0⟩)
  | fT q => exact .fT (Paired.mapP q fun _ _ r => ⟨r.1, r.2.lmUp h0⟩)
  | obj q => exact RC.obj (g := g.lms lm) (Paired.mapP q fun _ _ r => ⟨r.1, r.2.lmUp h0⟩)
theorem RC.lmDn {o : HO} {c : Cell} (r : RC (g.lms lm) F ι o c) (n : nlC c = true) : RC g F ι o c := by
  cases r with
  | lst q => exact .lst (pd_all (p := nlD) (fun _ _ r n => RD.lmDn r n) q (by unfold nlC at n; exact n))
  | dK q => exact .dK (pd_all (p := fun x => nlD x.2) (fun _ _ r n => ⟨r.1, RD.lmDn r.2 n⟩) q (by unfold nlC at n; exact n))
  | dT q => exact .dT (pd_all (p := fun x => nlD x.2) (fun _ _ r n => ⟨r.1, RD.lmDn r.2 n⟩) q (by unfold nlC at n; exact n))
  | fK q => exact .fK (pd_all (p := fun x => nlD x.2) (fun _ _ r n => ⟨r.1, RD.lmDn r.2 n⟩) q (by unfold nlC at n; exact n))
  | fT q => exact .fT (pd_all (p := fun x => nlD x.2) (fun _ _ r n => ⟨r.1, RD.lmDn r.2 n⟩) q (by unfold nlC at n; exact n))
  | obj q => exact RC.obj (g := g) (pd_all (p := fun x => nlD x.2) (fun _ _ r n => ⟨r.1, RD.lmDn r.2 n⟩) q (by unfold nlC at n; exact n))
theorem Good.lmUp (h0 : g.lm = []) (G : Good g ι st H) : Good (g.lms lm) ι st H :=
  ⟨G.nd, Paired.mapP G.cells fun _ _ ⟨o, h, r⟩ => ⟨o, h, r.lmUp h0⟩, ⟨G.tabs.t, G.tabs.l, G.tabs.d⟩, G.exs, G.dis⟩
theorem Good.lmDn (G : Good (g.lms lm) ι st H) (n : st.all nlC = true) : Good g ι st H :=
  ⟨G.nd, pd_all (p := nlC) (fun _ _ ⟨o, h, r⟩ n => ⟨o, h, RC.lmDn r n⟩) G.cells n, ⟨G.tabs.t, G.tabs.l, G.tabs.d⟩, G.exs, G.dis⟩
theorem Ext.lmX (x : Ext (g.lms lm) H ι H' ι') : Ext g H ι H' ι' := ⟨x.le, x.keep, x.same, x.frz⟩
/-- the end of such a def -/
def closeL : Res D → Res D
  | .ok d s => if nlD d = true ∧ s.all nlC = true then .ok d s else .bad
  | .exc c s => if s.all nlC = true then .exc c s else .bad
  | .bad => .bad
def fnFL (n k : Nat) (b : Sv) : F1 := fun ds st => closeL (fnF false n k b ds st)
theorem fnFL_len {n k : Nat} {b : Sv} : ∀ ds st, ds.length ≠ k → fnFL n k b ds st = .bad := fun ds st h => by unfold fnFL; rw [fnF_len ds st h]; rfl
/-- what is promised there holds here -/
theorem post_lm {r : Res D} (h : Post g H ι E (closeL r) Q) : Post (g.lms lm) H ι E r Q := by
  cases r with
  | bad => exact h
  | exc c s =>
    simp only [closeL] at h
    by_cases n : s.all nlC = true
    · rw [if_pos n] at h
      intro H' ι' G' x'
      exact h H' ι' (G'.lmDn n) x'.lmX
    · rw [if_neg n] at h
      exact h.elim
  | ok d s =>
    simp only [closeL] at h
    by_cases n : nlD d = true ∧ s.all nlC = true
    · rw [if_pos n] at h
      intro v H' ι' G' x' r'
      exact h v H' ι' (G'.lmDn n.2) x'.lmX (RD.lmDn r' n.1)
    · rw [if_neg n] at h
      exact h.elim
theorem fn_bodyL {N : List Str} {k : Nat} {b : Sv} {vs : List V} (h0 : g.lm = []) (h : SpF g k (fnFL N.length k b) vs H Q E) : SemS (g.lms lm) E b { nx := fun _ H' => Q .non H', rt := Q } (L2.start N vs) H := by
  obtain ⟨hl, ex, ι, st, ds, G, r, h⟩ := h
  refine fn_body (keep := false) (k := k) ⟨hl, ex, ι, st, ds, ?_, ?_, ?_⟩
  · exact Good.lmUp (g := g.wx ex) (lm := lm) h0 G
  · exact Paired.mapP r fun _ _ q => RD.lmUp (g := g.wx ex) (lm := lm) h0 q
  · exact post_lm (g := g.wx ex) (lm := lm) h
end
/-- the rule of such a def -/
theorem fn_okL {P : Program} {w : World} {K : PySem.W.Frag} {mg : Str → Option Value} {base : Heap} {g : GL} {x qual : Str} {params : Arguments} {body : List Stmt} {scope : Scope} {dvs : List V} {kws : List (Str × V)} {p : He.Defn} {fd : FuncData} {N ps : List Str} {k : Nat} {b : Sv} (h0 : g.lm = []) (st : Stmt) (q : Str) (F : FunD K x qual params body scope dvs kws (He.fAd K p) fd) (S : FnScope N ps scope)
    (hbody : ∀ (A : Around) (outer : List PySem.Env) (s : Shared) (H : Hp) (E : XK) (lm : List LamD), lm = lmOf q (envOfC qual scope s.heap.objs.size (He.fAd K p) (.ref (He.codeOf K p))).cells st → Room k (A.deeper (envOfC qual scope s.heap.objs.size (He.fAd K p) (.ref (He.codeOf K p)))) → PSs (cxOf (L2.CX P w) P w K mg base N qual scope (He.fAd K p) (.ref (He.codeOf K p)) A outer s H E) body (SemS (g.lms lm) E b)) :
    FnOk P w K mg base (L2.CX P w) (k + 1) (He.fAd K p) fd ps (SpF g ps.length (fnFL N.length ps.length b)) := by
  obtain ⟨_, _, dV, kV, doc, pm, an, cdv, ct, _, rfl, lk, hcd, -, -⟩ := F.ex
  obtain ⟨c, rfl⟩ := He.codeIn_ref hcd
  have e : He.codeOf K p = c := He.codeOf_eq lk rfl
  refine fn_of lk hcd S (fun vs H Q E h => h.1) fun A outer s H vs Q E hr hsp => ⟨SemS (g.lms (lmOf q (envOfC qual scope s.heap.objs.size (He.fAd K p) (.ref (He.codeOf K p))).cells st)) E b, ?_, fn_bodyL h0 hsp⟩
  rw [← e] at hr ⊢
  exact hbody A outer s H E _ rfl hr
theorem cal_ofL {P : Program} {w : World} {K : PySem.W.Frag} {mg : Str → Option Value} {base : Heap} {g : GL} {x qual : Str} {params : Arguments} {body : List Stmt} {scope : Scope} {kws : List (Str × V)} {p : He.Defn} {fd : FuncData} {N ps : List Str} {n k : Nat} {b : Sv} (F : FunD K x qual params body scope [] kws (He.fAd K p) fd)
    (h : FnOk P w K mg base (L2.CX P w) n (He.fAd K p) fd ps (SpF g k (fnFL N.length k b))) (hm : mg x = some (.ref (He.fAd K p))) (hb : Binds K fd ps []) : Cal2 P w K mg base g n x k (fnFL N.length k b) [] :=
  ⟨⟨_, _, _, _, _, h, hm, F.kp, hb, .nil, .nil⟩, fnFL_len⟩
end Iv
end

section
set_option Elab.async false
set_option linter.all false
namespace Iv
open PySem
/-- tables apart: a table's text is one -/
theorem lam_u : ∀ {L : List (Addr × Str)}, (L.map (·.1)).Nodup → ∀ {a : Addr} {q : Str}, (a, q) ∈ L → ∀ p ∈ L, p.1 = a → p.2 = q
  | [], _, a, q, h, _, _, _ => by cases h
  | x :: L, nd, a, q, h, p, hp, e => by
    rw [List.map_cons, List.nodup_cons] at nd
    rcases List.mem_cons.mp h with h | h <;> rcases List.mem_cons.mp hp with hp | hp
    · rw [hp, ← h]
    · refine absurd (List.mem_map_of_mem (f := (·.1)) hp) ?_
      rw [e, show a = x.1 by rw [← h]]; exact nd.1
    · refine absurd (List.mem_map_of_mem (f := (·.1)) h) ?_
      rw [show (a, q).1 = x.1 by rw [← hp]; exact e.symm]; exact nd.1
    · exact lam_u nd.2 h p hp e
theorem lam_d {T : List Addr} {L : List (Addr × Str)} {cs : List Addr} (e : cs = T ++ L.map (·.1)) (nd : cs.Nodup) : (∀ P ∈ T, P ∈ cs) ∧ (∀ q ∈ L, q.1 ∈ cs) ∧ (∀ q ∈ L, q.1 ∉ T) ∧ (L.map (·.1)).Nodup := by
  subst e
  have h := List.nodup_append.mp nd
  exact ⟨fun P hP => List.mem_append_left _ hP, fun q hq => List.mem_append_right _ (List.mem_map_of_mem (f := (·.1)) hq), fun q hq m => h.2.2 _ m _ (List.mem_map_of_mem (f := (·.1)) hq) rfl, h.2.1⟩
end Iv
end

section
set_option Elab.async false
set_option linter.all false
set_option maxRecDepth 100000
set_option maxHeartbeats 4100000
namespace Iv
open PySem PySem.Spec PyProof.Rows L2 Gx
/-! ### a < b < c < d -/
section
variable {X : Cx} {g : GL} {E : XK} {pos : Pos} {a b c d : Expr} {fa fb fc fd : Ev D} {ta tb tc td : TE}
def tChain3 (r r' r'' : R2) (ta tb tc td : TE) : TE := fun σ H Q => ta σ H fun x H1 => tb σ H1 fun y H2 => r x y H2 fun z H3 => ∃ k, z = .bl k ∧
  (if k = true then tc σ H3 fun w' H4 => r' y w' H4 fun z2 H5 => ∃ k2, z2 = .bl k2 ∧ (if k2 = true then td σ H5 fun u H6 => r'' w' u H6 Q else Q (.bl false) H5) else Q (.bl false) H3)
theorem pe_chain3 {op op' op'' : CmpOp} {r r' r'' : R2} (ho : OpR X (compareOp op) r) (ho' : OpR X (compareOp op') r') (ho'' : OpR X (compareOp op'') r'') (ha : PE X a ta) (hb : PE X b tb) (hc : PE X c tc) (hd : PE X d td)
    (hm : lastMarks [op, op', op''] [b, c, d] = false := by with_unfolding_all rfl) : PE X (.Compare a [op, op', op''] [b, c, d] pos) (tChain3 r r' r'' ta tb tc td) := by
  refine ⟨fun pins s σ H Q I h => ?_⟩
  refine Compare_chain ?_ hm
  refine thn (ha.run pins s σ H _ I h) ?_
  rintro v s1 ⟨x, H1, I1, r1, q1⟩
  refine chain_link (thn (hb.run pins s1 σ H1 _ I1 q1) ?_)
  rintro u s2 ⟨y, H2, I2, r2, q2⟩
  refine thn (ho pins s2 σ H2 x y v u _ I2 r1 r2 q2) ?_
  rintro d s3 ⟨z, H3, I3, r3, k, e, q3⟩
  subst e
  cases r3
  refine wpAny_truthy_bool ?_
  cases k with
  | false => refine ite_ff ?_; exact ⟨.bl false, H3, I3, rfl, q3⟩
  | true =>
    refine ite_tt (chain_link (thn (hc.run pins s3 σ H3 _ I3 q3) fun w' s4 ⟨z', H4, I4, r4, q4⟩ => thn (ho' pins s4 σ H4 y z' u w' _ I4 r2 r4 q4) fun d2 s5 ⟨z2, H5, I5, r5, k2, e2, q5⟩ => ?_))
    subst e2
    cases r5
    refine wpAny_truthy_bool ?_
    cases k2 with
    | false => exact ite_ff ⟨.bl false, H5, I5, rfl, q5⟩
    | true => exact ite_tt (chain_last (thn (hd.run pins s5 σ H5 _ I5 q5) fun u6 s6 ⟨z6, H6, I6, r6, q6⟩ => ho'' pins s6 σ H6 z' z6 w' u6 Q I6 r4 r6 q6))
theorem pt_chain3 {op op' op'' : CmpOp} {r r' r'' : R2} (ho : OpR X (compareOp op) r) (ho' : OpR X (compareOp op') r') (ho'' : OpR X (compareOp op'') r'') (ha : PE X a ta) (hb : PE X b tb) (hc : PE X c tc) (hd : PE X d td)
    (hm : lastMarks [op, op', op''] [b, c, d] = false := by with_unfolding_all rfl) : PT X (.Compare a [op, op', op''] [b, c, d] pos) (tTest (tChain3 r r' r'' ta tb tc td)) := by
  refine ⟨fun pins s σ H Q I h => ?_⟩
  refine isTrue_chain ?_ hm
  refine thn (ha.run pins s σ H _ I h) ?_
  rintro v s1 ⟨x, H1, I1, r1, q1⟩
  refine test_link (thn (hb.run pins s1 σ H1 _ I1 q1) ?_)
  rintro u s2 ⟨y, H2, I2, r2, q2⟩
  refine thn (ho pins s2 σ H2 x y v u _ I2 r1 r2 q2) ?_
  rintro d s3 ⟨z, H3, I3, r3, k, e, q3⟩
  subst e
  cases r3
  refine wpAny_truthy_bool ?_
  cases k with
  | false =>
    obtain ⟨k', e', q'⟩ := q3
    cases e'
    exact ite_ff ⟨H3, I3, q'⟩
  | true =>
    refine ite_tt (test_link (thn (hc.run pins s3 σ H3 _ I3 q3) fun w' s4 ⟨z', H4, I4, r4, q4⟩ => thn (ho' pins s4 σ H4 y z' u w' _ I4 r2 r4 q4) fun d' s5 ⟨z2, H5, I5, r5, k2, e2, q5⟩ => ?_))
    subst e2
    cases r5
    refine wpAny_truthy_bool ?_
    cases k2 with
    | false =>
      obtain ⟨k', e', q'⟩ := q5
      cases e'
      exact ite_ff ⟨H5, I5, q'⟩
    | true =>
      refine ite_tt (test_last (thn (hd.run pins s5 σ H5 _ I5 q5) fun u6 s6 ⟨z6, H6, I6, r6, q6⟩ => thn (ho'' pins s6 σ H6 z' z6 w' u6 _ I6 r4 r6 q6) fun d3 s7 ⟨z7, H7, I7, r7, k3, e3, q7⟩ => ?_))
      subst e3
      cases r7
      exact wpAny_truthy_bool ⟨H7, I7, q7⟩
def vCh3 (f f' f'' : D → D → Store → Res D) (fa fb fc fd : Ev D) : Ev D := fun δ st => (fa δ st).bnd fun x s1 => (fb δ s1).bnd fun y s2 => (f x y s2).bnd fun z s3 => match z with
  | .p (.bl true) => (fc δ s3).bnd fun w s4 => (f' y w s4).bnd fun z2 s5 => match z2 with
    | .p (.bl true) => (fd δ s5).bnd fun u s6 => f'' w u s6
    | .p (.bl false) => .ok (.p (.bl false)) s5
    | _ => .bad
  | .p (.bl false) => .ok (.p (.bl false)) s3
  | _ => .bad
theorem tChain3_of {r r' r'' : R2} {f f' f'' : D → D → Store → Res D} (hs : OpSem g r f) (hs' : OpSem g r' f') (hs'' : OpSem g r'' f'') : ∀ σ H Q, SemE g E (vCh3 f f' f'' fa fb fc fd) σ H Q → tChain3 r r' r'' (SemE g E fa) (SemE g E fb) (SemE g E fc) (SemE g E fd) σ H Q := by
  rintro σ H Q ⟨ex, ι, st, δ, at_, h⟩
  refine semE_bnd at_ ?_
  unfold vCh3 at h
  cases ea : fa δ st with
  | bad => rw [ea] at h; exact h
  | exc c s1 => rw [ea] at h; exact h
  | ok x s1 =>
    rw [ea] at h
    intro v H1 ι1 at1 x1 r1
    refine semE_bnd at1 ?_
    have h := Post.ext x1 h
    simp only [Res.bnd] at h
    cases eb : fb δ s1 with
    | bad => rw [eb] at h; exact h
    | exc c s2 => rw [eb] at h; exact h
    | ok y s2 =>
      rw [eb] at h
      intro w H2 ι2 at2 x2 r2
      have h := Post.ext x2 h
      simp only [] at h
      refine hs (E := E) at2.good (r1.ext x2) r2 ?_
      cases ez : f x y s2 with
      | bad => rw [ez] at h; exact h
      | exc c s3 => rw [ez] at h; exact h
      | ok z s3 =>
        rw [ez] at h
        intro u H3 ι3 g3 x3 r3
        have h := Post.ext x3 h
        simp only [] at h
        cases r3 with
        | ref _ => exact h.elim
        | p r3 =>
          cases r3 with
          | bl k =>
            refine ⟨k, rfl, ?_⟩
            cases k with
            | false => exact h _ H3 ι3 g3 (.refl _ _) (.p (.bl false))
            | true =>
              rw [if_pos rfl]
              have at3 := at2.ext x3 g3
              refine semE_bnd at3 ?_
              cases ec : fc δ s3 with
              | bad => rw [ec] at h; exact h
              | exc c s3 => rw [ec] at h; exact h
              | ok q s4 =>
                rw [ec] at h
                intro u4 H4 ι4 at4 x4 r4
                have h := Post.ext x4 h
                simp only [] at h
                refine hs' (E := E) at4.good ((r2.ext x3).ext x4) r4 ?_
                cases ez2 : f' y q s4 with
                | bad => rw [ez2] at h; exact h
                | exc c s5 => rw [ez2] at h; exact h
                | ok z2 s5 =>
                  rw [ez2] at h
                  intro u5 H5 ι5 g5 x5 r5
                  have h := Post.ext x5 h
                  simp only [] at h
                  cases r5 with
                  | ref _ => exact h.elim
                  | p r5 =>
                    cases r5 with
                    | bl k2 =>
                      refine ⟨k2, rfl, ?_⟩
                      cases k2 with
                      | false => exact h _ H5 ι5 g5 (.refl _ _) (.p (.bl false))
                      | true =>
                        rw [if_pos rfl]
                        have at5 := at4.ext x5 g5
                        refine semE_bnd at5 ?_
                        cases ed : fd δ s5 with
                        | bad => rw [ed] at h; exact h
                        | exc c s6 => rw [ed] at h; exact h
                        | ok q6 s6 =>
                          rw [ed] at h
                          intro u6 H6 ι6 at6 x6 r6
                          exact hs'' at6.good ((r4.ext x5).ext x6) r6 (Post.ext x6 h)
                    | _ => exact h.elim
          | _ => exact h.elim
theorem schn3 {op op' op'' : CmpOp} {f f' f'' : D → D → Store → Res D} (k : CxK X g) (ha : PE X a (SemE g E fa)) (hb : PE X b (SemE g E fb)) (hc : PE X c (SemE g E fc)) (hd : PE X d (SemE g E fd)) (h : cmpF op = some f := by rfl) (h' : cmpF op' = some f' := by rfl) (h'' : cmpF op'' = some f'' := by rfl)
    (hm : lastMarks [op, op', op''] [b, c, d] = false := by with_unfolding_all rfl) : PE X (.Compare a [op, op', op''] [b, c, d] pos) (SemE g E (vCh3 f f' f'' fa fb fc fd)) :=
  pe_mono (pe_chain3 (cmp_or k h).1 (cmp_or k h').1 (cmp_or k h'').1 ha hb hc hd hm) (tChain3_of (opSem_of (cmp_or k h).2) (opSem_of (cmp_or k h').2) (opSem_of (cmp_or k h'').2))
theorem tchn3 {op op' op'' : CmpOp} {f f' f'' : D → D → Store → Res D} (k : CxK X g) (ha : PE X a (SemE g E fa)) (hb : PE X b (SemE g E fb)) (hc : PE X c (SemE g E fc)) (hd : PE X d (SemE g E fd)) (h : cmpF op = some f := by rfl) (h' : cmpF op' = some f' := by rfl) (h'' : cmpF op'' = some f'' := by rfl)
    (hm : lastMarks [op, op', op''] [b, c, d] = false := by with_unfolding_all rfl) : PT X (.Compare a [op, op', op''] [b, c, d] pos) (SemB g E (tstB (vCh3 f f' f'' fa fb fc fd))) :=
  pt_mono (pt_chain3 (cmp_or k h).1 (cmp_or k h').1 (cmp_or k h'').1 ha hb hc hd hm) (tTest_of (tChain3_of (opSem_of (cmp_or k h).2) (opSem_of (cmp_or k h').2) (opSem_of (cmp_or k h'').2)))
end
end Iv
end

section
set_option Elab.async false
set_option linter.all false
set_option maxRecDepth 100000
set_option maxHeartbeats 4100000
namespace Iv
open PySem PySem.Spec PyProof.Rows L2 Gx
/-- f() -/
theorem scall0 {X : Cx} {g : GL} {E : XK} {pos p : Pos} {n j k : Nat} {x : Str} {ff : F1} {dds : List D} (c : Cal2 X.prog X.w X.K X.mg X.base g n x k ff dds) (hr : Room j X.A) (hn : n ≤ j) (hg : Gl X x) (hx : Passes (L2.CX X.prog X.w) X E)
    (hdb : (x == ("__debug__" : Str)) = false := by decide) : PE X (.Call (.Name x p) [] [] pos) (SemE g E (vFn ff aN dds)) := by
  obtain ⟨f, fd, ps, ds, dvs, F, hm, hk, hb, hd, hdd⟩ := c.ex
  refine pe_mono (pe_call0 F (hr.mono hn) hg hm hk hb hd hx hdb) fun σ H Q q => ?_
  have z := tCall_of (fa := aN) hdd c.len σ H Q q
  obtain ⟨ex, ι, st, δ, at_, z⟩ := z
  exact z [] H ι at_.good (.refl _ _) .nil
end Iv
end

section
set_option Elab.async false
set_option linter.all false
set_option maxRecDepth 100000
set_option maxHeartbeats 4100000
namespace Iv
open PySem PySem.Spec PyProof.Rows L2 Gx
/-! ### dicts: keys of one piece, of several -/
inductive KX where
  | k (k : Key) | t (ks : List Key)
def keysP : List P → Option (List Key)
  | [] => some []
  | x :: xs => match keyP x, keysP xs with
    | some k, some ks => some (k :: ks)
    | _, _ => none
def kxP : P → Option KX
  | .int i => some (.k (.inl i))
  | .str x => some (.k (.inr x))
  | .tup xs => (keysP xs).map .t
  | _ => none
def kxD : D → Option KX
  | .p x => kxP x
  | .ref _ => none
def getX {κ α : Type} [DecidableEq κ] (k : κ) : List (κ × α) → Option α
  | [] => none
  | (j, x) :: r => if j = k then some x else getX k r
def putZ {κ α : Type} [DecidableEq κ] (kvs : List (κ × α)) (k : κ) (x : α) : List (κ × α) := match getX k kvs with
  | some _ => kvs.map fun q => if q.1 = k then (q.1, x) else q
  | none => kvs ++ [(k, x)]
def tupKs : P → Option (List Key)
  | .tup xs => keysP xs
  | _ => none
def getK (k : Key) : List (P × P) → Option P
  | [] => none
  | (q, x) :: r => if keyP q = some k then some x else getK k r
def getT (k : List Key) : List (P × P) → Option P
  | [] => none
  | (q, x) :: r => if tupKs q = some k then some x else getT k r
/-- what stands at a key; none: it cannot be told -/
def dLook (st : Store) (d : D) (k : KX) : Option (Option D) := match d, k with
  | .p (.dct ps), .k k => some ((getK k ps).map .p)
  | .p (.dcT ps), .t k => some ((getT k ps).map .p)
  | .ref n, .k k => match st[n]? with
    | some (.dK kvs) => some (getX k kvs)
    | some (.fK kvs) => some (getX k kvs)
    | _ => none
  | .ref n, .t k => match st[n]? with
    | some (.dT kvs) => some (getX k kvs)
    | some (.fT kvs) => some (getX k kvs)
    | _ => none
  | _, _ => none
section
variable {X : Cx} {g : GL} {E : XK} {pos : Pos} {a b e : Expr} {ι : List Addr} {st : Store} {H F : Hp}
theorem keyP_kP (k : Key) : keyP (kP k) = some k := by cases k <;> rfl
theorem keysP_kP : ∀ ks : List Key, keysP (ks.map kP) = some ks
  | [] => rfl
  | k :: ks => by simp [keysP, keyP_kP, keysP_kP ks]
theorem keysP_ok {g : GL} {F : Hp} : ∀ {xs : List P} {ks : List Key} {vs : List V}, Rps g F vs xs → keysP xs = some ks → vs = ks.map kV
  | _, _, _, .nil, e => by cases e; rfl
  | _, ks, _, .cons (x := x) (xs := xs) r t, e => by
    unfold keysP at e
    split at e
    · rename_i k ks' h1 h2
      cases e
      rw [List.map_cons, ← keysP_ok t h2, ← keyP_ok r h1]
    · cases e
/-- what is found stands for what is told -/
def LkR (g : GL) (F : Hp) (ι : List Addr) : Option V → Option D → Prop
  | some v, some d => RD g F ι v d
  | none, none => True
  | _, _ => False
def LkP (g : GL) (F : Hp) : Option V → Option P → Prop
  | some v, some d => Rp g F v d
  | none, none => True
  | _, _ => False
theorem LkP.d {g : GL} {F : Hp} {ι : List Addr} : ∀ {v : Option V} {x : Option P}, LkP g F v x → LkR g F ι v (x.map .p)
  | some _, some _, h => .p h
  | none, none, _ => trivial
  | some _, none, h => h.elim
  | none, some _, h => h.elim
theorem LkR.isSome {g : GL} {F : Hp} {ι : List Addr} : ∀ {v : Option V} {x : Option D}, LkR g F ι v x → v.isSome = x.isSome
  | some _, some _, _ => rfl
  | none, none, _ => rfl
  | some _, none, h => h.elim
  | none, some _, h => h.elim
theorem LkR.get {g : GL} {F : Hp} {ι : List Addr} {d : D} : ∀ {v : Option V}, LkR g F ι v (some d) → ∃ z, v = some z ∧ RD g F ι z d
  | some z, h => ⟨z, rfl, h⟩
  | none, h => h.elim
theorem getX_val {κ : Type} [DecidableEq κ] {g : GL} {F : Hp} {ι : List Addr} {k : κ} : ∀ {vs : List (κ × V)} {ds : List (κ × D)}, Paired (fun (a : κ × V) (b : κ × D) => a.1 = b.1 ∧ RD g F ι a.2 b.2) vs ds → LkR g F ι (valV vs k) (getX k ds)
  | _, _, .nil => trivial
  | (a, v) :: vs, (b, d) :: ds, .cons r t => by
    obtain ⟨e, r2⟩ := r
    dsimp only at e r2
    subst e
    unfold getX
    by_cases h : a = k
    · rw [if_pos h, valV_pos h]; exact r2
    · rw [if_neg h, valV_neg h]; exact getX_val t
theorem getK_val {g : GL} {F : Hp} {k : Key} : ∀ {vs : List (Key × V)} {ps : List (P × P)}, RpK g F vs ps → LkP g F (valV vs k) (getK k ps)
  | _, _, .nil => trivial
  | _, _, .cons (k := j) r t => by
    unfold getK
    rw [keyP_kP]
    by_cases h : j = k
    · rw [if_pos (by rw [h]), valV_pos h]; exact r
    · rw [if_neg (fun z => h (Option.some.inj z)), valV_neg h]; exact getK_val t
theorem getT_val {g : GL} {F : Hp} {k : List Key} : ∀ {vs : List (List Key × V)} {ps : List (P × P)}, RpT g F vs ps → LkP g F (valV vs k) (getT k ps)
  | _, _, .nil => trivial
  | _, _, .cons (k := j) r t => by
    unfold getT
    rw [show tupKs (P.tup (j.map kP)) = some j from keysP_kP j]
    by_cases h : j = k
    · rw [if_pos (by rw [h]), valV_pos h]; exact r
    · rw [if_neg (fun z => h (Option.some.inj z)), valV_neg h]; exact getT_val t
theorem rd_fzK {a : Addr} {kvs : List (Key × V)} {ι : List Addr} (h : Fz H ι a = some (.dK kvs)) : Rd H a (.dK kvs) := by
  obtain ⟨_, u, h2, h3⟩ := Fz.at h
  cases u with
  | dK kvs => cases h3; exact .inl h2
  | frz o w =>
    cases w with
    | dK kvs => cases h3; exact .inr ⟨o, h2⟩
    | _ => cases h3
  | _ => cases h3
theorem rd_fzT {a : Addr} {kvs : List (List Key × V)} {ι : List Addr} (h : Fz H ι a = some (.dT kvs)) : Rd H a (.dT kvs) := by
  obtain ⟨_, u, h2, h3⟩ := Fz.at h
  cases u with
  | dT kvs => cases h3; exact .inl h2
  | frz o w =>
    cases w with
    | dT kvs => cases h3; exact .inr ⟨o, h2⟩
    | _ => cases h3
  | _ => cases h3
/-- a key's value -/
def KxV (H : Hp) (v : V) : KX → Prop
  | .k k => v = kV k
  | .t ks => ∃ b, v = .ref b ∧ H b = some (.tup (ks.map kV))
theorem kx_ok {v : V} {d : D} {kx : KX} (r : RD g (Fz H (g.x ι)) ι v d) (h : kxD d = some kx) : KxV H v kx := by
  cases r with
  | ref _ => cases h
  | p r =>
    cases r with
    | int i => cases h; rfl
    | str x => cases h; rfl
    | tup h1 r1 =>
      obtain ⟨ks, h2, rfl⟩ := Option.map_eq_some_iff.mp (show (keysP _).map KX.t = some kx from h)
      refine ⟨_, rfl, ?_⟩
      rw [Fz.tup h1, keysP_ok r1 h2]
    | _ => cases h
theorem cell_k (G : Good g ι st H) {v : V} {n : Nat} {kvs : List (Key × D)} (r : RD g (Fz H (g.x ι)) ι v (.ref n)) (h : st[n]? = some (.dK kvs)) : ∃ a vs, v = .ref a ∧ ι[n]? = some a ∧ H a = some (.dK vs) ∧ KVs g (Fz H (g.x ι)) ι vs kvs := by
  cases r with
  | ref hn =>
    obtain ⟨c, w, h3, h4, rc⟩ := G.cell' hn
    rw [h] at h3; cases h3
    cases rc with
    | dK z => exact ⟨_, _, rfl, hn, h4, z⟩
theorem cell_t (G : Good g ι st H) {v : V} {n : Nat} {kvs : List (List Key × D)} (r : RD g (Fz H (g.x ι)) ι v (.ref n)) (h : st[n]? = some (.dT kvs)) : ∃ a vs, v = .ref a ∧ ι[n]? = some a ∧ H a = some (.dT vs) ∧ Paired (fun (a : List Key × V) (b : List Key × D) => a.1 = b.1 ∧ RD g (Fz H (g.x ι)) ι a.2 b.2) vs kvs := by
  cases r with
  | ref hn =>
    obtain ⟨c, w, h3, h4, rc⟩ := G.cell' hn
    rw [h] at h3; cases h3
    cases rc with
    | dT z => exact ⟨_, _, rfl, hn, h4, z⟩
theorem cell_fk (G : Good g ι st H) {v : V} {n : Nat} {kvs : List (Key × D)} (r : RD g (Fz H (g.x ι)) ι v (.ref n)) (h : st[n]? = some (.fK kvs)) : ∃ a o vs, v = .ref a ∧ ι[n]? = some a ∧ H a = some (.frz o (.dK vs)) ∧ KVs g (Fz H (g.x ι)) ι vs kvs := by
  cases r with
  | ref hn =>
    obtain ⟨c, w, h3, h4, rc⟩ := G.cell' hn
    rw [h] at h3; cases h3
    cases rc with
    | fK z => exact ⟨_, _, _, rfl, hn, h4, z⟩
theorem cell_ft (G : Good g ι st H) {v : V} {n : Nat} {kvs : List (List Key × D)} (r : RD g (Fz H (g.x ι)) ι v (.ref n)) (h : st[n]? = some (.fT kvs)) : ∃ a o vs, v = .ref a ∧ ι[n]? = some a ∧ H a = some (.frz o (.dT vs)) ∧ Paired (fun (a : List Key × V) (b : List Key × D) => a.1 = b.1 ∧ RD g (Fz H (g.x ι)) ι a.2 b.2) vs kvs := by
  cases r with
  | ref hn =>
    obtain ⟨c, w, h3, h4, rc⟩ := G.cell' hn
    rw [h] at h3; cases h3
    cases rc with
    | fT z => exact ⟨_, _, _, rfl, hn, h4, z⟩
/-- what the dict holds there -/
theorem look_ok (G : Good g ι st H) {v y : V} {d dk : D} {kx : KX} {o : Option D} (r : RD g (Fz H (g.x ι)) ι v d) (ry : RD g (Fz H (g.x ι)) ι y dk) (hk : kxD dk = some kx) (h : dLook st d kx = some o) :
    ∃ a w, v = .ref a ∧ DGet H a y w ∧ LkR g (Fz H (g.x ι)) ι w o := by
  have ky := kx_ok ry hk
  clear hk
  unfold dLook at h
  split at h
  · cases h
    cases r with
    | p r =>
      cases r with
      | dK h1 r1 => exact ⟨_, _, rfl, .inl ⟨_, _, rd_fzK h1, ky, rfl⟩, (getK_val r1).d⟩
  · cases h
    obtain ⟨b, rfl, kb⟩ := ky
    cases r with
    | p r =>
      cases r with
      | dT h1 r1 => exact ⟨_, _, rfl, .inr ⟨_, _, b, rd_fzT h1, rfl, kb, rfl⟩, (getT_val r1).d⟩
  · split at h
    · rename_i hs
      cases h
      obtain ⟨a, vs, rfl, _, h2, h3⟩ := cell_k G r hs
      exact ⟨a, _, rfl, .inl ⟨_, _, .inl h2, ky, rfl⟩, getX_val h3⟩
    · rename_i hs
      cases h
      obtain ⟨a, o, vs, rfl, _, h2, h3⟩ := cell_fk G r hs
      exact ⟨a, _, rfl, .inl ⟨_, _, .inr ⟨o, h2⟩, ky, rfl⟩, getX_val h3⟩
    · cases h
  · split at h
    · rename_i hs
      cases h
      obtain ⟨b, rfl, kb⟩ := ky
      obtain ⟨a, vs, rfl, _, h2, h3⟩ := cell_t G r hs
      exact ⟨a, _, rfl, .inr ⟨_, _, b, .inl h2, rfl, kb, rfl⟩, getX_val h3⟩
    · rename_i hs
      cases h
      obtain ⟨b, rfl, kb⟩ := ky
      obtain ⟨a, o, vs, rfl, _, h2, h3⟩ := cell_ft G r hs
      exact ⟨a, _, rfl, .inr ⟨_, _, b, .inr ⟨o, h2⟩, rfl, kb, rfl⟩, getX_val h3⟩
    · cases h
  · cases h
/-- d[k] -/
def oDx (d k : D) (st : Store) : Res D := match kxD k with
  | some kx => match dLook st d kx with
    | some (some x) => .ok x st
    | _ => .bad
  | none => .bad
theorem se_dx {fa fb : Ev D} (k : CxK X g) (ha : PE X a (SemE g E fa)) (hb : PE X b (SemE g E fb)) (hs : NoSl b) : PE X (.Subscript a b pos) (SemE g E (v2 oDx fa fb)) := by
  refine pe_mono (pe_dget (by have := k.u; omega) ha hb hs) fun σ H Q ⟨ex, ι, st, δ, at_, h⟩ => ?_
  refine semE_bnd at_ ?_
  unfold v2 at h
  cases ea : fa δ st with
  | bad => rw [ea] at h; exact h
  | exc c s1 => rw [ea] at h; exact h
  | ok x s1 =>
    rw [ea] at h
    intro v1 H1 ι1 at1 x1 r1
    have h := Post.ext x1 h
    simp only [Res.bnd] at h
    refine semE_bnd at1 ?_
    cases eb : fb δ s1 with
    | bad => rw [eb] at h; exact h
    | exc c s2 => rw [eb] at h; exact h
    | ok y s2 =>
      rw [eb] at h
      intro v2 H2 ι2 at2 x2 r2
      have h := Post.ext x2 h
      simp only [oDx] at h
      split at h
      · rename_i kx hk
        split at h
        · rename_i z hz
          obtain ⟨a', w, rfl, q1, qq⟩ := look_ok at2.good (r1.ext x2) r2 hk hz
          obtain ⟨z', q2, q3⟩ := qq.get
          subst q2
          exact ⟨a', z', rfl, q1, h _ H2 ι2 at2.good (.refl _ _) q3⟩
        · exact h.elim
      · exact h.elim
/-- k in d -/
def oDin (neg : Bool) (k d : D) (st : Store) : Res D := match kxD k with
  | some kx => match dLook st d kx with
    | some o => .ok (.p (.bl (if neg = true then !o.isSome else o.isSome))) st
    | _ => .bad
  | none => .bad
theorem noX_din {neg : Bool} : NoX (oDin neg) := by
  intro x y st c s e
  unfold oDin at e
  repeat' split at e
  all_goals cases e
theorem or_din (k : CxK X g) : OpR X (compareOp .In) (rSem g (oDin false)) := by
  rintro pins s σ H x y v u Q I rx ry ⟨ex, ι, st, dx, dy, G, r1, r2, d, st', e, q⟩
  unfold oDin at e
  split at e
  · rename_i kx hk
    split at e
    · rename_i o ho
      cases e
      obtain ⟨a', w, rfl, q1, q2⟩ := look_ok G r2 r1 hk ho
      cases (show u = Value.ref a' from ry)
      refine d_in (by have := k.u; omega) I q1 rx fun s' I' => ⟨.bl w.isSome, _, I', rfl, ?_⟩
      rw [q2.isSome]
      exact q _ H ι G (.refl _ _) (.p (.bl _))
    · cases e
  · cases e
theorem or_dnotin (k : CxK X g) : OpR X (compareOp .NotIn) (rSem g (oDin true)) := by
  rintro pins s σ H x y v u Q I rx ry ⟨ex, ι, st, dx, dy, G, r1, r2, d, st', e, q⟩
  unfold oDin at e
  split at e
  · rename_i kx hk
    split at e
    · rename_i o ho
      cases e
      obtain ⟨a', w, rfl, q1, q2⟩ := look_ok G r2 r1 hk ho
      cases (show u = Value.ref a' from ry)
      refine d_notIn (by have := k.u; omega) I q1 rx fun s' I' => ⟨.bl (!w.isSome), _, I', rfl, ?_⟩
      rw [q2.isSome]
      exact q _ H ι G (.refl _ _) (.p (.bl _))
    · cases e
  · cases e
theorem sdinn (k : CxK X g) {fa fb : Ev D} (ha : PE X a (SemE g E fa)) (hb : PE X b (SemE g E fb)) (hm : behindInMarks .In b = false := by with_unfolding_all rfl) : PE X (.Compare a [.In] [b] pos) (SemE g E (v2 (oDin false) fa fb)) := se_cmp (or_din k) (opSem_of noX_din) ha hb hm
theorem sdnotin (k : CxK X g) {fa fb : Ev D} (ha : PE X a (SemE g E fa)) (hb : PE X b (SemE g E fb)) (hm : behindInMarks .NotIn b = false := by with_unfolding_all rfl) : PE X (.Compare a [.NotIn] [b] pos) (SemE g E (v2 (oDin true) fa fb)) := se_cmp (or_dnotin k) (opSem_of noX_din) ha hb hm
theorem tdinn (k : CxK X g) {fa fb : Ev D} (ha : PE X a (SemE g E fa)) (hb : PE X b (SemE g E fb)) (hm : behindInMarks .In b = false := by with_unfolding_all rfl) : PT X (.Compare a [.In] [b] pos) (SemB g E (tstB (v2 (oDin false) fa fb))) := st_cmp (or_din k) (opSem_of noX_din) ha hb hm
theorem tdnotin (k : CxK X g) {fa fb : Ev D} (ha : PE X a (SemE g E fa)) (hb : PE X b (SemE g E fb)) (hm : behindInMarks .NotIn b = false := by with_unfolding_all rfl) : PT X (.Compare a [.NotIn] [b] pos) (SemB g E (tstB (v2 (oDin true) fa fb))) := st_cmp (or_dnotin k) (opSem_of noX_din) ha hb hm
/-- {} -/
def vNewK : Ev D := fun _ st => .ok (.ref st.length) (st ++ [.dK []])
def vNewT : Ev D := fun _ st => .ok (.ref st.length) (st ++ [.dT []])
theorem se_newK : PE X (.Dict [] [] pos) (SemE g E vNewK) := by
  refine pe_mono pe_dnewK fun σ H Q ⟨ex, ι, st, δ, at_, h⟩ p hp => ?_
  obtain ⟨G', x'⟩ := good_cell (c := .dK []) at_.good hp (.dK .nil)
  exact h _ _ _ G' x' (.ref (by rw [← at_.good.len]; simp))
theorem se_newT : PE X (.Dict [] [] pos) (SemE g E vNewT) := by
  refine pe_mono pe_dnewT fun σ H Q ⟨ex, ι, st, δ, at_, h⟩ p hp => ?_
  obtain ⟨G', x'⟩ := good_cell (c := .dT []) at_.good hp (.dT .nil)
  exact h _ _ _ G' x' (.ref (by rw [← at_.good.len]; simp))
/-- d[k] = v -/
def dSet (d k v : D) (st : Store) : Option Store := match d, kxD k with
  | .ref n, some (.k k) => match st[n]? with
    | some (.dK kvs) => if kvs.length < szLine then some (st.set n (.dK (putZ kvs k v))) else none
    | _ => none
  | .ref n, some (.t k) => match st[n]? with
    | some (.dT kvs) => if kvs.length < szLine then some (st.set n (.dT (putZ kvs k v))) else none
    | _ => none
  | _, _ => none
def gvD (fo fi : Ev D) : Gv := fun v δ st => match fo δ st with
  | .ok o s1 => match fi δ s1 with
    | .ok i s2 => match dSet o i v s2 with
      | some s3 => .nx δ s3
      | none => .bad
    | .exc c s => .exc c s
    | .bad => .bad
  | .exc c s => .exc c s
  | .bad => .bad
theorem putZ_pd {κ : Type} [DecidableEq κ] {g : GL} {F : Hp} {ι : List Addr} {k : κ} {z : V} {d : D} (r0 : RD g F ι z d) {vs : List (κ × V)} {ds : List (κ × D)} (h : Paired (fun (a : κ × V) (b : κ × D) => a.1 = b.1 ∧ RD g F ι a.2 b.2) vs ds) :
    Paired (fun (a : κ × V) (b : κ × D) => a.1 = b.1 ∧ RD g F ι a.2 b.2) (putK vs k z) (putZ ds k d) := by
  have q := (getX_val (k := k) h).isSome
  have mp : ∀ {vs : List (κ × V)} {ds : List (κ × D)}, Paired (fun (a : κ × V) (b : κ × D) => a.1 = b.1 ∧ RD g F ι a.2 b.2) vs ds → Paired (fun (a : κ × V) (b : κ × D) => a.1 = b.1 ∧ RD g F ι a.2 b.2) (vs.map fun q => if q.1 = k then (q.1, z) else q) (ds.map fun q => if q.1 = k then (q.1, d) else q) := by
    intro vs ds h
    induction h with
    | nil => exact .nil
    | @cons p q ps qs r t ih =>
      refine .cons ?_ ih
      obtain ⟨e, r2⟩ := r
      dsimp only
      by_cases hp : p.1 = k
      · rw [if_pos hp, if_pos (e ▸ hp)]; exact ⟨e, r0⟩
      · rw [if_neg hp, if_neg (fun z => hp (e.trans z))]; exact ⟨e, r2⟩
  unfold putK putZ
  rw [valV_any]
  cases e : getX k ds with
  | some x => rw [e] at q; rw [q]; exact mp h
  | none => rw [e] at q; rw [q]; exact pd_app h (.cons ⟨rfl, r0⟩ .nil)
def rSetX (g : GL) : TSet := fun o i v H Q => ∃ ex ι st do_ di dv, Good (g.wx ex) ι st H ∧ RD (g.wx ex) (Fz H ((g.wx ex).x ι)) ι o do_ ∧ RD (g.wx ex) (Fz H ((g.wx ex).x ι)) ι i di ∧ RD (g.wx ex) (Fz H ((g.wx ex).x ι)) ι v dv ∧ ∃ st', dSet do_ di dv st = some st' ∧ ∀ H', Good (g.wx ex) ι st' H' → Ext (g.wx ex) H ι H' ι → Q H'
theorem setX_sem (k : CxK X g) : PSet X (rSetX g) := by
  rintro pins s σ H o i v ov iv u Q I ro ri rv ⟨ex, ι, st, do_, di, dv, G, r1, r2, r3, st', e, q⟩
  refine set_dict (by have := k.u; omega) pins s σ H o i v ov iv u Q I ro ri rv ?_
  unfold dSet at e
  split at e
  · rename_i hk
    have ky := kx_ok r2 hk
    split at e
    · rename_i h1
      split at e
      · rename_i hl
        cases e
        obtain ⟨a, vs, rfl, hn, hH, rr⟩ := cell_k G r1 h1
        obtain ⟨G', x'⟩ := good_write G hn (.dK (putZ_pd r3 rr)) (fun ps e => by rw [hH] at e; cases e) (fun c P e => by rw [hH] at e; cases e) (fun c P e => by rw [hH] at e; cases e) (fun c P e => by rw [hH] at e; cases e)
        exact ⟨a, _, rfl, .inl ⟨_, _, hH, ky, by rw [Paired.length rr]; exact Nat.lt_of_lt_of_le hl szLine_le, rfl⟩, q _ G' x'⟩
      · cases e
    · cases e
  · rename_i hk
    obtain ⟨b, rfl, kb⟩ := kx_ok r2 hk
    split at e
    · rename_i h1
      split at e
      · rename_i hl
        cases e
        obtain ⟨a, vs, rfl, hn, hH, rr⟩ := cell_t G r1 h1
        obtain ⟨G', x'⟩ := good_write G hn (.dT (putZ_pd r3 rr)) (fun ps e => by rw [hH] at e; cases e) (fun c P e => by rw [hH] at e; cases e) (fun c P e => by rw [hH] at e; cases e) (fun c P e => by rw [hH] at e; cases e)
        exact ⟨a, _, rfl, .inr ⟨_, _, b, hH, rfl, kb, by rw [Paired.length rr]; exact Nat.lt_of_lt_of_le hl szLine_le, rfl⟩, q _ G' x'⟩
      · cases e
    · cases e
  · cases e
theorem sg_dsub {fo fi : Ev D} (k : CxK X g) (ho : PE X a (SemE g E fo)) (hi : PE X b (SemE g E fi))
    (ha : ∀ v, assign (.Subscript a b pos) X.env v = (do
      let ov ← holding [v] (eval a X.env)
      let iv ← holding [v, ov] (eval b X.env)
      standAt pos; holding [v, ov, iv] (setItem ov iv v)
      release [v, ov, iv] []) := by intro _; rfl) : PG X (.Subscript a b pos) (SemG g E (gvD fo fi)) :=
  pg_mono (pg_sub ho hi (setX_sem (g := g) k) ha) fun v σ H Q ⟨ex, ι, st, δ, d, at_, rd, h⟩ => by
    refine semE_bnd at_ ?_
    unfold gvD at h
    cases ea : fo δ st with
    | bad => rw [ea] at h; exact h
    | exc c s1 => rw [ea] at h; exact h
    | ok o s1 =>
      rw [ea] at h
      intro vo H1 ι1 at1 x1 r1
      refine semE_bnd at1 ?_
      have h := PostG.ext x1 h
      simp only [] at h
      cases eb : fi δ s1 with
      | bad => rw [eb] at h; exact h
      | exc c s2 => rw [eb] at h; exact h
      | ok i s2 =>
        rw [eb] at h
        intro vi H2 ι2 at2 x2 r2
        have h := PostG.ext x2 h
        simp only [] at h
        refine ⟨ex, ι2, s2, o, i, d, at2.good, r1.ext x2, r2, (rd.ext x1).ext x2, ?_⟩
        cases es : dSet o i d s2 with
        | none => rw [es] at h; exact h.elim
        | some s3 =>
          rw [es] at h
          exact ⟨s3, rfl, fun H' G' x' => h σ H' ι2 G' x' (at2.env.ext x')⟩
end
end Iv
end

section
set_option Elab.async false
set_option linter.all false
set_option maxRecDepth 100000
set_option maxHeartbeats 4100000
namespace Iv
open PySem PySem.Spec PyProof.Rows L2 Gx
/-! ### over a dict's keys: the dict is locked from then on -/
def keyT (k : List Key) : P := .tup (k.map kP)
def itK (f : Ev D) : Ev Its := fun δ st => (f δ st).bnd fun d s => match d with
  | .p (.dct ps) => .ok ⟨ps.map fun q => .p q.1, none⟩ s
  | .p (.dcT ps) => .ok ⟨ps.map fun q => .p q.1, none⟩ s
  | .ref n => match s[n]? with
    | some (.dK kvs) => .ok ⟨kvs.map fun q => .p (kP q.1), none⟩ (s.set n (.fK kvs))
    | some (.fK kvs) => .ok ⟨kvs.map fun q => .p (kP q.1), none⟩ s
    | some (.dT kvs) => .ok ⟨kvs.map fun q => .p (keyT q.1), none⟩ (s.set n (.fT kvs))
    | some (.fT kvs) => .ok ⟨kvs.map fun q => .p (keyT q.1), none⟩ s
    | _ => .bad
  | _ => .bad
section
variable {X : Cx} {g : GL} {E : XK} {pos : Pos} {tg a b e : Expr} {ι : List Addr} {st : Store} {H F : Hp}
theorem rp_key {g : GL} {F : Hp} (k : Key) : Rp g F (kV k) (kP k) := by cases k with
  | inl i => exact .int i
  | inr x => exact .str x
theorem rps_keys {g : GL} {F : Hp} : ∀ ks : List Key, Rps g F (ks.map kV) (ks.map kP)
  | [] => .nil
  | k :: ks => .cons (rp_key k) (rps_keys ks)
/-- a tuple is neither a cell nor under way -/
theorem tup_out (G : Good g ι st H) {b : Addr} {vs : List V} (h : H b = some (.tup vs)) : b ∉ g.x ι := fun m => by
  rcases List.mem_append.mp m with m | m
  · obtain ⟨xs, e⟩ := G.exs b m
    rw [h] at e
    cases xs <;> cases e
  · obtain ⟨n, hn⟩ := List.getElem?_of_mem m
    obtain ⟨c, u, _, h2, rc⟩ := G.cell' hn
    rw [h] at h2; cases h2
    cases rc
theorem rp_keyT (G : Good g ι st H) {b : Addr} {k : List Key} (h : H b = some (.tup (k.map kV))) : Rp g (Fz H (g.x ι)) (.ref b) (keyT k) :=
  .tup (Fz.mk (tup_out G h) h rfl) (rps_keys k)
theorem its_keys {d : Addr} {o : Obj} {kvs : List (Key × V)} (hd : H d = some (.frz o (.dK kvs))) : ItS g (Itk d o kvs) H ι ⟨kvs.map fun q => .p (kP q.1), none⟩ := by
  refine ⟨fun {e i H' ι' st' d0 d'} hi G x hg => ?_, fun {e H' ι' st'} G x _ => ⟨x.frz _ _ _ hd, by rw [List.length_map]; exact Nat.le_refl _⟩⟩
  cases hg
  rw [List.getElem?_map, Option.map_eq_some_iff] at hi
  obtain ⟨q, hq, rfl⟩ := hi
  refine ⟨⟨x.frz _ _ _ hd, (List.getElem?_eq_some_iff.mp hq).1⟩, fun v H'' ⟨e1, k, w, e2, e3⟩ => ?_⟩
  subst e1 e3
  rw [hq] at e2
  cases e2
  exact ⟨G, .refl _ _, .p (rp_key _)⟩
theorem its_keysT {d : Addr} {o : Obj} {kvs : List (List Key × V)} (hd : H d = some (.frz o (.dT kvs))) : ItS g (Itkt d o kvs) H ι ⟨kvs.map fun q => .p (keyT q.1), none⟩ := by
  refine ⟨fun {e i H' ι' st' d0 d'} hi G x hg => ?_, fun {e H' ι' st'} G x _ => ⟨x.frz _ _ _ hd, by rw [List.length_map]; exact Nat.le_refl _⟩⟩
  cases hg
  rw [List.getElem?_map, Option.map_eq_some_iff] at hi
  obtain ⟨q, hq, rfl⟩ := hi
  refine ⟨⟨x.frz _ _ _ hd, (List.getElem?_eq_some_iff.mp hq).1⟩, fun v H'' ⟨e1, k, w, r, e2, e3, e4⟩ => ?_⟩
  subst e1 e3
  rw [hq] at e2
  cases e2
  exact ⟨G, .refl _ _, .p (rp_keyT G e4)⟩
/-- a frozen dict, a dict cell, is locked -/
theorem good_lock {d : Addr} {od : Obj} {u : HO} (G : Good g ι st H) (h : H d = some u) (hs : strip (.frz od u) = strip u) (hc : d ∉ g.x ι) (hT : ∀ ps, u ≠ .tbl ps) (hX : ∀ c P, u ≠ CodeGO c P) (hL : ∀ c q, u ≠ LamX.CodeO c q) (hF : ∀ o v, u ≠ .frz o v) :
    Good g ι st (upd H d (.frz od u)) ∧ Ext g H ι (upd H d (.frz od u)) ι := by
  have fk : Fk H (upd H d (.frz od u)) := .upd h hF
  have sub : Sub (Fz H (g.x ι)) (Fz (upd H d (.frz od u)) (g.x ι)) := fun b w e => by
    obtain ⟨h1, v, h2, h3⟩ := Fz.at e
    by_cases hb : b = d
    · subst hb
      rw [h] at h2; cases h2
      exact Fz.mk h1 upd_same (hs.trans h3)
    · exact Fz.mk h1 (by rw [upd_ne hb]; exact h2) h3
  refine ⟨⟨G.nd, pd_imp G.cells fun a c ha ⟨o, e, r⟩ => ⟨o, by rw [upd_ne (fun z => hc (by rw [← z]; exact GL.in1 ha))]; exact e, r.sub sub (.refl ι)⟩, G.tabs.but (fun b o h e => by rw [upd_ne h]; exact e) (fun ps z => hT ps (by rw [h] at z; exact Option.some.inj z)) (fun c P z => hX c P (by rw [h] at z; exact Option.some.inj z)) (fun c q z => hL c q (by rw [h] at z; exact Option.some.inj z)), fun b hb => ?_, G.dis⟩, ⟨.refl ι, sub, fun b hb => upd_ne (fun z => hc (by rw [← z]; exact GL.in2 hb)), fk⟩⟩
  obtain ⟨o, e⟩ := G.exs b hb
  exact ⟨o, by rw [upd_ne (fun z => hc (by rw [← z]; exact GL.in2 hb))]; exact e⟩
theorem good_lockC {n : Nat} {d : Addr} {od : Obj} {u : HO} {c : Cell} (G : Good g ι st H) (hn : ι[n]? = some d) (h : H d = some u) (r : RC g (Fz H (g.x ι)) ι (.frz od u) c) (hT : ∀ ps, u ≠ .tbl ps) (hX : ∀ c P, u ≠ CodeGO c P) (hL : ∀ c q, u ≠ LamX.CodeO c q) (hF : ∀ o v, u ≠ .frz o v) :
    Good g ι (st.set n c) (upd H d (.frz od u)) ∧ Ext g H ι (upd H d (.frz od u)) ι :=
  good_write G hn r (fun ps e => hT ps (by rw [h] at e; exact Option.some.inj e)) (fun c P e => hX c P (by rw [h] at e; exact Option.some.inj e)) (fun c q e => hL c q (by rw [h] at e; exact Option.some.inj e)) (fun o v e => hF o v (by rw [h] at e; exact Option.some.inj e))
theorem rpk_len {F : Hp} : ∀ {vs : List (Key × V)} {ps : List (P × P)}, RpK g F vs ps → ps.map (fun q => D.p q.1) = vs.map fun q => D.p (kP q.1)
  | _, _, .nil => rfl
  | _, _, .cons _ t => by rw [List.map_cons, List.map_cons, rpk_len t]
theorem rpt_len {F : Hp} : ∀ {vs : List (List Key × V)} {ps : List (P × P)}, RpT g F vs ps → ps.map (fun q => D.p q.1) = vs.map fun q => D.p (keyT q.1)
  | _, _, .nil => rfl
  | _, _, .cons _ t => by rw [List.map_cons, List.map_cons, rpt_len t]; rfl
theorem pd_keys {F : Hp} {κ : Type} (f : κ → P) {vs : List (κ × V)} {ds : List (κ × D)} (h : Paired (fun (a : κ × V) (b : κ × D) => a.1 = b.1 ∧ RD g F ι a.2 b.2) vs ds) : ds.map (fun q => D.p (f q.1)) = vs.map fun q => D.p (f q.1) := by
  induction h with
  | nil => rfl
  | cons r t ih => rw [List.map_cons, List.map_cons, ih, r.1]
/-- what is walked: a dict that is locked, by now -/
def KDone (X : Cx) (pins : List (Addr × Obj)) (σ : L2.St) (R : It → Hp → Prop) (v : V) (s : Shared) : Prop :=
  ∃ d od H1, v = .ref d ∧ Inv X pins σ H1 s ∧ ((∃ kvs, H1 d = some (.frz od (.dK kvs)) ∧ R (Itk d od kvs) H1) ∨ ∃ kvs, H1 d = some (.frz od (.dT kvs)) ∧ R (Itkt d od kvs) H1)
theorem kdone_pie {pins : List (Addr × Obj)} {σ : L2.St} {R : It → Hp → Prop} {v : V} {u : Value} {s : Shared} {E' : Value → Shared → Prop} (r : RelV v u) (k : KDone X pins σ R v s) : wpAny (model X.prog X.w) X.A (pyIter u) (PIE X pins σ tg R) E' s := by
  obtain ⟨d, od, H1, rfl, I1, q⟩ := k
  obtain rfl : u = Value.ref d := r
  rcases q with (⟨kvs, hd, q⟩ | ⟨kvs, hd, q⟩)
  · have ⟨hs, hgd, hx, es, ep, vs, hdt, hsz, kv, hm⟩ := I1.frzK hd
    apply iter_keys hs hgd hx hdt
    refine pi_one (tk := s.toks) I1 _ (turn_keys _ hdt) ⟨_, Heap.get?_push_size _ rfl, rfl, ?_⟩ q
    rw [hsz] <;> rfl
  · have ⟨hs, hgd, hx, es, ep, hdt, hsz, ent⟩ := I1.frzT hd
    apply iter_keys hs hgd hx hdt
    refine pi_one (tk := s.toks) I1 _ (turn_keysT _ hdt) ⟨_, Heap.get?_push_size _ rfl, rfl, ?_⟩ q
    rw [hsz] <;> rfl
theorem frz_or {a : Addr} {u : HO} (h : Rd H a u) : H a = some u ∨ ∃ o, H a = some (.frz o u) := h
theorem si_keys {f : Ev D} (h : PE X e (SemE g E f)) : PI X tg e (SemI g E (itK f)) := by
  refine ⟨fun pins s σ H R I ⟨ex, ι, st, δ, at_, hh⟩ => ?_⟩
  have key : SemE g E f σ H fun v H1 => ∀ s1, Inv X pins σ H1 s1 → KDone X pins σ R v s1 := by
    refine semE_bnd at_ ?_
    unfold itK at hh
    cases ef : f δ st with
    | bad => rw [ef] at hh; exact hh
    | exc c s => rw [ef] at hh; exact hh
    | ok d s =>
      rw [ef] at hh
      intro v H1 ι1 at1 x1 r1 s1 I1
      simp only [Res.bnd] at hh
      have G1 := at1.good
      split at hh
      · rename_i ps
        cases r1 with
        | p r1 =>
          cases r1 with
          | dK h1 r2 =>
            rw [rpk_len r2] at hh
            obtain ⟨hc, _⟩ := Fz.at h1
            rcases rd_fzK h1 with h2 | ⟨o, h2⟩
            · obtain ⟨od, I2⟩ := I1.lock h2 trivial
              obtain ⟨G2, x2⟩ := good_lock (od := od) G1 h2 rfl hc (fun _ z => by cases z) (fun _ _ z => by cases z) (fun _ _ z => by cases z) (fun _ _ z => by cases z)
              exact ⟨_, od, _, rfl, I2, .inl ⟨_, upd_same, hh _ _ ι1 G2 (x1.trans x2) (its_keys upd_same)⟩⟩
            · exact ⟨_, o, _, rfl, I1, .inl ⟨_, h2, hh _ _ ι1 G1 x1 (its_keys h2)⟩⟩
      · rename_i ps
        cases r1 with
        | p r1 =>
          cases r1 with
          | dT h1 r2 =>
            rw [rpt_len r2] at hh
            obtain ⟨hc, _⟩ := Fz.at h1
            rcases rd_fzT h1 with h2 | ⟨o, h2⟩
            · obtain ⟨od, I2⟩ := I1.lock h2 trivial
              obtain ⟨G2, x2⟩ := good_lock (od := od) G1 h2 rfl hc (fun _ z => by cases z) (fun _ _ z => by cases z) (fun _ _ z => by cases z) (fun _ _ z => by cases z)
              exact ⟨_, od, _, rfl, I2, .inr ⟨_, upd_same, hh _ _ ι1 G2 (x1.trans x2) (its_keysT upd_same)⟩⟩
            · exact ⟨_, o, _, rfl, I1, .inr ⟨_, h2, hh _ _ ι1 G1 x1 (its_keysT h2)⟩⟩
      · split at hh
        · rename_i hs
          obtain ⟨a, vs, rfl, hn, h2, rr⟩ := cell_k G1 r1 hs
          obtain ⟨od, I2⟩ := I1.lock h2 trivial
          obtain ⟨G2, x2⟩ := good_lockC (od := od) G1 hn h2 (.fK rr) (fun _ z => by cases z) (fun _ _ z => by cases z) (fun _ _ z => by cases z) (fun _ _ z => by cases z)
          rw [pd_keys kP rr] at hh
          exact ⟨_, od, _, rfl, I2, .inl ⟨_, upd_same, hh _ _ ι1 G2 (x1.trans x2) (its_keys upd_same)⟩⟩
        · rename_i hs
          obtain ⟨a, o, vs, rfl, hn, h2, rr⟩ := cell_fk G1 r1 hs
          rw [pd_keys kP rr] at hh
          exact ⟨_, o, _, rfl, I1, .inl ⟨_, h2, hh _ _ ι1 G1 x1 (its_keys h2)⟩⟩
        · rename_i hs
          obtain ⟨a, vs, rfl, hn, h2, rr⟩ := cell_t G1 r1 hs
          obtain ⟨od, I2⟩ := I1.lock h2 trivial
          obtain ⟨G2, x2⟩ := good_lockC (od := od) G1 hn h2 (.fT rr) (fun _ z => by cases z) (fun _ _ z => by cases z) (fun _ _ z => by cases z) (fun _ _ z => by cases z)
          rw [pd_keys keyT rr] at hh
          exact ⟨_, od, _, rfl, I2, .inr ⟨_, upd_same, hh _ _ ι1 G2 (x1.trans x2) (its_keysT upd_same)⟩⟩
        · rename_i hs
          obtain ⟨a, o, vs, rfl, hn, h2, rr⟩ := cell_ft G1 r1 hs
          rw [pd_keys keyT rr] at hh
          exact ⟨_, o, _, rfl, I1, .inr ⟨_, h2, hh _ _ ι1 G1 x1 (its_keysT h2)⟩⟩
        · exact hh.elim
      · exact hh.elim
  refine thn (h.run pins s σ H _ I key) fun v s1 ⟨x, H1, I1, r1, got⟩ => ?_
  exact kdone_pie r1 (got s1 I1)
end
end Iv
end

section
set_option Elab.async false
set_option linter.all false
set_option maxRecDepth 100000
set_option maxHeartbeats 4100000
namespace Iv
open PySem PySem.Spec PyProof.Rows L2 Gx
/-! ### dict(pairs), keys of several pieces -/
def pairT : P → Option (List Key × P)
  | .tup [k, x] => (tupKs k).map fun ks => (ks, x)
  | _ => none
def pairsT : List P → Option (List (List Key × P))
  | [] => some []
  | p :: ps => match pairT p, pairsT ps with
    | some q, some qs => some (q :: qs)
    | _, _ => none
def mergeT {α : Type} (kvs more : List (List Key × α)) : List (List Key × α) := more.foldl (fun acc kv => putZ acc kv.1 kv.2) kvs
def fDictT : F1 := fun ds st => match ds with
  | [d] => match see st d with
    | some x => match lstP x with
      | some xs => match pairsT xs with
        | some ps => .ok (.p (.dcT ((mergeT [] ps).map fun kv => (keyT kv.1, kv.2)))) st
        | none => .bad
      | none => .bad
    | none => .bad
  | _ => .bad
theorem nx_dictT : NoX1 fDictT := by
  intro ds st c s e
  unfold fDictT at e
  repeat' split at e
  all_goals cases e
def mergeKT (kvs more : List (List Key × V)) : List (List Key × V) := more.foldl (fun acc kv => putK acc kv.1 kv.2) kvs
/-- the pairs, as they lie: each a tuple of a key's tuple and a value -/
def PairKT (K : PySem.W.Frag) (H : Hp) (p : Addr) (kv : List Key × V) : Prop := ∃ b, SqT K H p [.ref b, kv.2] ∧ H b = some (.tup (kv.1.map kV))
section
variable {X : Cx}
theorem kt_merge {H : Hp} : ∀ {more : List (List Key × V)} {ms : List (List Key × Addr × Value)} {kvs : List (List Key × V)} {xs : List (List Key × Addr × Value)}, KT H more ms → KT H kvs xs → KT H (mergeKT kvs more) (storedAllH xs ms)
  | _, _, _, _, .nil, r => r
  | (k, y) :: more, (k', b, u) :: ms, kvs, xs, .cons h t, r => by
    obtain ⟨h1, h2, h3⟩ := h
    dsimp only at h1 h2 h3
    subst h1
    exact kt_merge (kvs := putK kvs k y) (xs := storedH xs k b u) t (KT.put r k h2 h3)
theorem mergeKT_len (more : List (List Key × V)) : ∀ kvs : List (List Key × V), (mergeKT kvs more).length ≤ kvs.length + more.length := by
  induction more with
  | nil => intro kvs; exact Nat.le_refl _
  | cons q more ih =>
    intro kvs
    refine Nat.le_trans (ih (putK kvs q.1 q.2)) ?_
    have := length_putK kvs q.1 q.2
    rw [List.length_cons]
    omega
/-- what the pairs hold -/
theorem pairs_laid {pins : List (Addr × Obj)} {σ : L2.St} {H : Hp} {s : Shared} (I : Inv X pins σ H s) : ∀ {ps : List Addr} {kvs : List (List Key × V)}, Paired (PairKT X.K H) ps kvs → ∃ xs : List (List Key × Addr × Value), KT H kvs xs ∧ Paired (fun p x => IsTup s.heap p #[Value.ref x.2.1, x.2.2]) ps xs
  | _, _, .nil => ⟨[], .nil, .nil⟩
  | p :: ps, kv :: kvs, .cons h t => by
    obtain ⟨b, hp, hb⟩ := h
    obtain ⟨xs, q1, q2⟩ := pairs_laid I t
    obtain ⟨its, rv, it, _⟩ := I.tuple hp
    obtain ⟨u, rfl⟩ : ∃ u, its = [Value.ref b, u] := by
      cases rv with
      | cons r1 r2 =>
        cases r2 with
        | cons r2 r3 =>
          cases r3
          cases (show _ = Value.ref b from r1)
          exact ⟨_, rfl⟩
    have ru : RelV kv.2 u := by
      cases rv with
      | cons r1 r2 =>
        cases r2 with
        | cons r2 r3 => exact r2
    exact ⟨(kv.1, b, u) :: xs, .cons ⟨rfl, hb, ru⟩ q1, .cons it q2⟩
theorem pd_at {α β : Type} {R : α → β → Prop} : ∀ {xs : List α} {ys : List β}, Paired R xs ys → ∀ {i : Nat} {y : β}, ys[i]? = some y → ∃ x, xs[i]? = some x ∧ R x y
  | _, _, .nil, i, y, h => by cases h
  | _, _, .cons r t, 0, y, h => ⟨_, rfl, by cases h; exact r⟩
  | _, _, .cons r t, i + 1, y, h => pd_at t h
theorem call_dictT (hc : X.calm = true) (hu : X.A.units + 2 < cLine) : CallR X (.type "dict") (fun xs H Q => ∃ (a : Addr) (ps : List Addr) (kvs : List (List Key × V)), xs = [.ref a] ∧ SqL X.K H a (ps.map V.ref) ∧ Paired (PairKT X.K H) ps kvs ∧
    ∀ p, H p = none → Q (.ref p) (upd H p (.dT (mergeKT [] kvs)))) := by
  rintro pins s σ H vs us Q I r ⟨a, ps, kvs, rfl, hq, hp, q⟩
  rcases vals1 r with ⟨u, rfl, rx⟩
  cases rx
  obtain ⟨its, rv, ⟨o, n, ho, ocls, od, odat⟩, hz⟩ := I.list hq
  rw [List.length_map] at hz
  obtain ⟨xs, kt, tp⟩ := pairs_laid I hp
  have l1 : ps.length = xs.length := Paired.length tp
  have l2 : kvs.length = xs.length := Paired.length kt
  have li : its.length = xs.length := by have := rv.length; rw [List.length_map] at this; omega
  have item : ∀ (j : Nat) (x : List Key × Addr × Value), xs[j]? = some x → ∃ p, ps[j]? = some p ∧ its[j]? = some (Value.ref p) ∧ IsTup s.heap p #[Value.ref x.2.1, x.2.2] := by
    intro j x hj
    obtain ⟨p, h1, h2⟩ := pd_at tp hj
    obtain ⟨w, h3, h4⟩ := rv.get (show (ps.map V.ref)[j]? = some (V.ref p) by rw [List.getElem?_map, h1]; rfl)
    cases (show w = Value.ref p from h4)
    exact ⟨p, h1, h3, h2⟩
  have src := PairArg.list (prog := X.prog) (w := X.w) a its.toArray (fun j => ps[j]?.getD 0) (xs.map fun x => (Value.ref x.2.1, x.2.2))
  refine call_dict_pairsH (knd := tupleKind (mixKind X.prog X.w)) (ps := xs) src (I.ok.hd hc) (show X.A.units + 2 < cLine from hu) ⟨⟨o, n, ho, ocls, od, odat⟩, by simp [li], fun j k v hj => ?_⟩ ⟨by simp, fun j k v hj => ?_⟩ (fun h' keep x hx => ?_) (by simp; omega) (fun h' tk dh keep => ?_)
  · rw [List.getElem?_map, Option.map_eq_some_iff] at hj
    obtain ⟨x, hx, e⟩ := hj
    cases e
    obtain ⟨p, h1, h2, h3⟩ := item j x hx
    refine ⟨by simp [h1, h2], .inl ?_⟩
    simp only [h1, Option.getD_some]
    exact h3
  · have hj : (xs.map fun x => (Value.ref x.2.1, x.2.2))[j]? = some (k, v) := hj
    rw [List.getElem?_map, Option.map_eq_some_iff] at hj
    obtain ⟨x, hx, e⟩ := hj
    cases e
    exact ⟨x.1, x.2.1, hx, rfl⟩
  · obtain ⟨j, hj⟩ := List.getElem?_of_mem hx
    obtain ⟨kv, _, h1, h2, _⟩ := pd_at kt hj
    obtain ⟨ob, its2, n2, e1, e2, e3, e4⟩ := key_of I.hok h2
    rw [← h1]
    exact ⟨ob, its2, n2, keep _ _ (Nat.ne_of_lt (Heap.lt_size e1)) (by simp) e1, e2, e3, e4⟩
  · have hm : (s.heap.objs.size == sysModules) = false := by rw [beq_eq_false_iff_ne]; exact Nat.ne_of_gt I.big
    have hf : H s.heap.objs.size = none := I.hok.fresh Nat.le.refl
    have kk : ∀ b ob, s.heap.get? b = some ob → h'.get? b = some ob := fun b ob e => keep b ob (by simp) e
    have kt2 : KT H (mergeKT [] kvs) (storedAllH [] xs) := kt_merge kt .nil
    have kt3 : KT (upd H s.heap.objs.size (.dT (mergeKT [] kvs))) (mergeKT [] kvs) (storedAllH [] xs) := kt2.keeps fun b ys e => by rw [upd_ne (ne_of_none e hf)]; exact e
    obtain ⟨ob, es, ep, d1, d2, d3, d4, _, d5⟩ := dh
    have len : (mergeKT [] kvs).length ≤ sizeLine := Nat.le_trans (mergeKT_len kvs []) (by simp; omega)
    exact ⟨.ref s.heap.objs.size, upd H s.heap.objs.size (.dT (mergeKT [] kvs)), I.laid (t' := tk) kk (Nat.le_refl _) ⟨len, hm, _, kt3, ob, es, ep, d1, d2, d3, d4, d5⟩, rfl, q _ hf⟩
end
section
variable {X : Cx} {g : GL} {E : XK} {pos : Pos} {a b e : Expr} {ι : List Addr} {st : Store} {H F : Hp}
abbrev TPs (g : GL) (F : Hp) (vs : List (List Key × V)) (ps : List (List Key × P)) : Prop := Paired (fun (a : List Key × V) (b : List Key × P) => a.1 = b.1 ∧ Rp g F a.2 b.2) vs ps
theorem tps_get {g : GL} {F : Hp} {k : List Key} : ∀ {vs : List (List Key × V)} {ds : List (List Key × P)}, TPs g F vs ds → LkP g F (valV vs k) (getX k ds)
  | _, _, .nil => trivial
  | (a, v) :: vs, (b, d) :: ds, .cons r t => by
    obtain ⟨e, r2⟩ := r
    dsimp only at e r2
    subst e
    unfold getX
    by_cases h : a = k
    · rw [if_pos h, valV_pos h]; exact r2
    · rw [if_neg h, valV_neg h]; exact tps_get t
theorem LkP.isSome {g : GL} {F : Hp} : ∀ {v : Option V} {x : Option P}, LkP g F v x → v.isSome = x.isSome
  | some _, some _, _ => rfl
  | none, none, _ => rfl
  | some _, none, h => h.elim
  | none, some _, h => h.elim
theorem tps_put {g : GL} {F : Hp} {k : List Key} {z : V} {d : P} (r0 : Rp g F z d) {vs : List (List Key × V)} {ds : List (List Key × P)} (h : TPs g F vs ds) : TPs g F (putK vs k z) (putZ ds k d) := by
  have q := (tps_get (k := k) h).isSome
  have mp : ∀ {vs : List (List Key × V)} {ds : List (List Key × P)}, TPs g F vs ds → TPs g F (vs.map fun q => if q.1 = k then (q.1, z) else q) (ds.map fun q => if q.1 = k then (q.1, d) else q) := by
    intro vs ds h
    induction h with
    | nil => exact .nil
    | @cons p q ps qs r t ih =>
      refine .cons ?_ ih
      obtain ⟨e, r2⟩ := r
      dsimp only
      by_cases hp : p.1 = k
      · rw [if_pos hp, if_pos (e ▸ hp)]; exact ⟨e, r0⟩
      · rw [if_neg hp, if_neg (fun z => hp (e.trans z))]; exact ⟨e, r2⟩
  unfold putK putZ
  rw [valV_any]
  cases e : getX k ds with
  | some x => rw [e] at q; rw [q]; exact mp h
  | none => rw [e] at q; rw [q]; exact pd_app h (.cons ⟨rfl, r0⟩ .nil)
theorem tps_merge {g : GL} {F : Hp} : ∀ {ms : List (List Key × V)} {ps : List (List Key × P)} {vs : List (List Key × V)} {ds : List (List Key × P)}, TPs g F ms ps → TPs g F vs ds → TPs g F (mergeKT vs ms) (mergeT ds ps)
  | _, _, vs, ds, .nil, h => h
  | (a, v) :: ms, (b, d) :: ps, vs, ds, .cons r t, h => by
    obtain ⟨e, r2⟩ := r
    dsimp only at e r2
    subst e
    exact tps_merge (vs := putK vs a v) (ds := putZ ds a d) t (tps_put r2 h)
theorem tps_rpt {g : GL} {F : Hp} : ∀ {vs : List (List Key × V)} {ps : List (List Key × P)}, TPs g F vs ps → RpT g F vs (ps.map fun kv => (keyT kv.1, kv.2))
  | _, _, .nil => .nil
  | (a, v) :: vs, (b, d) :: ps, .cons r t => by
    obtain ⟨e, r2⟩ := r
    dsimp only at e
    subst e
    exact .cons r2 (tps_rpt t)
theorem pairsT_ok : ∀ {vs : List V} {xs : List P} {ps : List (List Key × P)}, Rps g (Fz H (g.x ι)) vs xs → pairsT xs = some ps → ∃ (as : List Addr) (ms : List (List Key × V)), vs = as.map V.ref ∧ Paired (PairKT g.K H) as ms ∧ TPs g (Fz H (g.x ι)) ms ps
  | _, _, _, .nil, h => by cases h; exact ⟨[], [], rfl, .nil, .nil⟩
  | _, _, ps, .cons (xs := xs) r t, h => by
    unfold pairsT at h
    split at h
    · rename_i q qs h1 h2
      cases h
      obtain ⟨as, ms, rfl, h3, h4⟩ := pairsT_ok t h2
      unfold pairT at h1
      split at h1
      · obtain ⟨ks, h5, rfl⟩ := Option.map_eq_some_iff.mp h1
        cases r with
        | tup q r =>
          cases r with
          | cons r1 r =>
            cases r with
            | cons r2 r3 =>
              cases r3
              unfold tupKs at h5
              split at h5
              · cases r1 with
                | tup q1 r1 =>
                  have := keysP_ok r1 h5
                  subst this
                  exact ⟨_ :: as, (ks, _) :: ms, rfl, .cons ⟨_, sqT_of_fz (.inl (.inl q)), Fz.tup q1⟩ h3, .cons ⟨rfl, r2⟩ h4⟩
              · cases h5
      · cases h1
    · cases h
theorem rc_dictT (hc : X.calm = true) (k : CxK X g) : CallR X (.type "dict") (rCal g fDictT) := by
  rintro pins s σ H vs us Q I rv ⟨ex, ι, st, ds, G, r, d, st', e, q⟩
  have kk : X.K = (g.wx ex).K := k.K
  unfold fDictT at e
  split at e
  · obtain ⟨v, rfl, rd⟩ := rds_one r
    split at e
    · rename_i x h1
      split at e
      · rename_i xs hxs
        split at e
        · rename_i ps hps
          cases e
          have h2' : seqP x = some xs := by
            unfold lstP at hxs
            split at hxs <;> cases hxs <;> rfl
          obtain ⟨a, ws, rfl, h3, h4⟩ := see_seq G rd h1 h2'
          rcases h4 with ⟨h4, _⟩ | ⟨h4, hx2⟩
          · obtain ⟨as, ms, rfl, p1, p2⟩ := pairsT_ok h3 hps
            refine call_dictT hc (by have := k.u; omega) pins s σ H _ us Q I rv ⟨a, as, ms, rfl, kk ▸ h4, kk ▸ p1, fun p hp => ?_⟩
            exact new_data (o := .dT (mergeKT [] ms)) (x := .dcT ((mergeT [] ps).map fun kv => (keyT kv.1, kv.2))) G hp q rfl fun F' sub e => .dT e ((tps_rpt (tps_merge p2 .nil)).sub sub)
          · rw [hx2] at hxs; cases hxs
        · cases e
      · cases e
    · cases e
  · cases e
end
end Iv
end

section
set_option Elab.async false
set_option linter.all false
set_option maxRecDepth 100000
set_option maxHeartbeats 4100000
namespace Iv
open PySem PySem.Spec PyProof.Rows L2 Gx
/-! ### list(d.items()), list(d.values()), whatever the keys are -/
section
variable {prog : Program} {w : World} {A : Around} {s : Shared} {E : Value → Shared → Prop} {r d : Addr} {es : Array DictEntry} {ep : Nat}
/-- list(view): the pairs are made anew -/
theorem list_view {Q : Value → Shared → Prop} (hh : A.handled = none) (hv : s.heap.IsItemsView r d) (hm : DT.Raw s.heap d es ep) (hn : es.size ≤ sizeLine)
    (hQ : ∀ h' tk acc c as, (∀ b o, s.heap.get? b = some o → h'.get? b = some o) → h'.get? s.heap.objs.size = some { cls := .type "list", dict := none, data := .seq acc c, slots := #[] } → as.length = es.size → DT.Made es s.heap.objs.size h' as →
      acc.toList = List.map Value.ref as → Q (.ref s.heap.objs.size) { s with heap := h', toks := tk }) :
    wpAny (model prog w) A (call (.type "list") (.ref r :: [])) Q E s := by
  have kp : ∀ b o, s.heap.get? b = some o → (s.heap.push { cls := .type "list", data := .seq #[] }).get? b = some o := fun b o e => Heap.get?_push_of_some _ e
  have lr : r < s.heap.objs.size := by obtain ⟨_, ho, _⟩ := hv; exact Heap.lt_size ho
  have ld : d < s.heap.objs.size := hm.lt
  have new : (s.heap.push { cls := .type "list", data := .seq #[] }).get? s.heap.objs.size = some { cls := .type "list", data := .seq #[] } := Heap.get?_push_size _ rfl
  apply callType_codes (Q₁ := fun obj s₁ => obj = .ref s.heap.objs.size ∧ s₁ = { s with heap := s.heap.push { cls := .type "list", data := .seq #[] } }) PySem.F.called_list (PySem.F.typeCall_list_1 _) PySem.F.entry_list_init
  · exact code_list_new _ ⟨rfl, rfl⟩
  rintro _ _ ⟨rfl, rfl⟩
  refine ⟨⟨_, new, rfl⟩, PySem.F.args_list_init_2 _ _, ?_⟩
  show wpAny _ A.in1.in1 (Builtin.List.listItems (.ref s.heap.objs.size) >>= fun old => Builtin.List.listUpdate (.ref s.heap.objs.size) (fun _ => #[]) >>= fun _ => letGo old.toList.reverse >>= fun _ => Builtin.List.listExtendWith (.ref s.heap.objs.size) (.ref r) .none) _ _ _
  apply wpAny_bind
  unfold Builtin.List.listItems
  refine wpAny_bind (wpAny_seqItems new rfl (wpAny_pure ?_))
  show wpAny _ A.in1.in1 (updateSeq s.heap.objs.size (fun _ => #[]) >>= fun _ => letGo (#[] : Array Value).toList.reverse >>= fun _ => Builtin.List.listExtendWith (.ref s.heap.objs.size) (.ref r) .none) _ _ _
  refine wpAny_bind (wpAny_updateSeq new rfl ?_)
  have new2 := Heap.get?_update_self (Obj.mapSeq (fun _ => (#[] : Array Value))) new rfl
  have oth : ∀ b o, s.heap.get? b = some o → ((s.heap.push { cls := .type "list", data := .seq #[] }).update s.heap.objs.size (Obj.mapSeq (fun _ => (#[] : Array Value)))).get? b = some o := fun b o e =>
    (Heap.get?_update_other _ _ (Nat.ne_of_gt (Heap.lt_size e))).trans (kp b o e)
  apply wpAny_bind
  apply wpAny_letGo
  have hv2 : Heap.IsItemsView ((s.heap.push { cls := .type "list", data := .seq #[] }).update s.heap.objs.size (Obj.mapSeq (fun _ => (#[] : Array Value)))) r d := by
    obtain ⟨o, ho, x⟩ := hv
    exact ⟨o, oth r o ho, x⟩
  refine DT.extI (A := A.in1) (es := es) (ep := ep) hh hv2 (hm.at' (oth d)) s.heap.objs.size (Nat.ne_of_gt lr) (Nat.ne_of_lt ld) .none _ new2 (fun h' tk acc c as keep hS hl hG hacc => ?_) hn
  exact ⟨rfl, hQ h' tk acc c as (fun b o e => keep b o (Nat.ne_of_lt (Heap.lt_size e)) (oth b o e)) hS hl (hG.low (Nat.le_of_lt (Heap.lt_size new2))) hacc⟩
end
/-- the entries of a dict, as they stand: key and value -/
def Ents (H : Hp) : HO → List (V × V) → Prop
  | .dK kvs, ps => ps = kvs.map fun q => (kV q.1, q.2)
  | .dT kvs, ps => Paired (fun (p : V × V) (q : List Key × V) => (∃ b, p.1 = .ref b ∧ H b = some (.tup (q.1.map kV))) ∧ p.2 = q.2) ps kvs
  | _, _ => False
section
variable {X : Cx} {s : Shared} {H : Hp} {σ : L2.St} {pins : List (Addr × Obj)}
/-- a dict's entries -/
theorem ents_raw (I : Inv X pins σ H s) {d : Addr} {u : HO} (h : Rd H d u) (hu : (∃ kvs, u = .dK kvs) ∨ ∃ kvs, u = .dT kvs) :
    ∃ es ep ps, (d == sysModules) = false ∧ DT.Raw s.heap d es ep ∧ es.size ≤ sizeLine ∧ Ents H u ps ∧ Paired (fun (e : DictEntry) (p : V × V) => RelV p.1 e.key ∧ RelV p.2 e.val) es.toList ps := by
  have ofGet : ∀ {ps : List (V × V)} {es : Array DictEntry}, es.size = ps.length → (∀ (i : Nat) (hi : i < es.size) (p : V × V), ps[i]? = some p → RelV p.1 es[i].key ∧ RelV p.2 es[i].val) → Paired (fun (e : DictEntry) (p : V × V) => RelV p.1 e.key ∧ RelV p.2 e.val) es.toList ps := by
    intro ps es hl hg
    have gen : ∀ (l : List DictEntry) (qs : List (V × V)), l.length = qs.length → (∀ (i : Nat) (e : DictEntry) (p : V × V), l[i]? = some e → qs[i]? = some p → RelV p.1 e.key ∧ RelV p.2 e.val) → Paired (fun (e : DictEntry) (p : V × V) => RelV p.1 e.key ∧ RelV p.2 e.val) l qs := by
      intro l
      induction l with
      | nil => intro qs h _; cases qs with
        | nil => exact .nil
        | cons _ _ => cases h
      | cons e l ih => intro qs h g; cases qs with
        | nil => cases h
        | cons q qs => exact .cons (g 0 e q rfl rfl) (ih qs (Nat.succ.inj h) fun i e p h1 h2 => g (i + 1) e p h1 h2)
    refine gen _ _ (by simp [hl]) fun i e p h1 h2 => ?_
    have hi : i < es.size := by have := (List.getElem?_eq_some_iff.mp h1).1; simpa using this
    have he : es[i] = e := by
      have := (List.getElem?_eq_some_iff.mp h1).2
      simpa using this
    rw [← he]
    exact hg i hi p h2
  rcases hu with ⟨kvs, rfl⟩ | ⟨kvs, rfl⟩
  · obtain ⟨z, hd, vs, rel, dd⟩ := dk_rd I.hok h
    obtain ⟨es, ep, ⟨o, ho, hx, hdat⟩, hl, hg⟩ := dd.raw
    have ln : kvs.length = vs.length := rel.length
    refine ⟨es, ep, kvs.map (fun q : Key × V => (kV q.1, q.2)), hd, ⟨o, ho, hx, hdat⟩, by omega, rfl, ofGet (by rw [List.length_map]; omega) fun i hi p hp => ?_⟩
    rw [List.getElem?_map, Option.map_eq_some_iff] at hp
    obtain ⟨kv, hkv, rfl⟩ := hp
    obtain ⟨v, hv, r1, r2⟩ := LiI.paired_get rel hkv
    obtain ⟨g1, g2⟩ := hg i hi v.1 v.2 hv
    refine ⟨relV_key ?_, ?_⟩
    · rw [r1]; exact g1
    · rw [g2]; exact r2
  · obtain ⟨z, hd, xs, rel, dd⟩ := dt_rd I.hok h
    obtain ⟨es, ep, ⟨o, ho, hx, hdat⟩, hl, hg⟩ := dd.raw
    have ln : kvs.length = xs.length := Paired.length rel
    have mk : ∀ {kvs : List (List Key × V)} {xs : List (List Key × Addr × Value)}, KT H kvs xs → ∃ ps : List (V × V), Ents H (.dT kvs) ps ∧ Paired (fun (p : V × V) (x : List Key × Addr × Value) => p.1 = .ref x.2.1 ∧ RelV p.2 x.2.2) ps xs := by
      intro kvs xs r
      induction r with
      | nil => exact ⟨_, .nil, .nil⟩
      | @cons q x qs ys h t ih =>
        obtain ⟨ps, e1, e2⟩ := ih
        exact ⟨(.ref x.2.1, q.2) :: ps, .cons ⟨⟨_, rfl, h.2.1⟩, rfl⟩ e1, .cons ⟨rfl, h.2.2⟩ e2⟩
    obtain ⟨ps, e1, e2⟩ := mk rel
    have lp : ps.length = xs.length := Paired.length e2
    refine ⟨es, ep, ps, hd, ⟨o, ho, hx, hdat⟩, by omega, e1, ofGet (by omega) fun i hi p hp => ?_⟩
    obtain ⟨y, hy, g1, g2, _⟩ := hg i hi
    obtain ⟨x, hx2, q1, q2⟩ := LiI.paired_get e2 hp
    rw [hy] at hx2; cases hx2
    rw [g1, g2, q1]
    exact ⟨rfl, q2⟩
/-- the list of the pairs that were made -/
theorem made_laid {h' : Heap} {tk : Nat} {es : Array DictEntry} {ps : List (V × V)} {acc : Array Value} {c : Nat} {as : List Addr} (I : Inv X pins σ H s) (hz : es.size ≤ sizeLine) (rel : Paired (fun (e : DictEntry) (p : V × V) => RelV p.1 e.key ∧ RelV p.2 e.val) es.toList ps)
    (hk : ∀ b o, s.heap.get? b = some o → h'.get? b = some o) (hS : h'.get? s.heap.objs.size = some { cls := .type "list", dict := none, data := .seq acc c, slots := #[] }) (hl : as.length = es.size) (hG : DT.Made es s.heap.objs.size h' as) (hacc : acc.toList = as.map Value.ref) :
    ∃ H' : Hp, Inv X pins σ H' { s with heap := h', toks := tk } ∧ (∀ b o, H b = some o → H' b = some o) ∧ H s.heap.objs.size = none ∧ H' s.heap.objs.size = some (.lst (as.map V.ref)) ∧ Paired (fun (t : Addr) (p : V × V) => H t = none ∧ H' t = some (.tup [p.1, p.2])) as ps := by
  have newS : H s.heap.objs.size = none := I.hok.fresh Nat.le.refl
  have I1 : Inv X pins σ H { s with heap := h', toks := tk } := Inv.kept I hk
  have okS : ∀ H2, ObjOk X.prog X.w H2 h' s.heap.objs.size (.lst (as.map V.ref)) := fun H2 => by
    refine ⟨by rw [List.length_map]; omega, acc.toList, c, by rw [hacc]; exact LiI.vals_refs as, ?_⟩
    rw [Array.toArray_toList]
    exact hS
  have I2 : Inv X pins σ (upd H s.heap.objs.size (.lst (as.map V.ref))) { s with heap := h', toks := tk } := I1.take (h' := h') (t' := tk) (fun b ob _ e => e) (I.fpOk (Nat.le_refl _) newS) (okS _)
  have nd : as.Nodup := hG.rise.imp fun h => Nat.ne_of_lt h
  have up : ∀ a ∈ as, s.heap.objs.size < a := hG.above
  have lp : es.toList.length = ps.length := Paired.length rel
  have at_ : ∀ (j : Nat) (a : Addr), as[j]? = some a → ∃ p, ps[j]? = some p ∧ ∀ H2, ObjOk X.prog X.w H2 h' a (.tup [p.1, p.2]) := by
    intro j a ha
    obtain ⟨e, he, hg⟩ := hG.pairs j a ha
    obtain ⟨p, hp, r1, r2⟩ := LiI.paired_get rel (show es.toList[j]? = some e by rw [Array.getElem?_toList]; exact he)
    exact ⟨p, hp, fun H2 => ⟨by show 2 ≤ sizeLine; decide, [e.key, e.val], .cons r1 (.cons r2 .nil), ⟨_, hg, rfl, _, rfl⟩⟩⟩
  obtain ⟨H3, I3, k3, q3⟩ := L2.DX.takeT (P := fun a vs => ∃ (j : Nat) (p : V × V), as[j]? = some a ∧ ps[j]? = some p ∧ vs = [p.1, p.2]) I as _ I2 nd (fun a ha => by
    obtain ⟨j, hj⟩ := List.getElem?_of_mem ha
    obtain ⟨p, hp, ok⟩ := at_ j a hj
    refine ⟨Nat.le_of_lt (up a ha), ?_, [p.1, p.2], ⟨j, p, hj, hp, rfl⟩, ok⟩
    rw [upd_ne (Nat.ne_of_gt (up a ha))]
    exact I.hok.fresh (Nat.le_of_lt (up a ha)))
  refine ⟨H3, I3, fun b o e => k3 b o (by rw [upd_ne (ne_of_none e newS)]; exact e), newS, k3 _ _ upd_same, ?_⟩
  have gen : ∀ (l : List Addr) (qs : List (V × V)), l.length = qs.length → (∀ (j : Nat) (a : Addr) (p : V × V), l[j]? = some a → qs[j]? = some p → H a = none ∧ H3 a = some (.tup [p.1, p.2])) → Paired (fun (t : Addr) (p : V × V) => H t = none ∧ H3 t = some (.tup [p.1, p.2])) l qs := by
    intro l
    induction l with
    | nil => intro qs h _; cases qs with
      | nil => exact .nil
      | cons _ _ => cases h
    | cons a l ih => intro qs h g; cases qs with
      | nil => cases h
      | cons q qs => exact .cons (g 0 a q rfl rfl) (ih qs (Nat.succ.inj h) fun i e p h1 h2 => g (i + 1) e p h1 h2)
  refine gen as ps (by simp at lp; omega) fun j a p h1 h2 => ?_
  have ha := List.mem_of_getElem? h1
  refine ⟨I.hok.fresh (Nat.le_of_lt (up a ha)), ?_⟩
  obtain ⟨vs, ⟨j', p', h3, h4, rfl⟩, h5⟩ := q3 a ha
  have ej : j = j' := by
    rcases Nat.lt_trichotomy j j' with h | h | h
    · have := (List.getElem?_eq_some_iff.mp h1).2
      have l1 := (List.getElem?_eq_some_iff.mp h1).1
      have l3 := (List.getElem?_eq_some_iff.mp h3).1
      have := List.pairwise_iff_getElem.mp hG.rise j j' l1 l3 h
      rw [(List.getElem?_eq_some_iff.mp h1).2, (List.getElem?_eq_some_iff.mp h3).2] at this
      exact absurd this (Nat.lt_irrefl _)
    · exact h
    · have l1 := (List.getElem?_eq_some_iff.mp h1).1
      have l3 := (List.getElem?_eq_some_iff.mp h3).1
      have := List.pairwise_iff_getElem.mp hG.rise j' j l3 l1 h
      rw [(List.getElem?_eq_some_iff.mp h1).2, (List.getElem?_eq_some_iff.mp h3).2] at this
      exact absurd this (Nat.lt_irrefl _)
  subst ej
  rw [h2] at h4; cases h4
  exact h5
end
section
variable {X : Cx} {te : TE} {e : Expr} {p apos cpos pos : Pos}
/-- list(e.items()) -/
def tItems (te : TE) : TE := fun σ H Q => te σ H fun x H1 => ∃ d u, x = .ref d ∧ Rd H1 d u ∧ ((∃ kvs, u = .dK kvs) ∨ ∃ kvs, u = .dT kvs) ∧
  ∀ ps H' p ts, Ents H1 u ps → (∀ b o, H1 b = some o → H' b = some o) → H1 p = none → H' p = some (.lst (ts.map V.ref)) → Paired (fun (t : Addr) (q : V × V) => H1 t = none ∧ H' t = some (.tup [q.1, q.2])) ts ps → Q (.ref p) H'
theorem pe_items (hc : X.calm = true) (he : PE X e te) (hg : Gl X "list") (hm : X.mg "list" = none) (hv : bootBuiltins "list" = some (.type "list")) (hbase : attributeBase e "items" X.env (eval e X.env) = eval e X.env := by rfl) (hline : (apos.endLine == cpos.line) = true := by rfl)
    (hs : starEach [.Call (.Attribute e "items" apos) [] [] cpos] X.env = (false, eval (.Call (.Attribute e "items" apos) [] [] cpos) X.env) :: (starEach [] X.env) := by rfl) :
    PE X (.Call (.Name "list" p) [.Call (.Attribute e "items" apos) [] [] cpos] [] pos) (tItems te) := by
  refine .mk fun pins s σ H Q I hq => ?_
  apply wpAny_Call_Name_kw
  apply ld_blt I hg hm hv
  refine PyProof.Rows.callWith_type1 (?_) hs rfl
  rw [hs]
  show wpAny _ _ (spliced ((false, eval (.Call (.Attribute e "items" apos) [] [] cpos) X.env) :: (backTo pos (starEach [] X.env)))) _ _ s
  apply Calls.spliced_cons
  apply wpAny_Call_method (T := "dict") (id := "dict.items") hbase rfl hline F.plainAttrs_dict F.slot_dict_items F.type_dict_items
  refine thn (he.run pins s σ H _ I hq) ?_
  rintro v s1 ⟨x, H1, I1, rx, d, u, rfl, hd, hu, q⟩
  obtain rfl : v = Value.ref d := rx
  obtain ⟨es, ep, ps, h0, raw, hz, en, rel⟩ := ents_raw I1 hd hu
  refine ⟨raw.typeIs, ?_, ?_⟩
  · intro a ea
    cases ea
    obtain ⟨o, ho, hx, _⟩ := raw
    exact ⟨o, ho, hx.2.1⟩
  change wpAny _ _ (callWith cpos (.builtin "dict.items") [.ref d] [] []) _ X.xe s1
  refine method_meetsIn F.slot_dict_items F.entry_dict_items rfl (PySem.evalArgs_none ⟨rfl, raw.typeIs, F.args_dict_items_1 _, _, DT.meetsItems (es := es) (ep := ep) h0, ⟨raw, ?_⟩⟩)
  apply Calls.spliced_nil
  have I2 : Inv X pins σ H1 { s1 with heap := s1.heap.push { cls := .type "dict_items", data := .fields #[.ref d] } } := I1.kept (t' := s1.toks) fun _ _ q => Heap.get?_push_of_some _ q
  refine list_view (es := es) (ep := ep) (I1.ok.hd hc) ⟨_, Heap.get?_push_size _ rfl, rfl, rfl⟩ (raw.push _) hz fun h' tk acc c as hk hS hl hG hacc => ?_
  obtain ⟨H', J, k1, k2, k3, k4⟩ := made_laid (tk := tk) I2 hz rel hk hS hl hG hacc
  exact ⟨.ref _, H', J, rfl, q ps H' _ as en k1 k2 k3 k4⟩
/-- list(e.values()) -/
def tVals (te : TE) : TE := fun σ H Q => te σ H fun x H1 => ∃ d u, x = .ref d ∧ Rd H1 d u ∧ ((∃ kvs, u = .dK kvs) ∨ ∃ kvs, u = .dT kvs) ∧
  ∀ ps p, Ents H1 u ps → H1 p = none → Q (.ref p) (upd H1 p (.lst (ps.map (·.2))))
theorem pe_vals (hc : X.calm = true) (he : PE X e te) (hg : Gl X "list") (hm : X.mg "list" = none) (hv : bootBuiltins "list" = some (.type "list")) (hbase : attributeBase e "values" X.env (eval e X.env) = eval e X.env := by rfl) (hline : (apos.endLine == cpos.line) = true := by rfl)
    (hs : starEach [.Call (.Attribute e "values" apos) [] [] cpos] X.env = (false, eval (.Call (.Attribute e "values" apos) [] [] cpos) X.env) :: (starEach [] X.env) := by rfl) :
    PE X (.Call (.Name "list" p) [.Call (.Attribute e "values" apos) [] [] cpos] [] pos) (tVals te) := by
  refine .mk fun pins s σ H Q I hq => ?_
  apply wpAny_Call_Name_kw
  apply ld_blt I hg hm hv
  refine PyProof.Rows.callWith_type1 (?_) hs rfl
  rw [hs]
  show wpAny _ _ (spliced ((false, eval (.Call (.Attribute e "values" apos) [] [] cpos) X.env) :: (backTo pos (starEach [] X.env)))) _ _ s
  apply Calls.spliced_cons
  apply wpAny_Call_method (T := "dict") (id := "dict.values") hbase rfl hline F.plainAttrs_dict F.slot_dict_values F.type_dict_values
  refine thn (he.run pins s σ H _ I hq) ?_
  rintro v s1 ⟨x, H1, I1, rx, d, u, rfl, hd, hu, q⟩
  obtain rfl : v = Value.ref d := rx
  obtain ⟨es, ep, ps, h0, raw, hz, en, rel⟩ := ents_raw I1 hd hu
  refine ⟨raw.typeIs, ?_, ?_⟩
  · intro a ea
    cases ea
    obtain ⟨o, ho, hx, _⟩ := raw
    exact ⟨o, ho, hx.2.1⟩
  change wpAny _ _ (callWith cpos (.builtin "dict.values") [.ref d] [] []) _ X.xe s1
  refine method_meetsIn F.slot_dict_values F.entry_dict_values rfl (PySem.evalArgs_none ⟨rfl, raw.typeIs, F.args_dict_values_1 _, _, meets_dict_values_raw d h0, ⟨⟨es, ep, raw⟩, ?_⟩⟩)
  apply Calls.spliced_nil
  have ih := I1.hok.fresh (Nat.le_refl s1.heap.objs.size)
  have I2 : Inv X pins σ H1 { s1 with heap := s1.heap.push { cls := .type "dict_values", data := .fields #[.ref d] } } := I1.kept (t' := s1.toks) fun _ _ q => Heap.get?_push_of_some _ q
  refine PySem.W.kdl_call (KdlSrc.rawValues (r := s1.heap.objs.size) (d := d) (es := es) (ep := ep)) (I1.ok.hd hc) ⟨⟨_, Heap.get?_push_size _ rfl, rfl, rfl⟩, Heap.DictRaw.push raw _⟩ hz fun h' tk acc c hk hS hacc => ?_
  have hn : H1 (s1.heap.push { cls := .type "dict_values", data := .fields #[.ref d] }).objs.size = none := I2.hok.fresh (Nat.le_refl _)
  have lp : es.toList.length = ps.length := Paired.length rel
  have la : acc.toList.length = ps.length := by rw [Array.length_toList, hacc.1]; simpa using lp
  have rv : Vals (ps.map (·.2)) acc.toList := by
    have gen : ∀ (l : List Value) (qs : List (V × V)), l.length = qs.length → (∀ (j : Nat) (v : Value) (p : V × V), l[j]? = some v → qs[j]? = some p → RelV p.2 v) → Vals (qs.map (·.2)) l := by
      intro l
      induction l with
      | nil => intro qs h _; cases qs with
        | nil => exact .nil
        | cons _ _ => cases h
      | cons a l ih => intro qs h g; cases qs with
        | nil => cases h
        | cons q qs => exact .cons (g 0 a q rfl rfl) (ih qs (Nat.succ.inj h) fun i e p h1 h2 => g (i + 1) e p h1 h2)
    refine gen _ _ la fun j v p h1 h2 => ?_
    obtain ⟨hi, e1⟩ := hacc.2 j v (by rw [← Array.getElem?_toList]; exact h1)
    obtain ⟨p', hp, r1, r2⟩ := LiI.paired_get rel (show es.toList[j]? = some es[j] by rw [Array.getElem?_toList]; exact Array.getElem?_eq_getElem hi)
    rw [h2] at hp; cases hp
    rw [e1]; exact r2
  refine ⟨.ref _, _, I2.laid (t' := tk) (o := .lst (ps.map (·.2))) hk (Nat.le_refl _) ?_, rfl, q ps _ en hn⟩
  refine ⟨by rw [List.length_map]; simp at lp; omega, acc.toList, c, rv, ?_⟩
  rw [Array.toArray_toList]
  exact hS
end
section
variable {X : Cx} {g : GL} {E : XK} {pos : Pos} {a b e : Expr} {ι : List Addr} {st : Store} {H F : Hp}
/-- the heap has grown, nothing else -/
theorem good_grow {H' : Hp} (G : Good g ι st H) (ke : ∀ b o, H b = some o → H' b = some o) : Good g ι st H' ∧ Ext g H ι H' ι := by
  have sub : Sub (Fz H (g.x ι)) (Fz H' (g.x ι)) := fun b u e => by
    obtain ⟨h1, w, h2, h3⟩ := Fz.at e
    exact Fz.mk h1 (ke _ _ h2) h3
  exact ⟨⟨G.nd, pd_imp G.cells fun a c _ ⟨u, e, r⟩ => ⟨u, ke _ _ e, r.sub sub (.refl ι)⟩, G.tabs.ext ke, fun b hb => let ⟨o, e⟩ := G.exs b hb; ⟨o, ke _ _ e⟩, G.dis⟩, ⟨.refl ι, sub, fun b hb => let ⟨o, e⟩ := G.exs b hb; (ke _ _ e).trans e.symm, .of ke⟩⟩
theorem see_dK (G : Good g ι st H) {v : V} {d : D} {ps : List (P × P)} (r : RD g (Fz H (g.x ι)) ι v d) (e : see st d = some (.dct ps)) : ∃ a kvs, v = .ref a ∧ Rd H a (.dK kvs) ∧ RpK g (Fz H (g.x ι)) kvs ps := by
  cases r with
  | p r =>
    cases e
    cases r with
    | dK h1 r2 => exact ⟨_, _, rfl, rd_fzK h1, r2⟩
  | ref hn =>
    obtain ⟨c, u, h1, h2, rc⟩ := G.cell' hn
    simp only [Iv.see, h1] at e
    cases rc with
    | dK q =>
      obtain ⟨ys, e1, z⟩ := Option.map_eq_some_iff.mp (show (pKs _).map P.dct = _ from e)
      cases z
      exact ⟨_, _, rfl, .inl h2, rpk_of q e1⟩
    | fK q =>
      obtain ⟨ys, e1, z⟩ := Option.map_eq_some_iff.mp (show (pKs _).map P.dct = _ from e)
      cases z
      exact ⟨_, _, rfl, .inr ⟨_, h2⟩, rpk_of q e1⟩
    | lst q => obtain ⟨ys, e1, z⟩ := Option.map_eq_some_iff.mp (show (pAll _).map P.lst = _ from e); cases z
    | obj q => obtain ⟨ys, e1, z⟩ := Option.map_eq_some_iff.mp (show (pFs _).map (P.obj _) = _ from e); cases z
    | dT q => obtain ⟨ys, e1, z⟩ := Option.map_eq_some_iff.mp (show (pTs _).map P.dcT = _ from e); cases z
    | fT q => obtain ⟨ys, e1, z⟩ := Option.map_eq_some_iff.mp (show (pTs _).map P.dcT = _ from e); cases z
theorem see_dT (G : Good g ι st H) {v : V} {d : D} {ps : List (P × P)} (r : RD g (Fz H (g.x ι)) ι v d) (e : see st d = some (.dcT ps)) : ∃ a kvs, v = .ref a ∧ Rd H a (.dT kvs) ∧ RpT g (Fz H (g.x ι)) kvs ps := by
  cases r with
  | p r =>
    cases e
    cases r with
    | dT h1 r2 => exact ⟨_, _, rfl, rd_fzT h1, r2⟩
  | ref hn =>
    obtain ⟨c, u, h1, h2, rc⟩ := G.cell' hn
    simp only [Iv.see, h1] at e
    cases rc with
    | dT q =>
      obtain ⟨ys, e1, z⟩ := Option.map_eq_some_iff.mp (show (pTs _).map P.dcT = _ from e)
      cases z
      exact ⟨_, _, rfl, .inl h2, rpt_of q e1⟩
    | fT q =>
      obtain ⟨ys, e1, z⟩ := Option.map_eq_some_iff.mp (show (pTs _).map P.dcT = _ from e)
      cases z
      exact ⟨_, _, rfl, .inr ⟨_, h2⟩, rpt_of q e1⟩
    | lst q => obtain ⟨ys, e1, z⟩ := Option.map_eq_some_iff.mp (show (pAll _).map P.lst = _ from e); cases z
    | obj q => obtain ⟨ys, e1, z⟩ := Option.map_eq_some_iff.mp (show (pFs _).map (P.obj _) = _ from e); cases z
    | dK q => obtain ⟨ys, e1, z⟩ := Option.map_eq_some_iff.mp (show (pKs _).map P.dct = _ from e); cases z
    | fK q => obtain ⟨ys, e1, z⟩ := Option.map_eq_some_iff.mp (show (pKs _).map P.dct = _ from e); cases z
/-- the entries, as data -/
theorem ents_k {F : Hp} : ∀ {kvs : List (Key × V)} {ps : List (P × P)}, RpK g F kvs ps → Paired (fun (q : V × V) (p : P × P) => Rp g F q.1 p.1 ∧ Rp g F q.2 p.2) (kvs.map fun q : Key × V => (kV q.1, q.2)) ps
  | _, _, .nil => .nil
  | _, _, .cons r t => .cons ⟨rp_key _, r⟩ (ents_k t)
theorem ents_t (G : Good g ι st H) : ∀ {kvs : List (List Key × V)} {ps : List (P × P)} {qs : List (V × V)}, RpT g (Fz H (g.x ι)) kvs ps → Ents H (.dT kvs) qs → Paired (fun (q : V × V) (p : P × P) => Rp g (Fz H (g.x ι)) q.1 p.1 ∧ Rp g (Fz H (g.x ι)) q.2 p.2) qs ps
  | _, _, _, .nil, .nil => .nil
  | _, _, _, .cons r t, .cons h t2 => by
    obtain ⟨⟨b, h1, h2⟩, h3⟩ := h
    refine .cons ⟨?_, ?_⟩ (ents_t G t t2)
    · rw [h1]; exact rp_keyT G h2
    · rw [h3]; exact r
/-- a dict's entries: keys and values -/
def entP : P → Option (List (P × P))
  | .dct ps => some ps
  | .dcT ps => some ps
  | _ => none
theorem see_ents (G : Good g ι st H) {v : V} {d : D} {x : P} {ps : List (P × P)} (r : RD g (Fz H (g.x ι)) ι v d) (e : see st d = some x) (hp : entP x = some ps) :
    ∃ a u, v = .ref a ∧ Rd H a u ∧ ((∃ kvs, u = .dK kvs) ∨ ∃ kvs, u = .dT kvs) ∧ ∀ qs, Ents H u qs → Paired (fun (q : V × V) (p : P × P) => Rp g (Fz H (g.x ι)) q.1 p.1 ∧ Rp g (Fz H (g.x ι)) q.2 p.2) qs ps := by
  unfold entP at hp
  split at hp
  · cases hp
    obtain ⟨a, kvs, rfl, h1, h2⟩ := see_dK G r e
    exact ⟨a, _, rfl, h1, .inl ⟨_, rfl⟩, fun qs h => by rw [show qs = _ from h]; exact ents_k h2⟩
  · cases hp
    obtain ⟨a, kvs, rfl, h1, h2⟩ := see_dT G r e
    exact ⟨a, _, rfl, h1, .inr ⟨_, rfl⟩, fun qs h => ents_t G h2 h⟩
  · cases hp
def vItems (fo : Ev D) : Ev D := fun δ st => (fo δ st).bnd fun d s => match (see s d).bind entP with
  | some ps => .ok (.p (.lst (ps.map fun q => .tup [q.1, q.2]))) s
  | none => .bad
def vVals (fo : Ev D) : Ev D := fun δ st => (fo δ st).bnd fun d s => match (see s d).bind entP with
  | some ps => .ok (.p (.lst (ps.map fun q => q.2))) s
  | none => .bad
theorem se_items {fo : Ev D} {p apos cpos : Pos} (hc : X.calm = true) (he : PE X e (SemE g E fo)) (hg : Gl X "list") (hm : X.mg "list" = none) (hv : bootBuiltins "list" = some (.type "list")) (hbase : attributeBase e "items" X.env (eval e X.env) = eval e X.env := by rfl) (hline : (apos.endLine == cpos.line) = true := by rfl)
    (hs : starEach [.Call (.Attribute e "items" apos) [] [] cpos] X.env = (false, eval (.Call (.Attribute e "items" apos) [] [] cpos) X.env) :: (starEach [] X.env) := by rfl) :
    PE X (.Call (.Name "list" p) [.Call (.Attribute e "items" apos) [] [] cpos] [] pos) (SemE g E (vItems fo)) := by
  refine pe_mono (pe_items hc he hg hm hv hbase hline hs) fun σ H Q ⟨ex, ι, st, δ, at_, h⟩ => ?_
  refine semE_bnd at_ ?_
  unfold vItems at h
  cases ea : fo δ st with
  | bad => rw [ea] at h; exact h
  | exc c s1 => rw [ea] at h; exact h
  | ok d s1 =>
    rw [ea] at h
    intro v H1 ι1 at1 x1 r1
    have h := Post.ext x1 h
    simp only [Res.bnd] at h
    split at h
    · rename_i ps hps
      obtain ⟨x, h1, h2⟩ := Option.bind_eq_some_iff.mp hps
      obtain ⟨a, u, rfl, h3, h4, h5⟩ := see_ents at1.good r1 h1 h2
      refine ⟨a, u, rfl, h3, h4, fun qs H' p ts en ke np hp tp => ?_⟩
      have G := at1.good
      obtain ⟨G', x'⟩ := good_grow G ke
      have out : ∀ {t : Addr}, H1 t = none → t ∉ (g.wx ex).x ι1 := fun ht => G.out ht
      refine h _ H' ι1 G' x' (.p (.lst (vs := ts.map V.ref) (Fz.mk (out np) hp rfl) ?_))
      have pr := h5 qs en
      have gen : ∀ {ts : List Addr} {qs : List (V × V)} {ps : List (P × P)}, Paired (fun (t : Addr) (q : V × V) => H1 t = none ∧ H' t = some (.tup [q.1, q.2])) ts qs → Paired (fun (q : V × V) (p : P × P) => Rp (g.wx ex) (Fz H1 ((g.wx ex).x ι1)) q.1 p.1 ∧ Rp (g.wx ex) (Fz H1 ((g.wx ex).x ι1)) q.2 p.2) qs ps →
          Rps (g.wx ex) (Fz H' ((g.wx ex).x ι1)) (ts.map V.ref) (ps.map fun q => P.tup [q.1, q.2]) := by
        intro ts qs ps t1
        induction t1 generalizing ps with
        | nil => intro t2; cases t2; exact .nil
        | cons z t ih =>
          intro t2
          cases t2 with
          | cons w t2 => exact .cons (.tup (Fz.mk (out z.1) z.2 rfl) (.cons (w.1.sub x'.keep) (.cons (w.2.sub x'.keep) .nil))) (ih t2)
      exact gen tp pr
    · exact h.elim
theorem se_vals {fo : Ev D} {p apos cpos : Pos} (hc : X.calm = true) (he : PE X e (SemE g E fo)) (hg : Gl X "list") (hm : X.mg "list" = none) (hv : bootBuiltins "list" = some (.type "list")) (hbase : attributeBase e "values" X.env (eval e X.env) = eval e X.env := by rfl) (hline : (apos.endLine == cpos.line) = true := by rfl)
    (hs : starEach [.Call (.Attribute e "values" apos) [] [] cpos] X.env = (false, eval (.Call (.Attribute e "values" apos) [] [] cpos) X.env) :: (starEach [] X.env) := by rfl) :
    PE X (.Call (.Name "list" p) [.Call (.Attribute e "values" apos) [] [] cpos] [] pos) (SemE g E (vVals fo)) := by
  refine pe_mono (pe_vals hc he hg hm hv hbase hline hs) fun σ H Q ⟨ex, ι, st, δ, at_, h⟩ => ?_
  refine semE_bnd at_ ?_
  unfold vVals at h
  cases ea : fo δ st with
  | bad => rw [ea] at h; exact h
  | exc c s1 => rw [ea] at h; exact h
  | ok d s1 =>
    rw [ea] at h
    intro v H1 ι1 at1 x1 r1
    have h := Post.ext x1 h
    simp only [Res.bnd] at h
    split at h
    · rename_i ps hps
      obtain ⟨x, h1, h2⟩ := Option.bind_eq_some_iff.mp hps
      obtain ⟨a, u, rfl, h3, h4, h5⟩ := see_ents at1.good r1 h1 h2
      refine ⟨a, u, rfl, h3, h4, fun qs p en np => ?_⟩
      have pr := h5 qs en
      refine new_data at1.good np h rfl fun F' sub e => .lst e ?_
      have gen : ∀ {qs : List (V × V)} {ps : List (P × P)}, Paired (fun (q : V × V) (p : P × P) => Rp (g.wx ex) (Fz H1 ((g.wx ex).x ι1)) q.1 p.1 ∧ Rp (g.wx ex) (Fz H1 ((g.wx ex).x ι1)) q.2 p.2) qs ps → Rps (g.wx ex) F' (qs.map (·.2)) (ps.map fun q => q.2) := by
        intro qs ps t1
        induction t1 with
        | nil => exact .nil
        | cons w t ih => exact .cons (w.2.sub sub) ih
      exact gen pr
    · exact h.elim
end
end Iv
end

section
set_option Elab.async false
set_option linter.all false
set_option maxRecDepth 100000
set_option maxHeartbeats 4100000
namespace Iv
open PySem PySem.Spec PyProof.Rows L2 Gx
/-! ### enumerate of a list, of a tuple -/
theorem meets_enum1 {v : Value} {o : Obj} {B0 : Heap → Prop} (B : Begins v o B0) :
    Meets (Builtin.«enumerate.__new__» ⟨[.type "enumerate", v], []⟩) (fun _ R s => B0 s.heap ∧
      R (.ok (.ret (.ref (s.heap.push o).objs.size))) { s with heap := (s.heap.push o).push { cls := .type "enumerate", data := .fields #[.none, .bool false, .ref s.heap.objs.size, rawInt 0, .none, .none] } }) :=
  .of_wp fun prog w A R s ⟨b0, h⟩ => by
    rcases s with ⟨hp, g, d, tk, os⟩
    have sb := sub_enumerate
    have it : ∀ {A' : Around} {E : Value → Shared → Prop} {Q : Value → Shared → Prop}, Q (.ref hp.objs.size) ⟨hp.push o, g, d, tk, os⟩ → wpAny (model prog w) A' (pyIter v) Q E ⟨hp, g, d, tk, os⟩ := fun q => B.iter prog w _ _ _ _ b0 q
    wp_walk using it
    apply wpAny_stack_any
    intro st
    apply wpAny_pure
    split
    · rename_i c _ _ _ _ _
      cases (c == Value.type "enumerate") <;> (wp_walk using it; exact ⟨_, rfl, h⟩)
    · wp_walk using it
      exact ⟨_, rfl, h⟩
section
variable {prog : Program} {w : World} {A : Around} {E : Value → Shared → Prop} {s : Shared}
theorem call_enum1 {v : Value} {o : Obj} {B0 : Heap → Prop} {Q : Value → Shared → Prop} (B : Begins v o B0) (b0 : B0 s.heap)
    (h : ∀ h', IsEnum h' (s.heap.objs.size + 1) s.heap.objs.size 0 .none → h'.get? s.heap.objs.size = some o → (∀ b o', s.heap.get? b = some o' → h'.get? b = some o') → Q (.ref (s.heap.objs.size + 1)) { s with heap := h' }) :
    wpAny (model prog w) A (call (.type "enumerate") [v]) Q E s := by
  have sz : (s.heap.push o).objs.size = s.heap.objs.size + 1 := Heap.size_push ..
  have en : IsEnum ((s.heap.push o).push { cls := .type "enumerate", data := .fields #[.none, .bool false, .ref s.heap.objs.size, rawInt 0, .none, .none] }) (s.heap.objs.size + 1) s.heap.objs.size 0 .none := by
    have q := Heap.get?_push_size (s.heap.push o) (o := { cls := .type "enumerate", data := .fields #[.none, .bool false, .ref s.heap.objs.size, rawInt 0, .none, .none] }) rfl
    rw [sz] at q
    exact q
  apply callType_new F.called_enumerate (by decide) (F.typeCall_enumerate_1 _) (F.newCall_enumerate_1 _) (fun obj => F.args_object_init_2 obj _) F.entry_enumerate_new (meets_enum1 B)
  refine ⟨b0, ?_⟩
  rw [sz]
  exact ⟨⟨_, en, rfl⟩, h _ en (Heap.get?_push_of_some _ (Heap.get?_push_size _ B.free)) fun b o' x => Heap.get?_push_of_some _ (Heap.get?_push_of_some _ x)⟩
end
/-- the tuple at a, each item in a new pair -/
def ItEt (K : PySem.W.Frag) (a : Addr) : It :=
  ⟨fun i H => ∃ (xs : List V) (x : V), SqT K H a xs ∧ xs[i]? = some x, fun i H v H' => ∃ T x, v = .ref T ∧ H T = none ∧ H' = upd H T (.tup [.int (i : Nat), x]) ∧ ∀ xs, SqT K H a xs → xs[i]? = some x, fun i H => ∃ xs : List V, SqT K H a xs ∧ xs.length = i⟩
theorem turn_enumT {P : Program} {w : World} {K : PySem.W.Frag} {elts : List Expr} {kk : Nat} {tpos : Pos} (a e it : Addr) (hai : a ≠ it) (hae : a ≠ e) :
    Turn P w K (.Tuple elts kk tpos) (ItEt K a) [e, it] e (fun i h => (∃ old, IsEnum h e it ((i : Nat) : Int) old) ∧ h.IsTupleIter it a i ∧ e ≠ it) where
  mem := by simp
  obj := fun i h st b hb => by
    rcases st with ⟨⟨old, he⟩, ⟨o, ho, hc, hd⟩, -⟩
    obtain rfl | rfl : b = e ∨ b = it := by simpa using hb
    · exact ⟨_, he, fun v q => nomatch q⟩
    · exact ⟨o, ho, fun v q => by rw [hd] at q; cases q⟩
  keep := fun i h h' st k => let ⟨⟨old, he⟩, hi, ne⟩ := st; ⟨⟨old, k e (by simp) _ he⟩, hi.at fun o q => k it (by simp) o q, ne⟩
  item := by
    intros X hP hw hK hc i pins s σ H E I hf st hg
    subst hP hw hK
    obtain ⟨⟨old, he⟩, hit, ne⟩ := st
    obtain ⟨xs, x, hq, hx⟩ := hg
    rcases I.tuple hq with ⟨its, rv, p, hz⟩
    rcases rv.get hx with ⟨u, hu, ru⟩
    have el : e < s.heap.objs.size := Heap.lt_size he
    have il : it < s.heap.objs.size := by obtain ⟨_, q, _⟩ := hit; exact Heap.lt_size q
    have D := Draws.tuple (prog := X.prog) (w := X.w) (A := X.A.in1) (I.ok.hd hc) it a hai its.toArray
    have li : i < its.toArray.size := by have := (List.getElem?_eq_some_iff.mp hu).1; simpa using this
    refine wpAny_pyNext_enum_itemD D he ⟨hit, p⟩ li ne (by simp [ne, Ne.symm hae]) fun x' h' tk px eo st' hT hsz hk => ?_
    obtain rfl : x' = u := by
      have q : its[i]? = some x' := by simpa using px
      rw [hu] at q; exact (Option.some.inj q).symm
    refine ⟨_, rfl, wpAny_letOwnedTupleGo_enum (s := { s with heap := h', toks := tk + 1 }) eo fun h'' he' sb => ?_⟩
    have hT2 : h''.get? s.heap.objs.size = some { cls := .type "tuple", data := .seq #[.int i tk, x'] } := (sb.2 _ (Nat.ne_of_gt el)).trans hT
    have new : (ObjOk X.prog X.w (upd H s.heap.objs.size (.tup [.int (i : Nat), x])) h'' s.heap.objs.size (.tup [.int (i : Nat), x])) :=
      ⟨by show 2 ≤ sizeLine; decide, [.int i tk, x'], .cons ⟨_, rfl⟩ (.cons ru .nil), ⟨_, hT2, rfl, _, rfl⟩⟩
    have I1 : Inv X pins σ (upd H s.heap.objs.size (.tup [.int (i : Nat), x])) { s with heap := h'', toks := tk + 1 } := I.turnedNew (ch := [e, it]) (fun b ob hb q => by
      have b1 : b ≠ e := fun z => hb (by simp [z])
      have b2 : b ≠ it := fun z => hb (by simp [z])
      exact (sb.2 b b1).trans (hk b ob b1 b2 q)) hf (Nat.le_refl _) new
    refine ⟨.ref s.heap.objs.size, _, I1, rfl, ⟨_, x, rfl, I.hok.fresh (Nat.le_refl _), rfl, fun ys hy => by rw [I.tuple_inj hy hq]; exact hx⟩, ⟨⟨x', ?_⟩, st'.1.at fun o q => (sb.2 it (Ne.symm ne)).trans q, ne⟩, fun b hb => ?_⟩
    · rw [show ((i + 1 : Nat) : Int) = (i : Int) + 1 by omega]; exact he'
    · obtain rfl | rfl : b = e ∨ b = it := by simpa using hb
      · rw [upd_ne (Nat.ne_of_lt el)]; exact (hf _ hb).1
      · rw [upd_ne (Nat.ne_of_lt il)]; exact (hf _ hb).1
  done := by
    intros X hP hw hK hc i pins s σ H E I hf st hg
    subst hP hw hK
    obtain ⟨⟨old, he⟩, hit, ne⟩ := st
    obtain ⟨xs, hq, hx⟩ := hg
    rcases I.tuple hq with ⟨its, rv, p, hz⟩
    rcases hf it (by simp) with ⟨f0, f1, f2, f3, f4, f5⟩
    have D := Draws.tuple (prog := X.prog) (w := X.w) (A := X.A.in1) (I.ok.hd hc) it a hai its.toArray
    have li : its.toArray.size = i := by have := rv.length; simp; omega
    subst li
    exact wpAny_pyNext_enum_endD D he ⟨hit, p⟩ fun h' eb => ⟨rfl, I.turned (t' := s.toks) (fun b o hb q => eb b o hb q) f0 f1 f3 f4 f5⟩
  self := fun A i s Q E st h => by rcases st with ⟨⟨_, he⟩, _⟩; exact wpAny_pyIter_enum he h
section
variable {X : Cx} {g : GL} {E : XK} {pos : Pos} {tg a b e : Expr} {ι : List Addr} {st : Store} {H F : Hp}
def enumP (xs : List P) : List P := (xs.zipIdx).map fun z => .tup [.int (z.2 : Nat), z.1]
theorem enumP_get {xs : List P} {i : Nat} {z : P} (h : (enumP xs)[i]? = some z) : ∃ x, xs[i]? = some x ∧ z = .tup [.int (i : Nat), x] := by
  unfold enumP at h
  rw [List.getElem?_map, Option.map_eq_some_iff] at h
  obtain ⟨q, hq, rfl⟩ := h
  rw [List.getElem?_zipIdx, Option.map_eq_some_iff] at hq
  obtain ⟨x, hx, rfl⟩ := hq
  exact ⟨x, hx, by simp⟩
theorem enumP_len (xs : List P) : (enumP xs).length = xs.length := by simp [enumP]
def itE (f : Ev (List D)) : Ev Its := fun δ st => (f δ st).bnd fun ds s => match ds with
  | [.p x] => match lstP x, tupP x with
    | some xs, _ => .ok ⟨(enumP xs).map .p, none⟩ s
    | none, some xs => .ok ⟨(enumP xs).map .p, none⟩ s
    | none, none => .bad
  | _ => .bad
theorem its_enumL {a : Addr} {vs : List V} {xs : List P} (hs : ∀ e H' ι', Ex2 g H ι e H' ι' → SqL g.K H' a vs) (r : Rps g (Fz H (g.x ι)) vs xs) : ItS g (Ite g.K a) H ι ⟨(enumP xs).map .p, none⟩ := by
  refine ⟨fun {e i H' ι' st' d0 d} hi G x hd => ?_, fun {e H' ι' st'} G x _ => ⟨vs, hs _ _ _ x, by rw [List.length_map, enumP_len, r.length]; exact Nat.le_refl _⟩⟩
  cases hd
  rw [List.getElem?_map, Option.map_eq_some_iff] at hi
  obtain ⟨z, hz, rfl⟩ := hi
  obtain ⟨y, hy, rfl⟩ := enumP_get hz
  obtain ⟨v, hv, rv⟩ := r.get' hy
  refine ⟨⟨vs, v, hs _ _ _ x, hv⟩, fun u H'' ⟨T, x', e1, e2, e3, e4⟩ => ?_⟩
  subst e1 e3
  have k1 := e4 vs (hs _ _ _ x)
  rw [hv] at k1; cases k1
  exact pair_new G e2 (.int _) ((rv.sub x.keep).wx _)
theorem its_enumT {a : Addr} {vs : List V} {xs : List P} (hs : ∀ e H' ι', Ex2 g H ι e H' ι' → SqT g.K H' a vs) (r : Rps g (Fz H (g.x ι)) vs xs) : ItS g (ItEt g.K a) H ι ⟨(enumP xs).map .p, none⟩ := by
  refine ⟨fun {e i H' ι' st' d0 d} hi G x hd => ?_, fun {e H' ι' st'} G x _ => ⟨vs, hs _ _ _ x, by rw [List.length_map, enumP_len, r.length]⟩⟩
  cases hd
  rw [List.getElem?_map, Option.map_eq_some_iff] at hi
  obtain ⟨z, hz, rfl⟩ := hi
  obtain ⟨y, hy, rfl⟩ := enumP_get hz
  obtain ⟨v, hv, rv⟩ := r.get' hy
  refine ⟨⟨vs, v, hs _ _ _ x, hv⟩, fun u H'' ⟨T, x', e1, e2, e3, e4⟩ => ?_⟩
  subst e1 e3
  have k1 := e4 vs (hs _ _ _ x)
  rw [hv] at k1; cases k1
  exact pair_new G e2 (.int _) ((rv.sub x.keep).wx _)
def iEnumA (K : PySem.W.Frag) (ta : TA) : TI := fun σ H R => ta σ H fun vs H1 => ∃ a xs, vs = [.ref a] ∧ ((SqL K H1 a xs ∧ R (Ite K a) H1) ∨ (SqT K H1 a xs ∧ R (ItEt K a) H1))
theorem pi_enumA {ta : TA} {p tpos : Pos} {elts : List Expr} {kk : Nat} (hg : Gl X "enumerate") (hm : X.mg "enumerate" = none) (ha : PA X [e] ta) (hs : starEach [e] X.env = [(false, eval e X.env)] := by rfl) :
    PI X (.Tuple elts kk tpos) (.Call (.Name "enumerate" p) [e] [] pos) (iEnumA X.K ta) := by
  refine .mk fun pins s σ H R I h => ?_
  refine Call_ (ld_blt I hg hm boot_enumerate (PyProof.Rows.callWith_type1 ?_ hs rfl))
  refine thn (ha.run pos pins s σ H _ I h) ?_
  rintro us s1 ⟨vs, H1, I1, r1, a, xs, rfl, q⟩
  obtain ⟨u, rfl, rx⟩ := vals1 r1
  cases rx
  have fr : ∀ b, b ∈ [s1.heap.objs.size + 1, s1.heap.objs.size] → FpOk X pins H1 b := fun b hb => by
    have le : s1.heap.objs.size ≤ b := by
      simp only [List.mem_cons, or_false, List.not_mem_nil] at hb
      omega
    exact I1.fpOk le (I1.hok.fresh le)
  rcases q with (⟨hq, q⟩ | ⟨hq, q⟩)
  · obtain ⟨its, rv, pl, hz⟩ := I1.list hq
    refine call_enumerate_list pl.isList fun h' he hit hsz hk => wpAny_pyIter_enum he ?_
    exact ⟨s1.heap.objs.size + 1, [s1.heap.objs.size + 1, s1.heap.objs.size], _, _, H1, rfl, I1.kept (t' := s1.toks) hk, turn_enum a (s1.heap.objs.size + 1) s1.heap.objs.size, ⟨⟨.none, he⟩, hit, Nat.succ_ne_self _⟩, fr, q⟩
  · obtain ⟨its, rv, pl, hz⟩ := I1.tuple hq
    have al : a < s1.heap.objs.size := by obtain ⟨_, ho, _⟩ := pl; exact Heap.lt_size ho
    refine call_enum1 (begins_tuple a its.toArray) pl fun h' he hit hk => wpAny_pyIter_enum he ?_
    exact ⟨s1.heap.objs.size + 1, [s1.heap.objs.size + 1, s1.heap.objs.size], _, _, H1, rfl, I1.kept (t' := s1.toks) hk, turn_enumT a (s1.heap.objs.size + 1) s1.heap.objs.size (Nat.ne_of_lt al) (Nat.ne_of_lt (Nat.lt_succ_of_lt al)), ⟨⟨.none, he⟩, ⟨_, hit, rfl, rfl⟩, Nat.succ_ne_self _⟩, fr, q⟩
theorem si_enum {elts : List Expr} {kk : Nat} {tpos p : Pos} {fa : Ev (List D)} (k : CxK X g) (hg : Gl X "enumerate") (hm : X.mg "enumerate" = none) (ha : PA X [a] (SemA g E fa)) (hs : starEach [a] X.env = [(false, eval a X.env)] := by rfl) :
    PI X (.Tuple elts kk tpos) (.Call (.Name "enumerate" p) [a] [] pos) (SemI g E (itE fa)) := by
  refine pi_mono (pi_enumA hg hm ha hs) fun σ H R ⟨ex, ι, st, δ, at_, hh⟩ => ?_
  have kk : X.K = (g.wx ex).K := k.K
  refine semA_bnd at_ ?_
  unfold itE at hh
  cases ef : fa δ st with
  | bad => rw [ef] at hh; exact hh
  | exc c s => rw [ef] at hh; exact hh
  | ok ds s =>
    rw [ef] at hh
    intro vs H1 ι1 at1 x1 r1
    simp only [Res.bnd] at hh
    split at hh
    · rename_i x
      obtain ⟨v, rfl, rv⟩ := rds_one r1
      cases rv with
      | p rv =>
        split at hh
        · rename_i xs _ hx
          obtain ⟨p1, ws, rfl, q1, s1, t1⟩ := lstP_ok rv hx
          exact ⟨p1, ws, rfl, .inl ⟨kk ▸ s1, hh _ H1 ι1 at1.good x1 (kk ▸ its_enumL t1 q1)⟩⟩
        · rename_i xs _ hx
          obtain ⟨p1, ws, rfl, q1, s1, t1⟩ := tupP_ok rv hx
          exact ⟨p1, ws, rfl, .inr ⟨kk ▸ s1, hh _ H1 ι1 at1.good x1 (kk ▸ its_enumT t1 q1)⟩⟩
        · exact hh.elim
    · exact hh.elim
end
end Iv
end

section
set_option Elab.async false
set_option linter.all false
set_option maxRecDepth 100000
set_option maxHeartbeats 4100000
namespace Iv
open PySem PySem.Spec PyProof.Rows L2 Gx
/-! ### len of a dict -/
def fLenX : F1 := fun ds st => match ds with
  | [d] => match (see st d).bind entP with
    | some ps => .ok (.p (.int ps.length)) st
    | none => fLen [d] st
  | _ => .bad
theorem nx_lenX : NoX1 fLenX := by
  intro ds st c s e
  unfold fLenX at e
  split at e
  · split at e
    · cases e
    · exact nx_len _ _ _ _ e
  · cases e
section
variable {X : Cx} {g : GL}
theorem rpk_length {F : Hp} : ∀ {vs : List (Key × V)} {ps : List (P × P)}, RpK g F vs ps → vs.length = ps.length
  | _, _, .nil => rfl
  | _, _, .cons _ t => congrArg Nat.succ (rpk_length t)
theorem rpt_length {F : Hp} : ∀ {vs : List (List Key × V)} {ps : List (P × P)}, RpT g F vs ps → vs.length = ps.length
  | _, _, .nil => rfl
  | _, _, .cons _ t => congrArg Nat.succ (rpt_length t)
theorem rc_lenX (k : CxK X g) : CallR X (.builtin "len") (rCal g fLenX) := by
  rintro pins s σ H vs us Q I rv ⟨ex, ι, st, ds, G, r, d, st', e, q⟩
  unfold fLenX at e
  split at e
  · rename_i d0
    obtain ⟨v, rfl, rd⟩ := rds_one r
    split at e
    · rename_i ps hps
      cases e
      obtain ⟨x, h1, h2⟩ := Option.bind_eq_some_iff.mp hps
      obtain ⟨u, rfl, rx⟩ := vals1 rv
      unfold entP at h2
      split at h2
      · cases h2
        obtain ⟨a, kvs, rfl, h3, h4⟩ := see_dK G rd h1
        cases rx
        refine d_len I h3 fun t s' I' => ⟨.int kvs.length, H, I', ⟨t, rfl⟩, ?_⟩
        rw [rpk_length h4]
        exact q _ H ι G (.refl _ _) (.p (.int _))
      · cases h2
        obtain ⟨a, kvs, rfl, h3, h4⟩ := see_dT G rd h1
        cases rx
        obtain ⟨z, hd, ys, rel, dd⟩ := dt_rd I.hok h3
        have hl : kvs.length = ys.length := rel.length
        refine call_len_dictH hd dd (by rw [sizeLine_eq] at z; rw [← hl]; omega) ?_
        rw [← hl, rpt_length h4]
        exact ⟨.int _, H, I.tok _, ⟨_, rfl⟩, q _ H ι G (.refl _ _) (.p (.int _))⟩
      · cases h2
    · exact rc_len k pins s σ H _ us Q I rv ⟨ex, ι, st, _, G, r, d, st', e, q⟩
  · cases e
end
end Iv
end

section
set_option Elab.async false
set_option linter.all false
set_option maxRecDepth 100000
set_option maxHeartbeats 4100000
namespace Iv
open PySem PySem.Spec PyProof.Rows L2 Gx
/-! ### the last of a list, taken out -/
def mPop : FM := fun o ds st => match o, ds with
  | .ref n, [] => match st[n]? with
    | some (.lst xs) => match xs[xs.length - 1]? with
      | some d => .ok d (st.set n (.lst xs.dropLast))
      | none => .bad
    | _ => .bad
  | _, _ => .bad
theorem nm_pop : NoXM mPop := by
  intro o ds st c s e
  unfold mPop at e
  repeat' split at e
  all_goals cases e
section
variable {X : Cx} {g : GL} {E : XK}
theorem rm_pop : MtR X "list.pop" (rMet g mPop) := by
  rintro pins s σ H x vs v us Q I rx rv ⟨ex, ι, st, dx, ds, G, r1, r2, d, st', e, q⟩
  unfold mPop at e
  split at e
  · split at e
    · rename_i xs h1
      split at e
      · rename_i h2
        cases e
        obtain ⟨a, ws, rfl, hn, hH, rr⟩ := lst_cell G r1 h1
        cases r2
        obtain ⟨y, hy, ry⟩ := pd_get' rr h2
        have hl := Paired.length rr
        rw [← hl] at hy
        obtain ⟨G', x'⟩ := lst_write (ws := ws.dropLast) (ds := xs.dropLast) G hn hH (by rw [List.dropLast_eq_take, List.dropLast_eq_take, hl]; exact pd_take _ rr)
        exact mt_pop pins s σ H _ _ v us Q I rx rv ⟨a, ws, y, rfl, rfl, hH, hy, q _ _ ι G' x' (ry.ext x')⟩
      · cases e
    · cases e
  · cases e
/-! ### a number's text -/
def fStrI : F1 := fun ds st => match ds with
  | [.p (.int i)] => if i.natAbs.log2 < 1900 then .ok (.p (.str (toString i))) st else .bad
  | _ => .bad
theorem nx_strI : NoX1 fStrI := by
  intro ds st c s e
  unfold fStrI at e
  repeat' split at e
  all_goals cases e
theorem rc_strI : CallR X (.type "str") (rCal g fStrI) := by
  rintro pins s σ H vs us Q I rv ⟨ex, ι, st, ds, G, r, d, st', e, q⟩
  unfold fStrI at e
  split at e
  · split at e
    · rename_i hz
      cases e
      obtain ⟨v, rfl, rd⟩ := rds_one r
      obtain rfl := rd.intI
      exact call_str_int pins s σ H _ us Q I rv ⟨_, rfl, by omega, q _ H ι G (.refl _ _) (.p (.str _))⟩
    · cases e
  · cases e
end
end Iv
end

section
set_option Elab.async false
set_option linter.all false
set_option maxRecDepth 100000
set_option maxHeartbeats 4100000
namespace Iv
open PySem PySem.Spec PyProof.Rows L2 Gx
/-! ### zip of a list and of a dict's values -/
section
variable {prog : Program} {w : World} {A : Around} {s : Shared} {E : Value → Shared → Prop}
theorem val_draw {it d : Addr} {i ep : Nat} {es : Array DictEntry} {Q : Value → Shared → Prop} (hit : s.heap.IsValIter it d i es.size ep) (hm : s.heap.DictRaw d es ep) (hi : i < es.size)
    (q : ∀ h', h'.IsValIter it d (i + 1) es.size ep → Heap.SameBut it s.heap h' → Q es[i].val { s with heap := h' }) : wpAny (model prog w) A (Builtin.SmallTypes.nextOf (.ref it)) Q E s := by
  have ty := hit.typeIs
  rcases id hit with ⟨ob, g1, c1, f1⟩
  rcases id hm with ⟨od, g2, c2, f2⟩
  have own : Builtin.Dict_items.ownsTuple "dict_valueiterator" = false := by decide
  rw [Builtin.SmallTypes.nextOf]
  apply wpAny_bind
  apply wpAny_callSpecial?_slot (name := Str.ofString "__next__") ty F.slot_dict_valueiterator_next
  refine wpAny_call_entry F.slot_dict_valueiterator_next ty F.entry_dict_valueiterator_next ?_ (F.args_dict_valueiterator_next_1 _)
  refine wpAny_bind (wpAny_pure (wpAny_bind (wpAny_bind ?_)))
  refine wpAny_bind (wpAny_typeNameOfWhole_valiter ty (wpAny_pure (wpAny_bind (wpAny_fieldsOf g1 f1 ?_))))
  simp only [own, if_false, Bool.false_eq_true]
  have nn : ¬ (Value.ref d == Value.none) = true := by intro h; cases h
  change wpAny _ _ (if (Value.ref d == Value.none) = true then _ else _) _ _ s
  rw [if_neg nn]
  refine wpAny_bind (wpAny_pure (wpAny_bind (wpAny_dictEntries g2 f2 ?_)))
  rw [if_neg (by simp)]
  refine wpAny_bind (wpAny_pure (wpAny_bind (wpAny_dictEpoch g2 f2 ?_)))
  rw [if_neg (by simp)]
  apply wpAny_pure
  have ni : ¬ ((i : Int) < 0) := by omega
  simp only [ni, if_false, Int.toNat_natCast, Array.getElem?_eq_getElem hi]
  refine wpAny_bind (wpAny_bind (wpAny_typeNameOfWhole_valiter ty (wpAny_pure (wpAny_bind (wpAny_isOneOf_valiter ty ?_)))))
  change wpAny _ _ (setField (.ref it) 1 (rawInt ((i : Int) + 1)) >>= _) _ _ s
  apply wpAny_bind
  apply wpAny_setField g1 f1 (by simp)
  have h2 : (s.heap.update it (Obj.mapFields (·.setIfInBounds 1 (rawInt ((i : Int) + 1))))).IsValIter it d (i + 1) es.size ep := by
    refine ⟨_, Heap.get?_update_self _ g1 (Obj.isFreed_of_fields (Obj.data_mapFields f1 _)), ?_, ?_⟩
    · rw [Obj.cls_mapFields]; exact c1
    · simp [Obj.data_mapFields f1, rawInt]
  have t2 : Shared.TypeIs { s with heap := s.heap.update it (Obj.mapFields (·.setIfInBounds 1 (rawInt ((i : Int) + 1)))) } (.ref it) "dict_valueiterator" := Heap.IsValIter.typeIs (s := { s with heap := s.heap.update it (Obj.mapFields (·.setIfInBounds 1 (rawInt ((i : Int) + 1)))) }) h2
  refine wpAny_bind (wpAny_holding (wpAny_bind (wpAny_isOneOf_valiter t2 (wpAny_bind (wpAny_isOneOf_valiter t2 ?_)))))
  change wpAny _ _ (pure es[i].val) _ _ _
  exact wpAny_pure (wpAny_pure ⟨_, rfl, wpAny_pure (q _ h2 (Heap.SameBut.update ..))⟩)
theorem val_done {it d : Addr} {ep : Nat} {es : Array DictEntry} {Q : Value → Shared → Prop} (hh : A.handled = none) (hit : s.heap.IsValIter it d es.size es.size ep) (hm : s.heap.DictRaw d es ep)
    (q : ∀ h' e, Heap.ExtBut it s.heap h' → (∃ o, h'.get? e = some o ∧ o.cls = .type "StopIteration") → E (.ref e) { s with heap := h' }) : wpAny (model prog w) A (Builtin.SmallTypes.nextOf (.ref it)) Q E s := by
  have ty := hit.typeIs
  rcases id hit with ⟨ob, g1, c1, f1⟩
  rcases id hm with ⟨od, g2, c2, f2⟩
  have own : Builtin.Dict_items.ownsTuple "dict_valueiterator" = false := by decide
  rw [Builtin.SmallTypes.nextOf]
  apply wpAny_bind
  apply wpAny_callSpecial?_slot (name := Str.ofString "__next__") ty F.slot_dict_valueiterator_next
  refine wpAny_call_entry F.slot_dict_valueiterator_next ty F.entry_dict_valueiterator_next ?_ (F.args_dict_valueiterator_next_1 _)
  refine wpAny_bind (wpAny_pure (wpAny_bind (wpAny_bind ?_)))
  refine wpAny_bind (wpAny_typeNameOfWhole_valiter ty (wpAny_pure (wpAny_bind (wpAny_fieldsOf g1 f1 ?_))))
  simp only [own, if_false, Bool.false_eq_true]
  have nn : ¬ (Value.ref d == Value.none) = true := by intro h; cases h
  change wpAny _ _ (if (Value.ref d == Value.none) = true then _ else _) _ _ s
  rw [if_neg nn]
  refine wpAny_bind (wpAny_pure (wpAny_bind (wpAny_dictEntries g2 f2 ?_)))
  rw [if_neg (by simp)]
  refine wpAny_bind (wpAny_pure (wpAny_bind (wpAny_dictEpoch g2 f2 ?_)))
  rw [if_neg (by simp)]
  apply wpAny_pure
  have ni : ¬ ((es.size : Int) < 0) := by omega
  simp only [ni, if_false, Int.toNat_natCast, Array.getElem?_eq_none (Nat.le_refl es.size)]
  refine wpAny_bind (wpAny_bind (wpAny_typeNameOfWhole_valiter ty (wpAny_pure ?_)))
  change wpAny _ _ (setField (.ref it) 0 .none >>= _) _ _ s
  apply wpAny_bind
  apply wpAny_setField g1 f1 (by simp)
  change wpAny _ _ (newExc (.type "StopIteration") [] >>= _) _ _ _
  apply wpAny_bind
  simp only [newTuple, newExc]
  apply wpAny_bind
  refine wpAny_newObj_type (hd := by size_fits) ?_
  refine wpAny_bind (m := firstArgMember _ _) (wpAny_of_eq (a := Value.none) (by rfl) ?_)
  refine wpAny_newObj_type (hd := by size_fits) ?_
  simp only [raiseNew]
  apply wpAny_bind
  apply wpAny_handled
  rw [show A.in1.handled = none from (hh)]
  exact wpAny_bind (wpAny_pure (wpAny_throw (q _ _ (((Heap.SameBut.update ..).extBut.push _).push _) ⟨_, Heap.get?_push_size _ rfl, rfl⟩)))
theorem Draws.vals (hh : A.handled = none) (it d : Addr) (hne : d ≠ it) (es : Array DictEntry) (ep : Nat) :
    Draws prog w A it [it, d] es.size (fun i v => es[i]?.map (·.val) = some v) (fun i h => h.IsValIter it d i es.size ep ∧ h.DictRaw d es ep) where
  live := fun _ _ st => by rcases st with ⟨⟨o, ho, _⟩, _⟩; exact ⟨o, ho⟩
  frame := fun _ _ _ st k => by
    rcases st with ⟨⟨o, ho, r⟩, m⟩
    exact ⟨⟨o, k it (by simp) o ho, r⟩, m.at fun o e => k d (by simp) o e⟩
  item := fun i s Q E hi st q => val_draw st.1 st.2 hi fun h' hit sb => q _ h' s.toks (by rw [Array.getElem?_eq_getElem hi]; rfl) ⟨hit, st.2.at fun o e => (sb.2 d hne).trans e⟩ sb
  done := fun s Q E st q => val_done hh st.1 st.2 q
theorem begins_vals (v d : Addr) (es : Array DictEntry) (ep : Nat) : Begins (.ref v) { cls := .type "dict_valueiterator", data := .fields #[.ref d, .int 0 0, .int es.size 0, .int ep 0] } fun h => h.IsValuesView v d ∧ h.DictRaw d es ep where
  iter := fun prog w A E s Q st q => wpAny_pyIter_values_raw st.1 st.2 q
  keeps := fun h h' st k => by
    rcases st with ⟨⟨o, ho, r⟩, m⟩
    exact ⟨⟨o, k v o ho, r⟩, m.at fun o e => k d o e⟩
  free := rfl
end
/-- items of a list that stays, and a locked dict's values, in new pairs -/
def ItzV (K : PySem.W.Frag) (a d : Addr) (od : Obj) (xs : List V) (kvs : List (Key × V)) : It :=
  ⟨fun i H => SqL K H a xs ∧ H d = some (.frz od (.dK kvs)) ∧ i < xs.length ∧ i < kvs.length,
    fun i H v H' => ∃ T x q, v = .ref T ∧ H T = none ∧ H' = upd H T (.tup [x, q.2]) ∧ xs[i]? = some x ∧ kvs[i]? = some q,
    fun i H => SqL K H a xs ∧ H d = some (.frz od (.dK kvs)) ∧ i ≤ xs.length ∧ i ≤ kvs.length ∧ (i = xs.length ∨ i = kvs.length)⟩
theorem dval_at {P : Program} {w : World} {s : Shared} {d : Addr} {od : Obj} {es : Array DictEntry} {ep ep' i : Nat} {kvs : List (Key × V)} {vs : List (Key × Value)} {q : Key × V} (hgd : s.heap.get? d = some od) (hdt : od.data = .dict es ep) (kv : KV kvs vs) (hm : s.heap.DictAt (mixKind P w) d vs ep') (sk : kvs[i]? = some q) : ∀ v, es[i]?.map (·.val) = some v → RelV q.2 v := by
  intro v hv
  rcases hm with ⟨od2, es2, hod, hcd, hdd, hk, hp, hn⟩
  rw [hgd] at hod
  cases hod
  rw [hdt] at hdd
  cases hdd
  rcases LiI.paired_get kv sk with ⟨⟨k, u⟩, hu, e, r⟩
  rw [Option.map_eq_some_iff] at hv
  rcases hv with ⟨en, he, rfl⟩
  have := (hp.get? (e := en) (by simpa using he) hu).2
  rw [this]
  exact r
theorem turn_zipV {P : Program} {w : World} {K : PySem.W.Frag} {elts : List Expr} {kk : Nat} {tpos : Pos} {a d z TI TO i1 i2 : Addr} {od : Obj} {es : Array DictEntry} {ep : Nat} {xs : List V} {kvs : List (Key × V)} (S : ZipSep2 z TI TO i1 i2 [i1, a] [i2, d]) (ha1 : a ≠ i1) (hd2 : d ≠ i2) (hdt : od.data = .dict es ep) :
    Turn P w K (.Tuple elts kk tpos) (ItzV K a d od xs kvs) [z, TI, TO, i1, i2] z (fun i h => IsZip h z TI TO .none ∧ IsTupOf2 h TI (.ref i1) (.ref i2) ∧ (∃ x y, IsTupOf2 h TO x y) ∧ h.IsListIter i1 a i ∧ h.IsValIter i2 d i es.size ep) where
  mem := by simp
  obj := fun i h st c hc => by
    rcases st with ⟨hz, hTI, ⟨x, y, hTO⟩, ⟨o1, e1, _, d1⟩, ⟨o2, e2, _, d2⟩⟩
    simp only [List.mem_cons, List.not_mem_nil, or_false] at hc
    rcases hc with (rfl | rfl | rfl | rfl | rfl)
    · exact ⟨_, hz, fun v q => nomatch q⟩
    · exact ⟨_, hTI, fun v q => nomatch q⟩
    · exact ⟨_, hTO, fun v q => nomatch q⟩
    · exact ⟨o1, e1, fun v q => by rw [d1] at q; cases q⟩
    · exact ⟨o2, e2, fun v q => by rw [d2] at q; cases q⟩
  keep := fun i h h' st k => by
    rcases st with ⟨hz, hTI, ⟨x, y, hTO⟩, h1, ⟨o2, e2, r2⟩⟩
    exact ⟨k z (by simp) _ hz, k TI (by simp) _ hTI, ⟨x, y, k TO (by simp) _ hTO⟩, h1.at fun o q => k i1 (by simp) o q, ⟨o2, k i2 (by simp) _ e2, r2⟩⟩
  item := by
    intros X hP hw hK hc i pins s σ H E I hf st hg
    subst hP hw hK
    rcases st with ⟨hz, hTI, ⟨x0, y0, hTO⟩, h1, h2⟩
    rcases hg with ⟨hq, hd, l1, l2⟩
    rcases I.list hq with ⟨its, rv, p, _⟩
    have ⟨hs, hgd, hx, es', ep', vs, hdt', hsz, kv, hm⟩ := I.frzK hd
    rw [hdt] at hdt'
    cases hdt'
    have D1 := Draws.list (prog := X.prog) (w := X.w) (A := X.A.in1) (I.ok.hd hc) i1 a ha1 its.toArray
    have D2 := Draws.vals (prog := X.prog) (w := X.w) (A := X.A.in1) (I.ok.hd hc) i2 d hd2 es ep
    have le1 := rv.length
    have zl : z < s.heap.objs.size := Heap.lt_size hz
    have sx : xs[i]? = some xs[i] := List.getElem?_eq_getElem l1
    have sk : kvs[i]? = some kvs[i] := List.getElem?_eq_getElem l2
    rcases rv.get sx with ⟨u, hu, ru⟩
    have ru2 := dval_at hgd hdt kv hm sk
    refine wpAny_pyNext_zipD2_item S D1 D2 hz hTI hTO ⟨h1, p.isList⟩ ⟨h2, ⟨od, hgd, hx, hdt⟩⟩ (by simp; omega) (by omega) fun x1 x2 h' tk px py z' TO' st1 st2 hT _ hk => ?_
    obtain rfl : x1 = u := by
      have q : its[i]? = some x1 := by simpa using px
      rw [hu] at q; exact (Option.some.inj q).symm
    refine ⟨_, rfl, wpAny_letOwnedTupleGo_zip (s := { s with heap := h', toks := tk }) z' fun h'' z'' sb => ?_⟩
    have hT2 : h''.get? s.heap.objs.size = some { cls := .type "tuple", data := .seq #[x1, x2] } := (sb.2 _ (Nat.ne_of_gt zl)).trans hT
    have nw : (ObjOk X.prog X.w (upd H s.heap.objs.size (.tup [xs[i], kvs[i].2])) h'' s.heap.objs.size (.tup [xs[i], kvs[i].2])) :=
      ⟨by show 2 ≤ sizeLine; decide, [x1, x2], .cons ru (.cons (ru2 x2 py) .nil), ⟨_, hT2, rfl, _, rfl⟩⟩
    have keep : ∀ b o, b ∉ [z, TI, TO, i1, i2] → s.heap.get? b = some o → h''.get? b = some o := fun b o hb q => by
      simp only [List.mem_cons, List.not_mem_nil, or_false, not_or] at hb
      exact (sb.2 b hb.1).trans (hk b o hb.1 hb.2.2.1 hb.2.2.2.1 hb.2.2.2.2 q)
    have I1 : Inv X pins σ (upd H s.heap.objs.size (.tup [xs[i], kvs[i].2])) { s with heap := h'', toks := tk } := I.turnedNew (ch := [z, TI, TO, i1, i2]) keep hf (Nat.le_refl _) nw
    refine ⟨.ref s.heap.objs.size, _, I1, rfl, ⟨_, _, _, rfl, I.hok.fresh (Nat.le_refl _), rfl, sx, sk⟩, ⟨z'', ?_, ⟨x1, x2, ?_⟩, ?_, ?_⟩, fun c hcm => ?_⟩
    · exact (sb.2 _ S.TIz).trans (hk _ _ S.TIz S.TITO S.TIi1 S.TIi2 hTI)
    · exact (sb.2 _ S.TOz).trans TO'
    · exact st1.1.at fun o q => (sb.2 _ (Ne.symm S.zi1)).trans q
    · rcases st2.1 with ⟨o2, e2, r2⟩
      exact ⟨o2, (sb.2 _ (Ne.symm S.zi2)).trans e2, r2⟩
    · have cl : c < s.heap.objs.size := by
        rcases h1 with ⟨_, e1, _⟩
        rcases h2 with ⟨_, e2, _⟩
        simp only [List.mem_cons, List.not_mem_nil, or_false] at hcm
        rcases hcm with (rfl | rfl | rfl | rfl | rfl)
        · exact zl
        · exact Heap.lt_size hTI
        · exact Heap.lt_size hTO
        · exact Heap.lt_size e1
        · exact Heap.lt_size e2
      rw [upd_ne (Nat.ne_of_lt cl)]
      exact (hf c hcm).1
  done := by
    intros X hP hw hK hc i pins s σ H E I hf st hg
    subst hP hw hK
    rcases st with ⟨hz, hTI, ⟨x0, y0, hTO⟩, h1, h2⟩
    rcases hg with ⟨hq, hd, l1, l2, le⟩
    rcases I.list hq with ⟨its, rv, p, _⟩
    have ⟨hs, hgd, hx, es', ep', vs, hdt', hsz, kv, hm⟩ := I.frzK hd
    rw [hdt] at hdt'
    cases hdt'
    have D1 := Draws.list (prog := X.prog) (w := X.w) (A := X.A.in1) (I.ok.hd hc) i1 a ha1 its.toArray
    have D2 := Draws.vals (prog := X.prog) (w := X.w) (A := X.A.in1) (I.ok.hd hc) i2 d hd2 es ep
    have le1 := rv.length
    refine wpAny_pyNext_zipD2_end S D1 D2 hz hTI hTO ⟨h1, p.isList⟩ ⟨h2, ⟨od, hgd, hx, hdt⟩⟩ (by simp; omega) (by omega) (by simp; omega) fun h' tk hk => ⟨rfl, I.turnedL (t' := tk) (ch := [z, TI, TO, i1, i2]) (fun c o hb q => ?_) hf⟩
    simp only [List.mem_cons, List.not_mem_nil, or_false, not_or] at hb
    exact hk c o hb.1 hb.2.2.1 hb.2.2.2.1 hb.2.2.2.2 q
  self := fun _ _ _ _ _ st h => wpAny_pyIter_zip st.1 h
section
variable {X : Cx} {te1 te2 : TE} {e1 e2 : Expr} {p tpos apos cpos pos : Pos} {elts : List Expr} {kk : Nat}
def iZipV (K : PySem.W.Frag) (te1 te2 : TE) : TI := fun σ H R => te1 σ H fun v H1 => te2 σ H1 fun w H2 => ∃ a d od xs kvs, v = .ref a ∧ w = .ref d ∧ SqL K H2 a xs ∧ H2 d = some (.frz od (.dK kvs)) ∧ R (ItzV K a d od xs kvs) H2
theorem pi_zipV (hg : Gl X "zip") (hm : X.mg "zip" = none) (ha : PE X e1 te1) (hb : PE X e2 te2) (hbase : attributeBase e2 "values" X.env (eval e2 X.env) = eval e2 X.env := by rfl) (hline : (apos.endLine == cpos.line) = true := by rfl)
    (hs : starEach [e1, .Call (.Attribute e2 "values" apos) [] [] cpos] X.env = (false, eval e1 X.env) :: (starEach [.Call (.Attribute e2 "values" apos) [] [] cpos] X.env) := by rfl) (hs2 : starEach [.Call (.Attribute e2 "values" apos) [] [] cpos] X.env = (false, eval (.Call (.Attribute e2 "values" apos) [] [] cpos) X.env) :: (starEach [] X.env) := by rfl)
    (hpl : (backTo pos (starEach [.Call (.Attribute e2 "values" apos) [] [] cpos] X.env)).any (·.1) = false := by rfl) :
    PI X (.Tuple elts kk tpos) (.Call (.Name "zip" p) [e1, .Call (.Attribute e2 "values" apos) [] [] cpos] [] pos) (iZipV X.K te1 te2) := by
  refine .mk fun pins s σ H R I h => ?_
  refine Call_ (ld_blt I hg hm PyProof.Rows.boot_zip (PyProof.Rows.callWith_type1 ?_ hs hpl))
  rw [hs]
  show wpAny _ _ (spliced ((false, eval e1 X.env) :: (backTo pos (starEach [.Call (.Attribute e2 "values" apos) [] [] cpos] X.env)))) _ _ s
  apply Calls.spliced_cons
  refine thn (ha.run pins s σ H _ I h) ?_
  rintro u1 s1 ⟨x1, H1, I1, r1, q1⟩
  rw [hs2]
  show wpAny _ _ (spliced ((false, eval (.Call (.Attribute e2 "values" apos) [] [] cpos) X.env) :: (backTo pos (starEach [] X.env)))) _ _ s1
  apply Calls.spliced_cons
  apply wpAny_Call_method (T := "dict") (id := "dict.values") hbase rfl hline F.plainAttrs_dict F.slot_dict_values F.type_dict_values
  refine thn (hb.run pins s1 σ H1 _ I1 q1) ?_
  rintro v s2 ⟨x2, H2, I2, r2, a, d, od, xs, kvs, rfl, rfl, hq, hd, q⟩
  obtain rfl : v = Value.ref d := r2
  obtain rfl : u1 = Value.ref a := r1
  have ⟨h0, hgd, hx, es, ep, vs, hdt, hsz, kv, hm'⟩ := I2.frzK hd
  have raw : s2.heap.DictRaw d es ep := ⟨od, hgd, hx, hdt⟩
  refine ⟨raw.typeIs, ?_, ?_⟩
  · intro a' ea
    cases ea
    exact ⟨od, hgd, hx.2.1⟩
  change wpAny _ _ (callWith cpos (.builtin "dict.values") [.ref d] [] []) _ X.xe s2
  refine method_meetsIn F.slot_dict_values F.entry_dict_values rfl (PySem.evalArgs_none ⟨rfl, raw.typeIs, F.args_dict_values_1 _, _, meets_dict_values_raw d h0, ⟨⟨es, ep, raw⟩, ?_⟩⟩)
  apply Calls.spliced_nil
  rcases I2.list hq with ⟨its, rv, pl, _⟩
  have al : a < s2.heap.objs.size := pl.lt
  have dl : d < s2.heap.objs.size := Heap.lt_size hgd
  have sz1 : (s2.heap.push { cls := .type "dict_values", data := .fields #[.ref d] }).objs.size = s2.heap.objs.size + 1 := Heap.size_push ..
  have an : a < (s2.heap.push { cls := .type "dict_values", data := .fields #[.ref d] }).objs.size := Nat.lt_of_lt_of_eq (Nat.lt_succ_of_lt al) sz1.symm
  have dn : d < (s2.heap.push { cls := .type "dict_values", data := .fields #[.ref d] }).objs.size := Nat.lt_of_lt_of_eq (Nat.lt_succ_of_lt dl) sz1.symm
  have I3 : Inv X pins σ H2 { s2 with heap := s2.heap.push { cls := .type "dict_values", data := .fields #[.ref d] } } := I2.kept (t' := s2.toks) fun _ _ q => Heap.get?_push_of_some _ q
  refine zip_begins2 (s := { s2 with heap := s2.heap.push { cls := .type "dict_values", data := .fields #[.ref d] } }) (begins_list a its.toArray) (begins_vals s2.heap.objs.size d es ep) (pl.isList.at fun o q => Heap.get?_push_of_some _ q) ⟨⟨_, Heap.get?_push_size _ rfl, rfl, rfl⟩, raw.at fun o q => Heap.get?_push_of_some _ q⟩ fun h' hz hTI hTO g1 g2 hsz' hk => wpAny_pyIter_zip hz ?_
  refine ⟨_, _, _, _, H2, rfl, I3.kept (t' := s2.toks) hk, turn_zipV (zip_sep2 (fp1 := [a]) (fp2 := [d]) ?_ ?_) ?_ ?_ hdt, ⟨hz, hTI, ⟨_, _, hTO⟩, ⟨_, g1, rfl, rfl⟩, ⟨_, g2, rfl, rfl⟩⟩, ?_, q⟩
  · intro b hb'
    rw [List.mem_singleton.mp hb']
    exact an
  · intro b hb'
    rw [List.mem_singleton.mp hb']
    exact dn
  · exact Nat.ne_of_lt an
  · exact Nat.ne_of_lt (Nat.lt_succ_of_lt dn)
  · intro b hb'
    have le : (s2.heap.push { cls := .type "dict_values", data := .fields #[.ref d] }).objs.size ≤ b := by
      simp only [List.mem_cons, or_false, List.not_mem_nil] at hb'
      rcases hb' with (rfl | rfl | rfl | rfl | rfl)
      · exact Nat.le_add_right _ 4
      · exact Nat.le_add_right _ 2
      · exact Nat.le_add_right _ 3
      · exact Nat.le.refl
      · exact Nat.le_add_right _ 1
    exact I3.fpOk le (I3.hok.fresh le)
end
section
variable {X : Cx} {g : GL} {E : XK} {pos : Pos} {ι : List Addr} {st : Store} {H F : Hp} {e1 e2 : Expr}
theorem its_zipV {a d : Addr} {od : Obj} {vs : List V} {kvs : List (Key × V)} {xs ys : List P} (hs : ∀ e H' ι', Ex2 g H ι e H' ι' → SqL g.K H' a vs) (hd : H d = some (.frz od (.dK kvs))) (r : Rps g (Fz H (g.x ι)) vs xs) (q : Rps g (Fz H (g.x ι)) (kvs.map (·.2)) ys) : ItS g (ItzV g.K a d od vs kvs) H ι ⟨(zipP xs ys).map .p, none⟩ := by
  have l1 := r.length
  have l2 := q.length
  rw [List.length_map] at l2
  refine ⟨fun {e i H' ι' st' d0 d'} hi G x hg => ?_, fun {e H' ι' st'} G x _ => ⟨hs _ _ _ x, x.frz _ _ _ hd, ?_⟩⟩
  · cases hg
    rw [List.getElem?_map, Option.map_eq_some_iff] at hi
    obtain ⟨z, hz, rfl⟩ := hi
    unfold zipP at hz
    rw [List.getElem?_map, Option.map_eq_some_iff] at hz
    obtain ⟨z, hz, rfl⟩ := hz
    obtain ⟨h1, h2⟩ := zip_get hz
    obtain ⟨v, hv, rv⟩ := r.get' h1
    obtain ⟨w, hw, rw_⟩ := q.get' h2
    rw [List.getElem?_map, Option.map_eq_some_iff] at hw
    obtain ⟨kw, hkw, rfl⟩ := hw
    refine ⟨⟨hs _ _ _ x, x.frz _ _ _ hd, (List.getElem?_eq_some_iff.mp hv).1, (List.getElem?_eq_some_iff.mp hkw).1⟩, fun u H'' ⟨T, x', q', e1, e2, e3, e4, e5⟩ => ?_⟩
    subst e1 e3
    rw [hv] at e4; cases e4
    rw [hkw] at e5; cases e5
    exact pair_new G e2 ((rv.sub x.keep).wx _) ((rw_.sub x.keep).wx _)
  · simp only [List.length_map, zipP, List.length_zip]
    omega
theorem pd_snd {κ : Type} {vs : List (κ × V)} {ds : List (κ × D)} (h : Paired (fun (a : κ × V) (b : κ × D) => a.1 = b.1 ∧ RD g F ι a.2 b.2) vs ds) : RDs g F ι (vs.map (·.2)) (ds.map (·.2)) := by
  induction h with
  | nil => exact .nil
  | cons r _ ih => exact .cons r.2 ih
def itZV (f fd : Ev D) : Ev Its := fun δ st => (f δ st).bnd fun d s => (fd δ s).bnd fun e s2 => match d, e with
  | .p x, .ref n => match lstP x, s2[n]? with
    | some xs, some (.fK kvs) => match pAll (kvs.map (·.2)) with
      | some ys => .ok ⟨(zipP xs ys).map .p, none⟩ s2
      | none => .bad
    | _, _ => .bad
  | _, _ => .bad
theorem si_zipV {f fd : Ev D} {elts : List Expr} {kk : Nat} {tpos p apos cpos : Pos} (k : CxK X g) (hg : Gl X "zip") (hm : X.mg "zip" = none) (ha : PE X e1 (SemE g E f)) (hb : PE X e2 (SemE g E fd)) (hbase : attributeBase e2 "values" X.env (eval e2 X.env) = eval e2 X.env := by rfl) (hline : (apos.endLine == cpos.line) = true := by rfl)
    (hs : starEach [e1, .Call (.Attribute e2 "values" apos) [] [] cpos] X.env = (false, eval e1 X.env) :: (starEach [.Call (.Attribute e2 "values" apos) [] [] cpos] X.env) := by rfl) (hs2 : starEach [.Call (.Attribute e2 "values" apos) [] [] cpos] X.env = (false, eval (.Call (.Attribute e2 "values" apos) [] [] cpos) X.env) :: (starEach [] X.env) := by rfl)
    (hpl : (backTo pos (starEach [.Call (.Attribute e2 "values" apos) [] [] cpos] X.env)).any (·.1) = false := by rfl) :
    PI X (.Tuple elts kk tpos) (.Call (.Name "zip" p) [e1, .Call (.Attribute e2 "values" apos) [] [] cpos] [] pos) (SemI g E (itZV f fd)) := by
  refine pi_mono (pi_zipV hg hm ha hb hbase hline hs hs2 hpl) fun σ H R ⟨ex, ι, st, δ, at_, hh⟩ => ?_
  have kk : X.K = (g.wx ex).K := k.K
  refine semE_bnd at_ ?_
  unfold itZV at hh
  cases ef : f δ st with
  | bad => rw [ef] at hh; exact hh
  | exc c s => rw [ef] at hh; exact hh
  | ok d s =>
    rw [ef] at hh
    intro v H1 ι1 at1 x1 r1
    simp only [Res.bnd] at hh
    refine semE_bnd at1 ?_
    cases eb : fd δ s with
    | bad => rw [eb] at hh; exact hh
    | exc c s2 => rw [eb] at hh; exact PostX.ext x1 hh
    | ok e s2 =>
      rw [eb] at hh
      intro w H2 ι2 at2 x2 r2
      simp only [Res.bnd] at hh
      split at hh
      · split at hh
        · rename_i hx hc
          split at hh
          · rename_i ys hy
            have r3 := r1.ext x2
            cases r3 with
            | p r3 =>
              rcases lstP_ok r3 hx with ⟨p1, ws, rfl, q1, s1, t1⟩
              rcases cell_fk at2.good r2 hc with ⟨b, o, vs, rfl, hn, h2, rr⟩
              exact ⟨p1, b, o, ws, vs, rfl, rfl, kk ▸ s1, h2, hh _ H2 ι2 at2.good (x1.trans x2) (kk ▸ its_zipV t1 h2 q1 (rps_of (pd_snd rr) hy))⟩
          · exact hh.elim
        · exact hh.elim
      · exact hh.elim
end
end Iv
end

section
set_option Elab.async false
set_option linter.all false
set_option maxRecDepth 100000
set_option maxHeartbeats 4100000
namespace Iv
open PySem PySem.Spec PyProof.Rows L2 Gx
/-! ### a tuple that is written and taken apart at once -/
def sAsgT (n : Nat) (f : Ev (List D)) (t : Gvs) : Sv := fun δ st => match f δ st with
  | .ok ds s => if ds.length = n ∧ n ≤ 100 then match t ds δ s with
      | .nx δ1 s1 => .nx δ1 s1
      | .exc c s => .exc c s
      | _ => .bad
    else .bad
  | .exc c s => .exc c s
  | .bad => .bad
section
variable {X : Cx} {g : GL} {E : XK} {pos : Pos} {ι : List Addr} {st : Store} {H F : Hp}
theorem ss_asgT {ts es : List Expr} {fa : Ev (List D)} {t : Gvs} {n k1 : Nat} {k2} {p1 p2 : Pos} (k : CxK X g) (hc : X.calm = true) (ha : PA X es (SemA g E fa)) (ht : PGs X ts (SemGs g E t)) (hs : swapsWithSole [.Tuple ts k1 p1] (.Tuple es k2 p2) pos.line X.env = pure false := by rfl) (hw : swappedStores [.Tuple ts k1 p1] (.Tuple es k2 p2) X.env = pure none := by rfl)
    (h1 : (assignEach [.Tuple ts k1 p1] X.env).map (·.2) = [assign (.Tuple ts k1 p1) X.env] := by rfl) (hn : (assignEach ts X.env).length = n := by rfl) (hst : (assignEach ts X.env).findIdx? (·.1) = none := by rfl) :
    PS X (.Assign [.Tuple ts k1 p1] (.Tuple es k2 p2) pos) (SemS g E (sAsgT n fa t)) := by
  refine ps_mono (ps_asg (pe_tup ha) (pg_tup hc ht hn hst) hs hw h1) fun D σ H ⟨ex, ι, st, δ, at_, hh⟩ => ?_
  have kk : X.K = (g.wx ex).K := k.K
  refine semA_bnd at_ ?_
  unfold sAsgT at hh
  cases ef : fa δ st with
  | bad => rw [ef] at hh; exact hh
  | exc c s => rw [ef] at hh; exact hh
  | ok ds s =>
    rw [ef] at hh
    intro vs H1 ι1 at1 x1 r1
    have hh := PostS.ext x1 hh
    simp only [] at hh
    split at hh
    · rename_i hl
      have lv : vs.length = ds.length := Paired.length r1
      refine ⟨by rw [lv, hl.1]; exact Nat.le_trans hl.2 (by decide), fun p hp => ?_⟩
      obtain ⟨G', x'⟩ := good_new (o := .tup vs) at1.good hp
      refine ⟨p, vs, rfl, .inl (.inl upd_same), lv.trans hl.1, ex, ι1, s, δ, ds, at1.ext x' G', RDs.sub x'.keep x'.le r1, ?_⟩
      have hh := PostS.ext x' hh
      cases et : t ds δ s with
      | nx δ1 s1 => rw [et] at hh; exact hh
      | exc c s => rw [et] at hh; exact hh
      | _ => rw [et] at hh; exact hh.elim
    · exact hh.elim
/-! ### a list many times over, to be written to -/
def oMulM (x y : D) (st : Store) : Res D := match y with
  | .p (.int k) => match see st x with
    | some (.lst a) => if k < 1000000 ∧ -1000000 < k ∧ a.length * k.toNat ≤ szLine then .ok (.ref st.length) (st ++ [.lst ((List.replicate k.toNat a).flatten.map .p)]) else .bad
    | _ => .bad
  | _ => .bad
theorem noX_mulM : NoX oMulM := by
  intro x y st c s e
  unfold oMulM at e
  repeat' split at e
  all_goals cases e
theorem or_mulM : OpR X (binaryOp .Mult) (rSem g oMulM) := by
  rintro pins s σ H x y v u Q I rx ry ⟨ex, ι, st, dx, dy, G, r1, r2, d, st', e, q⟩
  unfold oMulM at e
  split at e
  · obtain rfl := r2.intI
    split at e
    · rename_i h1
      split at e
      · rename_i hl
        cases e
        obtain ⟨a, vs, rfl, ha, qa⟩ := see_lst G r1 h1
        refine op_rep pins s σ H _ _ v u Q I rx ry ⟨_, _, vs, rfl, rfl, ha, by omega, by omega, Nat.le_trans (by rw [qa.length]; exact hl.2.2) szLine_le, fun p hp => ?_⟩
        obtain ⟨G', x'⟩ := good_cell G hp (.lst (rds_map (Rps.rep qa _)))
        exact q _ _ _ G' x' (.ref G.next)
      · cases e
    · cases e
  · cases e
theorem sMulME {a b : Expr} {fa fb : Ev D} (ha : PE X a (SemE g E fa)) (hb : PE X b (SemE g E fb)) : PE X (.BinOp a .Mult b pos) (SemE g E (v2 oMulM fa fb)) := se_op or_mulM (opSem_of noX_mulM) ha hb
end
end Iv
end

section
set_option Elab.async false
set_option linter.all false
set_option maxRecDepth 100000
set_option maxHeartbeats 4100000
namespace Iv
open PySem PySem.Spec PyProof.Rows L2 Gx
/-! ### sorted(d), the keys being texts -/
def strKs : List (P × P) → Option (List Str)
  | [] => some []
  | (.str x, _) :: r => (strKs r).map (x :: ·)
  | _ => none
def leS (a b : Str) : Bool := !ltCps b.cps.toList a.cps.toList
theorem leS_iff {a b : Str} : leS a b = true ↔ a.cps.toList ≤ b.cps.toList := by
  unfold leS
  rw [ltCps_eq, Bool.not_eq_true', decide_eq_false_iff_not]
  exact Iff.rfl
theorem leS_trans {a b c : Str} (h1 : leS a b = true) (h2 : leS b c = true) : leS a c = true := leS_iff.mpr (List.le_trans (leS_iff.mp h1) (leS_iff.mp h2))
theorem leS_total (a b : Str) : (leS a b || leS b a) = true := by
  rw [Bool.or_eq_true, leS_iff, leS_iff]
  exact List.le_total _ _
theorem leS_anti {a b : Str} (h1 : leS a b = true) (h2 : leS b a = true) : a = b := by
  have e : a.cps.toList = b.cps.toList := List.le_antisymm (leS_iff.mp h1) (leS_iff.mp h2)
  rcases a with ⟨a⟩
  rcases b with ⟨b⟩
  simpa using e
def sortS (xs : List Str) : List Str := xs.mergeSort leS
theorem rising_pw : ∀ (r : List Str) (p : Str), risingS p r = true → (p :: r).Pairwise fun a b => leS a b = true
  | [], p, _ => by simp
  | x :: r, p, h => by
    unfold risingS at h
    rw [Bool.and_eq_true] at h
    have ih := rising_pw r x h.2
    refine List.pairwise_cons.mpr ⟨fun y hy => ?_, ih⟩
    rcases List.mem_cons.mp hy with (rfl | hy)
    · exact h.1
    · exact leS_trans h.1 (List.rel_of_pairwise_cons ih hy)
theorem sortS_uniq {xs ys : List Str} (hp : ys.Perm xs) (hs : sortedS ys = true) : ys = sortS xs := by
  have h1 : (sortS xs).Perm xs := List.mergeSort_perm _ _
  have h2 : (sortS xs).Pairwise fun a b => leS a b = true := List.pairwise_mergeSort (le := leS) (fun a b c h1 h2 => leS_trans h1 h2) leS_total xs
  have h3 : ys.Pairwise fun a b => leS a b = true := by
    cases ys with
    | nil => exact .nil
    | cons y r => exact rising_pw r y hs
  exact (hp.trans h1.symm).eq_of_pairwise (fun a b _ _ => leS_anti) h3 h2
def fSortedS : F1 := fun ds st => match ds with
  | [d] => match see st d with
    | some (.dct kvs) => match strKs kvs with
      | some ks => if ks.length < 64 then .ok (.p (.lst ((sortS ks).map .str))) st else .bad
      | none => .bad
    | _ => .bad
  | _ => .bad
theorem nx_sortedS : NoX1 fSortedS := by
  intro ds st c s e
  unfold fSortedS at e
  repeat' split at e
  all_goals cases e
theorem strKs_ok {g : GL} {F : Hp} : ∀ {vs : List (Key × V)} {ps : List (P × P)} {ks : List Str}, RpK g F vs ps → strKs ps = some ks → vs.map (·.1) = ks.map Sum.inr
  | _, _, _, .nil, h => by cases h; rfl
  | _, _, _, .cons (k := k) r t, h => by
    cases k with
    | inl i => cases h
    | inr x =>
      have h : (strKs _).map (x :: ·) = some _ := h
      rw [Option.map_eq_some_iff] at h
      obtain ⟨ks, h1, rfl⟩ := h
      rw [List.map_cons]; rw [List.map_cons]
      exact congrArg _ (strKs_ok t h1)
theorem rps_strs {g : GL} {F : Hp} : ∀ ns : List Str, Rps g F (ns.map V.str) (ns.map .str)
  | [] => .nil
  | n :: ns => .cons (.str n) (rps_strs ns)
section
variable {X : Cx} {g : GL} {E : XK}
theorem rc_sortedS (hc : X.calm = true) (k : CxK X g) : CallR X (.builtin "sorted") (rCal g fSortedS) := by
  rintro pins s σ H vs us Q I rv ⟨ex, ι, st, ds, G, r, d, st', e, q⟩
  unfold fSortedS at e
  split at e
  · obtain ⟨v, rfl, rd⟩ := rds_one r
    split at e
    · rename_i kvs h1
      split at e
      · rename_i ks h2
        split at e
        · rename_i hl
          cases e
          obtain ⟨a, ws, rfl, h3, h4⟩ := see_dK G rd h1
          refine call_sortedD hc pins s σ H _ us Q I rv ⟨a, ws, ks, rfl, h3, strKs_ok h4 h2, hl, fun ys p hp hs hn => ?_⟩
          rw [sortS_uniq hp hs]
          exact new_data (o := .lst ((sortS ks).map V.str)) (x := .lst ((sortS ks).map .str)) G hn q rfl fun F' sub e => .lst e (rps_strs _)
        · cases e
      · cases e
    · cases e
  · cases e
/-! ### a text in a tuple of texts -/
def strsP : List P → Option (List Str)
  | [] => some []
  | .str x :: r => (strsP r).map (x :: ·)
  | _ => none
def oInS (neg : Bool) (x y : D) (st : Store) : Res D := match x, y with
  | .p (.str a), .p (.tup ys) => match strsP ys with
    | some ks => .ok (.p (.bl (if neg = true then !(ks.any fun z => z == a) else ks.any fun z => z == a))) st
    | none => .bad
  | _, _ => .bad
theorem noX_inS {neg : Bool} : NoX (oInS neg) := by
  intro x y st c s e
  unfold oInS at e
  repeat' split at e
  all_goals cases e
theorem strsP_ok {F : Hp} : ∀ {vs : List V} {ys : List P} {ks : List Str}, Rps g F vs ys → strsP ys = some ks → vs = ks.map V.str
  | _, _, _, .nil, h => by cases h; rfl
  | _, _, _, .cons r t, h => by
    cases r with
    | str x =>
      have h : (strsP _).map (x :: ·) = some _ := h
      rw [Option.map_eq_some_iff] at h
      obtain ⟨ks, h1, rfl⟩ := h
      rw [List.map_cons, strsP_ok t h1]
    | _ => cases h
theorem flat_strs (ks : List Str) : (ks.map V.str).all flatV = true := by
  rw [List.all_eq_true]
  intro v hv
  obtain ⟨z, _, rfl⟩ := List.mem_map.mp hv
  rfl
theorem inV_strs (a : Str) (ks : List Str) : inV (.str a) (ks.map V.str) = ks.any fun z => z == a := by
  unfold inV
  rw [List.any_map]
  rfl
theorem or_inS (k : CxK X g) : OpR X (compareOp .In) (rSem g (oInS false)) := by
  rintro pins s σ H x y v u Q I rx ry ⟨ex, ι, st, dx, dy, G, r1, r2, d, st', e, q⟩
  have kk : X.K = (g.wx ex).K := k.K
  unfold oInS at e
  split at e
  · split at e
    · rename_i ks h
      cases e
      cases r1 with
      | p r1 =>
        cases r1
        cases r2 with
        | p r2 =>
          cases r2 with
          | tup h1 h2 =>
            obtain rfl := strsP_ok h2 h
            refine op_in_seq pins s σ H _ _ v u Q I rx ry ⟨_, _, rfl, .inr (kk ▸ sqT_of_fz (.inl (.inl h1))), rfl, flat_strs ks, ?_⟩
            rw [inV_strs]
            exact q _ H ι G (.refl _ _) (.p (.bl _))
    · cases e
  · cases e
theorem or_notinS (k : CxK X g) : OpR X (compareOp .NotIn) (rSem g (oInS true)) := by
  rintro pins s σ H x y v u Q I rx ry ⟨ex, ι, st, dx, dy, G, r1, r2, d, st', e, q⟩
  have kk : X.K = (g.wx ex).K := k.K
  unfold oInS at e
  split at e
  · split at e
    · rename_i ks h
      cases e
      cases r1 with
      | p r1 =>
        cases r1
        cases r2 with
        | p r2 =>
          cases r2 with
          | tup h1 h2 =>
            obtain rfl := strsP_ok h2 h
            refine op_notIn_seq pins s σ H _ _ v u Q I rx ry ⟨_, _, rfl, .inr (kk ▸ sqT_of_fz (.inl (.inl h1))), rfl, flat_strs ks, ?_⟩
            rw [inV_strs]
            exact q _ H ι G (.refl _ _) (.p (.bl _))
    · cases e
  · cases e
variable {a b : Expr} {fa fb : Ev D} {pos : Pos}
theorem sinnS (k : CxK X g) (ha : PE X a (SemE g E fa)) (hb : PE X b (SemE g E fb)) (hm : behindInMarks .In b = false := by with_unfolding_all rfl) : PE X (.Compare a [.In] [b] pos) (SemE g E (v2 (oInS false) fa fb)) := se_cmp (or_inS k) (opSem_of noX_inS) ha hb hm
theorem snotinS (k : CxK X g) (ha : PE X a (SemE g E fa)) (hb : PE X b (SemE g E fb)) (hm : behindInMarks .NotIn b = false := by with_unfolding_all rfl) : PE X (.Compare a [.NotIn] [b] pos) (SemE g E (v2 (oInS true) fa fb)) := se_cmp (or_notinS k) (opSem_of noX_inS) ha hb hm
theorem tinnS (k : CxK X g) (ha : PE X a (SemE g E fa)) (hb : PE X b (SemE g E fb)) (hm : behindInMarks .In b = false := by with_unfolding_all rfl) : PT X (.Compare a [.In] [b] pos) (SemB g E (tstB (v2 (oInS false) fa fb))) := st_cmp (or_inS k) (opSem_of noX_inS) ha hb hm
theorem tnotinS (k : CxK X g) (ha : PE X a (SemE g E fa)) (hb : PE X b (SemE g E fb)) (hm : behindInMarks .NotIn b = false := by with_unfolding_all rfl) : PT X (.Compare a [.NotIn] [b] pos) (SemB g E (tstB (v2 (oInS true) fa fb))) := st_cmp (or_notinS k) (opSem_of noX_inS) ha hb hm
end
end Iv
end

section
set_option Elab.async false
set_option linter.all false
set_option maxRecDepth 100000
set_option maxHeartbeats 4100000
namespace Iv
open PySem L2
/-! ### plain rules of the meanings: loops and comprehensions, with no program in sight -/
theorem bnd_ok {α β : Type} (a : α) (s : Store) (f : α → Store → Res β) : (Res.ok a s).bnd f = f a s := rfl
theorem bnd_exc {α β : Type} (c : Nat) (s : Store) (f : α → Store → Res β) : (Res.exc c s : Res α).bnd f = .exc c s := rfl
/-- a while loop: each turn goes on or ends it; the measure falls -/
theorem wh_inv {c : Ev Bool} {b : Sv} (I : Nat → Env → Store → Prop) (Q : Env → Store → Prop)
    (step : ∀ m δ st, I m δ st → (c δ st = .ok false st ∧ Q δ st) ∨ ∃ m' δ' st', m = m' + 1 ∧ c δ st = .ok true st ∧ b δ st = .nx δ' st' ∧ I m' δ' st') :
    ∀ {n m : Nat} {δ : Env} {st : Store}, m < n → I m δ st → ∃ δ' st', sWh c b n δ st = .nx δ' st' ∧ Q δ' st' := by
  intro n
  induction n with
  | zero => intro m δ st h; omega
  | succ n ih =>
    intro m δ st h hI
    unfold sWh
    obtain ⟨h1, h2⟩ | ⟨m', δ', st', rfl, h2, h3, h4⟩ := step m δ st hI
    · exact ⟨δ, st, by rw [h1], h2⟩
    · obtain ⟨δ2, st2, e, q⟩ := ih (by omega) h4
      exact ⟨δ2, st2, by rw [h2]; simp only; rw [h3]; exact e, q⟩
/-- over data the length asks nothing -/
theorem sFor_len {t : Gv} {b : Sv} (l l2 : Nat) : ∀ {ds : List D} {i : Nat} {δ : Env} {st : Store}, sFor none l t b ds i δ st = sFor none l2 t b ds i δ st
  | [], i, δ, st => rfl
  | d :: ds, i, δ, st => by
    unfold sFor getI
    simp only [sFor_len l l2 (ds := ds)]
theorem compL_len2 {t : Tv} {c : Ev Bool} {e : Ev D} {δ0 : Env} (l l2 : Nat) : ∀ {ds : List D} {i : Nat} {st : Store}, compL none l t c e δ0 ds i st = compL none l2 t c e δ0 ds i st
  | [], i, st => rfl
  | d :: ds, i, st => by
    unfold compL getI
    simp only [compL_len2 l l2 (ds := ds)]
/-- a for loop over data -/
theorem for_inv {len : Nat} {t : Gv} {b : Sv} (I : Nat → Env → Store → Prop) : ∀ {ds : List D} {i : Nat} {δ : Env} {st : Store},
    (∀ j d δ st, ds[j]? = some d → I (i + j) δ st → ∃ δ1 s1 δ2 s2, t d δ st = .nx δ1 s1 ∧ b δ1 s1 = .nx δ2 s2 ∧ I (i + j + 1) δ2 s2) →
    I i δ st → ∃ δ' st', sFor none len t b ds i δ st = .nx δ' st' ∧ I (i + ds.length) δ' st'
  | [], i, δ, st, _, h => ⟨δ, st, rfl, h⟩
  | d :: ds, i, δ, st, step, h => by
    obtain ⟨δ1, s1, δ2, s2, h1, h2, h3⟩ := step 0 d δ st rfl h
    obtain ⟨δ', st', e, q⟩ := for_inv (len := len) (t := t) (b := b) I (ds := ds) (i := i + 1) (δ := δ2) (st := s2) (fun j d δ st hj hI => by
      have := step (j + 1) d δ st (by simpa using hj) (by rw [show i + (j + 1) = i + 1 + j by omega]; exact hI)
      rw [show i + (j + 1) = i + 1 + j by omega] at this
      exact this) (by simpa using h3)
    refine ⟨δ', st', ?_, by rw [List.length_cons, show i + (ds.length + 1) = i + 1 + ds.length by omega]; exact q⟩
    unfold sFor getI
    simp only [h1, h2]
    exact e
theorem range_get {n i x : Nat} (h : (List.range n)[i]? = some x) : i < n ∧ x = i := by
  have h1 := List.getElem?_eq_some_iff.mp h
  obtain ⟨h1, h2⟩ := h1
  simp at h1 h2
  exact ⟨h1, h2.symm⟩
/-- a for loop over a range -/
theorem for_range {n : Nat} {t : Gv} {b : Sv} {f : Nat → D} (I : Nat → Env → Store → Prop) {δ : Env} {st : Store}
    (step : ∀ j δ st, j < n → I j δ st → ∃ δ1 s1 δ2 s2, t (f j) δ st = .nx δ1 s1 ∧ b δ1 s1 = .nx δ2 s2 ∧ I (j + 1) δ2 s2)
    (h : I 0 δ st) : ∃ δ' st', (∀ len, sFor none len t b ((List.range n).map f) 0 δ st = .nx δ' st') ∧ I n δ' st' := by
  have := for_inv (len := 0) (t := t) (b := b) I (ds := (List.range n).map f) (i := 0) (δ := δ) (st := st) (fun j d δ st hj hI => by
    rw [List.getElem?_map, Option.map_eq_some_iff] at hj
    obtain ⟨i, hi, rfl⟩ := hj
    obtain ⟨hi, rfl⟩ := range_get hi
    rw [Nat.zero_add] at hI ⊢
    exact step i δ st hi hI) h
  obtain ⟨δ', st', e, q⟩ := this
  exact ⟨δ', st', fun len => by rw [sFor_len len 0]; exact e, by simpa using q⟩
/-- a comprehension whose parts leave the store alone -/
theorem compL_pure {len : Nat} {t : Tv} {c : Ev Bool} {e : Ev D} {δ0 : Env} {st : Store} (f : D → Option D) : ∀ {ds : List D} {i : Nat},
    (∀ d ∈ ds, ∃ δ1, t d δ0 = some δ1 ∧ ((f d = none ∧ c δ1 st = .ok false st) ∨ ∃ y, f d = some y ∧ c δ1 st = .ok true st ∧ e δ1 st = .ok y st)) →
    compL none len t c e δ0 ds i st = .ok (ds.filterMap f) st
  | [], i, _ => by rfl
  | d :: ds, i, h => by
    obtain ⟨δ1, h1, h2⟩ := h d (List.mem_cons_self ..)
    have ih := compL_pure (len := len) (t := t) (c := c) (e := e) (δ0 := δ0) (st := st) f (ds := ds) (i := i + 1) fun d hd => h d (List.mem_cons_of_mem _ hd)
    unfold compL getI
    simp only [h1]
    obtain ⟨h2, h3⟩ | ⟨y, h2, h3, h4⟩ := h2
    · simp only [h3, ih, List.filterMap_cons, h2]
    · simp only [h3, h4, ih, List.filterMap_cons, h2]
/-- without a test -/
theorem compL_map {len : Nat} {t : Tv} {e : Ev D} {δ0 : Env} {st : Store} (f : D → D) {ds : List D} {i : Nat}
    (h : ∀ d ∈ ds, ∃ δ1, t d δ0 = some δ1 ∧ e δ1 st = .ok (f d) st) :
    compL none len t bYes e δ0 ds i st = .ok (ds.map f) st := by
  have := compL_pure (len := len) (t := t) (c := bYes) (e := e) (δ0 := δ0) (st := st) (fun d => some (f d)) (ds := ds) (i := i) fun d hd => by
    obtain ⟨δ1, h1, h2⟩ := h d hd
    exact ⟨δ1, h1, .inr ⟨_, rfl, rfl, h2⟩⟩
  rw [this]
  simp
theorem pAll_map (xs : List P) : pAll (xs.map .p) = some xs := by
  induction xs with
  | nil => rfl
  | cons x xs ih => simp [pAll, ih]
theorem pAll_mapf {α : Type} (f : α → P) (xs : List α) : pAll (xs.map fun x => .p (f x)) = some (xs.map f) := by
  have := pAll_map (xs.map f)
  rw [List.map_map] at this
  exact this
theorem allInt_map {α : Type} (f : α → Int) (xs : List α) : allInt (xs.map fun x => .int (f x)) = some (xs.map f) := by
  induction xs with
  | nil => rfl
  | cons x xs ih => simp [allInt, ih]
/-- a store whose cells hold no cell beyond it -/
def WfS (s : Store) : Prop := s.all (wfC s.length) = true
theorem retF_own {s : Store} (w : WfS s) (x : P) (cs : List Cell) : retF s.length (.p x) (s ++ cs) = .ok (.p x) s := by
  unfold retF
  by_cases h : cs = []
  · subst h; simp
  · have : (s ++ cs).length ≠ s.length := by
      have := List.length_pos_iff.mpr h
      simp; omega
    rw [if_neg this, List.take_left', if_pos (show List.all s (wfC s.length) = true from w)]
    rfl
theorem retF_same (s : Store) (d : D) : retF s.length d s = .ok d s := by simp [retF]
theorem excF_same (s : Store) (c : Nat) : excF s.length c s = .exc c s := by simp [excF]
theorem excF_own {s : Store} (w : WfS s) (c : Nat) (cs : List Cell) : excF s.length c (s ++ cs) = .exc c s := by
  unfold excF
  by_cases h : cs = []
  · subst h; simp
  · have : (s ++ cs).length ≠ s.length := by
      have := List.length_pos_iff.mpr h
      simp; omega
    rw [if_neg this, List.take_left', if_pos (show List.all s (wfC s.length) = true from w)]
    rfl
theorem last_get (s : Store) (c : Cell) : (s ++ [c])[s.length]? = some c := by simp
theorem last_set (s : Store) (c d : Cell) : (s ++ [c]).set s.length d = s ++ [d] := by simp

/-! ### data that can be compared -/
mutual
def okD : Nat → P → Bool
  | _, .non => true
  | _, .bl _ => true
  | _, .int _ => true
  | _, .str x => PyData.strOk x
  | n + 1, .tup xs => okDs n xs
  | n + 1, .lst xs => okDs n xs
  | _, _ => false
def okDs : Nat → List P → Bool
  | _, [] => true
  | n, x :: xs => okD n x && okDs n xs
end
mutual
theorem okD_lay : ∀ (n : Nat) (x : P), okD n x = true → x.toD.canLay0 = true ∧ x.toD.depth ≤ n ∧ PyData.eqv x.toD x.toD = true
  | n, .non, _ => by simp [P.toD, PyData.canLay0, PyData.depth, PyData.eqv]
  | n, .bl _, _ => by simp [P.toD, PyData.canLay0, PyData.depth, PyData.eqv]
  | n, .int _, _ => by simp [P.toD, PyData.canLay0, PyData.depth, PyData.eqv]
  | n, .str x, h => by
    have : PyData.strOk x = true := by unfold okD at h; exact h
    simp [P.toD, PyData.canLay0, PyData.depth, PyData.eqv, this]
  | 0, .tup xs, h => by unfold okD at h; cases h
  | n + 1, .tup xs, h => by
    have := okDs_lay n xs (by unfold okD at h; exact h)
    simp [P.toD, PyData.canLay0, PyData.depth, PyData.eqv, this]
  | 0, .lst xs, h => by unfold okD at h; cases h
  | n + 1, .lst xs, h => by
    have := okDs_lay n xs (by unfold okD at h; exact h)
    simp [P.toD, PyData.canLay0, PyData.depth, PyData.eqv, this]
  | n, .scr _, h => by unfold okD at h; cases h
  | n, .dct _, h => by unfold okD at h; cases h
  | n, .dcT _, h => by unfold okD at h; cases h
  | n, .obj _ _, h => by unfold okD at h; cases h
  | n, .lam _, h => by unfold okD at h; cases h
theorem okDs_lay : ∀ (n : Nat) (xs : List P), okDs n xs = true → PyData.canLayAll0 (P.toDs xs) = true ∧ PyData.depthAll (P.toDs xs) ≤ n ∧ PyData.eqvAll (P.toDs xs) (P.toDs xs) = true
  | n, [], _ => by simp [P.toDs, PyData.canLayAll0, PyData.depthAll, PyData.eqvAll]
  | n, x :: xs, h => by
    unfold okDs at h
    rw [Bool.and_eq_true] at h
    have h1 := okD_lay n x h.1
    have h2 := okDs_lay n xs h.2
    simp [P.toDs, PyData.canLayAll0, PyData.depthAll, PyData.eqvAll, h1, h2]
    omega
end
theorem okD_shaped {n : Nat} (hn : n ≤ 64) {x : P} (h : okD n x = true) : SeqAt.shaped x.toD = true := by
  have := okD_lay n x h
  unfold SeqAt.shaped
  simp [this.1]
  omega
theorem pEq_self {x : P} (h : okD 60 x = true) : pEq x x = some true := by
  have h1 := okD_shaped (by decide) h
  have h2 := (okD_lay _ _ h).2.2
  unfold pEq
  split
  · simp
  · simp [h1, h2]
mutual
theorem okD_mono : ∀ (n m : Nat) (x : P), n ≤ m → okD n x = true → okD m x = true
  | n, m, .non, _, _ => by unfold okD; rfl
  | n, m, .bl _, _, _ => by unfold okD; rfl
  | n, m, .int _, _, _ => by unfold okD; rfl
  | n, m, .str x, _, h => by unfold okD at h ⊢; exact h
  | 0, m, .tup xs, _, h => by unfold okD at h; cases h
  | n + 1, 0, .tup xs, l, h => by omega
  | n + 1, m + 1, .tup xs, l, h => by unfold okD at h ⊢; exact okDs_mono n m xs (by omega) h
  | 0, m, .lst xs, _, h => by unfold okD at h; cases h
  | n + 1, 0, .lst xs, l, h => by omega
  | n + 1, m + 1, .lst xs, l, h => by unfold okD at h ⊢; exact okDs_mono n m xs (by omega) h
  | n, m, .scr _, _, h => by unfold okD at h; cases h
  | n, m, .dct _, _, h => by unfold okD at h; cases h
  | n, m, .dcT _, _, h => by unfold okD at h; cases h
  | n, m, .obj _ _, _, h => by unfold okD at h; cases h
  | n, m, .lam _, _, h => by unfold okD at h; cases h
theorem okDs_mono : ∀ (n m : Nat) (xs : List P), n ≤ m → okDs n xs = true → okDs m xs = true
  | n, m, [], _, _ => by unfold okDs; rfl
  | n, m, x :: xs, l, h => by
    unfold okDs at h ⊢
    rw [Bool.and_eq_true] at h ⊢
    exact ⟨okD_mono n m x l h.1, okDs_mono n m xs l h.2⟩
end
theorem okDs_all (n : Nat) (xs : List P) (h : ∀ x ∈ xs, okD n x = true) : okDs n xs = true := by
  induction xs with
  | nil => rfl
  | cons x xs ih => unfold okDs; rw [Bool.and_eq_true]; exact ⟨h x (List.mem_cons_self ..), ih fun y hy => h y (List.mem_cons_of_mem _ hy)⟩
/-! ### arithmetic that the meanings ask for -/
theorem mulOk_l {i j : Int} (h1 : -18446744073709551616 < i) (h2 : i < 18446744073709551616) : mulOk i j = true := by simp [mulOk, smallI, h1, h2]
theorem mulOk_r {i j : Int} (h1 : -18446744073709551616 < j) (h2 : j < 18446744073709551616) : mulOk i j = true := by simp [mulOk, smallI, h1, h2]
theorem log_ok {j : Int} (h : 0 < j) (h2 : j < 18446744073709551616) : j.natAbs.log2 < 9000 := by
  have : j.natAbs < 2 ^ 64 := by omega
  have := (Nat.log2_lt (by omega)).mpr this
  omega
theorem le_t {i j : Int} (h : i ≤ j) : ordI .le i j = true := by simp [ordI, h]
theorem le_f {i j : Int} (h : j < i) : ordI .le i j = false := by simp [ordI, h]
theorem lt_t {i j : Int} (h : i < j) : ordI .lt i j = true := by simp [ordI, h]
theorem lt_f {i j : Int} (h : j ≤ i) : ordI .lt i j = false := by simp [ordI, h]
theorem gt_t {i j : Int} (h : j < i) : ordI .gt i j = true := by simp [ordI, h]
theorem gt_f {i j : Int} (h : i ≤ j) : ordI .gt i j = false := by simp [ordI, h]
theorem ge_t {i j : Int} (h : j ≤ i) : ordI .ge i j = true := by simp [ordI, h]
theorem ge_f {i j : Int} (h : i < j) : ordI .ge i j = false := by simp [ordI, h]
theorem seqP_lst (xs : List P) : seqP (.lst xs) = some xs := rfl
theorem seqP_tup (xs : List P) : seqP (.tup xs) = some xs := rfl
theorem seqP_scr (xs : List P) : seqP (.scr xs) = some xs := rfl
theorem szLine_eq : szLine = 1000000 := rfl
def absI (i : Int) : Int := if i < 0 then -i else i
def maxI (i j : Int) : Int := if j > i then j else i
def minI (i j : Int) : Int := if j < i then j else i
theorem fAbs_int (i : Int) (s : Store) : fAbs [.p (.int i)] s = .ok (.p (.int (absI i))) s := rfl
theorem fMax_int (i j : Int) (s : Store) : fBest true [.p (.int i), .p (.int j)] s = .ok (.p (.int (maxI i j))) s := rfl
theorem fMin_int (i j : Int) (s : Store) : fBest false [.p (.int i), .p (.int j)] s = .ok (.p (.int (minI i j))) s := rfl
theorem ordI_int (k : OK) (i j : Int) (s : Store) : oOrd k (.p (.int i)) (.p (.int j)) s = .ok (.p (.bl (ordI k i j))) s := rfl
theorem oEq_int (n : Bool) (i j : Int) (s : Store) : oEq n (.p (.int i)) (.p (.int j)) s = .ok (.p (.bl (if n = true then !decide (i = j) else decide (i = j)))) s := rfl
theorem sq_ge (i : Int) : 0 ≤ i * i := by
  rcases Int.le_total 0 i with h | h
  · exact Int.mul_nonneg h h
  · rw [← Int.neg_mul_neg]; exact Int.mul_nonneg (by omega) (by omega)
theorem sq_mono {a b : Int} (h0 : 0 ≤ a) (h : a ≤ b) : a * a ≤ b * b := Int.mul_le_mul h h h0 (by omega)


end Iv
end

section
set_option Elab.async false
set_option linter.all false
set_option maxRecDepth 100000
set_option maxHeartbeats 4100000
namespace Iv
open PySem L2
/-! ### the first of the greatest -/
section
variable {α : Type} (f : α → Int)
def pick (o : Option α) (x : α) : Option α := match o with
  | none => some x
  | some y => if f y < f x then some x else some y
def amax (xs : List α) : Option α := xs.foldl (pick f) none
theorem amax_snoc (xs : List α) (x : α) : amax f (xs ++ [x]) = pick f (amax f xs) x := by simp [amax, List.foldl_append]
theorem amax_nil : amax f ([] : List α) = none := rfl
theorem amax_some : ∀ (xs : List α), xs ≠ [] → ∃ r, amax f xs.reverse = some r
  | [], h => absurd rfl h
  | x :: xs, _ => by
    rw [List.reverse_cons, amax_snoc]
    cases amax f xs.reverse with
    | none => exact ⟨_, rfl⟩
    | some y => unfold pick; simp only; split <;> exact ⟨_, rfl⟩
theorem amax_rspec : ∀ (xs : List α) (r : α), amax f xs.reverse = some r → ∃ i, xs.reverse[i]? = some r ∧ (∀ x ∈ xs, f x ≤ f r) ∧ ∀ j : Nat, j < i → ∀ x, xs.reverse[j]? = some x → f x < f r
  | [], r, h => by simp [amax] at h
  | x :: xs, r, h => by
    rw [List.reverse_cons, amax_snoc] at h
    cases e : amax f xs.reverse with
    | none =>
      cases xs with
      | nil =>
        rw [e] at h
        obtain rfl : x = r := by simpa [pick] using h
        exact ⟨0, by simp, by simp, by omega⟩
      | cons y ys =>
        obtain ⟨q, e2⟩ := amax_some f (y :: ys) (by simp)
        rw [e2] at e; cases e
    | some y =>
      obtain ⟨i, h1, h2, h3⟩ := amax_rspec xs y e
      rw [e] at h
      have hi := (List.getElem?_eq_some_iff.mp h1).1
      unfold pick at h
      simp only at h
      rw [List.reverse_cons]
      split at h
      · rename_i c
        obtain rfl := Option.some.inj h
        refine ⟨xs.length, ?_, fun z hz => ?_, fun j hj z hz => ?_⟩
        · rw [List.getElem?_append_right (by simp)]; simp
        · rcases List.mem_cons.mp hz with rfl | hz
          · omega
          · have := h2 z hz; omega
        · rw [List.getElem?_append_left (by simpa using hj)] at hz
          have := h2 z (List.mem_reverse.mp (List.mem_of_getElem? hz))
          omega
      · rename_i c
        obtain rfl := Option.some.inj h
        refine ⟨i, ?_, fun z hz => ?_, fun j hj z hz => ?_⟩
        · rw [List.getElem?_append_left hi]; exact h1
        · rcases List.mem_cons.mp hz with rfl | hz
          · omega
          · exact h2 z hz
        · rw [List.getElem?_append_left (by omega)] at hz
          exact h3 j hj z hz
theorem amax_spec {xs : List α} {r : α} (h : amax f xs = some r) : ∃ i, xs[i]? = some r ∧ (∀ x ∈ xs, f x ≤ f r) ∧ ∀ j : Nat, j < i → ∀ x, xs[j]? = some x → f x < f r := by
  have := amax_rspec f xs.reverse r (by rwa [List.reverse_reverse])
  rw [List.reverse_reverse] at this
  obtain ⟨i, h1, h2, h3⟩ := this
  exact ⟨i, h1, fun x hx => h2 x (List.mem_reverse.mpr hx), h3⟩
theorem amax_ex {xs : List α} (h : xs ≠ []) : ∃ r, amax f xs = some r := by
  have := amax_some f xs.reverse (by simpa using h)
  rwa [List.reverse_reverse] at this
end
/-! ### max, min, index of whole numbers -/
def maxL : List Int → Int
  | [] => 0
  | x :: xs => xs.foldl (fun a y => if a < y then y else a) x
def minL : List Int → Int
  | [] => 0
  | x :: xs => xs.foldl (fun a y => if y < a then y else a) x
theorem fold_max : ∀ (xs : List Int) (x : Int), (xs.foldl (fun a y => if a < y then y else a) x ∈ x :: xs) ∧ ∀ y ∈ x :: xs, y ≤ xs.foldl (fun a y => if a < y then y else a) x
  | [], x => by simp
  | z :: xs, x => by
    rw [List.foldl_cons]
    have ih := fold_max xs (if x < z then z else x)
    refine ⟨?_, fun y hq => ?_⟩
    · have := ih.1
      rcases List.mem_cons.mp this with h | h
      · rw [h]; split <;> simp
      · simp [h]
    · have h0 := ih.2 (if x < z then z else x) (List.mem_cons_self ..)
      rcases List.mem_cons.mp hq with (rfl | hq)
      · generalize List.foldl _ _ xs = M at h0 ⊢; split at h0 <;> omega
      · rcases List.mem_cons.mp hq with (rfl | hq)
        · generalize List.foldl _ _ xs = M at h0 ⊢; split at h0 <;> omega
        · exact ih.2 y (List.mem_cons_of_mem _ hq)
theorem fold_min : ∀ (xs : List Int) (x : Int), (xs.foldl (fun a y => if y < a then y else a) x ∈ x :: xs) ∧ ∀ y ∈ x :: xs, xs.foldl (fun a y => if y < a then y else a) x ≤ y
  | [], x => by simp
  | z :: xs, x => by
    rw [List.foldl_cons]
    have ih := fold_min xs (if z < x then z else x)
    refine ⟨?_, fun y hq => ?_⟩
    · have := ih.1
      rcases List.mem_cons.mp this with h | h
      · rw [h]; split <;> simp
      · simp [h]
    · have h0 := ih.2 (if z < x then z else x) (List.mem_cons_self ..)
      rcases List.mem_cons.mp hq with (rfl | hq)
      · generalize List.foldl _ _ xs = M at h0 ⊢; split at h0 <;> omega
      · rcases List.mem_cons.mp hq with (rfl | hq)
        · generalize List.foldl _ _ xs = M at h0 ⊢; split at h0 <;> omega
        · exact ih.2 y (List.mem_cons_of_mem _ hq)
theorem maxL_mem {xs : List Int} (h : xs ≠ []) : maxL xs ∈ xs ∧ ∀ y ∈ xs, y ≤ maxL xs := by
  cases xs with
  | nil => exact absurd rfl h
  | cons x xs => exact fold_max xs x
theorem minL_mem {xs : List Int} (h : xs ≠ []) : minL xs ∈ xs ∧ ∀ y ∈ xs, minL xs ≤ y := by
  cases xs with
  | nil => exact absurd rfl h
  | cons x xs => exact fold_min xs x
theorem bestP_max : ∀ (xs : List Int) (x : Int), bestP true (.int x) (xs.map .int) = .int (xs.foldl (fun a y => if a < y then y else a) x)
  | [], x => rfl
  | y :: xs, x => by
    have ih := bestP_max xs (if x < y then y else x)
    unfold bestP at ih ⊢
    rw [List.map_cons, List.foldl_cons, List.foldl_cons]; rw [← ih]
    simp only [P.toD, PySem.W.dataLt_int, if_true]
    congr 1
    by_cases c : x < y <;> simp [c]
theorem bestP_min : ∀ (xs : List Int) (x : Int), bestP false (.int x) (xs.map .int) = .int (xs.foldl (fun a y => if y < a then y else a) x)
  | [], x => rfl
  | y :: xs, x => by
    have ih := bestP_min xs (if y < x then y else x)
    unfold bestP at ih ⊢
    rw [List.map_cons, List.foldl_cons, List.foldl_cons]; rw [← ih]
    simp only [P.toD, PySem.W.dataLt_int]
    congr 1
    by_cases c : y < x <;> simp [c]
theorem alike_ints (xs : List Int) : alikeP (xs.map .int) = true := by
  simp [alikeP, P.toD, isNon, SeqAt.shaped, PyData.canLay0, PyData.depth, PySem.W.alike]
theorem fMax_ints {d : D} {s : Store} {x : P} {xs : List Int} (h1 : see s d = some x) (h2 : seqP x = some (xs.map .int)) (h : xs ≠ []) : fBest true [d] s = .ok (.p (.int (maxL xs))) s := by
  cases xs with
  | nil => exact absurd rfl h
  | cons y ys =>
    have a := alike_ints (y :: ys)
    have b := bestP_max ys y
    rw [List.map_cons] at h2 a
    unfold fBest
    simp only [h1, h2, a, if_true, b]
    rfl
theorem fMin_ints {d : D} {s : Store} {x : P} {xs : List Int} (h1 : see s d = some x) (h2 : seqP x = some (xs.map .int)) (h : xs ≠ []) : fBest false [d] s = .ok (.p (.int (minL xs))) s := by
  cases xs with
  | nil => exact absurd rfl h
  | cons y ys =>
    have a := alike_ints (y :: ys)
    have b := bestP_min ys y
    rw [List.map_cons] at h2 a
    unfold fBest
    simp only [h1, h2, a, if_true, b]
    rfl
theorem idxP_ints : ∀ (xs : List Int) (m : Int) (i n : Nat), xs[i]? = some m → (∀ j : Nat, j < i → ∀ x, xs[j]? = some x → x ≠ m) → idxP (.int m) (xs.map .int) n = some (n + i)
  | [], m, i, n, h, _ => by simp at h
  | x :: xs, m, 0, n, h, _ => by
    obtain rfl : x = m := by simpa using h
    simp [idxP, P.toD, PyData.eqv]
  | x :: xs, m, i + 1, n, h, h2 => by
    have ih := idxP_ints xs m i (n + 1) (by simpa using h) fun j hj y hy => h2 (j + 1) (by omega) y (by simpa using hy)
    have : x ≠ m := h2 0 (by omega) x rfl
    simp only [List.map_cons, idxP, P.toD, PyData.eqv]
    rw [if_neg (by simpa using this), ih]
    congr 1; omega
/-- the first greatest, by max and index -/
theorem amax_idx {α : Type} {f : α → Int} {xs : List α} {r : α} (h : amax f xs = some r) : ∃ i, xs[i]? = some r ∧ maxL (xs.map f) = f r ∧ idxP (.int (f r)) ((xs.map f).map .int) 0 = some i := by
  obtain ⟨i, h1, h2, h3⟩ := amax_spec f h
  have hm := List.mem_of_getElem? h1
  have hne : xs.map f ≠ [] := by
    intro e
    have : xs = [] := List.map_eq_nil_iff.mp e
    rw [this] at hm; cases hm
  refine ⟨i, h1, ?_, ?_⟩
  · obtain ⟨g1, g2⟩ := maxL_mem hne
    obtain ⟨z, hz, e⟩ := List.mem_map.mp g1
    have := h2 z hz
    have := g2 (f r) (List.mem_map_of_mem hm)
    omega
  · have := idxP_ints (xs.map f) (f r) i 0 (by rw [List.getElem?_map, h1]; rfl) fun j hj x hx => by
      rw [List.getElem?_map, Option.map_eq_some_iff] at hx
      obtain ⟨y, hy, rfl⟩ := hx
      have := h3 j hj y hy
      omega
    simpa using this
theorem shaped_ints (xs : List Int) : SeqAt.shaped (P.lst (xs.map .int)).toD = true := okD_shaped (n := 2) (by decide) (by unfold okD; exact okDs_all _ _ fun x hx => by obtain ⟨i, _, rfl⟩ := List.mem_map.mp hx; rfl)
theorem shaped_int (i : Int) : SeqAt.shaped (P.int i).toD = true := rfl
theorem mIdx_ints {d e : D} {s : Store} {xs : List Int} {m : Int} {i : Nat} (h1 : see s d = some (.lst (xs.map .int))) (h2 : idxP (.int m) (xs.map .int) 0 = some i) : mIdx d [.p (.int m)] s = .ok (.p (.int (i : Nat))) s := by
  have h3 : see s (.p (.int m)) = some (.int m) := rfl
  unfold mIdx
  simp only [h1, h3, shaped_ints, shaped_int, h2, and_self, if_true]
/-! ### more of data -/
theorem pEq_int (i j : Int) : pEq (.int i) (.int j) = some (decide (i = j)) := rfl
theorem pEq_nil {xs : List P} (h : okDs 59 xs = true) : pEq (.lst xs) (.lst []) = some xs.isEmpty := by
  have h1 : SeqAt.shaped (P.lst xs).toD = true := okD_shaped (n := 60) (by decide) (by unfold okD; exact h)
  have h2 : SeqAt.shaped (P.lst []).toD = true := okD_shaped (n := 60) (by decide) rfl
  unfold pEq
  simp only [h1, h2, and_self, if_true]
  cases xs <;> simp [P.toD, P.toDs, PyData.eqv, PyData.eqvAll]
theorem atI_nat {α : Type} {xs : List α} {i : Nat} {x : α} (h : xs[i]? = some x) : L2.atI xs (i : Int) = some x := by
  have hl := (List.getElem?_eq_some_iff.mp h).1
  unfold L2.atI L2.ixN
  rw [if_pos (by omega)]; rw [if_pos (by omega)]
  simpa using h
theorem wfD_mono {m n : Nat} (h : m ≤ n) (d : D) (w : wfD m d = true) : wfD n d = true := by
  cases d with
  | p x => rfl
  | ref k => simp only [wfD, decide_eq_true_eq] at w ⊢; omega
theorem wfC_mono {m n : Nat} (h : m ≤ n) (c : Cell) (w : wfC m c = true) : wfC n c = true := by
  cases c <;> simp only [wfC, List.all_eq_true] at w ⊢ <;> exact fun x hx => wfD_mono h _ (w x hx)
theorem WfS.snoc {s : Store} (w : WfS s) {c : Cell} (h : wfC (s.length + 1) c = true) : WfS (s ++ [c]) := by
  unfold WfS at *
  simp only [List.length_append, List.length_cons, List.length_nil, List.all_append, List.all_cons, List.all_nil, Bool.and_true, Bool.and_eq_true]
  refine ⟨?_, h⟩
  rw [List.all_eq_true] at *
  exact fun x hx => wfC_mono (by omega) x (w x hx)
theorem wfC_ps (n : Nat) (xs : List P) : wfC n (.lst (xs.map .p)) = true := by simp [wfC, wfD]
end Iv
end

section
set_option Elab.async false
set_option linter.all false
set_option maxRecDepth 100000
set_option maxHeartbeats 4100000
namespace Iv
open PySem L2
theorem seqn {f g : Sv} {δ δ1 : Env} {s s1 : Store} (h : f δ s = .nx δ1 s1) : sSeq f g δ s = g δ1 s1 := by unfold sSeq; rw [h]
theorem retF_len {s : Store} {m : Nat} {d : D} (h : s.length = m) : retF m d s = .ok d s := by simp [retF, h]
theorem excF_len {s : Store} {m c : Nat} (h : s.length = m) : excF m c s = .exc c s := by simp [excF, h]
theorem retF_cell {s : Store} (w : WfS s) {c : Cell} {x : P} (h : seeC c = some x) : retF s.length (.ref s.length) (s ++ [c]) = .ok (.p x) s := by
  unfold retF
  rw [if_neg (by simp), List.take_left', if_pos (show List.all s (wfC s.length) = true from w)]
  · simp [see, h]
  · rfl
/-- a comprehension over data: what passes, each computed -/
theorem compL_gen {α : Type} {t : Tv} {c : Ev Bool} {e : Ev D} {δ0 : Env} {st : Store} (xs : List α) (enc : α → P) (p : α → Bool) (f : α → P)
    (h : ∀ x ∈ xs, ∃ δ1, t (.p (enc x)) δ0 = some δ1 ∧ c δ1 st = .ok (p x) st ∧ (p x = true → e δ1 st = .ok (.p (f x)) st)) :
    ∀ len k, compL none len t c e δ0 ((xs.map enc).map .p) k st = .ok (((xs.filter p).map f).map .p) st := by
  induction xs with
  | nil => intro len k; rfl
  | cons x xs ih =>
    intro len k
    obtain ⟨δ1, h1, h2, h3⟩ := h x (List.mem_cons_self ..)
    have ih := ih (fun y hy => h y (List.mem_cons_of_mem _ hy)) len (k + 1)
    rw [List.map_cons]; rw [List.map_cons]
    unfold compL getI
    simp only [h1, h2]
    cases hp : p x with
    | true =>
      simp only [h3 hp, ih, List.filter_cons, hp, if_true, List.map_cons]
    | false =>
      simp only [ih, List.filter_cons, hp, Bool.false_eq_true, if_false]
theorem compL_all {α : Type} {t : Tv} {e : Ev D} {δ0 : Env} {st : Store} (xs : List α) (enc : α → P) (f : α → P)
    (h : ∀ x ∈ xs, ∃ δ1, t (.p (enc x)) δ0 = some δ1 ∧ e δ1 st = .ok (.p (f x)) st) :
    ∀ len k, compL none len t bYes e δ0 ((xs.map enc).map .p) k st = .ok ((xs.map f).map .p) st := by
  intro len k
  have := compL_gen (t := t) (c := bYes) (e := e) (δ0 := δ0) (st := st) xs enc (fun _ => true) f (fun x hx => by
    obtain ⟨δ1, h1, h2⟩ := h x hx
    exact ⟨δ1, h1, rfl, fun _ => h2⟩) len k
  rw [this, List.filter_eq_self.mpr (fun _ _ => rfl)]
/-- lo, lo + 1, .. -/
def itv (lo : Int) (n : Nat) : List Int := (List.range n).map fun i => lo + (i : Nat)
theorem rng_itv (lo : Int) (n : Nat) : ((List.range n).map fun i => D.p (.int (lo + (i : Nat)))) = ((itv lo n).map P.int).map D.p := by
  unfold itv; simp only [List.map_map]; rfl
theorem rng_itv0 (n : Nat) : ((List.range n).map fun i => D.p (.int (i : Nat))) = ((itv 0 n).map P.int).map D.p := by
  unfold itv; simp only [List.map_map]
  refine List.map_congr_left fun ii _ => ?_
  simp [Function.comp]
theorem itv_len (lo : Int) (n : Nat) : (itv lo n).length = n := by simp [itv]
theorem itv_mem {lo : Int} {n : Nat} {x : Int} : x ∈ itv lo n ↔ lo ≤ x ∧ x < lo + n := by
  unfold itv
  simp only [List.mem_range, List.mem_map]
  constructor
  · rintro ⟨i, h, rfl⟩; omega
  · intro h; exact ⟨(x - lo).toNat, by omega, by omega⟩
theorem itv_succ (lo : Int) (n : Nat) : itv lo (n + 1) = itv lo n ++ [lo + (n : Nat)] := by unfold itv; rw [List.range_succ]; simp
theorem itv_get {lo : Int} {n i : Nat} (h : i < n) : (itv lo n)[i]? = some (lo + (i : Nat)) := by unfold itv; simp [h]
/-- a for loop over data, by places -/
theorem for_data {α : Type} {t : Gv} {b : Sv} (xs : List α) (enc : α → P) (J : Nat → Env → Store → Prop) {δ : Env} {st : Store}
    (step : ∀ j x δ st, xs[j]? = some x → J j δ st → ∃ δ1 s1 δ2 s2, t (.p (enc x)) δ st = .nx δ1 s1 ∧ b δ1 s1 = .nx δ2 s2 ∧ J (j + 1) δ2 s2)
    (h : J 0 δ st) : ∃ δ' st', (∀ len, sFor none len t b ((xs.map enc).map .p) 0 δ st = .nx δ' st') ∧ J xs.length δ' st' := by
  have := for_inv (len := 0) (t := t) (b := b) J (ds := (xs.map enc).map .p) (i := 0) (δ := δ) (st := st) (fun j d δ st hj hI => by
    rw [List.getElem?_map, Option.map_eq_some_iff] at hj
    obtain ⟨y, hy, rfl⟩ := hj
    rw [List.getElem?_map, Option.map_eq_some_iff] at hy
    obtain ⟨x, hx, rfl⟩ := hy
    rw [Nat.zero_add] at hI ⊢
    exact step j x δ st hx hI) h
  obtain ⟨δ', st', e, q⟩ := this
  exact ⟨δ', st', fun len => by rw [sFor_len len 0]; exact e, by simpa using q⟩
theorem okDs_ints (n : Nat) (xs : List Int) : okDs n (xs.map P.int) = true := okDs_all _ _ fun x hx => by
  obtain ⟨i, _, rfl⟩ := List.mem_map.mp hx
  unfold okD; rfl
theorem lst_ints (xs : List Int) : okD 60 (.lst (xs.map P.int)) = true := by unfold okD; exact okDs_ints _ _
theorem take_snoc {α : Type} {xs : List α} {j : Nat} {x : α} (h : xs[j]? = some x) : xs.take (j + 1) = xs.take j ++ [x] := by
  rw [List.take_add_one, h]; rfl
end Iv
end

section
set_option Elab.async false
set_option linter.all false
set_option maxRecDepth 100000
set_option maxHeartbeats 4100000
namespace Iv
open PySem L2
/-! ### pairs of numbers, and sorting them -/
def pr2 (x : Int × Int) : P := .tup [.int x.1, .int x.2]
def lt2 (x y : Int × Int) : Bool := decide (x.1 < y.1 ∨ (x.1 = y.1 ∧ x.2 < y.2))
def le2 (x y : Int × Int) : Bool := !lt2 y x
theorem lt_pr (x y : Int × Int) : PySem.W.dataLt (pr2 x).toD (pr2 y).toD = lt2 x y := by
  obtain ⟨a, b⟩ := x
  obtain ⟨c, d⟩ := y
  simp only [pr2, P.toD, P.toDs, PySem.W.dataLt_tuple]
  have k : ∀ u v : Int, PySem.W.alike (.int u) (.int v) = true := fun _ _ => rfl
  by_cases e : a = c
  · subst e
    rw [PySem.W.dataLt_all_yes (k a a) (by simp [PyData.eqv])]
    by_cases e : b = d
    · subst e
      rw [PySem.W.dataLt_all_yes (k b b) (by simp [PyData.eqv])]
      simp [lt2, PySem.W.keyToksAll, PyProof.Rows.lex_irrefl]
    · rw [PySem.W.dataLt_all_no (k b d) (by simp [PyData.eqv, e]), PySem.W.dataLt_int]
      simp [lt2]
  · rw [PySem.W.dataLt_all_no (k a c) (by simp [PyData.eqv, e]), PySem.W.dataLt_int]
    simp [lt2, e]
theorem lePP_pr (x y : Int × Int) : lePP (pr2 x) (pr2 y) = le2 x y := by
  unfold le2
  rw [← lt_pr y x]
  rfl
theorem alike_pr (xs : List (Int × Int)) : alikeP (xs.map pr2) = true := by
  unfold alikeP
  rw [List.all_eq_true]
  intro a ha
  obtain ⟨x, _, rfl⟩ := List.mem_map.mp ha
  have h1 : SeqAt.shaped (pr2 x).toD = true := rfl
  have h2 : isNon (pr2 x).toD = false := rfl
  rw [h1, h2, Bool.true_and, Bool.not_false, Bool.true_and, List.all_eq_true]
  intro b hb
  obtain ⟨y, _, rfl⟩ := List.mem_map.mp hb
  rfl
theorem sortB_pr (xs : List (Int × Int)) : sortB (xs.map pr2) = true := by
  simp [sortB, pr2, tup1]
def sort2 (xs : List (Int × Int)) : List (Int × Int) := xs.mergeSort le2
theorem sortP_pr (xs : List (Int × Int)) : sortP (xs.map pr2) = (sort2 xs).map pr2 := by
  unfold sortP sort2
  exact (List.map_mergeSort (fun a _ b _ => (lePP_pr a b).symm)).symm
theorem le2_iff {x y : Int × Int} : le2 x y = true ↔ x.1 < y.1 ∨ (x.1 = y.1 ∧ x.2 ≤ y.2) := by
  unfold le2 lt2
  simp only [decide_eq_false_iff_not, Bool.not_eq_true']
  omega
theorem sort2_pw (xs : List (Int × Int)) : (sort2 xs).Pairwise fun a b => le2 a b = true := by
  refine List.pairwise_mergeSort ?_ ?_ xs
  · intro a b c h1 h2
    rw [le2_iff] at *
    omega
  · intro a b
    rw [Bool.or_eq_true, le2_iff, le2_iff]
    omega
theorem sort2_perm (xs : List (Int × Int)) : (sort2 xs).Perm xs := List.mergeSort_perm ..
theorem sort2_eq {xs ys : List (Int × Int)} (h : xs.Perm ys) : sort2 xs = sort2 ys := by
  refine List.Perm.eq_of_pairwise (le := fun a b => le2 a b = true) ?_ (sort2_pw xs) (sort2_pw ys) ((sort2_perm xs).trans (h.trans (sort2_perm ys).symm))
  intro a b _ _ h1 h2
  rw [le2_iff] at *
  exact Prod.ext (by omega) (by omega)
theorem sort2_again (xs : List (Int × Int)) : sort2 (sort2 xs).reverse = sort2 xs := sort2_eq ((List.reverse_perm _).trans (sort2_perm xs))
theorem fSorted_pr {d : D} {s : Store} {x : P} {xs : List (Int × Int)} (h1 : see s d = some x) (h2 : lstP x = some (xs.map pr2)) (h : xs.length ≤ szLine) : fSorted [d] s = .ok (.p (.lst ((sort2 xs).map pr2))) s := by
  unfold fSorted
  simp only [h1, h2, alike_pr, sortB_pr, List.length_map, h, and_self, if_true, sortP_pr]
theorem kSort_pr {s : Store} {xs : List (Int × Int)} (h : xs.length ≤ szLine) : kSort ((xs.map pr2).map D.p) s = .ok (.p (.lst ((sort2 xs).map pr2))) s := by
  unfold kSort
  simp only [pAll_map, alike_pr, sortB_pr, List.length_map, h, and_self, if_true, sortP_pr]
theorem sortI_pw (xs : List Int) : (sortI xs).Pairwise fun a b => a ≤ b := by
  have := List.pairwise_mergeSort (le := fun a b : Int => decide (a ≤ b)) (by intro a b c h1 h2; simp only [decide_eq_true_eq] at *; omega) (by intro a b; simp only [Bool.or_eq_true, decide_eq_true_eq]; omega) xs
  exact this.imp fun h => by simpa using h
theorem sortI_perm (xs : List Int) : (sortI xs).Perm xs := List.mergeSort_perm ..
theorem sortI_eq {xs ys : List Int} (h : xs.Perm ys) : sortI xs = sortI ys :=
  List.Perm.eq_of_pairwise (le := fun a b : Int => a ≤ b) (fun a b _ _ h1 h2 => by omega) (sortI_pw xs) (sortI_pw ys) ((sortI_perm xs).trans (h.trans (sortI_perm ys).symm))
theorem pr2_ok (x : Int × Int) (n : Nat) : okD (n + 1) (pr2 x) = true := by
  unfold pr2 okD
  refine okDs_all _ _ fun y hy => ?_
  simp only [List.mem_cons, List.not_mem_nil, or_false] at hy
  rcases hy with rfl | rfl <;> (unfold okD; rfl)
theorem lst_pr (xs : List (Int × Int)) : okD 60 (.lst (xs.map pr2)) = true := by
  unfold okD
  refine okDs_all _ _ fun y hy => ?_
  obtain ⟨x, _, rfl⟩ := List.mem_map.mp hy
  exact pr2_ok x 58
end Iv
end

section
set_option Elab.async false
set_option linter.all false
set_option maxRecDepth 100000
set_option maxHeartbeats 4100000
namespace Iv
open PySem L2
/-! ### dicts with numbers for keys, all to one value: the keys, each once -/
def putC (acc : List Int) (k : Int) : List Int := if k ∈ acc then acc else acc ++ [k]
def ded (ks : List Int) : List Int := ks.foldl putC []
theorem putX_key {α : Type} (v : α) (acc : List Int) (k : Int) : putX (acc.map fun k => ((.inl k : Key), v)) (.inl k) v = (putC acc k).map fun k => ((.inl k : Key), v) := by
  unfold putX putC
  by_cases h : k ∈ acc
  · have h1 : ((acc.map fun k => ((.inl k : Key), v)).any fun kv => decide (kv.1 = .inl k)) = true := by
      rw [List.any_map, List.any_eq_true]
      exact ⟨k, h, by simp⟩
    rw [if_pos h1, if_pos h, List.map_map]
    apply List.map_congr_left
    intro x _
    simp only [Function.comp]
    split <;> rfl
  · have h1 : ¬ ((acc.map fun k => ((.inl k : Key), v)).any fun kv => decide (kv.1 = .inl k)) = true := by
      rw [List.any_map, List.any_eq_true]
      rintro ⟨x, hx, e⟩
      simp at e
      exact h (e ▸ hx)
    rw [if_neg h1, if_neg h, List.map_append]
    rfl
theorem dcL_ints {t : Tv} {ek ev : Ev D} {δ0 : Iv.Env} {st : Store} (v : D) : ∀ (ks acc : List Int), (∀ k ∈ ks, ∃ δ1, t (.p (.int k)) δ0 = some δ1 ∧ ek δ1 st = .ok (.p (.int k)) st ∧ ev δ1 st = .ok v st) →
    ∀ len n, dcL none len t bYes ek ev δ0 ((ks.map P.int).map .p) n (acc.map fun k => ((.inl k : Key), v)) st = .ok ((ks.foldl putC acc).map fun k => ((.inl k : Key), v)) st
  | [], acc, _, len, n => rfl
  | k :: ks, acc, h, len, n => by
    obtain ⟨δ1, h1, h2, h3⟩ := h k (List.mem_cons_self ..)
    have ih := dcL_ints v ks (putC acc k) (fun y hy => h y (List.mem_cons_of_mem _ hy)) len (n + 1)
    rw [List.map_cons, List.map_cons, List.foldl_cons]
    unfold dcL getI
    simp only [h1, h2, h3, bYes, keyD, keyP, putX_key]
    exact ih
theorem pKs_ints (v : P) : ∀ ks : List Int, pKs (ks.map fun k => ((.inl k : Key), D.p v)) = some (ks.map fun k => (P.int k, v))
  | [] => rfl
  | k :: ks => by
    rw [List.map_cons]
    unfold pKs
    simp only [pKs_ints v ks]
    rfl
theorem intKs_ints (v : P) : ∀ ks : List Int, intKs (ks.map fun k => (P.int k, v)) = some ks
  | [] => rfl
  | k :: ks => by
    rw [List.map_cons]
    unfold intKs
    simp only [intKs_ints v ks]
    rfl
theorem pairsK_ints (v : P) : ∀ ks : List Int, pairsK (ks.map fun k => P.tup [.int k, v]) = some (ks.map fun k => ((.inl k : Key), v))
  | [] => rfl
  | k :: ks => by
    rw [List.map_cons]
    unfold pairsK
    simp only [pairsK_ints v ks, pairK, keyP, Option.map_some, Option.bind_some, List.map_cons]
theorem merge_ints (v : P) (ks acc : List Int) : mergeX (acc.map fun k => ((.inl k : Key), v)) (ks.map fun k => ((.inl k : Key), v)) = (ks.foldl putC acc).map fun k => ((.inl k : Key), v) := by
  unfold mergeX
  induction ks generalizing acc with
  | nil => rfl
  | cons k ks ih =>
    rw [List.map_cons, List.foldl_cons, List.foldl_cons, putX_key]
    exact ih _
theorem fDict_ints (v : P) (ks : List Int) (s : Store) : fDict [.p (.lst (ks.map fun k => P.tup [.int k, v]))] s = .ok (.p (.dct ((ded ks).map fun k => (P.int k, v)))) s := by
  have m := merge_ints v ks []
  rw [List.map_nil] at m
  unfold fDict
  simp only [see, lstP, pairsK_ints, m, List.map_map]
  rfl
theorem fSortedD_ints (v : P) (ks : List Int) (h1 : ks.length < 64) (h2 : ks ≠ []) (s : Store) : fSortedD [.p (.dct (ks.map fun k => (P.int k, v)))] s = .ok (.p (.lst ((sortI ks).map .int))) s := by
  unfold fSortedD
  simp only [see, intKs_ints, h1, h2, ne_eq, not_false_eq_true, and_self, if_true]
theorem putC_len (acc : List Int) (k : Int) : (putC acc k).length ≤ acc.length + 1 := by
  unfold putC
  split <;> simp
theorem ded_len_aux : ∀ (ks acc : List Int), (ks.foldl putC acc).length ≤ acc.length + ks.length
  | [], acc => by simp
  | k :: ks, acc => by
    rw [List.foldl_cons]
    have := ded_len_aux ks (putC acc k)
    have := putC_len acc k
    rw [List.length_cons]
    omega
theorem ded_len (ks : List Int) : (ded ks).length ≤ ks.length := by
  have := ded_len_aux ks []
  simpa [ded] using this
theorem putC_mem {acc : List Int} {k x : Int} : x ∈ putC acc k ↔ x ∈ acc ∨ x = k := by
  unfold putC
  split
  · rename_i h
    constructor
    · exact .inl
    · rintro (h1 | rfl)
      · exact h1
      · exact h
  · simp
theorem ded_mem_aux : ∀ (ks acc : List Int) (x : Int), x ∈ ks.foldl putC acc ↔ x ∈ acc ∨ x ∈ ks
  | [], acc, x => by simp
  | k :: ks, acc, x => by
    rw [List.foldl_cons, ded_mem_aux, putC_mem, List.mem_cons]
    constructor
    · rintro ((h | h) | h)
      · exact .inl h
      · exact .inr (.inl h)
      · exact .inr (.inr h)
    · rintro (h | h | h)
      · exact .inl (.inl h)
      · exact .inl (.inr h)
      · exact .inr h
theorem ded_mem {ks : List Int} {x : Int} : x ∈ ded ks ↔ x ∈ ks := by
  have := ded_mem_aux ks [] x
  simpa [ded] using this
theorem sortI_mem {ks : List Int} {x : Int} : x ∈ sortI ks ↔ x ∈ ks := (sortI_perm ks).mem_iff
end Iv
end

section
set_option Elab.async false
set_option linter.all false
set_option maxRecDepth 100000
set_option maxHeartbeats 4100000
namespace Iv
open PySem L2
/-! ### walks over data, in one go -/
section
variable {α : Type} {fi : Ev Its} {t : Tv} {c : Ev Bool} {e : Ev D} {vs : List Nat} {δ : Iv.Env} {s : Store} (xs : List α) (enc : α → P)
theorem any_data {stop : Bool} {δ0 : Iv.Env} (p : α → Bool) (h : ∀ x ∈ xs, ∃ δ1, t (.p (enc x)) δ0 = some δ1 ∧ e δ1 s = .ok (.p (.bl (p x))) s) :
    ∀ len k, anyL stop none len t bYes e δ0 ((xs.map enc).map .p) k s = .ok (xs.any fun x => p x == stop) s := by
  induction xs with
  | nil => intro len k; rfl
  | cons x xs ih =>
    intro len k
    obtain ⟨δ1, h1, h2⟩ := h x (List.mem_cons_self ..)
    have ih := ih (fun y hy => h y (List.mem_cons_of_mem _ hy)) len (k + 1)
    rw [List.map_cons]; rw [List.map_cons]
    unfold anyL getI
    simp only [h1, h2, bYes]
    rw [List.any_cons]
    by_cases q : p x = stop
    · rw [if_pos q, q]; simp
    · rw [if_neg q]
      have : (p x == stop) = false := by simp [q]
      rw [this, Bool.false_or]
      exact ih
theorem vAny_data (p : α → Bool) (hi : fi δ s = .ok ⟨(xs.map enc).map .p, none⟩ s) (h : ∀ x ∈ xs, ∃ δ1, t (.p (enc x)) (wipE δ vs) = some δ1 ∧ e δ1 s = .ok (.p (.bl (p x))) s) :
    vAnyG true false fi t bYes e vs δ s = .ok (.p (.bl (xs.any p))) s := by
  have k := any_data (stop := true) xs enc p h
  unfold vAnyG
  simp only [hi, k]
  have q : (fun x => p x == true) = p := by funext x; cases p x <;> rfl
  rw [q]
  rfl
theorem vAll_data (p : α → Bool) (hi : fi δ s = .ok ⟨(xs.map enc).map .p, none⟩ s) (h : ∀ x ∈ xs, ∃ δ1, t (.p (enc x)) (wipE δ vs) = some δ1 ∧ e δ1 s = .ok (.p (.bl (p x))) s) :
    vAnyG false true fi t bYes e vs δ s = .ok (.p (.bl (xs.all p))) s := by
  have k := any_data (stop := false) xs enc p h
  unfold vAnyG
  simp only [hi, k]
  have q : (xs.any fun x => p x == false) = !xs.all p := by
    rw [List.not_all_eq_any_not]
    congr 1
    funext x
    cases p x <;> rfl
  rw [q]
  simp
theorem vGen_tup (f : α → P) (hl : xs.length ≤ szLine) (hi : fi δ s = .ok ⟨(xs.map enc).map .p, none⟩ s) (h : ∀ x ∈ xs, ∃ δ1, t (.p (enc x)) (wipE δ vs) = some δ1 ∧ e δ1 s = .ok (.p (f x)) s) :
    vGenD fi t bYes e vs kTup δ s = .ok (.p (.tup (xs.map f))) s := by
  have k := compL_all xs enc f h
  unfold vGenD
  simp only [hi, List.length_map, hl, if_true, k, kTup, pAll_map]
theorem vCmp_gen (p : α → Bool) (f : α → P) (hl : xs.length ≤ szLine) (hi : fi δ s = .ok ⟨(xs.map enc).map .p, none⟩ s)
    (h : ∀ x ∈ xs, ∃ δ1, t (.p (enc x)) (wipE δ vs) = some δ1 ∧ c δ1 s = .ok (p x) s ∧ (p x = true → e δ1 s = .ok (.p (f x)) s)) :
    vCmp fi t c e vs δ s = .ok (.p (.lst ((xs.filter p).map f))) s := by
  have k := compL_gen xs enc p f h
  unfold vCmp vCmpD
  simp only [hi, List.length_map, hl, if_true, k, kLst, pAll_map]
theorem vCmp_all (f : α → P) (hl : xs.length ≤ szLine) (hi : fi δ s = .ok ⟨(xs.map enc).map .p, none⟩ s)
    (h : ∀ x ∈ xs, ∃ δ1, t (.p (enc x)) (wipE δ vs) = some δ1 ∧ e δ1 s = .ok (.p (f x)) s) :
    vCmp fi t bYes e vs δ s = .ok (.p (.lst (xs.map f))) s := by
  have k := compL_all xs enc f h
  unfold vCmp vCmpD
  simp only [hi, List.length_map, hl, if_true, k, kLst, pAll_map]
/-- a loop that looks for the first: it returns, or goes on -/
theorem for_find {t : Gv} {b : Sv} {len : Nat} (f : α → Option D) (J : Iv.Env → Prop) :
    ∀ (xs : List α), (∀ x ∈ xs, ∀ δ, J δ → ∃ δ1, t (.p (enc x)) δ s = .nx δ1 s ∧ match f x with | some d => b δ1 s = .rt d s | none => ∃ δ2, b δ1 s = .nx δ2 s ∧ J δ2) →
    ∀ δ n, J δ → match xs.findSome? f with | some d => sFor none len t b ((xs.map enc).map .p) n δ s = .rt d s | none => ∃ δ2, sFor none len t b ((xs.map enc).map .p) n δ s = .nx δ2 s ∧ J δ2
  | [], _, δ, n, h => ⟨δ, rfl, h⟩
  | x :: xs, step, δ, n, h => by
    obtain ⟨δ1, h1, h2⟩ := step x (List.mem_cons_self ..) δ h
    rw [List.findSome?_cons, List.map_cons, List.map_cons]
    unfold sFor getI
    cases hf : f x with
    | some d =>
      rw [hf] at h2
      simp only [h1]
      rw [h2]
    | none =>
      rw [hf] at h2
      obtain ⟨δ2, h3, h4⟩ := h2
      have ih := for_find (len := len) f J xs (fun y hy => step y (List.mem_cons_of_mem _ hy)) δ2 (n + 1) h4
      simp only [h1, h3]
      exact ih
end
/-- a loop that gathers -/
theorem for_fold {α β : Type} {t : Gv} {b : Sv} (enc : α → P) (f : β → α → β) (J : β → Iv.Env → Store → Prop) : ∀ (xs : List α),
    (∀ x ∈ xs, ∀ a δ st, J a δ st → ∃ δ1 s1 δ2 s2, t (.p (enc x)) δ st = .nx δ1 s1 ∧ b δ1 s1 = .nx δ2 s2 ∧ J (f a x) δ2 s2) →
    ∀ a δ st, J a δ st → ∃ δ' st', (∀ len n, sFor none len t b ((xs.map enc).map .p) n δ st = .nx δ' st') ∧ J (xs.foldl f a) δ' st'
  | [], _, a, δ, st, h => ⟨δ, st, fun _ _ => rfl, h⟩
  | x :: xs, step, a, δ, st, h => by
    obtain ⟨δ1, s1, δ2, s2, h1, h2, h3⟩ := step x (List.mem_cons_self ..) a δ st h
    obtain ⟨δ', st', e, q⟩ := for_fold enc f J xs (fun y hy => step y (List.mem_cons_of_mem _ hy)) (f a x) δ2 s2 h3
    refine ⟨δ', st', fun len n => ?_, q⟩
    rw [List.map_cons]; rw [List.map_cons]
    unfold sFor getI
    simp only [h1, h2]
    exact e len (n + 1)
/-- a loop that puts together lists, none longer than B -/
theorem for_app {α γ : Type} {t : Gv} {b : Sv} (enc : α → P) (g : α → List γ) (B : Nat) (J : List γ → Iv.Env → Store → Prop) : ∀ (xs : List α) (a : List γ), (a ++ xs.flatMap g).length ≤ B →
    (∀ x ∈ xs, ∀ a δ st, (a ++ g x).length ≤ B → J a δ st → ∃ δ1 s1 δ2 s2, t (.p (enc x)) δ st = .nx δ1 s1 ∧ b δ1 s1 = .nx δ2 s2 ∧ J (a ++ g x) δ2 s2) →
    ∀ δ st, J a δ st → ∃ δ' st', (∀ len n, sFor none len t b ((xs.map enc).map .p) n δ st = .nx δ' st') ∧ J (a ++ xs.flatMap g) δ' st'
  | [], a, _, _, δ, st, h => ⟨δ, st, fun _ _ => rfl, by simpa using h⟩
  | x :: xs, a, hB, step, δ, st, h => by
    have hb : (a ++ g x).length ≤ B := by
      simp only [List.flatMap_cons, List.length_append] at hB ⊢
      omega
    obtain ⟨δ1, s1, δ2, s2, h1, h2, h3⟩ := step x (List.mem_cons_self ..) a δ st hb h
    obtain ⟨δ', st', e, q⟩ := for_app enc g B J xs (a ++ g x) (by rw [List.append_assoc]; simpa [List.flatMap_cons] using hB) (fun y hy => step y (List.mem_cons_of_mem _ hy)) δ2 s2 h3
    refine ⟨δ', st', fun len n => ?_, by rw [List.flatMap_cons, ← List.append_assoc]; exact q⟩
    rw [List.map_cons]; rw [List.map_cons]
    unfold sFor getI
    simp only [h1, h2]
    exact e len (n + 1)
theorem vDc_ints {fi : Ev Its} {t : Tv} {ek ev : Ev D} {vs : List Nat} {δ : Iv.Env} {s : Store} (v : P) (ks : List Int) (hl : ks.length ≤ szLine) (hi : fi δ s = .ok ⟨(ks.map P.int).map .p, none⟩ s)
    (h : ∀ k ∈ ks, ∃ δ1, t (.p (.int k)) (wipE δ vs) = some δ1 ∧ ek δ1 s = .ok (.p (.int k)) s ∧ ev δ1 s = .ok (.p v) s) :
    vDcD fi t bYes ek ev vs kDct δ s = .ok (.p (.dct ((ded ks).map fun k => (P.int k, v)))) s := by
  have d := dcL_ints (t := t) (ek := ek) (ev := ev) (δ0 := wipE δ vs) (st := s) (.p v) ks [] h ks.length 0
  have pk := pKs_ints v (ded ks)
  rw [List.map_nil] at d
  unfold vDcD
  simp only [hi, List.length_map, hl, if_true, d, kDct]
  rw [show List.foldl putC [] ks = ded ks from rfl, pk]
theorem fold_app {α γ : Type} (g : α → List γ) : ∀ (xs : List α) (a : List γ), xs.foldl (fun a x => a ++ g x) a = a ++ xs.flatMap g
  | [], a => by simp
  | x :: xs, a => by rw [List.foldl_cons, fold_app g xs]; simp
theorem ap1 (s : Store) (c : Cell) (r : Store) : (s ++ c :: r)[s.length]? = some c := by simp
theorem ap2 (s : Store) (c d : Cell) (r : Store) : (s ++ c :: d :: r)[s.length + 1]? = some d := by
  rw [List.getElem?_append_right (by omega)]; simp
theorem sp1 (s : Store) (c d : Cell) (r : Store) : (s ++ c :: r).set s.length d = s ++ d :: r := by simp
theorem sp2 (s : Store) (c d x : Cell) (r : Store) : (s ++ c :: d :: r).set (s.length + 1) x = s ++ c :: x :: r := by
  rw [List.set_append_right _ _ (by omega)]; simp
theorem forI_of {fi : Ev Its} {t : Gv} {b : Sv} {δ : Iv.Env} {s s1 : Store} {ds : List D} {r : SR} (h : fi δ s = .ok ⟨ds, none⟩ s1) (e : ∀ len, sFor none len t b ds 0 δ s1 = r) : sForI fi t b δ s = r := by
  unfold sForI
  rw [h]
  exact e _
theorem v2_of {f : D → D → Store → Res D} {a b : Ev D} {δ : Iv.Env} {s s1 s2 : Store} {x y : D} (ha : a δ s = .ok x s1) (hb : b δ s1 = .ok y s2) : v2 f a b δ s = f x y s2 := by
  unfold v2; rw [ha]; simp only [bnd_ok]; rw [hb]; rfl
theorem itA_of {f : Ev D} {δ : Iv.Env} {s s1 : Store} {x : P} {xs : List P} (h : f δ s = .ok (.p x) s1) (hx : seqP x = some xs) : itA f δ s = .ok ⟨xs.map .p, none⟩ s1 := by
  unfold itA; rw [h]; simp only [bnd_ok, hx]
theorem cal1_of {F : F1} {v : Ev D} {δ : Iv.Env} {s s1 : Store} {d : D} (h : v δ s = .ok d s1) : vCal F (aC v aN) δ s = F [d] s1 := by
  unfold vCal aC aN; rw [h]; rfl
theorem asg_nx {v : Ev D} {g : Gv} {δ δ' : Iv.Env} {s s1 s2 : Store} {d : D} (h : v δ s = .ok d s1) (hg : g d δ s1 = .nx δ' s2) : sAsg v g δ s = .nx δ' s2 := by unfold sAsg; rw [h]; simp only [hg]
theorem seqr {f g : Sv} {δ : Iv.Env} {s s1 : Store} {d : D} (h : f δ s = .rt d s1) : sSeq f g δ s = .rt d s1 := by unfold sSeq; rw [h]
theorem r3 {δ : Iv.Env} {s : Store} : itR1 (aC (vK (.int 3)) (aN)) δ s = .ok ⟨([0, 1, 2] : List Int).map P.int |>.map .p, none⟩ s := rfl
/-- sorting by putting in: it can be computed -/
def insI (z : Int) : List Int → List Int
  | [] => [z]
  | y :: ys => if z ≤ y then z :: y :: ys else y :: insI z ys
def isort : List Int → List Int
  | [] => []
  | x :: xs => insI x (isort xs)
theorem insI_perm (x : Int) : ∀ ys, (insI x ys).Perm (x :: ys)
  | [] => .refl _
  | y :: ys => by
    unfold insI
    split
    · exact .refl _
    · exact ((insI_perm x ys).cons y).trans (.swap ..)
theorem isort_perm : ∀ xs, (isort xs).Perm xs
  | [] => .refl _
  | x :: xs => (insI_perm x _).trans ((isort_perm xs).cons x)
theorem insI_pw (x : Int) : ∀ ys : List Int, ys.Pairwise (· ≤ ·) → (insI x ys).Pairwise (· ≤ ·)
  | [], _ => by simp [insI]
  | y :: ys, h => by
    unfold insI
    rw [List.pairwise_cons] at h
    split
    · rename_i hxy
      refine List.pairwise_cons.mpr ⟨fun z hz => ?_, List.pairwise_cons.mpr h⟩
      obtain rfl | hz := List.mem_cons.mp hz
      · exact hxy
      · exact Int.le_trans hxy (h.1 z hz)
    · rename_i hxy
      refine List.pairwise_cons.mpr ⟨fun z hz => ?_, insI_pw x ys h.2⟩
      obtain rfl | hz := List.mem_cons.mp ((insI_perm x ys).mem_iff.mp hz)
      · omega
      · exact h.1 z hz
theorem isort_pw : ∀ xs, (isort xs).Pairwise (· ≤ ·)
  | [] => .nil
  | x :: xs => insI_pw x _ (isort_pw xs)
theorem sortI_isort (xs : List Int) : sortI xs = isort xs := (sortI_uniq (isort_perm xs) (isort_pw xs)).symm
end Iv
end

section
set_option Elab.async false
set_option linter.all false
set_option maxRecDepth 100000
set_option maxHeartbeats 0
namespace K11
open PySem PySem.Spec PyProof.Rows L2
def top (i : Nat) : Stmt := PySem.Challenge.pw_woodstack_k11_works_from_bench_to_bench.main.body.getD i (.Pass ⟨0, 0, 0, 0⟩)
def d_0 : He.DefD := ⟨("Work", some "__init__"), "__init__", "Work.__init__", defArgs (inClass (top 5) 0), defBody (inClass (top 5) 0), defScope (inClass (top 5) 0), [], []⟩
def d_1 : He.DefD := ⟨("check_works", none), "check_works", "check_works", defArgs (top 6), defBody (top 6), defScope (top 6), [], []⟩
def d_2 : He.DefD := ⟨("ends_of", none), "ends_of", "ends_of", defArgs (top 7), defBody (top 7), defScope (top 7), [], []⟩
def d_3 : He.DefD := ⟨("best_order_of", none), "best_order_of", "best_order_of", defArgs (top 8), defBody (top 8), defScope (top 8), [], []⟩
def d_4 : He.DefD := ⟨("two_bench_order", none), "two_bench_order", "two_bench_order", defArgs (top 9), defBody (top 9), defScope (top 9), [], []⟩
def d_5 : He.DefD := ⟨("idle_minutes", none), "idle_minutes", "idle_minutes", defArgs (top 10), defBody (top 10), defScope (top 10), [], []⟩
def d_6 : He.DefD := ⟨("_law_dice", none), "_law_dice", "_law_dice", defArgs (top 12), defBody (top 12), defScope (top 12), [], []⟩
def d_7 : He.DefD := ⟨("_law_roll", none), "_law_roll", "_law_roll", defArgs (top 13), defBody (top 13), defScope (top 13), [], []⟩
def d_8 : He.DefD := ⟨("_law_rounds", none), "_law_rounds", "_law_rounds", defArgs (top 14), defBody (top 14), defScope (top 14), [], []⟩
def d_9 : He.DefD := ⟨("_law_told", none), "_law_told", "_law_told", defArgs (top 15), defBody (top 15), defScope (top 15), [], []⟩
def d_10 : He.DefD := ⟨("_law_ends", none), "_law_ends", "_law_ends", defArgs (top 16), defBody (top 16), defScope (top 16), [], []⟩
def d_11 : He.DefD := ⟨("_law_orders", none), "_law_orders", "_law_orders", defArgs (top 17), defBody (top 17), defScope (top 17), [], []⟩
def d_12 : He.DefD := ⟨("law", none), "law", "law", defArgs (top 18), defBody (top 18), defScope (top 18), [], []⟩
def fn : List He.DefD := [d_0, d_1, d_2, d_3, d_4, d_5, d_6, d_7, d_8, d_9, d_10, d_11, d_12]
def fa : List He.Fa := [.glo "check_works", .glo "ends_of", .glo "best_order_of", .glo "two_bench_order", .glo "idle_minutes", .glo "_law_dice", .glo "_law_roll", .glo "_law_rounds", .glo "_law_told", .glo "_law_ends", .glo "_law_orders", .glo "law", .glo "CutError", .glo "Work", .int "MOST_WORKS" 7, .exc "CutError", .exm "CutError" "CutError" true, .cls "Work", .noat "Work" "name", .noat "Work" "minutes", .mkr "Work", .free "abs", .free "enumerate", .free "int", .free "len", .free "list", .free "max", .free "min", .free "range", .free "sorted", .free "str", .free "sum", .free "tuple", .free "zip"]
def tf : List He.Defn := [("two_bench_order", none), ("idle_minutes", none), ("law", none)]
def exq (K : PySem.W.Frag) : Bool := decide ((tf.map fun p => (He.cT K p).2).Nodup)
abbrev R : PySem.W.OpenRow := PySem.W.OpenLaw.row PySem.Challenge.rw_woodstack_k11_works_from_bench_to_bench
abbrev hk : PySem.W.Hook := He.hookX 4 fa fn [] tf exq
def ob (s : PySem.W.SharedT) : He.AlX := He.obsX 4 fa fn [] tf exq (HandSHeadRun.getT s)
theorem ob_eq (s : PySem.W.SharedT) : ob s = hk.obs s.abs := He.obsX_eq (HandSHeadRun.getT_eq s)
def names : List PySem.Str := ["WoodError", "CutError", "MOST_WORKS", "Work", "check_works", "ends_of", "best_order_of", "two_bench_order", "idle_minutes", "_law_dice", "_law_roll", "_law_rounds", "_law_told", "_law_ends", "_law_orders"]
theorem run (w : World) : HandSHeadRun.RunEq R (PySem.W.view R.prog [18]) hk ob 2000 names w := by
  intro os
  kernel_rfl
end K11
end

section
set_option Elab.async false
set_option linter.all false
set_option maxRecDepth 100000
set_option maxHeartbeats 4100000
namespace K11
open PySem PySem.Spec PyProof.Rows L2 Iv
def b_Work___init__ : Sv :=
  sSeq (sIf (bOr (tstB (v2 (oEq false) (vCal fLen (aC (vV 2) (aN))) (vK (.int 0)))) (tstB (v2 (oOrd .lt) (vCal (fBest false) (aC (vV 2) (aN))) (vK (.int 0)))))
  (sRaise 1)
  (sNx))
  (sSeq (sSetF [2] "name" (vV 0) (vV 1))
  (sSetF [2] "minutes" (vV 0) (vCal fTup (aC (vV 2) (aN)))))
def f_Work___init__ : F1 := fnF false 3 3 b_Work___init__
theorem sc_Work___init__ : FnScope ["self", "name", "minutes"] ["self", "name", "minutes"] (defScope (inClass (top 5) 0)) := ⟨rfl, rfl, rfl, by decide +kernel, rfl, by decide +kernel, by decide +kernel⟩
theorem ok_Work___init__ {P : Program} {w : World} {K : PySem.W.Frag} {mg : Str → Option Value} {base : Heap} {g : GL} (gK : g.K = K) {fd : FuncData} (F : FunD K "__init__" "Work.__init__" (defArgs (inClass (top 5) 0)) (defBody (inClass (top 5) 0)) (defScope (inClass (top 5) 0)) [] [] (He.fAd K ("Work", some "__init__")) fd) (n_len : mg "len" = none) (n_min : mg "min" = none) (n_tuple : mg "tuple" = none) (x_CutError : ExF K mg g 1 "CutError") (l_minutes : ∀ c ∈ [2], Cls g.K (g.CT c) ∧ NoAttr g.K (g.CT c) "minutes") (l_name : ∀ c ∈ [2], Cls g.K (g.CT c) ∧ NoAttr g.K (g.CT c) "name") : FnOk P w K mg base (L2.CX P w) 2 (He.fAd K ("Work", some "__init__")) fd ["self", "name", "minutes"] (SpF g 3 f_Work___init__) := by
  have nd : (["self", "name", "minutes"] : List Str).Nodup := by decide +kernel
  refine fn_ok false F sc_Work___init__ (fun A outer s H E hr => ?_)
  exact ss_cons (ss_if (PW.pt (sw_or (tcmp (kx_of gK.symm hr) (se_callB (rc_len (kx_of gK.symm hr)) nx_len rfl n_len bt_len (sa_cons (sv 2) (sa_nil))) (se_int)) (sw_or1 (tcmp (kx_of gK.symm hr) (se_callB (rc_min rfl (kx_of gK.symm hr)) nx_best rfl n_min bt_min (sa_cons (sv 2) (sa_nil))) (se_int)))))
      (ss_one (sraise x_CutError rfl tk_fn rfl))
      (ss_nil))
      (ss_cons (ss_fld (cs := [2]) gK.symm l_name (sv 0) (sv 1))
      (ss_one (ss_fld (cs := [2]) gK.symm l_minutes (sv 0) (se_callTy (rc_tup (kx_of gK.symm hr)) nx_tup rfl n_tuple bt_tuple (sa_cons (sv 2) (sa_nil))))))
def b_check_works : Sv :=
  sSeq (sIf (bOr (bNot (tstB (vCh (oOrd .lt) (oOrd .le) (vK (.int 0)) (vCal fLen (aC (vV 0) (aN))) (vK (.int 7))))) (tstB (v2 (oOrd .lt) (vCal fLenX (aC (vDcD (itA (vV 0)) (tvN 1) (bYes) (vFld [2] "name" (vV 1)) (vK (.bl true)) [1] kDct) (aN))) (vCal fLen (aC (vV 0) (aN))))))
  (sRaise 1)
  (sNx))
  (sIf (tstB (v2 (oOrd .gt) (vCal fLenX (aC (vDcD (itA (vV 0)) (tvN 1) (bYes) (vCal fLen (aC (vFld [2] "minutes" (vV 1)) (aN))) (vK (.bl true)) [1] kDct) (aN))) (vK (.int 1))))
  (sRaise 1)
  (sNx))
def f_check_works : F1 := fnF false 2 1 b_check_works
theorem sc_check_works : FnScope ["works", "work"] ["works"] (defScope (top 6)) := ⟨rfl, rfl, rfl, by decide +kernel, rfl, by decide +kernel, by decide +kernel⟩
theorem ok_check_works {P : Program} {w : World} {K : PySem.W.Frag} {mg : Str → Option Value} {base : Heap} {g : GL} (gK : g.K = K) {fd : FuncData} (F : FunD K "check_works" "check_works" (defArgs (top 6)) (defBody (top 6)) (defScope (top 6)) [] [] (He.fAd K ("check_works", none)) fd) (n_len : mg "len" = none) (c_MOST_WORKS : ∃ t, mg "MOST_WORKS" = some (.int 7 t)) (x_CutError : ExF K mg g 1 "CutError") (l_minutes : ∀ c ∈ [2], Cls g.K (g.CT c) ∧ NoAttr g.K (g.CT c) "minutes") (l_name : ∀ c ∈ [2], Cls g.K (g.CT c) ∧ NoAttr g.K (g.CT c) "name") : FnOk P w K mg base (L2.CX P w) 2 (He.fAd K ("check_works", none)) fd ["works"] (SpF g 1 f_check_works) := by
  have nd : (["works", "work"] : List Str).Nodup := by decide +kernel
  refine fn_ok false F sc_check_works (fun A outer s H E hr => ?_)
  exact ss_cons (ss_if (PW.pt (sw_or (st_not (tchn (kx_of gK.symm hr) (se_int) (se_callB (rc_len (kx_of gK.symm hr)) nx_len rfl n_len bt_len (sa_cons (sv 0) (sa_nil))) (sgint rfl c_MOST_WORKS))) (sw_or1 (tcmp (kx_of gK.symm hr) (se_callB (rc_lenX (kx_of gK.symm hr)) nx_lenX rfl n_len bt_len (sa_cons (se_dc (own := [("work", 1)]) ok_dct rfl nd (si_any (kx_of gK.symm hr) (sv 0)) (blkOk_by (by kernel_rfl)) (fun _ _ _ _ _ => tg_name (i := 1) nd rfl (by first | exact Or.inl rfl | exact Or.inr rfl) (by decide)) (fun _ _ _ _ _ => sb_none) (fun _ _ _ _ _ => se_fld (cs := [2]) gK.symm l_name (sv 1)) (fun _ _ _ _ _ => se_bl)) (sa_nil))) (se_callB (rc_len (kx_of gK.symm hr)) nx_len rfl n_len bt_len (sa_cons (sv 0) (sa_nil)))))))
      (ss_one (sraise x_CutError rfl tk_fn rfl))
      (ss_nil))
      (ss_one (ss_if (tcmp (kx_of gK.symm hr) (se_callB (rc_lenX (kx_of gK.symm hr)) nx_lenX rfl n_len bt_len (sa_cons (se_dc (own := [("work", 1)]) ok_dct rfl nd (si_any (kx_of gK.symm hr) (sv 0)) (blkOk_by (by kernel_rfl)) (fun _ _ _ _ _ => tg_name (i := 1) nd rfl (by first | exact Or.inl rfl | exact Or.inr rfl) (by decide)) (fun _ _ _ _ _ => sb_none) (fun _ _ _ _ _ => se_callB (rc_len (kx_of gK.symm hr)) nx_len rfl n_len bt_len (sa_cons (se_fld (cs := [2]) gK.symm l_minutes (sv 1)) (sa_nil))) (fun _ _ _ _ _ => se_bl)) (sa_nil))) (se_int))
      (ss_one (sraise x_CutError rfl tk_fn rfl))
      (ss_nil)))
def b_ends_of : Sv :=
  sSeq (sDo (vFn f_check_works (aC (vV 0) (aN)) []))
  (sSeq (sPar 1 2 (aC (v2 oMulM (vLst (aC (vK (.int 0)) (aN))) (vCal fLen (aC (vFld [2] "minutes" (v2 oIx (vV 0) (vK (.int 0)))) (aN)))) (aC (vLstM (aN)) (aN))))
  (sSeq (sForI (itA (vV 0)) (gvN 3)
  (sSeq (sPar 4 5 (aC (vK (.int 0)) (aC (vLstM (aN)) (aN))))
  (sSeq (sForI (itE (aC (vFld [2] "minutes" (vV 3)) (aN))) (gvT 2 (gsC (gvN 6) (gsC (gvN 7) (gsN))))
  (sSeq (sAsg (v2 oAdd (vCal (fBest true) (aC (vV 4) (aC (v2 oIx (vV 1) (vV 6)) (aN)))) (vV 7)) (gvN 4))
  (sSeq (sAsg (vV 4) (gvS (vV 1) (vV 6)))
  (sDo (vMet isList mApp (vV 5) (aC (vV 4) (aN)))))))
  (sDo (vMet isList mApp (vV 2) (aC (vCal fTup (aC (vV 5) (aN))) (aN)))))))
  (sRet (vCal fTup (aC (vV 2) (aN))))))
def f_ends_of : F1 := fnF false 8 1 b_ends_of
theorem sc_ends_of : FnScope ["works", "free", "found", "work", "time", "row", "bench", "minutes"] ["works"] (defScope (top 7)) := ⟨rfl, rfl, rfl, by decide +kernel, rfl, by decide +kernel, by decide +kernel⟩
theorem ok_ends_of {P : Program} {w : World} {K : PySem.W.Frag} {mg : Str → Option Value} {base : Heap} {g : GL} (gK : g.K = K) {fd : FuncData} (F : FunD K "ends_of" "ends_of" (defArgs (top 7)) (defBody (top 7)) (defScope (top 7)) [] [] (He.fAd K ("ends_of", none)) fd) (n_enumerate : mg "enumerate" = none) (n_len : mg "len" = none) (n_max : mg "max" = none) (n_tuple : mg "tuple" = none) (l_minutes : ∀ c ∈ [2], Cls g.K (g.CT c) ∧ NoAttr g.K (g.CT c) "minutes") (f_check_works_ : Cal2 P w K mg base g 2 "check_works" 1 f_check_works []) : FnOk P w K mg base (L2.CX P w) 3 (He.fAd K ("ends_of", none)) fd ["works"] (SpF g 1 f_ends_of) := by
  have nd : (["works", "free", "found", "work", "time", "row", "bench", "minutes"] : List Str).Nodup := by decide +kernel
  refine fn_ok false F sc_ends_of (fun A outer s H E hr => ?_)
  exact ss_cons (ss_do (scall f_check_works_ hr (by decide) rfl px_fn (sa_cons (sv 0) (sa_nil))))
      (ss_cons (ss_par (i := 1) (j := 2) rfl nd rfl rfl (by decide) rfl rfl (sa_cons (sMulME (se_lst (sa_cons (se_int) (sa_nil))) (se_callB (rc_len (kx_of gK.symm hr)) nx_len rfl n_len bt_len (sa_cons (se_fld (cs := [2]) gK.symm l_minutes (se_ix (kx_of gK.symm hr) (sv 0) (se_int) (fun _ _ => rfl))) (sa_nil)))) (sa_cons (se_lstM (sa_nil)) (sa_nil))) (by rfl))
      (ss_cons (ss_for po_fn rfl (si_any (kx_of gK.symm hr) (sv 0)) (sg_name (i := 3) nd rfl (by first | exact Or.inl rfl | exact Or.inr rfl))
      (ss_cons (ss_par (i := 4) (j := 5) rfl nd rfl rfl (by decide) rfl rfl (sa_cons (se_int) (sa_cons (se_lstM (sa_nil)) (sa_nil))) (by rfl))
      (ss_cons (ss_for po_fn rfl (si_enum (kx_of gK.symm hr) rfl n_enumerate (sa_cons (se_fld (cs := [2]) gK.symm l_minutes (sv 3)) (sa_nil))) (sg_tup (kx_of gK.symm hr) rfl (sgs_cons (sg_name (i := 6) nd rfl (by first | exact Or.inl rfl | exact Or.inr rfl)) (sgs_cons (sg_name (i := 7) nd rfl (by first | exact Or.inl rfl | exact Or.inr rfl)) (sgs_nil))))
      (ss_cons (ss_set (i := 4) nd rfl (by first | exact Or.inl rfl | exact Or.inr rfl) (sAddE (kx_of gK.symm hr) (se_callB (rc_max rfl (kx_of gK.symm hr)) nx_best rfl n_max bt_max (sa_cons (sv 4) (sa_cons (se_ix (kx_of gK.symm hr) (sv 1) (sv 6) (fun _ _ => rfl)) (sa_nil)))) (sv 7)))
      (ss_cons (ss_asg (sv 4) (sg_sub (sv 1) (sv 6)))
      (ss_one (ss_do (se_met (kx_of gK.symm hr) PySem.F.plainAttrs_list PySem.F.slot_list_append PySem.F.type_list_append rm_app ty_list nm_app (sv 5) (sa_cons (sv 4) (sa_nil))))))))
      (ss_one (ss_do (se_met (kx_of gK.symm hr) PySem.F.plainAttrs_list PySem.F.slot_list_append PySem.F.type_list_append rm_app ty_list nm_app (sv 2) (sa_cons (se_callTy (rc_tup (kx_of gK.symm hr)) nx_tup rfl n_tuple bt_tuple (sa_cons (sv 5) (sa_nil))) (sa_nil))))))))
      (ss_one (ss_ret (se_callTy (rc_tup (kx_of gK.symm hr)) nx_tup rfl n_tuple bt_tuple (sa_cons (sv 2) (sa_nil)))))))
def b_best_order_of : Sv :=
  sSeq (sDo (vFn f_check_works (aC (vV 0) (aN)) []))
  (sSeq (sAsgT 3 (aC (vDcD (itA (vV 0)) (tvN 6) (bYes) (vFld [2] "name" (vV 6)) (vV 6) [6] kDct) (aC (vK .non) (aC (vLstM (aC (vTup (aN)) (aN))) (aN)))) (gsC (gvN 1) (gsC (gvN 2) (gsC (gvN 3) (gsN)))))
  (sSeq (sWh (tstB (v2 (oEq true) (vV 3) (vLst (aN)))) (sSeq (sAsg (vMet0 isList mPop (vV 3)) (gvN 4))
  (sSeq (sIf (tstB (v2 (oEq false) (vCal fLen (aC (vV 4) (aN))) (vCal fLenX (aC (vV 1) (aN)))))
  (sSeq (sAsg (vTup (aC (v2 oIx (v2 oIx (vFn f_ends_of (aC (vCmp (itA (vV 4)) (tvN 7) (bYes) (v2 oDx (vV 1) (vV 7)) [7]) (aN)) []) (vU oNeg (vK (.int 1)))) (vU oNeg (vK (.int 1)))) (aC (vV 4) (aN)))) (gvN 5))
  (sAsg (vIf (bOr (tstB (v2 (oIs false) (vV 2) (vK .non))) (tstB (v2 (oOrd .lt) (vV 5) (vV 2)))) (vV 5) (vV 2)) (gvN 2)))
  (sNx))
  (sAug 3 iAdd (vCmp (itK (vV 1)) (tvN 7) (tstB (v2 (oInS true) (vV 7) (vV 4))) (v2 oAdd (vV 4) (vTup (aC (vV 7) (aN)))) [7])))) 2000)
  (sRet (vV 2))))
def f_best_order_of : F1 := fnF false 8 1 b_best_order_of
theorem sc_best_order_of : FnScope ["works", "table", "best", "left", "names", "row", "work", "name"] ["works"] (defScope (top 8)) := ⟨rfl, rfl, rfl, by decide +kernel, rfl, by decide +kernel, by decide +kernel⟩
theorem ok_best_order_of {P : Program} {w : World} {K : PySem.W.Frag} {mg : Str → Option Value} {base : Heap} {g : GL} (gK : g.K = K) {fd : FuncData} (F : FunD K "best_order_of" "best_order_of" (defArgs (top 8)) (defBody (top 8)) (defScope (top 8)) [] [] (He.fAd K ("best_order_of", none)) fd) (n_len : mg "len" = none) (l_name : ∀ c ∈ [2], Cls g.K (g.CT c) ∧ NoAttr g.K (g.CT c) "name") (f_check_works_ : Cal2 P w K mg base g 2 "check_works" 1 f_check_works []) (f_ends_of_ : Cal2 P w K mg base g 3 "ends_of" 1 f_ends_of []) : FnOk P w K mg base (L2.CX P w) 4 (He.fAd K ("best_order_of", none)) fd ["works"] (SpF g 1 f_best_order_of) := by
  have nd : (["works", "table", "best", "left", "names", "row", "work", "name"] : List Str).Nodup := by decide +kernel
  refine fn_ok false F sc_best_order_of (fun A outer s H E hr => ?_)
  exact ss_cons (ss_do (scall f_check_works_ hr (by decide) rfl px_fn (sa_cons (sv 0) (sa_nil))))
      (ss_cons (ss_asgT (kx_of gK.symm hr) rfl (sa_cons (se_dc (own := [("work", 6)]) ok_dct rfl nd (si_any (kx_of gK.symm hr) (sv 0)) (blkOk_by (by kernel_rfl)) (fun _ _ _ _ _ => tg_name (i := 6) nd rfl (by first | exact Or.inl rfl | exact Or.inr rfl) (by decide)) (fun _ _ _ _ _ => sb_none) (fun _ _ _ _ _ => se_fld (cs := [2]) gK.symm l_name (sv 6)) (fun _ _ _ _ _ => sv 6)) (sa_cons (se_non) (sa_cons (se_lstM (sa_cons (se_tup (sa_nil)) (sa_nil))) (sa_nil)))) (sgs_cons (sg_name (i := 1) nd rfl (by first | exact Or.inl rfl | exact Or.inr rfl)) (sgs_cons (sg_name (i := 2) nd rfl (by first | exact Or.inl rfl | exact Or.inr rfl)) (sgs_cons (sg_name (i := 3) nd rfl (by first | exact Or.inl rfl | exact Or.inr rfl)) (sgs_nil)))))
      (ss_cons (ss_while 2000 po_fn (tcmp (kx_of gK.symm hr) (sv 3) (se_lst (sa_nil))) (ss_cons (ss_set (i := 4) nd rfl (by first | exact Or.inl rfl | exact Or.inr rfl) (se_met0 (kx_of gK.symm hr) PySem.F.plainAttrs_list PySem.F.slot_list_pop PySem.F.type_list_pop rm_pop ty_list nm_pop (sv 3)))
      (ss_cons (ss_if (tcmp (kx_of gK.symm hr) (se_callB (rc_len (kx_of gK.symm hr)) nx_len rfl n_len bt_len (sa_cons (sv 4) (sa_nil))) (se_callB (rc_lenX (kx_of gK.symm hr)) nx_lenX rfl n_len bt_len (sa_cons (sv 1) (sa_nil))))
      (ss_cons (ss_set (i := 5) nd rfl (by first | exact Or.inl rfl | exact Or.inr rfl) (se_tup (sa_cons (se_ix (kx_of gK.symm hr) (se_ix (kx_of gK.symm hr) (scall f_ends_of_ hr (by decide) rfl px_fn (sa_cons (se_lc (own := [("name", 7)]) ok_lst rfl nd (si_any (kx_of gK.symm hr) (sv 4)) (blkOk_by (by kernel_rfl)) (fun _ _ _ _ _ => tg_name (i := 7) nd rfl (by first | exact Or.inl rfl | exact Or.inr rfl) (by decide)) (fun _ _ _ _ _ => sb_none) (fun _ _ _ _ _ => se_dx (kx_of gK.symm hr) (sv 1) (sv 7) (fun _ _ => rfl))) (sa_nil))) (se_neg (se_int)) (fun _ _ => rfl)) (se_neg (se_int)) (fun _ _ => rfl)) (sa_cons (sv 4) (sa_nil)))))
      (ss_one (ss_set (i := 2) nd rfl (by first | exact Or.inl rfl | exact Or.inr rfl) (se_if (PW.pt (sw_or (tcmp (kx_of gK.symm hr) (sv 2) (se_non)) (sw_or1 (tcmp (kx_of gK.symm hr) (sv 5) (sv 2))))) (sv 5) (sv 2)))))
      (ss_nil))
      (ss_one (ss_aug (i := 3) nd rfl (by first | exact Or.inl rfl | exact Or.inr rfl) (se_lc (own := [("name", 7)]) ok_lst rfl nd (si_keys (sv 1)) (blkOk_by (by kernel_rfl)) (fun _ _ _ _ _ => tg_name (i := 7) nd rfl (by first | exact Or.inl rfl | exact Or.inr rfl) (by decide)) (fun _ _ _ _ _ => sb_one (tnotinS (kx_of gK.symm hr) (sv 7) (sv 4))) (fun _ _ _ _ _ => sAddE (kx_of gK.symm hr) (sv 4) (se_tup (sa_cons (sv 7) (sa_nil))))) (ir_add (kx_of gK.symm hr)))))))
      (ss_one (ss_ret (sv 2)))))
def b_two_bench_order : Sv :=
  sSeq (sDo (vFn f_check_works (aC (vV 0) (aN)) []))
  (sSeq (sIf (tstB (v2 (oEq true) (vCal fLen (aC (vFld [2] "minutes" (v2 oIx (vV 0) (vK (.int 0)))) (aN))) (vK (.int 2))))
  (sRaise 1)
  (sNx))
  (sSeq (sAsg (vGenD (itA (vV 0)) (tvN 3) (tstB (v2 (oOrd .lt) (v2 oIx (vFld [2] "minutes" (vV 3)) (vK (.int 0))) (v2 oIx (vFld [2] "minutes" (vV 3)) (vK (.int 1))))) (vTup (aC (v2 oIx (vFld [2] "minutes" (vV 3)) (vK (.int 0))) (aC (vFld [2] "name" (vV 3)) (aN)))) [3] kSort) (gvN 1))
  (sSeq (sAsg (vGenD (itA (vV 0)) (tvN 3) (tstB (v2 (oOrd .ge) (v2 oIx (vFld [2] "minutes" (vV 3)) (vK (.int 0))) (v2 oIx (vFld [2] "minutes" (vV 3)) (vK (.int 1))))) (vTup (aC (v2 oSub (vK (.int 0)) (v2 oIx (vFld [2] "minutes" (vV 3)) (vK (.int 1)))) (aC (vFld [2] "name" (vV 3)) (aN)))) [3] kSort) (gvN 2))
  (sRet (vCal fTup (aC (v2 oAdd (vCmp (itA (vV 1)) (tvT 2 (tsC (tvN 4) (tsC (tvN 5) (tsN)))) (bYes) (vV 5) [4, 5]) (vCmp (itA (vV 2)) (tvT 2 (tsC (tvN 4) (tsC (tvN 5) (tsN)))) (bYes) (vV 5) [4, 5])) (aN)))))))
def f_two_bench_order : F1 := fnF false 6 1 b_two_bench_order
theorem sc_two_bench_order : FnScope ["works", "first", "second", "work", "minutes", "name"] ["works"] (defScope (top 9)) := ⟨rfl, rfl, rfl, by decide +kernel, rfl, by decide +kernel, by decide +kernel⟩
theorem ok_two_bench_order {P : Program} {w : World} {K : PySem.W.Frag} {mg : Str → Option Value} {base : Heap} {g : GL} (gK : g.K = K) {fd : FuncData} (F : FunD K "two_bench_order" "two_bench_order" (defArgs (top 9)) (defBody (top 9)) (defScope (top 9)) [] [] (He.fAd K ("two_bench_order", none)) fd) (TB : LamX.TabB base mg (He.cT K ("two_bench_order", none)).1 (He.cT K ("two_bench_order", none)).2) (hT : (He.cT K ("two_bench_order", none)).2 ∈ g.T) (n_len : mg "len" = none) (n_sorted : mg "sorted" = none) (n_tuple : mg "tuple" = none) (x_CutError : ExF K mg g 1 "CutError") (l_minutes : ∀ c ∈ [2], Cls g.K (g.CT c) ∧ NoAttr g.K (g.CT c) "minutes") (l_name : ∀ c ∈ [2], Cls g.K (g.CT c) ∧ NoAttr g.K (g.CT c) "name") (f_check_works_ : Cal2 P w K mg base g 2 "check_works" 1 f_check_works []) : FnOk P w K mg base (L2.CX P w) 7 (He.fAd K ("two_bench_order", none)) fd ["works"] (SpF g 1 f_two_bench_order) := by
  have nd : (["works", "first", "second", "work", "minutes", "name"] : List Str).Nodup := by decide +kernel
  refine fn_ok false F sc_two_bench_order (fun A outer s H E hr => ?_)
  exact ss_cons (ss_do (scall f_check_works_ hr (by decide) rfl px_fn (sa_cons (sv 0) (sa_nil))))
      (ss_cons (ss_if (tcmp (kx_of gK.symm hr) (se_callB (rc_len (kx_of gK.symm hr)) nx_len rfl n_len bt_len (sa_cons (se_fld (cs := [2]) gK.symm l_minutes (se_ix (kx_of gK.symm hr) (sv 0) (se_int) (fun _ _ => rfl))) (sa_nil))) (se_int))
      (ss_one (sraise x_CutError rfl tk_fn rfl))
      (ss_nil))
      (ss_cons (ss_set (i := 1) nd rfl (by first | exact Or.inl rfl | exact Or.inr rfl) (se_sortG (k := 0) (own := [("work", 3)]) (kx_of gK.symm hr) (gx_of nd (by decide) (hr.mono (by decide)) TB hT) ⟨blkOk_by (by kernel_rfl), rfl, rfl, (by rintro A' s' H' ⟨_, _, _, _, _, _, _, _, _⟩ fp' pn' hr' rfl; exact tg_name (i := 3) nd rfl (by first | exact Or.inl rfl | exact Or.inr rfl) (by decide)), (by rintro A' s' H' ⟨_, _, _, _, _, _, _, _, _⟩ fp' pn' hr' rfl; exact sb_one (tcmp (kx_of gK.symm hr') (se_ix (kx_of gK.symm hr') (se_fld (cs := [2]) gK.symm l_minutes (sv 3)) (se_int) (fun _ _ => rfl)) (se_ix (kx_of gK.symm hr') (se_fld (cs := [2]) gK.symm l_minutes (sv 3)) (se_int) (fun _ _ => rfl)))), (by rintro A' s' H' ⟨_, _, _, _, _, _, _, _, _⟩ fp' pn' hr' rfl; exact se_tup (sa_cons (se_ix (kx_of gK.symm hr') (se_fld (cs := [2]) gK.symm l_minutes (sv 3)) (se_int) (fun _ _ => rfl)) (sa_cons (se_fld (cs := [2]) gK.symm l_name (sv 3)) (sa_nil)))), fun _ => rfl⟩ (si_any (kx_of gK.symm hr) (sv 0)) rfl n_sorted bt_sorted))
      (ss_cons (ss_set (i := 2) nd rfl (by first | exact Or.inl rfl | exact Or.inr rfl) (se_sortG (k := 0) (own := [("work", 3)]) (kx_of gK.symm hr) (gx_of nd (by decide) (hr.mono (by decide)) TB hT) ⟨blkOk_by (by kernel_rfl), rfl, rfl, (by rintro A' s' H' ⟨_, _, _, _, _, _, _, _, _⟩ fp' pn' hr' rfl; exact tg_name (i := 3) nd rfl (by first | exact Or.inl rfl | exact Or.inr rfl) (by decide)), (by rintro A' s' H' ⟨_, _, _, _, _, _, _, _, _⟩ fp' pn' hr' rfl; exact sb_one (tcmp (kx_of gK.symm hr') (se_ix (kx_of gK.symm hr') (se_fld (cs := [2]) gK.symm l_minutes (sv 3)) (se_int) (fun _ _ => rfl)) (se_ix (kx_of gK.symm hr') (se_fld (cs := [2]) gK.symm l_minutes (sv 3)) (se_int) (fun _ _ => rfl)))), (by rintro A' s' H' ⟨_, _, _, _, _, _, _, _, _⟩ fp' pn' hr' rfl; exact se_tup (sa_cons (sSubE (se_int) (se_ix (kx_of gK.symm hr') (se_fld (cs := [2]) gK.symm l_minutes (sv 3)) (se_int) (fun _ _ => rfl))) (sa_cons (se_fld (cs := [2]) gK.symm l_name (sv 3)) (sa_nil)))), fun _ => rfl⟩ (si_any (kx_of gK.symm hr) (sv 0)) rfl n_sorted bt_sorted))
      (ss_one (ss_ret (se_callTy (rc_tup (kx_of gK.symm hr)) nx_tup rfl n_tuple bt_tuple (sa_cons (sAddE (kx_of gK.symm hr) (se_lc (own := [("minutes", 4), ("name", 5)]) ok_lst rfl nd (si_any (kx_of gK.symm hr) (sv 1)) (blkOk_by (by kernel_rfl)) (fun _ _ _ _ _ => tg_tup (kx_of gK.symm hr) rfl (tgs_cons (tg_name (i := 4) nd rfl (by first | exact Or.inl rfl | exact Or.inr rfl) (by decide)) (tgs_cons (tg_name (i := 5) nd rfl (by first | exact Or.inl rfl | exact Or.inr rfl) (by decide)) (tgs_nil)))) (fun _ _ _ _ _ => sb_none) (fun _ _ _ _ _ => sv 5)) (se_lc (own := [("minutes", 4), ("name", 5)]) ok_lst rfl nd (si_any (kx_of gK.symm hr) (sv 2)) (blkOk_by (by kernel_rfl)) (fun _ _ _ _ _ => tg_tup (kx_of gK.symm hr) rfl (tgs_cons (tg_name (i := 4) nd rfl (by first | exact Or.inl rfl | exact Or.inr rfl) (by decide)) (tgs_cons (tg_name (i := 5) nd rfl (by first | exact Or.inl rfl | exact Or.inr rfl) (by decide)) (tgs_nil)))) (fun _ _ _ _ _ => sb_none) (fun _ _ _ _ _ => sv 5))) (sa_nil))))))))
def b_idle_minutes : Sv :=
  sSeq (sAsg (vLstM (aN)) (gvN 1))
  (sSeq (sAsg (vFn f_ends_of (aC (vV 0) (aN)) []) (gvN 2))
  (sSeq (sForI (itR1 (aC (vCal fLen (aC (vFld [2] "minutes" (v2 oIx (vV 0) (vK (.int 0)))) (aN))) (aN))) (gvN 3)
  (sSeq (sAsg (v2 oSub (v2 oIx (v2 oIx (vV 2) (vK (.int 0))) (vV 3)) (v2 oIx (vFld [2] "minutes" (v2 oIx (vV 0) (vK (.int 0)))) (vV 3))) (gvN 4))
  (sDo (vMet isList mApp (vV 1) (aC (v2 oSub (v2 oSub (v2 oIx (v2 oIx (vV 2) (vU oNeg (vK (.int 1)))) (vV 3)) (vV 4)) (vGenD (itA (vV 0)) (tvN 5) (bYes) (v2 oIx (vFld [2] "minutes" (vV 5)) (vV 3)) [5] kSum)) (aN))))))
  (sRet (vCal fTup (aC (vV 1) (aN))))))
def f_idle_minutes : F1 := fnF false 6 1 b_idle_minutes
theorem sc_idle_minutes : FnScope ["works", "found", "ends", "bench", "start", "work"] ["works"] (defScope (top 10)) := ⟨rfl, rfl, rfl, by decide +kernel, rfl, by decide +kernel, by decide +kernel⟩
theorem ok_idle_minutes {P : Program} {w : World} {K : PySem.W.Frag} {mg : Str → Option Value} {base : Heap} {g : GL} (gK : g.K = K) {fd : FuncData} (F : FunD K "idle_minutes" "idle_minutes" (defArgs (top 10)) (defBody (top 10)) (defScope (top 10)) [] [] (He.fAd K ("idle_minutes", none)) fd) (TB : LamX.TabB base mg (He.cT K ("idle_minutes", none)).1 (He.cT K ("idle_minutes", none)).2) (hT : (He.cT K ("idle_minutes", none)).2 ∈ g.T) (n_len : mg "len" = none) (n_range : mg "range" = none) (n_sum : mg "sum" = none) (n_tuple : mg "tuple" = none) (l_minutes : ∀ c ∈ [2], Cls g.K (g.CT c) ∧ NoAttr g.K (g.CT c) "minutes") (f_ends_of_ : Cal2 P w K mg base g 3 "ends_of" 1 f_ends_of []) : FnOk P w K mg base (L2.CX P w) 7 (He.fAd K ("idle_minutes", none)) fd ["works"] (SpF g 1 f_idle_minutes) := by
  have nd : (["works", "found", "ends", "bench", "start", "work"] : List Str).Nodup := by decide +kernel
  refine fn_ok false F sc_idle_minutes (fun A outer s H E hr => ?_)
  exact ss_cons (ss_set (i := 1) nd rfl (by first | exact Or.inl rfl | exact Or.inr rfl) (se_lstM (sa_nil)))
      (ss_cons (ss_set (i := 2) nd rfl (by first | exact Or.inl rfl | exact Or.inr rfl) (scall f_ends_of_ hr (by decide) rfl px_fn (sa_cons (sv 0) (sa_nil))))
      (ss_cons (ss_for po_fn rfl (si_range1 rfl n_range (sa_cons (se_callB (rc_len (kx_of gK.symm hr)) nx_len rfl n_len bt_len (sa_cons (se_fld (cs := [2]) gK.symm l_minutes (se_ix (kx_of gK.symm hr) (sv 0) (se_int) (fun _ _ => rfl))) (sa_nil))) (sa_nil))) (sg_name (i := 3) nd rfl (by first | exact Or.inl rfl | exact Or.inr rfl))
      (ss_cons (ss_set (i := 4) nd rfl (by first | exact Or.inl rfl | exact Or.inr rfl) (sSubE (se_ix (kx_of gK.symm hr) (se_ix (kx_of gK.symm hr) (sv 2) (se_int) (fun _ _ => rfl)) (sv 3) (fun _ _ => rfl)) (se_ix (kx_of gK.symm hr) (se_fld (cs := [2]) gK.symm l_minutes (se_ix (kx_of gK.symm hr) (sv 0) (se_int) (fun _ _ => rfl))) (sv 3) (fun _ _ => rfl))))
      (ss_one (ss_do (se_met (kx_of gK.symm hr) PySem.F.plainAttrs_list PySem.F.slot_list_append PySem.F.type_list_append rm_app ty_list nm_app (sv 1) (sa_cons (sSubE (sSubE (se_ix (kx_of gK.symm hr) (se_ix (kx_of gK.symm hr) (sv 2) (se_neg (se_int)) (fun _ _ => rfl)) (sv 3) (fun _ _ => rfl)) (sv 4)) (se_sumG (k := 0) (own := [("work", 5)]) (gx_of nd (by decide) (hr.mono (by decide)) TB hT) ⟨blkOk_by (by kernel_rfl), rfl, rfl, (by rintro A' s' H' ⟨_, _, _, _, _, _, _, _, _⟩ fp' pn' hr' rfl; exact tg_name (i := 5) nd rfl (by first | exact Or.inl rfl | exact Or.inr rfl) (by decide)), (by rintro A' s' H' ⟨_, _, _, _, _, _, _, _, _⟩ fp' pn' hr' rfl; exact sb_none), (by rintro A' s' H' ⟨_, _, _, _, _, _, _, _, _⟩ fp' pn' hr' rfl; exact se_ix (kx_of gK.symm hr') (se_fld (cs := [2]) gK.symm l_minutes (sv 5)) (sv 3) (fun _ _ => rfl)), fun _ => rfl⟩ (si_any (kx_of gK.symm hr) (sv 0)) rfl n_sum bt_sum)) (sa_nil)))))))
      (ss_one (ss_ret (se_callTy (rc_tup (kx_of gK.symm hr)) nx_tup rfl n_tuple bt_tuple (sa_cons (sv 1) (sa_nil)))))))
def b__law_dice : Sv :=
  sSeq (sIf (tstB (vCh (oOrd .lt) (oOrd .lt) (v2 oSub (vK (.int 0)) (vK (.int 10))) (vV 0) (vK (.int 10))))
  (sRet (vLstM (aC (vCal fAbs (aC (vV 0) (aN))) (aC (vK (.int 0)) (aC (vK (.int 2)) (aN))))))
  (sNx))
  (sRet (vLstM (aC (vV 0) (aC (v2 oAdd (vK (.int 1)) (v2 oMod (vCal fInt (aC (vV 0) (aN))) (vK (.int 1009)))) (aC (vCal fInt (aC (v2 (oOrd .ge) (vV 0) (v2 oPow (vK (.int 10)) (vK (.int 18)))) (aN))) (aN))))))
def f__law_dice : F1 := fnF true 1 1 b__law_dice
theorem sc__law_dice : FnScope ["cell"] ["cell"] (defScope (top 12)) := ⟨rfl, rfl, rfl, by decide +kernel, rfl, by decide +kernel, by decide +kernel⟩
theorem ok__law_dice {P : Program} {w : World} {K : PySem.W.Frag} {mg : Str → Option Value} {base : Heap} {g : GL} (gK : g.K = K) {fd : FuncData} (F : FunD K "_law_dice" "_law_dice" (defArgs (top 12)) (defBody (top 12)) (defScope (top 12)) [] [] (He.fAd K ("_law_dice", none)) fd) (n_abs : mg "abs" = none) (n_int : mg "int" = none) : FnOk P w K mg base (L2.CX P w) 2 (He.fAd K ("_law_dice", none)) fd ["cell"] (SpF g 1 f__law_dice) := by
  have nd : (["cell"] : List Str).Nodup := by decide +kernel
  refine fn_ok true F sc__law_dice (fun A outer s H E hr => ?_)
  exact ss_cons (ss_if (tchn (kx_of gK.symm hr) (sSubE (se_int) (se_int)) (sv 0) (se_int))
      (ss_one (ss_ret (se_lstM (sa_cons (se_callB rc_abs nx_abs rfl n_abs bt_abs (sa_cons (sv 0) (sa_nil))) (sa_cons (se_int) (sa_cons (se_int) (sa_nil)))))))
      (ss_nil))
      (ss_one (ss_ret (se_lstM (sa_cons (sv 0) (sa_cons (sAddE (kx_of gK.symm hr) (se_int) (sModE (se_callTy rc_int nx_int rfl n_int bt_int (sa_cons (sv 0) (sa_nil))) (se_int))) (sa_cons (se_callTy rc_int nx_int rfl n_int bt_int (sa_cons (scmp (kx_of gK.symm hr) (sv 0) (sPowE (se_int) (se_int))) (sa_nil))) (sa_nil)))))))
def b__law_roll : Sv :=
  sSeq (sIf (bOr (tstB (v2 (oEq false) (v2 oIx (vV 0) (vK (.int 2))) (vK (.int 2)))) (bAnd (tstB (v2 (oEq false) (v2 oIx (vV 0) (vK (.int 2))) (vK (.int 1)))) (tstB (v2 (oOrd .gt) (v2 oIx (vV 0) (vK (.int 0))) (vK (.int 0))))))
  (sSeq (sAsg (v2 oMod (vCal fInt (aC (v2 oIx (vV 0) (vK (.int 0))) (aN))) (vV 1)) (gvN 2))
  (sSeq (sAsg (v2 oDiv (v2 oIx (vV 0) (vK (.int 0))) (vV 1)) (gvS (vV 0) (vK (.int 0))))
  (sRet (vV 2))))
  (sNx))
  (sSeq (sAsg (vK (.int 0)) (gvS (vV 0) (vK (.int 2))))
  (sSeq (sIf (tstB (v2 (oOrd .gt) (vV 1) (vK (.int 100000000))))
  (sRet (v2 oMod (vCal fInt (aC (v2 oAdd (v2 oMul (vBad) (vK (.int 100000000))) (vBad)) (aN))) (vV 1)))
  (sNx))
  (sSeq (sAsg (v2 oMod (vCal fInt (aC (v2 oAdd (v2 oAdd (v2 oMul (v2 oIx (vV 0) (vK (.int 0))) (vK (.int 48271))) (v2 oMul (v2 oIx (vV 0) (vK (.int 1))) (vK (.int 69621)))) (vK (.int 11))) (aN))) (vK (.int 2147483647))) (gvS (vV 0) (vK (.int 0))))
  (sSeq (sAsg (v2 oAdd (v2 oIx (vV 0) (vK (.int 1))) (vK (.int 1))) (gvS (vV 0) (vK (.int 1))))
  (sRet (v2 oMod (vCal fInt (aC (v2 oDiv (v2 oIx (vV 0) (vK (.int 0))) (vK (.int 7))) (aN))) (vV 1)))))))
def f__law_roll : F1 := fnF false 3 2 b__law_roll
theorem sc__law_roll : FnScope ["dice", "many", "found"] ["dice", "many"] (defScope (top 13)) := ⟨rfl, rfl, rfl, by decide +kernel, rfl, by decide +kernel, by decide +kernel⟩
theorem ok__law_roll {P : Program} {w : World} {K : PySem.W.Frag} {mg : Str → Option Value} {base : Heap} {g : GL} (gK : g.K = K) {fd : FuncData} (F : FunD K "_law_roll" "_law_roll" (defArgs (top 13)) (defBody (top 13)) (defScope (top 13)) [] [] (He.fAd K ("_law_roll", none)) fd) (n_int : mg "int" = none) : FnOk P w K mg base (L2.CX P w) 2 (He.fAd K ("_law_roll", none)) fd ["dice", "many"] (SpF g 2 f__law_roll) := by
  have nd : (["dice", "many", "found"] : List Str).Nodup := by decide +kernel
  refine fn_ok false F sc__law_roll (fun A outer s H E hr => ?_)
  exact ss_cons (ss_if (PW.pt (sw_or (tcmp (kx_of gK.symm hr) (se_ix (kx_of gK.symm hr) (sv 0) (se_int) (fun _ _ => rfl)) (se_int)) (sw_or1 (PW.pt (sw_and (tcmp (kx_of gK.symm hr) (se_ix (kx_of gK.symm hr) (sv 0) (se_int) (fun _ _ => rfl)) (se_int)) (sw_and1 (tcmp (kx_of gK.symm hr) (se_ix (kx_of gK.symm hr) (sv 0) (se_int) (fun _ _ => rfl)) (se_int))))))))
      (ss_cons (ss_set (i := 2) nd rfl (by first | exact Or.inl rfl | exact Or.inr rfl) (sModE (se_callTy rc_int nx_int rfl n_int bt_int (sa_cons (se_ix (kx_of gK.symm hr) (sv 0) (se_int) (fun _ _ => rfl)) (sa_nil))) (sv 1)))
      (ss_cons (ss_asg (sDivE (se_ix (kx_of gK.symm hr) (sv 0) (se_int) (fun _ _ => rfl)) (sv 1)) (sg_sub (sv 0) (se_int)))
      (ss_one (ss_ret (sv 2)))))
      (ss_nil))
      (ss_cons (ss_asg (se_int) (sg_sub (sv 0) (se_int)))
      (ss_cons (ss_if (tcmp (kx_of gK.symm hr) (sv 1) (se_int))
      (ss_one (ss_ret (sModE (se_callTy rc_int nx_int rfl n_int bt_int (sa_cons (sAddE (kx_of gK.symm hr) (sMulE (kx_of gK.symm hr) (se_bad) (se_int)) (se_bad)) (sa_nil))) (sv 1))))
      (ss_nil))
      (ss_cons (ss_asg (sModE (se_callTy rc_int nx_int rfl n_int bt_int (sa_cons (sAddE (kx_of gK.symm hr) (sAddE (kx_of gK.symm hr) (sMulE (kx_of gK.symm hr) (se_ix (kx_of gK.symm hr) (sv 0) (se_int) (fun _ _ => rfl)) (se_int)) (sMulE (kx_of gK.symm hr) (se_ix (kx_of gK.symm hr) (sv 0) (se_int) (fun _ _ => rfl)) (se_int))) (se_int)) (sa_nil))) (se_int)) (sg_sub (sv 0) (se_int)))
      (ss_cons (ss_asg (sAddE (kx_of gK.symm hr) (se_ix (kx_of gK.symm hr) (sv 0) (se_int) (fun _ _ => rfl)) (se_int)) (sg_sub (sv 0) (se_int)))
      (ss_one (ss_ret (sModE (se_callTy rc_int nx_int rfl n_int bt_int (sa_cons (sDivE (se_ix (kx_of gK.symm hr) (sv 0) (se_int) (fun _ _ => rfl)) (se_int)) (sa_nil))) (sv 1))))))))
def b__law_rounds : Sv :=
  sSeq (sAsg (vSl (vV 0) (poN) (poS (vV 1))) (gvN 2))
  (sSeq (sIf (tstB (v2 (oEq false) (vV 2) (vLst (aN))))
  (sAsg (vLst (aC (vK (.int 0)) (aN))) (gvN 2))
  (sNx))
  (sRet (vCmpM (itA (vV 2)) (tvN 3) (bYes) (vFn f__law_dice (aC (vV 3) (aN)) []) [3])))
def f__law_rounds : F1 := fnF true 4 2 b__law_rounds
theorem sc__law_rounds : FnScope ["script", "most", "cells", "cell"] ["script", "most"] (defScope (top 14)) := ⟨rfl, rfl, rfl, by decide +kernel, rfl, by decide +kernel, by decide +kernel⟩
theorem ok__law_rounds {P : Program} {w : World} {K : PySem.W.Frag} {mg : Str → Option Value} {base : Heap} {g : GL} (gK : g.K = K) {fd : FuncData} (F : FunD K "_law_rounds" "_law_rounds" (defArgs (top 14)) (defBody (top 14)) (defScope (top 14)) [] [] (He.fAd K ("_law_rounds", none)) fd) (f__law_dice_ : Cal2 P w K mg base g 2 "_law_dice" 1 f__law_dice []) : FnOk P w K mg base (L2.CX P w) 3 (He.fAd K ("_law_rounds", none)) fd ["script", "most"] (SpF g 2 f__law_rounds) := by
  have nd : (["script", "most", "cells", "cell"] : List Str).Nodup := by decide +kernel
  refine fn_ok true F sc__law_rounds (fun A outer s H E hr => ?_)
  exact ss_cons (ss_set (i := 2) nd rfl (by first | exact Or.inl rfl | exact Or.inr rfl) (se_sl (kx_of gK.symm hr) (sv 0) (so_none) (so_some (sv 1))))
      (ss_cons (ss_if (tcmp (kx_of gK.symm hr) (sv 2) (se_lst (sa_nil)))
      (ss_one (ss_set (i := 2) nd rfl (by first | exact Or.inl rfl | exact Or.inr rfl) (se_lst (sa_cons (se_int) (sa_nil)))))
      (ss_nil))
      (ss_one (ss_ret (se_lc (own := [("cell", 3)]) ok_cel rfl nd (si_any (kx_of gK.symm hr) (sv 2)) (blkOk_by (by kernel_rfl)) (fun _ _ _ _ _ => tg_name (i := 3) nd rfl (by first | exact Or.inl rfl | exact Or.inr rfl) (by decide)) (fun _ _ _ _ _ => sb_none) (fun _ _ _ _ _ => scall f__law_dice_ hr (by decide) rfl (passE0 rfl rfl) (sa_cons (sv 3) (sa_nil)))))))
def b__law_ends : Sv :=
  sSeq (sAsg (vLstM (aN)) (gvN 1))
  (sSeq (sForI (itE (aC (vV 0) (aN))) (gvT 2 (gsC (gvN 2) (gsC (gvN 3) (gsN))))
  (sSeq (sAsg (vLst (aN)) (gvN 4))
  (sSeq (sForI (itE (aC (vV 3) (aN))) (gvT 2 (gsC (gvN 5) (gsC (gvN 6) (gsN))))
  (sSeq (sAsg (vIf (tstB (v2 (oOrd .gt) (vV 5) (vK (.int 0)))) (v2 oIx (vV 4) (v2 oSub (vV 5) (vK (.int 1)))) (vK (.int 0))) (gvN 7))
  (sSeq (sAsg (vIf (tstB (v2 (oOrd .gt) (vV 2) (vK (.int 0)))) (v2 oIx (v2 oIx (vV 1) (v2 oSub (vV 2) (vK (.int 1)))) (vV 5)) (vK (.int 0))) (gvN 8))
  (sAsg (v2 oAdd (vV 4) (vLst (aC (v2 oAdd (vCal (fBest true) (aC (vV 7) (aC (vV 8) (aN)))) (vV 6)) (aN)))) (gvN 4)))))
  (sDo (vMet isList mApp (vV 1) (aC (vCal fTup (aC (vV 4) (aN))) (aN)))))))
  (sRet (vV 1)))
def f__law_ends : F1 := fnF false 9 1 b__law_ends
theorem sc__law_ends : FnScope ["rows", "ends", "k", "row", "here", "bench", "minutes", "ready", "free"] ["rows"] (defScope (top 16)) := ⟨rfl, rfl, rfl, by decide +kernel, rfl, by decide +kernel, by decide +kernel⟩
theorem ok__law_ends {P : Program} {w : World} {K : PySem.W.Frag} {mg : Str → Option Value} {base : Heap} {g : GL} (gK : g.K = K) {fd : FuncData} (F : FunD K "_law_ends" "_law_ends" (defArgs (top 16)) (defBody (top 16)) (defScope (top 16)) [] [] (He.fAd K ("_law_ends", none)) fd) (n_enumerate : mg "enumerate" = none) (n_max : mg "max" = none) (n_tuple : mg "tuple" = none) : FnOk P w K mg base (L2.CX P w) 2 (He.fAd K ("_law_ends", none)) fd ["rows"] (SpF g 1 f__law_ends) := by
  have nd : (["rows", "ends", "k", "row", "here", "bench", "minutes", "ready", "free"] : List Str).Nodup := by decide +kernel
  refine fn_ok false F sc__law_ends (fun A outer s H E hr => ?_)
  exact ss_cons (ss_set (i := 1) nd rfl (by first | exact Or.inl rfl | exact Or.inr rfl) (se_lstM (sa_nil)))
      (ss_cons (ss_for po_fn rfl (si_enum (kx_of gK.symm hr) rfl n_enumerate (sa_cons (sv 0) (sa_nil))) (sg_tup (kx_of gK.symm hr) rfl (sgs_cons (sg_name (i := 2) nd rfl (by first | exact Or.inl rfl | exact Or.inr rfl)) (sgs_cons (sg_name (i := 3) nd rfl (by first | exact Or.inl rfl | exact Or.inr rfl)) (sgs_nil))))
      (ss_cons (ss_set (i := 4) nd rfl (by first | exact Or.inl rfl | exact Or.inr rfl) (se_lst (sa_nil)))
      (ss_cons (ss_for po_fn rfl (si_enum (kx_of gK.symm hr) rfl n_enumerate (sa_cons (sv 3) (sa_nil))) (sg_tup (kx_of gK.symm hr) rfl (sgs_cons (sg_name (i := 5) nd rfl (by first | exact Or.inl rfl | exact Or.inr rfl)) (sgs_cons (sg_name (i := 6) nd rfl (by first | exact Or.inl rfl | exact Or.inr rfl)) (sgs_nil))))
      (ss_cons (ss_set (i := 7) nd rfl (by first | exact Or.inl rfl | exact Or.inr rfl) (se_if (tcmp (kx_of gK.symm hr) (sv 5) (se_int)) (se_ix (kx_of gK.symm hr) (sv 4) (sSubE (sv 5) (se_int)) (fun _ _ => rfl)) (se_int)))
      (ss_cons (ss_set (i := 8) nd rfl (by first | exact Or.inl rfl | exact Or.inr rfl) (se_if (tcmp (kx_of gK.symm hr) (sv 2) (se_int)) (se_ix (kx_of gK.symm hr) (se_ix (kx_of gK.symm hr) (sv 1) (sSubE (sv 2) (se_int)) (fun _ _ => rfl)) (sv 5) (fun _ _ => rfl)) (se_int)))
      (ss_one (ss_set (i := 4) nd rfl (by first | exact Or.inl rfl | exact Or.inr rfl) (sAddE (kx_of gK.symm hr) (sv 4) (se_lst (sa_cons (sAddE (kx_of gK.symm hr) (se_callB (rc_max rfl (kx_of gK.symm hr)) nx_best rfl n_max bt_max (sa_cons (sv 7) (sa_cons (sv 8) (sa_nil)))) (sv 6)) (sa_nil)))))))))
      (ss_one (ss_do (se_met (kx_of gK.symm hr) PySem.F.plainAttrs_list PySem.F.slot_list_append PySem.F.type_list_append rm_app ty_list nm_app (sv 1) (sa_cons (se_callTy (rc_tup (kx_of gK.symm hr)) nx_tup rfl n_tuple bt_tuple (sa_cons (sv 4) (sa_nil))) (sa_nil))))))))
      (ss_one (ss_ret (sv 1))))
def b__law_orders (rec_ : F1) : Sv :=
  sSeq (sIf (tstB (v2 (oEq false) (vV 0) (vLst (aN))))
  (sRet (vLst (aC (vTup (aN)) (aN))))
  (sNx))
  (sSeq (sAsg (vLst (aN)) (gvN 1))
  (sSeq (sForI (itA (vV 0)) (gvN 2)
  (sAsg (v2 oAdd (vV 1) (vCmp (itA (vFn rec_ (aC (vCmp (itA (vV 0)) (tvN 4) (tstB (v2 (oEq true) (vV 4) (vV 2))) (vV 4) [4]) (aN)) [])) (tvN 3) (bYes) (v2 oAdd (vTup (aC (vV 2) (aN))) (vV 3)) [3])) (gvN 1)))
  (sRet (vV 1))))
theorem sc__law_orders : FnScope ["names", "found", "name", "rest", "one"] ["names"] (defScope (top 17)) := ⟨rfl, rfl, rfl, by decide +kernel, rfl, by decide +kernel, by decide +kernel⟩
def f__law_orders : Nat → F1
  | 0 => fnF false 5 1 sBad
  | m + 1 => fnF false 5 1 (b__law_orders (f__law_orders m))
theorem okS__law_orders {P : Program} {w : World} {K : PySem.W.Frag} {mg : Str → Option Value} {base : Heap} {g : GL} (gK : g.K = K) {fd : FuncData} (F : FunD K "_law_orders" "_law_orders" (defArgs (top 17)) (defBody (top 17)) (defScope (top 17)) [] [] (He.fAd K ("_law_orders", none)) fd) (n : Nat) (hL : 1 ≤ n) (rec_ : F1) (rec_h : Cal2 P w K mg base g n "_law_orders" 1 rec_ [])  : FnOk P w K mg base (L2.CX P w) (n + 1) (He.fAd K ("_law_orders", none)) fd ["names"] (SpF g 1 (fnF false 5 1 (b__law_orders rec_))) := by
  have nd : (["names", "found", "name", "rest", "one"] : List Str).Nodup := by decide +kernel
  refine fn_ok false F sc__law_orders (fun A outer s H E hr => ?_)
  exact ss_cons (ss_if (tcmp (kx_of gK.symm hr) (sv 0) (se_lst (sa_nil)))
      (ss_one (ss_ret (se_lst (sa_cons (se_tup (sa_nil)) (sa_nil)))))
      (ss_nil))
      (ss_cons (ss_set (i := 1) nd rfl (by first | exact Or.inl rfl | exact Or.inr rfl) (se_lst (sa_nil)))
      (ss_cons (ss_for po_fn rfl (si_any (kx_of gK.symm hr) (sv 0)) (sg_name (i := 2) nd rfl (by first | exact Or.inl rfl | exact Or.inr rfl))
      (ss_one (ss_set (i := 1) nd rfl (by first | exact Or.inl rfl | exact Or.inr rfl) (sAddE (kx_of gK.symm hr) (sv 1) (se_lc (own := [("rest", 3)]) ok_lst rfl nd (si_any (kx_of gK.symm hr) (scall rec_h hr (Nat.le_refl _) rfl px_fn (sa_cons (se_lc (own := [("one", 4)]) ok_lst rfl nd (si_any (kx_of gK.symm hr) (sv 0)) (blkOk_by (by kernel_rfl)) (fun _ _ _ _ _ => tg_name (i := 4) nd rfl (by first | exact Or.inl rfl | exact Or.inr rfl) (by first | decide | omega)) (fun _ _ _ _ _ => sb_one (tcmp (kx_of gK.symm hr) (sv 4) (sv 2))) (fun _ _ _ _ _ => sv 4)) (sa_nil)))) (blkOk_by (by kernel_rfl)) (fun _ _ _ _ _ => tg_name (i := 3) nd rfl (by first | exact Or.inl rfl | exact Or.inr rfl) (by first | decide | omega)) (fun _ _ _ _ _ => sb_none) (fun _ _ _ _ _ => sAddE (kx_of gK.symm hr) (se_tup (sa_cons (sv 2) (sa_nil))) (sv 3)))))))
      (ss_one (ss_ret (sv 1)))))
theorem fl__law_orders : ∀ m ds st, ds.length ≠ 1 → f__law_orders m ds st = .bad
  | 0, ds, st, h => fnF_len ds st h
  | _ + 1, ds, st, h => fnF_len ds st h
theorem ok__law_orders {P : Program} {w : World} {K : PySem.W.Frag} {mg : Str → Option Value} {base : Heap} {g : GL} (gK : g.K = K) {fd : FuncData} (F : FunD K "_law_orders" "_law_orders" (defArgs (top 17)) (defBody (top 17)) (defScope (top 17)) [] [] (He.fAd K ("_law_orders", none)) fd) (mgx : mg "_law_orders" = some (.ref (He.fAd K ("_law_orders", none)))) (bd : Binds K fd ["names"] [])  : ∀ m, FnOk P w K mg base (L2.CX P w) (1 + m) (He.fAd K ("_law_orders", none)) fd ["names"] (SpF g 1 (f__law_orders m))
  | 0 => fn_ok (k := 0) false F sc__law_orders fun A outer s H E hr => sss_bad
  | m + 1 => okS__law_orders gK F  (1 + m) (Nat.le_add_right _ _) (f__law_orders m) ⟨⟨_, _, _, _, _, ok__law_orders gK F  mgx bd  m, mgx, F.kp, bd, .nil, .nil⟩, fl__law_orders m⟩ 
end K11
end

section
set_option Elab.async false
set_option linter.all false
set_option maxRecDepth 100000
set_option maxHeartbeats 4100000
namespace K11
open PySem PySem.Spec PyProof.Rows L2 Iv
def q_law : Str := (envOfC "law" (defScope (top 18)) 0 0 .none).qual ++ "<lambda>"
def T0 (K : PySem.W.Frag) : List Addr := [(He.cT K ("two_bench_order", none)).2, (He.cT K ("idle_minutes", none)).2]
def L0 (K : PySem.W.Frag) : List (Addr × Str) := [((He.cT K ("law", none)).2, q_law)]
def CT0 (K : PySem.W.Frag) : Nat → Addr
  | 0 => He.ga K "WoodError"
  | 1 => He.ga K "CutError"
  | 2 => He.ga K "Work"
  | _ => 0
def gl (K : PySem.W.Frag) (lm : List LamD) : GL := { K := K, CT := CT0 K, T := T0 K, L := L0 K, lm := lm }
def cs0 (K : PySem.W.Frag) : List (Addr × Addr) := [He.cT K ("two_bench_order", none), He.cT K ("idle_minutes", none), He.cT K ("law", none)]
theorem cs_t (K : PySem.W.Frag) : (cs0 K).map (·.2) = T0 K ++ (L0 K).map (·.1) := rfl
def lams_law : Nat → Ev D
  | 0 => vMake 2 f_Work___init__ false (aC (vK (.str "a")) (aC (vLst (aN)) (aN))) []
  | 1 => vMake 2 f_Work___init__ false (aC (vK (.str "a")) (aC (vLst (aC (vU oNeg (vK (.int 1))) (aN))) (aN))) []
  | 2 => vFn f_check_works (aC (vLst (aN)) (aN)) []
  | 3 => vFn f_check_works (aC (vLst (aC (vV 14) (aC (vV 14) (aN)))) (aN)) []
  | 4 => vFn f_check_works (aC (vLst (aC (vV 14) (aC (vMake 2 f_Work___init__ false (aC (vK (.str "b")) (aC (vLst (aC (vK (.int 1)) (aN))) (aN))) []) (aN)))) (aN)) []
  | 5 => vFn f_check_works (aC (vCmp (itR1 (aC (vK (.int 8)) (aN))) (tvN 4) (bYes) (vMake 2 f_Work___init__ false (aC (vCal fStrI (aC (vV 4) (aN))) (aC (vLst (aC (vK (.int 1)) (aN))) (aN))) []) [4]) (aN)) []
  | 6 => vFn f_ends_of (aC (vLst (aN)) (aN)) []
  | 7 => vFn f_best_order_of (aC (vLst (aN)) (aN)) []
  | 8 => vFn f_two_bench_order (aC (vLst (aC (vMake 2 f_Work___init__ false (aC (vK (.str "a")) (aC (vLst (aC (vK (.int 1)) (aN))) (aN))) []) (aN))) (aN)) []
  | 9 => vFn f_idle_minutes (aC (vLst (aN)) (aN)) []
  | _ => vBad
def b_law : Sv :=
  sSeq (sForI (itA (vFn f__law_rounds (aC (vV 0) (aC (vK (.int 1)) (aN))) [])) (gvN 1)
  (sSeq (sAsgT 2 (aC (v2 oAdd (vK (.int 1)) (vFn f__law_roll (aC (vV 1) (aC (vK (.int 4)) (aN))) [])) (aC (vNewK) (aN))) (gsC (gvN 2) (gsC (gvN 3) (gsN))))
  (sSeq (sForI (itR1 (aC (v2 oAdd (vK (.int 1)) (vFn f__law_roll (aC (vV 1) (aC (vK (.int 5)) (aN))) [])) (aN))) (gvN 4)
  (sAsg (vCal fTup (aC (vCmp (itR1 (aC (vV 2) (aN))) (tvN 20) (bYes) (vFn f__law_roll (aC (vV 1) (aC (vK (.int 20)) (aN))) []) [20]) (aN))) (gvD (vV 3) (v2 oAdd (vK (.str "w")) (vCal fStrI (aC (vV 4) (aN)))))))
  (sSeq (sAsg (vCmp (itK (vV 3)) (tvN 16) (bYes) (vMake 2 f_Work___init__ false (aC (vV 16) (aC (v2 oDx (vV 3) (vV 16)) (aN))) []) [16]) (gvN 5))
  (sSeq (sAsg (vFn f__law_ends (aC (vVals (vV 3)) (aN)) []) (gvN 6))
  (sSeq (sIf (bOr (tstB (v2 (oEq true) (vCal fList (aC (vFn f_ends_of (aC (vV 5) (aN)) []) (aN))) (vV 6))) (tstB (v2 (oIs true) (vFn f_check_works (aC (vV 5) (aN)) []) (vK .non))))
  (sRet (vK (.bl false)))
  (sNx))
  (sSeq (sAsg (vLstM (aN)) (gvN 7))
  (sSeq (sForI (itR1 (aC (vV 2) (aN))) (gvN 8)
  (sSeq (sAsg (vCmp (itZV (vV 6) (vV 3)) (tvT 2 (tsC (tvN 17) (tsC (tvN 18) (tsN)))) (bYes) (vTup (aC (v2 oSub (v2 oIx (vV 17) (vV 8)) (v2 oIx (vV 18) (vV 8))) (aC (v2 oIx (vV 17) (vV 8)) (aN)))) [17, 18]) (gvN 9))
  (sDo (vMet isList mApp (vV 7) (aC (vCal fSum (aC (vCmp (itZ (aC (vV 9) (aC (vSl (vV 9) (poS (vK (.int 1))) (poN)) (aN)))) (tvT 2 (tsC (tvT 2 (tsC (tvN 12) (tsC (tvN 17) (tsN)))) (tsC (tvT 2 (tsC (tvN 21) (tsC (tvN 22) (tsN)))) (tsN)))) (bYes) (vCal (fBest true) (aC (vK (.int 0)) (aC (v2 oSub (vV 21) (vV 17)) (aN)))) [12, 17, 21, 22]) (aN))) (aN))))))
  (sSeq (sIf (tstB (v2 (oEq true) (vCal fList (aC (vFn f_idle_minutes (aC (vV 5) (aN)) []) (aN))) (vV 7)))
  (sRet (vK (.bl false)))
  (sNx))
  (sSeq (sAsg (vCal fSorted (aC (vCmp (itA (vFn (f__law_orders 6) (aC (vCal fSortedS (aC (vV 3) (aN))) (aN)) [])) (tvN 11) (bYes) (vTup (aC (v2 oIx (v2 oIx (vFn f__law_ends (aC (vCmp (itA (vV 11)) (tvN 16) (bYes) (v2 oDx (vV 3) (vV 16)) [16]) (aN)) []) (v2 oSub (vCal fLenX (aC (vV 3) (aN))) (vK (.int 1)))) (v2 oSub (vV 2) (vK (.int 1)))) (aC (vV 11) (aN)))) [11]) (aN))) (gvN 10))
  (sSeq (sIf (tstB (v2 (oEq true) (vFn f_best_order_of (aC (vRev (vV 5)) (aN)) []) (v2 oIx (vV 10) (vK (.int 0)))))
  (sRet (vK (.bl false)))
  (sNx))
  (sIf (tstB (v2 (oEq false) (vV 2) (vK (.int 2))))
  (sSeq (sAsg (vFn f_two_bench_order (aC (vV 5) (aN)) []) (gvN 11))
  (sSeq (sAsg (vCal fSorted (aC (vCmp (itK (vV 3)) (tvN 16) (tstB (v2 (oOrd .lt) (v2 oIx (v2 oDx (vV 3) (vV 16)) (vK (.int 0))) (v2 oIx (v2 oDx (vV 3) (vV 16)) (vK (.int 1))))) (vTup (aC (v2 oIx (v2 oDx (vV 3) (vV 16)) (vK (.int 0))) (aC (vV 16) (aN)))) [16]) (aN))) (gvN 12))
  (sSeq (sAsg (vCal fSorted (aC (vCmp (itK (vV 3)) (tvN 16) (tstB (v2 (oOrd .ge) (v2 oIx (v2 oDx (vV 3) (vV 16)) (vK (.int 0))) (v2 oIx (v2 oDx (vV 3) (vV 16)) (vK (.int 1))))) (vTup (aC (vU oNeg (v2 oIx (v2 oDx (vV 3) (vV 16)) (vK (.int 1)))) (aC (vV 16) (aN)))) [16]) (aN))) (gvN 13))
  (sIf (bOr (tstB (v2 (oEq true) (vCal fList (aC (vV 11) (aN))) (vCmp (itA (v2 oAdd (vV 12) (vV 13))) (tvN 18) (bYes) (v2 oIx (vV 18) (vK (.int 1))) [18]))) (tstB (v2 (oEq true) (v2 oIx (v2 oIx (vFn f__law_ends (aC (vCmp (itA (vV 11)) (tvN 16) (bYes) (v2 oDx (vV 3) (vV 16)) [16]) (aN)) []) (v2 oSub (vCal fLenX (aC (vV 3) (aN))) (vK (.int 1)))) (vK (.int 1))) (v2 oIx (v2 oIx (vV 10) (vK (.int 0))) (vK (.int 0))))))
  (sRet (vK (.bl false)))
  (sNx)))))
  (sNx)))))))))))))
  (sSeq (sAsg (vMake 2 f_Work___init__ false (aC (vK (.str "a")) (aC (vLst (aC (vK (.int 1)) (aC (vK (.int 2)) (aN)))) (aN))) []) (gvN 14))
  (sSeq (sAsg (vLst (aC (vK (.lam 0)) (aC (vK (.lam 1)) (aC (vK (.lam 2)) (aC (vK (.lam 3)) (aC (vK (.lam 4)) (aC (vK (.lam 5)) (aC (vK (.lam 6)) (aC (vK (.lam 7)) (aC (vK (.lam 8)) (aC (vK (.lam 9)) (aN)))))))))))) (gvN 15))
  (sRet (vAnd (v2 (oEq false) (vCmp (itA (vV 15)) (tvN 19) (tstB (v2 (oEq true) (vToldL 19 [19] 1 "CutError" lams_law) (vK (.str "CutError")))) (vK (.int 1)) [19]) (vLst (aN))) (vAnd (v2 (oEq false) (vK (.int 7)) (vK (.int 7))) (vAnd (v2 (oEq false) (vFn f_ends_of (aC (vLst (aC (vV 14) (aC (vMake 2 f_Work___init__ false (aC (vK (.str "b")) (aC (vLst (aC (vK (.int 3)) (aC (vK (.int 1)) (aN)))) (aN))) []) (aN)))) (aN)) []) (vTup (aC (vTup (aC (vK (.int 1)) (aC (vK (.int 3)) (aN)))) (aC (vTup (aC (vK (.int 4)) (aC (vK (.int 5)) (aN)))) (aN))))) (vAnd (v2 (oEq false) (vFn f_idle_minutes (aC (vLst (aC (vV 14) (aC (vMake 2 f_Work___init__ false (aC (vK (.str "b")) (aC (vLst (aC (vK (.int 3)) (aC (vK (.int 1)) (aN)))) (aN))) []) (aN)))) (aN)) []) (vTup (aC (vK (.int 0)) (aC (vK (.int 1)) (aN))))) (v2 (oEq false) (vFn f_two_bench_order (aC (vLst (aC (vMake 2 f_Work___init__ false (aC (vK (.str "b")) (aC (vLst (aC (vK (.int 3)) (aC (vK (.int 1)) (aN)))) (aN))) []) (aC (vV 14) (aN)))) (aN)) []) (vTup (aC (vK (.str "a")) (aC (vK (.str "b")) (aN))))))))))))
theorem sc_law : FnScope ["script", "dice", "benches", "rows", "k", "works", "ends", "idle", "bench", "busy", "orders", "names", "first", "second", "one", "bad", "name", "end", "row", "f", "j", "start", "last"] ["script"] (defScope (top 18)) := ⟨rfl, rfl, rfl, by decide +kernel, rfl, by decide +kernel, by decide +kernel⟩
theorem ok_law {P : Program} {w : World} {K : PySem.W.Frag} {mg : Str → Option Value} {base : Heap} {fd : FuncData} (F : FunD K "law" "law" (defArgs (top 18)) (defBody (top 18)) (defScope (top 18)) [] [] (He.fAd K ("law", none)) fd) (TB : LamX.TabB base mg (He.cT K ("law", none)).1 (He.cT K ("law", none)).2) (hd : ((cs0 K).map (·.2)).Nodup) (n_len : mg "len" = none) (n_list : mg "list" = none) (n_max : mg "max" = none) (n_range : mg "range" = none) (n_sorted : mg "sorted" = none) (n_str : mg "str" = none) (n_sum : mg "sum" = none) (n_tuple : mg "tuple" = none) (n_zip : mg "zip" = none) (c_MOST_WORKS : ∃ t, mg "MOST_WORKS" = some (.int 7 t)) (f__law_ends_ : ∀ lm, Cal2 P w K mg base (gl K lm) 2 "_law_ends" 1 f__law_ends []) (f__law_orders_ : ∀ lm, Cal2 P w K mg base (gl K lm) 7 "_law_orders" 1 (f__law_orders 6) []) (f__law_roll_ : ∀ lm, Cal2 P w K mg base (gl K lm) 2 "_law_roll" 2 f__law_roll []) (f__law_rounds_ : ∀ lm, Cal2 P w K mg base (gl K lm) 3 "_law_rounds" 2 f__law_rounds []) (f_best_order_of_ : ∀ lm, Cal2 P w K mg base (gl K lm) 4 "best_order_of" 1 f_best_order_of []) (f_check_works_ : ∀ lm, Cal2 P w K mg base (gl K lm) 2 "check_works" 1 f_check_works []) (f_ends_of_ : ∀ lm, Cal2 P w K mg base (gl K lm) 3 "ends_of" 1 f_ends_of []) (f_idle_minutes_ : ∀ lm, Cal2 P w K mg base (gl K lm) 7 "idle_minutes" 1 f_idle_minutes []) (f_two_bench_order_ : ∀ lm, Cal2 P w K mg base (gl K lm) 7 "two_bench_order" 1 f_two_bench_order []) (k_Work_ : ∀ lm, Cal4 P w K mg base (gl K lm) 2 2 "Work" 3 f_Work___init__ []) (td__law_told : ∀ lm, TolD K mg (gl K lm) "_law_told" "what" "CutError" 1 "CutError" ["what"] (defArgs (top 15)) (defScope (top 15)) (defBody (top 15)) (He.fAd K ("_law_told", none)))
    (law_true : ∀ ns : List Int, ns.length ≤ 63 → (∀ z ∈ ns, Builtin.Int.intBits z ≤ 1048576) → ∃ s, b_law (startE 23 [scrD ns]) [] = .rt (.p (.bl true)) s) : FnOk P w K mg base (L2.CX P w) 10 (He.fAd K ("law", none)) fd ["script"] (SpLaw K (cs0 K) 63) := by
  have nd : (["script", "dice", "benches", "rows", "k", "works", "ends", "idle", "bench", "busy", "orders", "names", "first", "second", "one", "bad", "name", "end", "row", "f", "j", "start", "last"] : List Str).Nodup := by decide +kernel
  obtain ⟨hq1, hq2, hq3, hq4⟩ := lam_d (cs_t K) hd
  refine fn_law F sc_law law_true (fun A outer s H E hr => ?_)
  refine ⟨gl K (lmOf q_law (envOfC "law" (defScope (top 18)) s.heap.objs.size (He.fAd K ("law", none)) (.ref (He.codeOf K ("law", none)))).cells ((defBody (top 18)).getD 2 (.Pass ⟨0, 0, 0, 0⟩))), rfl, hq1, hq2, hq3, ?_⟩
  have gK : (gl K (lmOf q_law (envOfC "law" (defScope (top 18)) s.heap.objs.size (He.fAd K ("law", none)) (.ref (He.codeOf K ("law", none)))).cells ((defBody (top 18)).getD 2 (.Pass ⟨0, 0, 0, 0⟩)))).K = K := rfl
  have hmT : ((He.cT K ("law", none)).2, q_law) ∈ (gl K (lmOf q_law (envOfC "law" (defScope (top 18)) s.heap.objs.size (He.fAd K ("law", none)) (.ref (He.codeOf K ("law", none)))).cells ((defBody (top 18)).getD 2 (.Pass ⟨0, 0, 0, 0⟩)))).L := List.mem_cons_self
  have hu : ∀ p ∈ (gl K (lmOf q_law (envOfC "law" (defScope (top 18)) s.heap.objs.size (He.fAd K ("law", none)) (.ref (He.codeOf K ("law", none)))).cells ((defBody (top 18)).getD 2 (.Pass ⟨0, 0, 0, 0⟩)))).L, p.1 = (He.cT K ("law", none)).2 → p.2 = q_law := lam_u hq4 hmT
  exact ss_cons (ss_for po_fn rfl (si_any (kx_of gK.symm hr) (scall (f__law_rounds_ _) hr (by decide) rfl px_fn (sa_cons (sv 0) (sa_cons (se_int) (sa_nil))))) (sg_name (i := 1) nd rfl (by first | exact Or.inl rfl | exact Or.inr rfl))
      (ss_cons (ss_asgT (kx_of gK.symm hr) rfl (sa_cons (sAddE (kx_of gK.symm hr) (se_int) (scall (f__law_roll_ _) hr (by decide) rfl px_fn (sa_cons (sv 1) (sa_cons (se_int) (sa_nil))))) (sa_cons (se_newK) (sa_nil))) (sgs_cons (sg_name (i := 2) nd rfl (by first | exact Or.inl rfl | exact Or.inr rfl)) (sgs_cons (sg_name (i := 3) nd rfl (by first | exact Or.inl rfl | exact Or.inr rfl)) (sgs_nil))))
      (ss_cons (ss_for po_fn rfl (si_range1 rfl n_range (sa_cons (sAddE (kx_of gK.symm hr) (se_int) (scall (f__law_roll_ _) hr (by decide) rfl px_fn (sa_cons (sv 1) (sa_cons (se_int) (sa_nil))))) (sa_nil))) (sg_name (i := 4) nd rfl (by first | exact Or.inl rfl | exact Or.inr rfl))
      (ss_one (ss_asg (se_callTy (rc_tup (kx_of gK.symm hr)) nx_tup rfl n_tuple bt_tuple (sa_cons (se_lc (own := [("j", 20)]) ok_lst rfl nd (si_range1 rfl n_range (sa_cons (sv 2) (sa_nil))) (blkOk_by (by kernel_rfl)) (fun _ _ _ _ _ => tg_name (i := 20) nd rfl (by first | exact Or.inl rfl | exact Or.inr rfl) (by decide)) (fun _ _ _ _ _ => sb_none) (fun _ _ _ _ _ => scall (f__law_roll_ _) hr (by decide) rfl (passE0 rfl rfl) (sa_cons (sv 1) (sa_cons (se_int) (sa_nil))))) (sa_nil))) (sg_dsub (kx_of gK.symm hr) (sv 3) (sAddE (kx_of gK.symm hr) (se_str) (se_callTy rc_strI nx_strI rfl n_str bt_str (sa_cons (sv 4) (sa_nil))))))))
      (ss_cons (ss_setLc (i := 5) rfl rfl (sw_true rfl rfl rfl (by decide +kernel)) (own := [("name", 16)]) ok_lst rfl nd (si_keys (sv 3)) (blkOk_by (by kernel_rfl)) (fun _ _ _ _ _ => tg_name (i := 16) nd rfl (by first | exact Or.inl rfl | exact Or.inr rfl) (by decide)) (fun _ _ _ _ _ => sb_none) (fun _ _ _ _ _ => smake (keep := false) (k_Work_ _) hr (by decide) rfl (passE0 rfl rfl) (sa_cons (sv 16) (sa_cons (se_dx (kx_of gK.symm hr) (sv 3) (sv 16) (fun _ _ => rfl)) (sa_nil)))))
      (ss_cons (ss_set (i := 6) nd rfl (by first | exact Or.inl rfl | exact Or.inr rfl) (scall (f__law_ends_ _) hr (by decide) rfl px_fn (sa_cons (se_vals rfl (sv 3) rfl n_list bt_list) (sa_nil))))
      (ss_cons (ss_if (PW.pt (sw_or (tcmp (kx_of gK.symm hr) (se_callTy (rc_list (kx_of gK.symm hr)) nx_list rfl n_list bt_list (sa_cons (scall (f_ends_of_ _) hr (by decide) rfl px_fn (sa_cons (sv 5) (sa_nil))) (sa_nil))) (sv 6)) (sw_or1 (tcmp (kx_of gK.symm hr) (scall (f_check_works_ _) hr (by decide) rfl px_fn (sa_cons (sv 5) (sa_nil))) (se_non)))))
      (ss_one (ss_ret (se_bl)))
      (ss_nil))
      (ss_cons (ss_set (i := 7) nd rfl (by first | exact Or.inl rfl | exact Or.inr rfl) (se_lstM (sa_nil)))
      (ss_cons (ss_for po_fn rfl (si_range1 rfl n_range (sa_cons (sv 2) (sa_nil))) (sg_name (i := 8) nd rfl (by first | exact Or.inl rfl | exact Or.inr rfl))
      (ss_cons (ss_setLc (i := 9) rfl rfl (sw_true rfl rfl rfl (by decide +kernel)) (own := [("end", 17), ("row", 18)]) ok_lst rfl nd (si_zipV (kx_of gK.symm hr) rfl n_zip (sv 6) (sv 3)) (blkOk_by (by kernel_rfl)) (fun _ _ _ _ _ => tg_tup (kx_of gK.symm hr) rfl (tgs_cons (tg_name (i := 17) nd rfl (by first | exact Or.inl rfl | exact Or.inr rfl) (by decide)) (tgs_cons (tg_name (i := 18) nd rfl (by first | exact Or.inl rfl | exact Or.inr rfl) (by decide)) (tgs_nil)))) (fun _ _ _ _ _ => sb_none) (fun _ _ _ _ _ => se_tup (sa_cons (sSubE (se_ix (kx_of gK.symm hr) (sv 17) (sv 8) (fun _ _ => rfl)) (se_ix (kx_of gK.symm hr) (sv 18) (sv 8) (fun _ _ => rfl))) (sa_cons (se_ix (kx_of gK.symm hr) (sv 17) (sv 8) (fun _ _ => rfl)) (sa_nil)))))
      (ss_one (ss_do (se_met (kx_of gK.symm hr) PySem.F.plainAttrs_list PySem.F.slot_list_append PySem.F.type_list_append rm_app ty_list nm_app (sv 7) (sa_cons (se_callB (rc_sum rfl (kx_of gK.symm hr)) nx_sum rfl n_sum bt_sum (sa_cons (se_lc (own := [("first", 12), ("end", 17), ("start", 21), ("last", 22)]) ok_lst rfl nd (si_zip (kx_of gK.symm hr) rfl n_zip (sa_cons (sv 9) (sa_cons (se_sl (kx_of gK.symm hr) (sv 9) (so_some (se_int)) (so_none)) (sa_nil)))) (blkOk_by (by kernel_rfl)) (fun _ _ _ _ _ => tg_tup (kx_of gK.symm hr) rfl (tgs_cons (tg_tup (kx_of gK.symm hr) rfl (tgs_cons (tg_name (i := 12) nd rfl (by first | exact Or.inl rfl | exact Or.inr rfl) (by decide)) (tgs_cons (tg_name (i := 17) nd rfl (by first | exact Or.inl rfl | exact Or.inr rfl) (by decide)) (tgs_nil)))) (tgs_cons (tg_tup (kx_of gK.symm hr) rfl (tgs_cons (tg_name (i := 21) nd rfl (by first | exact Or.inl rfl | exact Or.inr rfl) (by decide)) (tgs_cons (tg_name (i := 22) nd rfl (by first | exact Or.inl rfl | exact Or.inr rfl) (by decide)) (tgs_nil)))) (tgs_nil)))) (fun _ _ _ _ _ => sb_none) (fun _ _ _ _ _ => se_callB (rc_max rfl (kx_of gK.symm hr)) nx_best rfl n_max bt_max (sa_cons (se_int) (sa_cons (sSubE (sv 21) (sv 17)) (sa_nil))))) (sa_nil))) (sa_nil)))))))
      (ss_cons (ss_if (tcmp (kx_of gK.symm hr) (se_callTy (rc_list (kx_of gK.symm hr)) nx_list rfl n_list bt_list (sa_cons (scall (f_idle_minutes_ _) hr (by decide) rfl px_fn (sa_cons (sv 5) (sa_nil))) (sa_nil))) (sv 7))
      (ss_one (ss_ret (se_bl)))
      (ss_nil))
      (ss_cons (ss_set (i := 10) nd rfl (by first | exact Or.inl rfl | exact Or.inr rfl) (se_callB (rc_sorted (kx_of gK.symm hr)) nx_sorted rfl n_sorted bt_sorted (sa_cons (se_lc (own := [("names", 11)]) ok_lst rfl nd (si_any (kx_of gK.symm hr) (scall (f__law_orders_ _) hr (by decide) rfl px_fn (sa_cons (se_callB (rc_sortedS rfl (kx_of gK.symm hr)) nx_sortedS rfl n_sorted bt_sorted (sa_cons (sv 3) (sa_nil))) (sa_nil)))) (blkOk_by (by kernel_rfl)) (fun _ _ _ _ _ => tg_name (i := 11) nd rfl (by first | exact Or.inl rfl | exact Or.inr rfl) (by decide)) (fun _ _ _ _ _ => sb_none) (fun _ _ _ _ _ => se_tup (sa_cons (se_ix (kx_of gK.symm hr) (se_ix (kx_of gK.symm hr) (scall (f__law_ends_ _) hr (by decide) rfl (passE0 rfl rfl) (sa_cons (se_lc (own := [("name", 16)]) ok_lst rfl nd (si_any (kx_of gK.symm hr) (sv 11)) (blkOk_by (by kernel_rfl)) (fun _ _ _ _ _ => tg_name (i := 16) nd rfl (by first | exact Or.inl rfl | exact Or.inr rfl) (by decide)) (fun _ _ _ _ _ => sb_none) (fun _ _ _ _ _ => se_dx (kx_of gK.symm hr) (sv 3) (sv 16) (fun _ _ => rfl))) (sa_nil))) (sSubE (se_callB (rc_lenX (kx_of gK.symm hr)) nx_lenX rfl n_len bt_len (sa_cons (sv 3) (sa_nil))) (se_int)) (fun _ _ => rfl)) (sSubE (sv 2) (se_int)) (fun _ _ => rfl)) (sa_cons (sv 11) (sa_nil))))) (sa_nil))))
      (ss_cons (ss_if (tcmp (kx_of gK.symm hr) (scall (f_best_order_of_ _) hr (by decide) rfl px_fn (sa_cons (se_rev (kx_of gK.symm hr) (sv 5)) (sa_nil))) (se_ix (kx_of gK.symm hr) (sv 10) (se_int) (fun _ _ => rfl)))
      (ss_one (ss_ret (se_bl)))
      (ss_nil))
      (ss_one (ss_if (tcmp (kx_of gK.symm hr) (sv 2) (se_int))
      (ss_cons (ss_set (i := 11) nd rfl (by first | exact Or.inl rfl | exact Or.inr rfl) (scall (f_two_bench_order_ _) hr (by decide) rfl px_fn (sa_cons (sv 5) (sa_nil))))
      (ss_cons (ss_set (i := 12) nd rfl (by first | exact Or.inl rfl | exact Or.inr rfl) (se_callB (rc_sorted (kx_of gK.symm hr)) nx_sorted rfl n_sorted bt_sorted (sa_cons (se_lc (own := [("name", 16)]) ok_lst rfl nd (si_keys (sv 3)) (blkOk_by (by kernel_rfl)) (fun _ _ _ _ _ => tg_name (i := 16) nd rfl (by first | exact Or.inl rfl | exact Or.inr rfl) (by decide)) (fun _ _ _ _ _ => sb_one (tcmp (kx_of gK.symm hr) (se_ix (kx_of gK.symm hr) (se_dx (kx_of gK.symm hr) (sv 3) (sv 16) (fun _ _ => rfl)) (se_int) (fun _ _ => rfl)) (se_ix (kx_of gK.symm hr) (se_dx (kx_of gK.symm hr) (sv 3) (sv 16) (fun _ _ => rfl)) (se_int) (fun _ _ => rfl)))) (fun _ _ _ _ _ => se_tup (sa_cons (se_ix (kx_of gK.symm hr) (se_dx (kx_of gK.symm hr) (sv 3) (sv 16) (fun _ _ => rfl)) (se_int) (fun _ _ => rfl)) (sa_cons (sv 16) (sa_nil))))) (sa_nil))))
      (ss_cons (ss_set (i := 13) nd rfl (by first | exact Or.inl rfl | exact Or.inr rfl) (se_callB (rc_sorted (kx_of gK.symm hr)) nx_sorted rfl n_sorted bt_sorted (sa_cons (se_lc (own := [("name", 16)]) ok_lst rfl nd (si_keys (sv 3)) (blkOk_by (by kernel_rfl)) (fun _ _ _ _ _ => tg_name (i := 16) nd rfl (by first | exact Or.inl rfl | exact Or.inr rfl) (by decide)) (fun _ _ _ _ _ => sb_one (tcmp (kx_of gK.symm hr) (se_ix (kx_of gK.symm hr) (se_dx (kx_of gK.symm hr) (sv 3) (sv 16) (fun _ _ => rfl)) (se_int) (fun _ _ => rfl)) (se_ix (kx_of gK.symm hr) (se_dx (kx_of gK.symm hr) (sv 3) (sv 16) (fun _ _ => rfl)) (se_int) (fun _ _ => rfl)))) (fun _ _ _ _ _ => se_tup (sa_cons (se_neg (se_ix (kx_of gK.symm hr) (se_dx (kx_of gK.symm hr) (sv 3) (sv 16) (fun _ _ => rfl)) (se_int) (fun _ _ => rfl))) (sa_cons (sv 16) (sa_nil))))) (sa_nil))))
      (ss_one (ss_if (PW.pt (sw_or (tcmp (kx_of gK.symm hr) (se_callTy (rc_list (kx_of gK.symm hr)) nx_list rfl n_list bt_list (sa_cons (sv 11) (sa_nil))) (se_lc (own := [("row", 18)]) ok_lst rfl nd (si_any (kx_of gK.symm hr) (sAddE (kx_of gK.symm hr) (sv 12) (sv 13))) (blkOk_by (by kernel_rfl)) (fun _ _ _ _ _ => tg_name (i := 18) nd rfl (by first | exact Or.inl rfl | exact Or.inr rfl) (by decide)) (fun _ _ _ _ _ => sb_none) (fun _ _ _ _ _ => se_ix (kx_of gK.symm hr) (sv 18) (se_int) (fun _ _ => rfl)))) (sw_or1 (tcmp (kx_of gK.symm hr) (se_ix (kx_of gK.symm hr) (se_ix (kx_of gK.symm hr) (scall (f__law_ends_ _) hr (by decide) rfl px_fn (sa_cons (se_lc (own := [("name", 16)]) ok_lst rfl nd (si_any (kx_of gK.symm hr) (sv 11)) (blkOk_by (by kernel_rfl)) (fun _ _ _ _ _ => tg_name (i := 16) nd rfl (by first | exact Or.inl rfl | exact Or.inr rfl) (by decide)) (fun _ _ _ _ _ => sb_none) (fun _ _ _ _ _ => se_dx (kx_of gK.symm hr) (sv 3) (sv 16) (fun _ _ => rfl))) (sa_nil))) (sSubE (se_callB (rc_lenX (kx_of gK.symm hr)) nx_lenX rfl n_len bt_len (sa_cons (sv 3) (sa_nil))) (se_int)) (fun _ _ => rfl)) (se_int) (fun _ _ => rfl)) (se_ix (kx_of gK.symm hr) (se_ix (kx_of gK.symm hr) (sv 10) (se_int) (fun _ _ => rfl)) (se_int) (fun _ _ => rfl))))))
      (ss_one (ss_ret (se_bl)))
      (ss_nil))))))
      (ss_nil))))))))))))))
      (ss_cons (ss_set (i := 14) nd rfl (by first | exact Or.inl rfl | exact Or.inr rfl) (smake (keep := false) (k_Work_ _) hr (by decide) rfl px_fn (sa_cons (se_str) (sa_cons (se_lst (sa_cons (se_int) (sa_cons (se_int) (sa_nil)))) (sa_nil)))))
      (ss_cons (ss_set (i := 15) nd rfl (by first | exact Or.inl rfl | exact Or.inr rfl) (se_lst (sa_cons (se_lam 0 (by rfl) TB rfl hmT hu (LamX.lamS_by (by kernel_rfl)) rfl) (sa_cons (se_lam 1 (by rfl) TB rfl hmT hu (LamX.lamS_by (by kernel_rfl)) rfl) (sa_cons (se_lam 2 (by rfl) TB rfl hmT hu (LamX.lamS_by (by kernel_rfl)) rfl) (sa_cons (se_lam 3 (by rfl) TB rfl hmT hu (LamX.lamS_by (by kernel_rfl)) rfl) (sa_cons (se_lam 4 (by rfl) TB rfl hmT hu (LamX.lamS_by (by kernel_rfl)) rfl) (sa_cons (se_lam 5 (by rfl) TB rfl hmT hu (LamX.lamS_by (by kernel_rfl)) rfl) (sa_cons (se_lam 6 (by rfl) TB rfl hmT hu (LamX.lamS_by (by kernel_rfl)) rfl) (sa_cons (se_lam 7 (by rfl) TB rfl hmT hu (LamX.lamS_by (by kernel_rfl)) rfl) (sa_cons (se_lam 8 (by rfl) TB rfl hmT hu (LamX.lamS_by (by kernel_rfl)) rfl) (sa_cons (se_lam 9 (by rfl) TB rfl hmT hu (LamX.lamS_by (by kernel_rfl)) rfl) (sa_nil)))))))))))))
      (ss_one (ss_ret (se_and (scmp (kx_of gK.symm hr) (se_lcL (k := 7) (fs := 19) (own := [("f", 19)]) (td__law_told _) (kx_of gK.symm hr) ok_lst rfl nd (si_any (kx_of gK.symm hr) (sv 15)) (blkOk_by (by kernel_rfl)) (fun _ _ _ _ _ => tg_name (i := 19) nd rfl (by first | exact Or.inl rfl | exact Or.inr rfl) (by decide)) (fun _ _ _ _ _ => rfl) (fun _ _ _ _ _ => se_int) (hr.mono (by decide)) ⟨fun i d h => match i, h with | 0, h => (by obtain rfl := Option.some.inj h; exact ⟨rfl, rfl, LamX.lamS_by (by kernel_rfl), (fun _ _ _ _ _ => rfl), fun A' outer' s' H' E' f' c' hr' => smake (keep := false) (k_Work_ _) hr' (by decide) rfl (px_lam rfl rfl) (sa_cons (se_str) (sa_cons (se_lst (sa_nil)) (sa_nil)))⟩) | 1, h => (by obtain rfl := Option.some.inj h; exact ⟨rfl, rfl, LamX.lamS_by (by kernel_rfl), (fun _ _ _ _ _ => rfl), fun A' outer' s' H' E' f' c' hr' => smake (keep := false) (k_Work_ _) hr' (by decide) rfl (px_lam rfl rfl) (sa_cons (se_str) (sa_cons (se_lst (sa_cons (se_neg (se_int)) (sa_nil))) (sa_nil)))⟩) | 2, h => (by obtain rfl := Option.some.inj h; exact ⟨rfl, rfl, LamX.lamS_by (by kernel_rfl), (fun _ _ _ _ _ => rfl), fun A' outer' s' H' E' f' c' hr' => scall (f_check_works_ _) hr' (by decide) rfl (px_lam rfl rfl) (sa_cons (se_lst (sa_nil)) (sa_nil))⟩) | 3, h => (by obtain rfl := Option.some.inj h; exact ⟨rfl, rfl, LamX.lamS_by (by kernel_rfl), (fun _ _ _ _ _ => rfl), fun A' outer' s' H' E' f' c' hr' => scall (f_check_works_ _) hr' (by decide) rfl (px_lam rfl rfl) (sa_cons (se_lst (sa_cons (sv 14 (hv := Or.inr (Or.inr rfl))) (sa_cons (sv 14 (hv := Or.inr (Or.inr rfl))) (sa_nil)))) (sa_nil))⟩) | 4, h => (by obtain rfl := Option.some.inj h; exact ⟨rfl, rfl, LamX.lamS_by (by kernel_rfl), (fun _ _ _ _ _ => rfl), fun A' outer' s' H' E' f' c' hr' => scall (f_check_works_ _) hr' (by decide) rfl (px_lam rfl rfl) (sa_cons (se_lst (sa_cons (sv 14 (hv := Or.inr (Or.inr rfl))) (sa_cons (smake (keep := false) (k_Work_ _) hr' (by decide) rfl (px_lam rfl rfl) (sa_cons (se_str) (sa_cons (se_lst (sa_cons (se_int) (sa_nil))) (sa_nil)))) (sa_nil)))) (sa_nil))⟩) | 5, h => (by obtain rfl := Option.some.inj h; exact ⟨rfl, rfl, LamX.lamS_by (by kernel_rfl), (fun _ _ _ _ _ => rfl), fun A' outer' s' H' E' f' c' hr' => scall (f_check_works_ _) hr' (by decide) rfl (px_lam rfl rfl) (sa_cons (se_lc (own := [("k", 4)]) ok_lst rfl nd (si_range1 rfl n_range (sa_cons (se_int) (sa_nil))) (blkOk_by (by kernel_rfl)) (fun _ _ _ _ _ => tg_name (i := 4) nd rfl (by first | exact Or.inl rfl | exact Or.inr rfl) (by decide)) (fun _ _ _ _ _ => sb_none) (fun _ _ _ _ _ => smake (keep := false) (k_Work_ _) hr' (by decide) rfl (passE0 rfl rfl) (sa_cons (se_callTy rc_strI nx_strI rfl n_str bt_str (sa_cons (sv 4) (sa_nil))) (sa_cons (se_lst (sa_cons (se_int) (sa_nil))) (sa_nil))))) (sa_nil))⟩) | 6, h => (by obtain rfl := Option.some.inj h; exact ⟨rfl, rfl, LamX.lamS_by (by kernel_rfl), (fun _ _ _ _ _ => rfl), fun A' outer' s' H' E' f' c' hr' => scall (f_ends_of_ _) hr' (by decide) rfl (px_lam rfl rfl) (sa_cons (se_lst (sa_nil)) (sa_nil))⟩) | 7, h => (by obtain rfl := Option.some.inj h; exact ⟨rfl, rfl, LamX.lamS_by (by kernel_rfl), (fun _ _ _ _ _ => rfl), fun A' outer' s' H' E' f' c' hr' => scall (f_best_order_of_ _) hr' (by decide) rfl (px_lam rfl rfl) (sa_cons (se_lst (sa_nil)) (sa_nil))⟩) | 8, h => (by obtain rfl := Option.some.inj h; exact ⟨rfl, rfl, LamX.lamS_by (by kernel_rfl), (fun _ _ _ _ _ => rfl), fun A' outer' s' H' E' f' c' hr' => scall (f_two_bench_order_ _) hr' (by decide) rfl (px_lam rfl rfl) (sa_cons (se_lst (sa_cons (smake (keep := false) (k_Work_ _) hr' (by decide) rfl (px_lam rfl rfl) (sa_cons (se_str) (sa_cons (se_lst (sa_cons (se_int) (sa_nil))) (sa_nil)))) (sa_nil))) (sa_nil))⟩) | 9, h => (by obtain rfl := Option.some.inj h; exact ⟨rfl, rfl, LamX.lamS_by (by kernel_rfl), (fun _ _ _ _ _ => rfl), fun A' outer' s' H' E' f' c' hr' => scall (f_idle_minutes_ _) hr' (by decide) rfl (px_lam rfl rfl) (sa_cons (se_lst (sa_nil)) (sa_nil))⟩) | _+10, h => nomatch h⟩ rfl (fun _ _ _ _ _ => by first | exact Or.inl rfl | exact Or.inr (Or.inl rfl) | exact Or.inr (Or.inr rfl))) (se_lst (sa_nil))) (se_and (scmp (kx_of gK.symm hr) (sgint rfl c_MOST_WORKS) (se_int)) (se_and (scmp (kx_of gK.symm hr) (scall (f_ends_of_ _) hr (by decide) rfl px_fn (sa_cons (se_lst (sa_cons (sv 14) (sa_cons (smake (keep := false) (k_Work_ _) hr (by decide) rfl px_fn (sa_cons (se_str) (sa_cons (se_lst (sa_cons (se_int) (sa_cons (se_int) (sa_nil)))) (sa_nil)))) (sa_nil)))) (sa_nil))) (se_tup (sa_cons (se_tup (sa_cons (se_int) (sa_cons (se_int) (sa_nil)))) (sa_cons (se_tup (sa_cons (se_int) (sa_cons (se_int) (sa_nil)))) (sa_nil))))) (se_and (scmp (kx_of gK.symm hr) (scall (f_idle_minutes_ _) hr (by decide) rfl px_fn (sa_cons (se_lst (sa_cons (sv 14) (sa_cons (smake (keep := false) (k_Work_ _) hr (by decide) rfl px_fn (sa_cons (se_str) (sa_cons (se_lst (sa_cons (se_int) (sa_cons (se_int) (sa_nil)))) (sa_nil)))) (sa_nil)))) (sa_nil))) (se_tup (sa_cons (se_int) (sa_cons (se_int) (sa_nil))))) (se_one (scmp (kx_of gK.symm hr) (scall (f_two_bench_order_ _) hr (by decide) rfl px_fn (sa_cons (se_lst (sa_cons (smake (keep := false) (k_Work_ _) hr (by decide) rfl px_fn (sa_cons (se_str) (sa_cons (se_lst (sa_cons (se_int) (sa_cons (se_int) (sa_nil)))) (sa_nil)))) (sa_cons (sv 14) (sa_nil)))) (sa_nil))) (se_tup (sa_cons (se_str) (sa_cons (se_str) (sa_nil))))))))))))))
end K11
end

section
set_option Elab.async false
set_option linter.all false
set_option maxRecDepth 100000
set_option maxHeartbeats 4100000
namespace K11
open PySem PySem.Spec PyProof.Rows L2 Iv LamX
theorem facts (law_true : ∀ ns : List Int, ns.length ≤ 63 → (∀ z ∈ ns, Builtin.Int.intBits z ≤ 1048576) → ∃ s, b_law (startE 23 [scrD ns]) [] = .rt (.p (.bl true)) s)
    {w : World} {K : PySem.W.Frag} {h : Heap} {mg : Str → Option Value} {f : Addr} (X : K.In h) (G : h.Ns mainGlobals mg) (hfa : mg ("law" : Str) = some (.ref f)) (c : He.SaysX fa fn [] tf exq w h K) :
    LawAtS PySem.Challenge.rw_woodstack_k11_works_from_bench_to_bench w K (L2.CX PySem.Challenge.rw_woodstack_k11_works_from_bench_to_bench.prog w) 10 63 "script" mg f h := by
  obtain ⟨fd_Work___init__, F_Work___init__⟩ := c.t.d.def_ 0 (d := d_0) rfl
  have F_Work___init__ : FunD K "__init__" "Work.__init__" (defArgs (inClass (top 5) 0)) (defBody (inClass (top 5) 0)) (defScope (inClass (top 5) 0)) [] [] (He.fAd K ("Work", some "__init__")) fd_Work___init__ := F_Work___init__
  obtain ⟨fd_check_works, F_check_works⟩ := c.t.d.def_ 1 (d := d_1) rfl
  have F_check_works : FunD K "check_works" "check_works" (defArgs (top 6)) (defBody (top 6)) (defScope (top 6)) [] [] (He.fAd K ("check_works", none)) fd_check_works := F_check_works
  obtain ⟨fd_ends_of, F_ends_of⟩ := c.t.d.def_ 2 (d := d_2) rfl
  have F_ends_of : FunD K "ends_of" "ends_of" (defArgs (top 7)) (defBody (top 7)) (defScope (top 7)) [] [] (He.fAd K ("ends_of", none)) fd_ends_of := F_ends_of
  obtain ⟨fd_best_order_of, F_best_order_of⟩ := c.t.d.def_ 3 (d := d_3) rfl
  have F_best_order_of : FunD K "best_order_of" "best_order_of" (defArgs (top 8)) (defBody (top 8)) (defScope (top 8)) [] [] (He.fAd K ("best_order_of", none)) fd_best_order_of := F_best_order_of
  obtain ⟨fd_two_bench_order, F_two_bench_order⟩ := c.t.d.def_ 4 (d := d_4) rfl
  have F_two_bench_order : FunD K "two_bench_order" "two_bench_order" (defArgs (top 9)) (defBody (top 9)) (defScope (top 9)) [] [] (He.fAd K ("two_bench_order", none)) fd_two_bench_order := F_two_bench_order
  obtain ⟨fd_idle_minutes, F_idle_minutes⟩ := c.t.d.def_ 5 (d := d_5) rfl
  have F_idle_minutes : FunD K "idle_minutes" "idle_minutes" (defArgs (top 10)) (defBody (top 10)) (defScope (top 10)) [] [] (He.fAd K ("idle_minutes", none)) fd_idle_minutes := F_idle_minutes
  obtain ⟨fd__law_dice, F__law_dice⟩ := c.t.d.def_ 6 (d := d_6) rfl
  have F__law_dice : FunD K "_law_dice" "_law_dice" (defArgs (top 12)) (defBody (top 12)) (defScope (top 12)) [] [] (He.fAd K ("_law_dice", none)) fd__law_dice := F__law_dice
  obtain ⟨fd__law_roll, F__law_roll⟩ := c.t.d.def_ 7 (d := d_7) rfl
  have F__law_roll : FunD K "_law_roll" "_law_roll" (defArgs (top 13)) (defBody (top 13)) (defScope (top 13)) [] [] (He.fAd K ("_law_roll", none)) fd__law_roll := F__law_roll
  obtain ⟨fd__law_rounds, F__law_rounds⟩ := c.t.d.def_ 8 (d := d_8) rfl
  have F__law_rounds : FunD K "_law_rounds" "_law_rounds" (defArgs (top 14)) (defBody (top 14)) (defScope (top 14)) [] [] (He.fAd K ("_law_rounds", none)) fd__law_rounds := F__law_rounds
  obtain ⟨fd__law_told, F__law_told⟩ := c.t.d.def_ 9 (d := d_9) rfl
  have F__law_told : FunD K "_law_told" "_law_told" (defArgs (top 15)) (defBody (top 15)) (defScope (top 15)) [] [] (He.fAd K ("_law_told", none)) fd__law_told := F__law_told
  obtain ⟨fd__law_ends, F__law_ends⟩ := c.t.d.def_ 10 (d := d_10) rfl
  have F__law_ends : FunD K "_law_ends" "_law_ends" (defArgs (top 16)) (defBody (top 16)) (defScope (top 16)) [] [] (He.fAd K ("_law_ends", none)) fd__law_ends := F__law_ends
  obtain ⟨fd__law_orders, F__law_orders⟩ := c.t.d.def_ 11 (d := d_11) rfl
  have F__law_orders : FunD K "_law_orders" "_law_orders" (defArgs (top 17)) (defBody (top 17)) (defScope (top 17)) [] [] (He.fAd K ("_law_orders", none)) fd__law_orders := F__law_orders
  obtain ⟨fd_law, F_law⟩ := c.t.d.def_ 12 (d := d_12) rfl
  have F_law : FunD K "law" "law" (defArgs (top 18)) (defBody (top 18)) (defScope (top 18)) [] [] (He.fAd K ("law", none)) fd_law := F_law
  have g_check_works := He.glo_ok X G (c.t.d.fact 0 (f := .glo "check_works") rfl)
  have g_ends_of := He.glo_ok X G (c.t.d.fact 1 (f := .glo "ends_of") rfl)
  have g_best_order_of := He.glo_ok X G (c.t.d.fact 2 (f := .glo "best_order_of") rfl)
  have g_two_bench_order := He.glo_ok X G (c.t.d.fact 3 (f := .glo "two_bench_order") rfl)
  have g_idle_minutes := He.glo_ok X G (c.t.d.fact 4 (f := .glo "idle_minutes") rfl)
  have g__law_dice := He.glo_ok X G (c.t.d.fact 5 (f := .glo "_law_dice") rfl)
  have g__law_roll := He.glo_ok X G (c.t.d.fact 6 (f := .glo "_law_roll") rfl)
  have g__law_rounds := He.glo_ok X G (c.t.d.fact 7 (f := .glo "_law_rounds") rfl)
  have g__law_told := He.glo_ok X G (c.t.d.fact 8 (f := .glo "_law_told") rfl)
  have g__law_ends := He.glo_ok X G (c.t.d.fact 9 (f := .glo "_law_ends") rfl)
  have g__law_orders := He.glo_ok X G (c.t.d.fact 10 (f := .glo "_law_orders") rfl)
  have g_law := He.glo_ok X G (c.t.d.fact 11 (f := .glo "law") rfl)
  have g_CutError := He.glo_ok X G (c.t.d.fact 12 (f := .glo "CutError") rfl)
  have g_Work := He.glo_ok X G (c.t.d.fact 13 (f := .glo "Work") rfl)
  have c_MOST_WORKS := He.int_ok X G (c.t.d.fact 14 (f := .int "MOST_WORKS" 7) rfl)
  have e_CutError := He.exc_ok (c.t.d.fact 15 (f := .exc "CutError") rfl)
  have m_CutError := He.exm_ok (c.t.d.fact 16 (f := .exm "CutError" "CutError" true) rfl)
  have cl_Work := He.cls_ok (c.t.d.fact 17 (f := .cls "Work") rfl)
  have na_Work_name := He.noat_ok (c.t.d.fact 18 (f := .noat "Work" "name") rfl)
  have na_Work_minutes := He.noat_ok (c.t.d.fact 19 (f := .noat "Work" "minutes") rfl)
  have mk_Work := He.mkr_ok (c.t.d.fact 20 (f := .mkr "Work") rfl)
  have n_abs := He.free_ok X G (c.t.d.fact 21 (f := .free "abs") rfl)
  have n_enumerate := He.free_ok X G (c.t.d.fact 22 (f := .free "enumerate") rfl)
  have n_int := He.free_ok X G (c.t.d.fact 23 (f := .free "int") rfl)
  have n_len := He.free_ok X G (c.t.d.fact 24 (f := .free "len") rfl)
  have n_list := He.free_ok X G (c.t.d.fact 25 (f := .free "list") rfl)
  have n_max := He.free_ok X G (c.t.d.fact 26 (f := .free "max") rfl)
  have n_min := He.free_ok X G (c.t.d.fact 27 (f := .free "min") rfl)
  have n_range := He.free_ok X G (c.t.d.fact 28 (f := .free "range") rfl)
  have n_sorted := He.free_ok X G (c.t.d.fact 29 (f := .free "sorted") rfl)
  have n_str := He.free_ok X G (c.t.d.fact 30 (f := .free "str") rfl)
  have n_sum := He.free_ok X G (c.t.d.fact 31 (f := .free "sum") rfl)
  have n_tuple := He.free_ok X G (c.t.d.fact 32 (f := .free "tuple") rfl)
  have n_zip := He.free_ok X G (c.t.d.fact 33 (f := .free "zip") rfl)
  have hf := hfa.symm.trans g_law
  cases hf
  have hd : ((cs0 K).map (·.2)).Nodup := of_decide_eq_true c.more
  refine ⟨fd_law, cs0 K, SpLaw K (cs0 K) 63, fun p hp => ?_, fun p hp => ?_, fun p hp => ?_, fun s v => FunD.bindsA (ps := ["script"]) F_law (fun _ _ _ _ _ _ us hl => match us, hl with | [_], _ => rfl) s [v] rfl, fun H a ns hl hz hT hS => ⟨a, ns, rfl, hS, hT, hl, hz, fun _ => rfl⟩, fun base X1 G1 TBs => ?_⟩
  · obtain ⟨d, hd, rfl⟩ := List.mem_map.mp (show p ∈ tf.map (He.cT K) from hp)
    exact c.empty d hd
  · obtain ⟨d, hd, rfl⟩ := List.mem_map.mp (show p ∈ tf.map (He.cT K) from hp)
    exact c.out d hd
  · obtain ⟨d, hd, rfl⟩ := List.mem_map.mp (show p ∈ tf.map (He.cT K) from hp)
    exact PySem.W.codeHd_of_K X (c.hd d hd)
  have x_CutError : ∀ lm, ExF K mg (gl K lm) 1 "CutError" := fun lm => ⟨g_CutError, e_CutError.1, e_CutError.2.1, e_CutError.2.2.1, e_CutError.2.2.2⟩
  have l_name : ∀ lm, ∀ c ∈ [2], Cls (gl K lm).K ((gl K lm).CT c) ∧ NoAttr (gl K lm).K ((gl K lm).CT c) "name" := fun lm c hc => by
    simp only [List.mem_cons, List.not_mem_nil, or_false] at hc
    rcases hc with rfl
    · exact ⟨cl_Work, na_Work_name⟩
  have l_minutes : ∀ lm, ∀ c ∈ [2], Cls (gl K lm).K ((gl K lm).CT c) ∧ NoAttr (gl K lm).K ((gl K lm).CT c) "minutes" := fun lm c hc => by
    simp only [List.mem_cons, List.not_mem_nil, or_false] at hc
    rcases hc with rfl
    · exact ⟨cl_Work, na_Work_minutes⟩
  have TB_two_bench_order := TBs (He.cT K ("two_bench_order", none)) (List.mem_cons_self)
  have TB_idle_minutes := TBs (He.cT K ("idle_minutes", none)) (List.mem_cons_of_mem _ (List.mem_cons_self))
  have TB_law := TBs (He.cT K ("law", none)) (List.mem_cons_of_mem _ (List.mem_cons_of_mem _ (List.mem_cons_self)))
  have td__law_told : ∀ lm, TolD K mg (gl K lm) "_law_told" "what" "CutError" 1 "CutError" ["what"] (defArgs (top 15)) (defScope (top 15)) (defBody (top 15)) (He.fAd K ("_law_told", none)) := fun lm =>
    told_of F__law_told g__law_told (fun _ _ _ _ _ _ us hl => match us, hl with | [_], _ => rfl) ⟨rfl, rfl, rfl, by decide +kernel, rfl, by decide +kernel, by decide +kernel⟩ rfl (.inl rfl) rfl (x_CutError lm) rfl ⟨_, _, _, _, _, _, _, _, _, rfl⟩ m_CutError
  have k_Work_ : ∀ lm, Cal4 PySem.Challenge.rw_woodstack_k11_works_from_bench_to_bench.prog w K mg base (gl K lm) 2 2 "Work" 3 f_Work___init__ [] := fun lm => ⟨⟨_, _, _, _, _, (ok_Work___init__ (K := K) (g := gl K lm) rfl F_Work___init__ n_len n_min n_tuple (x_CutError lm) (l_minutes lm) (l_name lm)), mk_Work, g_Work, (FunD.bindsN (ps := ["self", "name", "minutes"]) F_Work___init__ fun _ _ _ _ _ _ us hl => match us, hl with | [_, _, _], _ => rfl), .nil, .nil⟩, fnF_len⟩
  have f_check_works_ : ∀ lm, Cal2 PySem.Challenge.rw_woodstack_k11_works_from_bench_to_bench.prog w K mg base (gl K lm) 2 "check_works" 1 f_check_works [] := fun lm => cal_of (N := ["works", "work"]) F_check_works (ok_check_works (K := K) (g := gl K lm) rfl F_check_works n_len c_MOST_WORKS (x_CutError lm) (l_minutes lm) (l_name lm)) g_check_works (FunD.bindsN (ps := ["works"]) F_check_works fun _ _ _ _ _ _ us hl => match us, hl with | [_], _ => rfl)
  have f_ends_of_ : ∀ lm, Cal2 PySem.Challenge.rw_woodstack_k11_works_from_bench_to_bench.prog w K mg base (gl K lm) 3 "ends_of" 1 f_ends_of [] := fun lm => cal_of (N := ["works", "free", "found", "work", "time", "row", "bench", "minutes"]) F_ends_of (ok_ends_of (K := K) (g := gl K lm) rfl F_ends_of n_enumerate n_len n_max n_tuple (l_minutes lm) (f_check_works_ lm)) g_ends_of (FunD.bindsN (ps := ["works"]) F_ends_of fun _ _ _ _ _ _ us hl => match us, hl with | [_], _ => rfl)
  have f_best_order_of_ : ∀ lm, Cal2 PySem.Challenge.rw_woodstack_k11_works_from_bench_to_bench.prog w K mg base (gl K lm) 4 "best_order_of" 1 f_best_order_of [] := fun lm => cal_of (N := ["works", "table", "best", "left", "names", "row", "work", "name"]) F_best_order_of (ok_best_order_of (K := K) (g := gl K lm) rfl F_best_order_of n_len (l_name lm) (f_check_works_ lm) (f_ends_of_ lm)) g_best_order_of (FunD.bindsN (ps := ["works"]) F_best_order_of fun _ _ _ _ _ _ us hl => match us, hl with | [_], _ => rfl)
  have f_two_bench_order_ : ∀ lm, Cal2 PySem.Challenge.rw_woodstack_k11_works_from_bench_to_bench.prog w K mg base (gl K lm) 7 "two_bench_order" 1 f_two_bench_order [] := fun lm => cal_of (N := ["works", "first", "second", "work", "minutes", "name"]) F_two_bench_order (ok_two_bench_order (K := K) (g := gl K lm) rfl F_two_bench_order TB_two_bench_order (List.mem_cons_self) n_len n_sorted n_tuple (x_CutError lm) (l_minutes lm) (l_name lm) (f_check_works_ lm)) g_two_bench_order (FunD.bindsN (ps := ["works"]) F_two_bench_order fun _ _ _ _ _ _ us hl => match us, hl with | [_], _ => rfl)
  have f_idle_minutes_ : ∀ lm, Cal2 PySem.Challenge.rw_woodstack_k11_works_from_bench_to_bench.prog w K mg base (gl K lm) 7 "idle_minutes" 1 f_idle_minutes [] := fun lm => cal_of (N := ["works", "found", "ends", "bench", "start", "work"]) F_idle_minutes (ok_idle_minutes (K := K) (g := gl K lm) rfl F_idle_minutes TB_idle_minutes (List.mem_cons_of_mem _ (List.mem_cons_self)) n_len n_range n_sum n_tuple (l_minutes lm) (f_ends_of_ lm)) g_idle_minutes (FunD.bindsN (ps := ["works"]) F_idle_minutes fun _ _ _ _ _ _ us hl => match us, hl with | [_], _ => rfl)
  have f__law_dice_ : ∀ lm, Cal2 PySem.Challenge.rw_woodstack_k11_works_from_bench_to_bench.prog w K mg base (gl K lm) 2 "_law_dice" 1 f__law_dice [] := fun lm => cal_of (N := ["cell"]) F__law_dice (ok__law_dice (K := K) (g := gl K lm) rfl F__law_dice n_abs n_int) g__law_dice (FunD.bindsN (ps := ["cell"]) F__law_dice fun _ _ _ _ _ _ us hl => match us, hl with | [_], _ => rfl)
  have f__law_roll_ : ∀ lm, Cal2 PySem.Challenge.rw_woodstack_k11_works_from_bench_to_bench.prog w K mg base (gl K lm) 2 "_law_roll" 2 f__law_roll [] := fun lm => cal_of (N := ["dice", "many", "found"]) F__law_roll (ok__law_roll (K := K) (g := gl K lm) rfl F__law_roll n_int) g__law_roll (FunD.bindsN (ps := ["dice", "many"]) F__law_roll fun _ _ _ _ _ _ us hl => match us, hl with | [_, _], _ => rfl)
  have f__law_rounds_ : ∀ lm, Cal2 PySem.Challenge.rw_woodstack_k11_works_from_bench_to_bench.prog w K mg base (gl K lm) 3 "_law_rounds" 2 f__law_rounds [] := fun lm => cal_of (N := ["script", "most", "cells", "cell"]) F__law_rounds (ok__law_rounds (K := K) (g := gl K lm) rfl F__law_rounds (f__law_dice_ lm)) g__law_rounds (FunD.bindsN (ps := ["script", "most"]) F__law_rounds fun _ _ _ _ _ _ us hl => match us, hl with | [_, _], _ => rfl)
  have f__law_ends_ : ∀ lm, Cal2 PySem.Challenge.rw_woodstack_k11_works_from_bench_to_bench.prog w K mg base (gl K lm) 2 "_law_ends" 1 f__law_ends [] := fun lm => cal_of (N := ["rows", "ends", "k", "row", "here", "bench", "minutes", "ready", "free"]) F__law_ends (ok__law_ends (K := K) (g := gl K lm) rfl F__law_ends n_enumerate n_max n_tuple) g__law_ends (FunD.bindsN (ps := ["rows"]) F__law_ends fun _ _ _ _ _ _ us hl => match us, hl with | [_], _ => rfl)
  have f__law_orders_ : ∀ lm, Cal2 PySem.Challenge.rw_woodstack_k11_works_from_bench_to_bench.prog w K mg base (gl K lm) 7 "_law_orders" 1 (f__law_orders 6) [] := fun lm => ⟨⟨_, _, _, _, _, (ok__law_orders (K := K) (g := gl K lm) rfl F__law_orders  g__law_orders (FunD.bindsN (ps := ["names"]) F__law_orders fun _ _ _ _ _ _ us hl => match us, hl with | [_], _ => rfl)  6), g__law_orders, F__law_orders.kp, (FunD.bindsN (ps := ["names"]) F__law_orders fun _ _ _ _ _ _ us hl => match us, hl with | [_], _ => rfl), .nil, .nil⟩, fl__law_orders 6⟩
  exact ok_law F_law TB_law hd n_len n_list n_max n_range n_sorted n_str n_sum n_tuple n_zip c_MOST_WORKS f__law_ends_ f__law_orders_ f__law_roll_ f__law_rounds_ f_best_order_of_ f_check_works_ f_ends_of_ f_idle_minutes_ f_two_bench_order_ k_Work_ td__law_told law_true
end K11
end

section
set_option Elab.async false
set_option linter.all false
set_option maxRecDepth 100000
set_option maxHeartbeats 4100000
open PySem PySem.W PySem.Calls PyProof.Rows
theorem k11_of (law_true : ∀ ns : List Int, ns.length ≤ 63 → (∀ z ∈ ns, Builtin.Int.intBits z ≤ 1048576) → ∃ s, K11.b_law (Iv.startE 23 [Iv.scrD ns]) [] = .rt (.p (.bl true)) s) : PySem.Challenge.rw_woodstack_k11_works_from_bench_to_bench.Holds := by
  w_on; o_law
  refine HandSHeadRun.head_any (r := K11.R) (q := view K11.R.prog [18]) (H := K11.hk) (ob := K11.ob) (M := 2000) (loose := K11.names) (d := HandSHeadRun.topDef K11.R.prog 18) (kwd := []) K11.ob_eq
    (by kernel_rfl) (fun s => by kernel_rfl) K11.run (by kernel_rfl) (by kernel_rfl) (by kernel_rfl) (by rfl) (by first | assumption | decide +kernel) (by decide +kernel) ⟨rfl, rfl, rfl, rfl, rfl, by decide +kernel⟩ ?hw ?hc
  case hw => w_witness2
  case hc =>
    refine LamX.walk_ofTsE (l := PySem.Challenge.rw_woodstack_k11_works_from_bench_to_bench) (n := 63) (k := 10) (x := "script") (CX := fun w => L2.CX K11.R.prog w) rfl (by decide) (by kernel_rfl) ⟨rfl, by decide, by decide⟩ ?F (fun w H s e s' z => ?_)
    · intro w mg fa h Y G hmg0
      obtain ⟨K, KX, c⟩ := Y
      have e : (HandSHeadRun.topDef K11.R.prog 18).name = ("law" : PySem.Str) := by kernel_rfl
      exact ⟨K, KX, K11.facts law_true KX G (e ▸ hmg0) c⟩
    · unfold L2.CX at z
      obtain ⟨_, _, _, _, _, _, _, _, _, _, _, _, z⟩ := z
      exact z
end

section
set_option linter.all false
set_option maxHeartbeats 4100000
set_option maxRecDepth 10000
open PySem L2 Iv
namespace Q11
/-! ### two benches: an order in which every pair stands well is done first -/
/-- when all is done: the first bench is free at s, the second at t -/
def ms (s t : Int) : List (Int × Int) → Int
  | [] => t
  | j :: js => ms (s + j.1) (maxI t (s + j.1) + j.2) js
def good2 (x y : Int × Int) : Prop := minI x.1 y.2 ≤ minI y.1 x.2
theorem ms_mono : ∀ (js : List (Int × Int)) (s t t' : Int), t ≤ t' → ms s t js ≤ ms s t' js
  | [], _, _, _, h => h
  | j :: js, s, t, t', h => ms_mono js _ _ _ (by unfold maxI; split <;> split <;> omega)
theorem ms_swap (x y : Int × Int) (h : good2 x y) (s t : Int) (js : List (Int × Int)) : ms s t (x :: y :: js) ≤ ms s t (y :: x :: js) := by
  unfold ms ms
  have e : s + x.1 + y.1 = s + y.1 + x.1 := by omega
  rw [e]
  refine ms_mono js _ _ _ ?_
  unfold good2 minI at h
  unfold maxI
  repeat' split
  all_goals
    split at h <;> split at h <;> omega
theorem ms_move (x : Int × Int) (q : List (Int × Int)) : ∀ (p : List (Int × Int)) (s t : Int), (∀ y ∈ p, good2 x y) → ms s t (x :: (p ++ q)) ≤ ms s t (p ++ x :: q)
  | [], _, _, _ => Int.le_refl _
  | y :: p, s, t, h => Int.le_trans (ms_swap x y (h y (List.mem_cons_self ..)) s t (p ++ q)) (ms_move x q p _ _ fun z hz => h z (List.mem_cons_of_mem _ hz))
theorem ms_best : ∀ (js js' : List (Int × Int)) (s t : Int), js.Pairwise good2 → js'.Perm js → ms s t js ≤ ms s t js'
  | [], js', s, t, _, h => by rw [List.Perm.eq_nil h]; exact Int.le_refl _
  | x :: js, js', s, t, hp, h => by
    rw [List.pairwise_cons] at hp
    obtain ⟨p, q, rfl⟩ := List.append_of_mem (h.mem_iff.mpr (List.mem_cons_self ..))
    have h2 : (p ++ q).Perm js := (List.perm_cons x).mp (List.perm_middle.symm.trans h)
    refine Int.le_trans (ms_best js (p ++ q) _ _ hp.2 h2.symm.symm) (ms_move x q p s t fun y hy => hp.1 y (h2.mem_iff.mp (List.mem_append_left _ hy)))
/-- first those with less at the first bench, ascending by that; then the others, descending by the second -/
theorem john_good {l r : List (Int × Int)} (hl : ∀ x ∈ l, x.1 < x.2) (hr : ∀ x ∈ r, x.2 ≤ x.1) (pl : l.Pairwise fun x y => x.1 ≤ y.1) (pr : r.Pairwise fun x y => y.2 ≤ x.2) : (l ++ r).Pairwise good2 := by
  have key : ∀ x y : Int × Int, (x.1 < x.2 ∧ x.1 ≤ y.1) ∨ (x.1 < x.2 ∧ y.2 ≤ y.1) ∨ (y.2 ≤ y.1 ∧ y.2 ≤ x.2) → good2 x y := by
    intro x y h
    unfold good2 minI
    split <;> split <;> omega
  rw [List.pairwise_append]
  refine ⟨List.Pairwise.imp_of_mem (fun hx hy h => key _ _ (.inl ⟨hl _ hx, h⟩)) pl, List.Pairwise.imp_of_mem (fun hx hy h => key _ _ (.inr (.inr ⟨hr _ hy, h⟩))) pr, fun x hx y hy => key x y (.inr (.inl ⟨hl x hx, hr y hy⟩))⟩
end Q11
end

section
set_option linter.all false
set_option maxHeartbeats 4100000
set_option maxRecDepth 10000
open PySem L2 Iv K11
namespace Q11
def V_1 : Sv := (sAsg (vMake 2 f_Work___init__ false (aC (vK (.str "a")) (aC (vLst (aC (vK (.int 1)) (aC (vK (.int 2)) (aN)))) (aN))) []) (gvN 14))
def V_2 : Sv := (sAsg (vLst (aC (vK (.lam 0)) (aC (vK (.lam 1)) (aC (vK (.lam 2)) (aC (vK (.lam 3)) (aC (vK (.lam 4)) (aC (vK (.lam 5)) (aC (vK (.lam 6)) (aC (vK (.lam 7)) (aC (vK (.lam 8)) (aC (vK (.lam 9)) (aN)))))))))))) (gvN 15))
def V_3 : Sv := (sRet (vAnd (v2 (oEq false) (vCmp (itA (vV 15)) (tvN 19) (tstB (v2 (oEq true) (vToldL 19 [19] 1 "CutError" lams_law) (vK (.str "CutError")))) (vK (.int 1)) [19]) (vLst (aN))) (vAnd (v2 (oEq false) (vK (.int 7)) (vK (.int 7))) (vAnd (v2 (oEq false) (vFn f_ends_of (aC (vLst (aC (vV 14) (aC (vMake 2 f_Work___init__ false (aC (vK (.str "b")) (aC (vLst (aC (vK (.int 3)) (aC (vK (.int 1)) (aN)))) (aN))) []) (aN)))) (aN)) []) (vTup (aC (vTup (aC (vK (.int 1)) (aC (vK (.int 3)) (aN)))) (aC (vTup (aC (vK (.int 4)) (aC (vK (.int 5)) (aN)))) (aN))))) (vAnd (v2 (oEq false) (vFn f_idle_minutes (aC (vLst (aC (vV 14) (aC (vMake 2 f_Work___init__ false (aC (vK (.str "b")) (aC (vLst (aC (vK (.int 3)) (aC (vK (.int 1)) (aN)))) (aN))) []) (aN)))) (aN)) []) (vTup (aC (vK (.int 0)) (aC (vK (.int 1)) (aN))))) (v2 (oEq false) (vFn f_two_bench_order (aC (vLst (aC (vMake 2 f_Work___init__ false (aC (vK (.str "b")) (aC (vLst (aC (vK (.int 3)) (aC (vK (.int 1)) (aN)))) (aN))) []) (aC (vV 14) (aN)))) (aN)) []) (vTup (aC (vK (.str "a")) (aC (vK (.str "b")) (aN))))))))))
def T_0 : Sv := (sAsgT 2 (aC (v2 oAdd (vK (.int 1)) (vFn f__law_roll (aC (vV 1) (aC (vK (.int 4)) (aN))) [])) (aC (vNewK) (aN))) (gsC (gvN 2) (gsC (gvN 3) (gsN))))
def T_1 : Sv := (sForI (itR1 (aC (v2 oAdd (vK (.int 1)) (vFn f__law_roll (aC (vV 1) (aC (vK (.int 5)) (aN))) [])) (aN))) (gvN 4) (sAsg (vCal fTup (aC (vCmp (itR1 (aC (vV 2) (aN))) (tvN 20) (bYes) (vFn f__law_roll (aC (vV 1) (aC (vK (.int 20)) (aN))) []) [20]) (aN))) (gvD (vV 3) (v2 oAdd (vK (.str "w")) (vCal fStrI (aC (vV 4) (aN)))))))
def T_2 : Sv := (sAsg (vCmp (itK (vV 3)) (tvN 16) (bYes) (vMake 2 f_Work___init__ false (aC (vV 16) (aC (v2 oDx (vV 3) (vV 16)) (aN))) []) [16]) (gvN 5))
def T_3 : Sv := (sAsg (vFn f__law_ends (aC (vVals (vV 3)) (aN)) []) (gvN 6))
def T_4 : Sv := (sIf (bOr (tstB (v2 (oEq true) (vCal fList (aC (vFn f_ends_of (aC (vV 5) (aN)) []) (aN))) (vV 6))) (tstB (v2 (oIs true) (vFn f_check_works (aC (vV 5) (aN)) []) (vK .non)))) (sRet (vK (.bl false))) (sNx))
def T_5 : Sv := (sAsg (vLstM (aN)) (gvN 7))
def T_6 : Sv := (sForI (itR1 (aC (vV 2) (aN))) (gvN 8) (sSeq (sAsg (vCmp (itZV (vV 6) (vV 3)) (tvT 2 (tsC (tvN 17) (tsC (tvN 18) (tsN)))) (bYes) (vTup (aC (v2 oSub (v2 oIx (vV 17) (vV 8)) (v2 oIx (vV 18) (vV 8))) (aC (v2 oIx (vV 17) (vV 8)) (aN)))) [17, 18]) (gvN 9)) (sDo (vMet isList mApp (vV 7) (aC (vCal fSum (aC (vCmp (itZ (aC (vV 9) (aC (vSl (vV 9) (poS (vK (.int 1))) (poN)) (aN)))) (tvT 2 (tsC (tvT 2 (tsC (tvN 12) (tsC (tvN 17) (tsN)))) (tsC (tvT 2 (tsC (tvN 21) (tsC (tvN 22) (tsN)))) (tsN)))) (bYes) (vCal (fBest true) (aC (vK (.int 0)) (aC (v2 oSub (vV 21) (vV 17)) (aN)))) [12, 17, 21, 22]) (aN))) (aN))))))
def T_7 : Sv := (sIf (tstB (v2 (oEq true) (vCal fList (aC (vFn f_idle_minutes (aC (vV 5) (aN)) []) (aN))) (vV 7))) (sRet (vK (.bl false))) (sNx))
def T_8 : Sv := (sAsg (vCal fSorted (aC (vCmp (itA (vFn (f__law_orders 6) (aC (vCal fSortedS (aC (vV 3) (aN))) (aN)) [])) (tvN 11) (bYes) (vTup (aC (v2 oIx (v2 oIx (vFn f__law_ends (aC (vCmp (itA (vV 11)) (tvN 16) (bYes) (v2 oDx (vV 3) (vV 16)) [16]) (aN)) []) (v2 oSub (vCal fLenX (aC (vV 3) (aN))) (vK (.int 1)))) (v2 oSub (vV 2) (vK (.int 1)))) (aC (vV 11) (aN)))) [11]) (aN))) (gvN 10))
def T_9 : Sv := (sIf (tstB (v2 (oEq true) (vFn f_best_order_of (aC (vRev (vV 5)) (aN)) []) (v2 oIx (vV 10) (vK (.int 0))))) (sRet (vK (.bl false))) (sNx))
def T_10 : Sv := (sIf (tstB (v2 (oEq false) (vV 2) (vK (.int 2)))) (sSeq (sAsg (vFn f_two_bench_order (aC (vV 5) (aN)) []) (gvN 11)) (sSeq (sAsg (vCal fSorted (aC (vCmp (itK (vV 3)) (tvN 16) (tstB (v2 (oOrd .lt) (v2 oIx (v2 oDx (vV 3) (vV 16)) (vK (.int 0))) (v2 oIx (v2 oDx (vV 3) (vV 16)) (vK (.int 1))))) (vTup (aC (v2 oIx (v2 oDx (vV 3) (vV 16)) (vK (.int 0))) (aC (vV 16) (aN)))) [16]) (aN))) (gvN 12)) (sSeq (sAsg (vCal fSorted (aC (vCmp (itK (vV 3)) (tvN 16) (tstB (v2 (oOrd .ge) (v2 oIx (v2 oDx (vV 3) (vV 16)) (vK (.int 0))) (v2 oIx (v2 oDx (vV 3) (vV 16)) (vK (.int 1))))) (vTup (aC (vU oNeg (v2 oIx (v2 oDx (vV 3) (vV 16)) (vK (.int 1)))) (aC (vV 16) (aN)))) [16]) (aN))) (gvN 13)) (sIf (bOr (tstB (v2 (oEq true) (vCal fList (aC (vV 11) (aN))) (vCmp (itA (v2 oAdd (vV 12) (vV 13))) (tvN 18) (bYes) (v2 oIx (vV 18) (vK (.int 1))) [18]))) (tstB (v2 (oEq true) (v2 oIx (v2 oIx (vFn f__law_ends (aC (vCmp (itA (vV 11)) (tvN 16) (bYes) (v2 oDx (vV 3) (vV 16)) [16]) (aN)) []) (v2 oSub (vCal fLenX (aC (vV 3) (aN))) (vK (.int 1)))) (vK (.int 1))) (v2 oIx (v2 oIx (vV 10) (vK (.int 0))) (vK (.int 0)))))) (sRet (vK (.bl false))) (sNx))))) (sNx))
def TB : Sv := sSeq T_0 (sSeq T_1 (sSeq T_2 (sSeq T_3 (sSeq T_4 (sSeq T_5 (sSeq T_6 (sSeq T_7 (sSeq T_8 (sSeq T_9 (T_10))))))))))
theorem law_eq : b_law = sSeq (sForI (itA (vFn f__law_rounds (aC (vV 0) (aC (vK (.int 1)) (aN))) [])) (gvN 1) TB) (sSeq V_1 (sSeq V_2 (V_3))) := rfl
end Q11
end

section
set_option linter.all false
set_option maxHeartbeats 4100000
set_option maxRecDepth 10000
open PySem L2 Iv K11
def dC (a b m : Int) : Cell := .lst [.p (.int a), .p (.int b), .p (.int m)]
theorem roll_two (rest : Store) (a b : Int) (many : Int) (h : 0 < many) (h2 : many.natAbs.log2 < 9000) : f__law_roll [.ref 0, .p (.int many)] (dC a b 2 :: rest) = .ok (.p (.int (a % many))) (dC (a / many) b 2 :: rest) := by
  simp [bnd_ok, fnF, startE, sSeq, sIf, sAsg, sRet, sNx, sAug, bOr, bAnd, bNot, tstB, v2, vV, vK, aC, aN, vCal, vU, oIx, oEq, oOrd, oAdd, oSub, oMul, oDiv, oMod, see, seeC, pEq, fInt, fAbs, gvN, gvS, L2.atI, L2.ixN, f__law_roll, b__law_roll, dC, h, h2, oSet, retF]
theorem roll_one (rest : Store) (a b : Int) (many : Int) (ha : 0 < a) (h : 0 < many) (h2 : many.natAbs.log2 < 9000) : f__law_roll [.ref 0, .p (.int many)] (dC a b 1 :: rest) = .ok (.p (.int (a % many))) (dC (a / many) b 1 :: rest) := by
  simp [bnd_ok, fnF, startE, sSeq, sIf, sAsg, sRet, sNx, sAug, bOr, bAnd, bNot, tstB, v2, vV, vK, aC, aN, vCal, vU, oIx, oEq, oOrd, oAdd, oSub, oMul, oDiv, oMod, see, seeC, pEq, fInt, fAbs, gvN, gvS, L2.atI, L2.ixN, f__law_roll, b__law_roll, dC, h, h2, oSet, retF, ordI, ha]
def lcg (a b : Int) : Int := (a * 48271 + b * 69621 + 11) % 2147483647
theorem roll_zero (rest : Store) (a b m : Int) (many : Int) (hm : m = 0 ∨ (m = 1 ∧ a ≤ 0)) (h : 0 < many) (h2 : many ≤ 100000000) : f__law_roll [.ref 0, .p (.int many)] (dC a b m :: rest) = .ok (.p (.int (lcg a b / 7 % many))) (dC (lcg a b) (b + 1) 0 :: rest) := by
  have s1 : mulOk a 48271 = true := by simp [mulOk, smallI]
  have s2 : mulOk b 69621 = true := by simp [mulOk, smallI]
  have l7 : Nat.log2 7 < 9000 := by decide +kernel
  have h3 : ¬ 100000000 < many := by omega
  rcases hm with rfl | ⟨rfl, ha⟩
  · simp [bnd_ok, fnF, startE, sSeq, sIf, sAsg, sRet, sNx, sAug, bOr, bAnd, bNot, tstB, v2, vV, vK, aC, aN, vCal, vU, oIx, oEq, oOrd, oAdd, oSub, oMul, oDiv, oMod, see, seeC, pEq, fInt, fAbs, gvN, gvS, L2.atI, L2.ixN, f__law_roll, b__law_roll, dC, h, h2, oSet, retF, ordI, s1, s2, h3, l7, lcg]
  · have h4 : ¬ 0 < a := by omega
    simp [bnd_ok, fnF, startE, sSeq, sIf, sAsg, sRet, sNx, sAug, bOr, bAnd, bNot, tstB, v2, vV, vK, aC, aN, vCal, vU, oIx, oEq, oOrd, oAdd, oSub, oMul, oDiv, oMod, see, seeC, pEq, fInt, fAbs, gvN, gvS, L2.atI, L2.ixN, f__law_roll, b__law_roll, dC, h, h2, oSet, retF, ordI, s1, s2, h3, h4, l7, lcg]
def okM (m : Int) : Prop := m = 0 ∨ m = 1 ∨ m = 2
/-- a roll: whatever the dice are, a number below `many`, and dice again -/
theorem roll_any (rest : Store) (a b m many : Int) (hm : okM m) (h : 0 < many) (h2 : many ≤ 100000000) (h3 : many.natAbs.log2 < 9000) :
    ∃ r a' b' m', f__law_roll [.ref 0, .p (.int many)] (dC a b m :: rest) = .ok (.p (.int r)) (dC a' b' m' :: rest) ∧ 0 ≤ r ∧ r < many ∧ okM m' := by
  have lo : ∀ x : Int, 0 ≤ x % many := fun x => Int.emod_nonneg x (by omega)
  have hi : ∀ x : Int, x % many < many := fun x => Int.emod_lt_of_pos x h
  obtain rfl | rfl | rfl := hm
  · exact ⟨_, _, _, _, roll_zero rest a b 0 many (.inl rfl) h h2, lo _, hi _, .inl rfl⟩
  · by_cases ha : 0 < a
    · exact ⟨_, _, _, _, roll_one rest a b many ha h h3, lo _, hi _, .inr (.inl rfl)⟩
    · exact ⟨_, _, _, _, roll_zero rest a b 1 many (.inr ⟨rfl, by omega⟩) h h2, lo _, hi _, .inl rfl⟩
  · exact ⟨_, _, _, _, roll_two rest a b many h h3, lo _, hi _, .inr (.inr rfl)⟩

theorem dice_nil (c : Int) : ∃ a b m, f__law_dice [.p (.int c)] [] = .ok (.ref 0) [dC a b m] ∧ okM m := by
  have sz : 3 ≤ szLine := by decide
  have p18 : smallI 10 = true := by decide
  by_cases h1 : -10 < c <;> by_cases h2 : c < 10
  · exact ⟨if c < 0 then -c else c, 0, 2, by simp [bnd_ok, fnF, startE, sSeq, sIf, sAsg, sRet, sNx, sAug, bOr, bAnd, bNot, tstB, v2, vV, vK, aC, aN, vCal, vU, oIx, oEq, oOrd, oAdd, oSub, oMul, oDiv, oMod, see, seeC, pEq, fInt, fAbs, gvN, gvS, L2.atI, L2.ixN, f__law_dice, b__law_dice, dC, retF, ordI, vLstM, kCel, vCh, h1, h2, sz], .inr (.inr rfl)⟩
  all_goals
    by_cases h3 : (1000000000000000000 : Int) ≤ c
    · exact ⟨c, 1 + c % 1009, 1, by simp [bnd_ok, fnF, startE, sSeq, sIf, sAsg, sRet, sNx, sAug, bOr, bAnd, bNot, tstB, v2, vV, vK, aC, aN, vCal, vU, oIx, oEq, oOrd, oAdd, oSub, oMul, oDiv, oMod, see, seeC, pEq, fInt, fAbs, gvN, gvS, L2.atI, L2.ixN, f__law_dice, b__law_dice, dC, retF, ordI, vLstM, kCel, vCh, h1, h2, h3, sz, oPow, p18], .inr (.inl rfl)⟩
    · exact ⟨c, 1 + c % 1009, 0, by simp [bnd_ok, fnF, startE, sSeq, sIf, sAsg, sRet, sNx, sAug, bOr, bAnd, bNot, tstB, v2, vV, vK, aC, aN, vCal, vU, oIx, oEq, oOrd, oAdd, oSub, oMul, oDiv, oMod, see, seeC, pEq, fInt, fAbs, gvN, gvS, L2.atI, L2.ixN, f__law_dice, b__law_dice, dC, retF, ordI, vLstM, kCel, vCh, h1, h2, h3, sz, oPow, p18], .inl rfl⟩
theorem pEq_nil0 : pEq (.lst []) (.lst []) = some true := pEq_self rfl
theorem pEq_one (i : Int) : pEq (.lst [.int i]) (.lst []) = some false := by rfl
theorem rounds_ok (ns : List Int) : ∃ a b m, f__law_rounds [scrD ns, .p (.int 1)] [] = .ok (.ref 1) [dC a b m, .lst [.ref 0]] ∧ okM m := by
  have main : ∀ c : Int, (oSl (scrD ns) none (some 1) [] = .ok (.p (.lst [.int c])) [] ∨ (oSl (scrD ns) none (some 1) [] = .ok (.p (.lst [])) [] ∧ c = 0)) → ∃ a b m, f__law_rounds [scrD ns, .p (.int 1)] [] = .ok (.ref 1) [dC a b m, .lst [.ref 0]] ∧ okM m := by
    intro c h
    obtain ⟨a, b, m, e, k⟩ := dice_nil c
    refine ⟨a, b, m, ?_, k⟩
    have pn : pEq (.lst []) (.lst []) = some true := pEq_self rfl
    have p1 := pEq_one c
    rcases h with h | ⟨h, rfl⟩
    · simp (disch := omega) only [bnd_ok, bnd_exc, fnF, startE, sSeq, sIf, sAsg, sRet, sNx, sAug, sPar, sDo, sRaise, bOr, bAnd, bNot, bYes, tstB, v2, vV, vK, aC, aN, vCal, vU, vIf, vCh, vAnd, vFn, oIx, oAdd, oSub, oMul, oDiv, oMod, oNeg, see, seeC, fInt, fAbs_int, fMax_int, fMin_int, ordI_int, retF_same, excF_same, gvN, gvS, gvT, gsC, gsN, iAdd, L2.atI, L2.ixN, mulOk_l, mulOk_r, log_ok, le_t, le_f, lt_t, lt_f, gt_t, gt_f, ge_t, ge_f, List.getElem?_cons_zero, List.getElem?_cons_succ, List.set_cons_zero, List.set_cons_succ, List.length_cons, List.length_nil, List.map_cons, List.map_nil, List.cons_append, List.nil_append, List.append_nil, List.replicate_succ, List.replicate_zero, Nat.zero_add, Nat.reduceAdd, Nat.reduceSub, Nat.reduceLT, Nat.reduceLeDiff, Int.reduceLT, Int.reduceLE, Int.reduceAdd, Int.reduceSub, Int.reduceMul, Int.reduceNeg, decide_true, decide_false, Bool.not_true, Bool.not_false, reduceCtorEq, ↓reduceIte, and_self, and_true, true_and, if_true, if_false, Bool.false_eq_true, if_pos, if_neg, Int.reduceToNat, Int.toNat_zero, Int.toNat_one, Option.bind_some, Option.map_some, pAll, pAll_map, seqP_lst, seqP_tup, seqP_scr, vTup, vLst, vLstM, szLine_eq, vMet, isList, mApp, last_get, last_set, List.length_map, List.length_append, seeC, oIs, Option.map, f__law_rounds, b__law_rounds, vSl, poN, poS, h, oEq, pn, p1, vCmpD, itA, wipE, compL, getI, endI, tvN, e, kCel]
    · simp (disch := omega) only [bnd_ok, bnd_exc, fnF, startE, sSeq, sIf, sAsg, sRet, sNx, sAug, sPar, sDo, sRaise, bOr, bAnd, bNot, bYes, tstB, v2, vV, vK, aC, aN, vCal, vU, vIf, vCh, vAnd, vFn, oIx, oAdd, oSub, oMul, oDiv, oMod, oNeg, see, seeC, fInt, fAbs_int, fMax_int, fMin_int, ordI_int, retF_same, excF_same, gvN, gvS, gvT, gsC, gsN, iAdd, L2.atI, L2.ixN, mulOk_l, mulOk_r, log_ok, le_t, le_f, lt_t, lt_f, gt_t, gt_f, ge_t, ge_f, List.getElem?_cons_zero, List.getElem?_cons_succ, List.set_cons_zero, List.set_cons_succ, List.length_cons, List.length_nil, List.map_cons, List.map_nil, List.cons_append, List.nil_append, List.append_nil, List.replicate_succ, List.replicate_zero, Nat.zero_add, Nat.reduceAdd, Nat.reduceSub, Nat.reduceLT, Nat.reduceLeDiff, Int.reduceLT, Int.reduceLE, Int.reduceAdd, Int.reduceSub, Int.reduceMul, Int.reduceNeg, decide_true, decide_false, Bool.not_true, Bool.not_false, reduceCtorEq, ↓reduceIte, and_self, and_true, true_and, if_true, if_false, Bool.false_eq_true, if_pos, if_neg, Int.reduceToNat, Int.toNat_zero, Int.toNat_one, Option.bind_some, Option.map_some, pAll, pAll_map, seqP_lst, seqP_tup, seqP_scr, vTup, vLst, vLstM, szLine_eq, vMet, isList, mApp, last_get, last_set, List.length_map, List.length_append, seeC, oIs, Option.map, f__law_rounds, b__law_rounds, vSl, poN, poS, h, oEq, pn, p1, vCmpD, itA, wipE, compL, getI, endI, tvN, e, kCel]
  cases ns with
  | nil => exact main 0 (.inr ⟨rfl, rfl⟩)
  | cons c ns => exact main c (.inl (by
      have h1 : min (1 : Int).toNat ((c :: ns).map P.int).length - 0 = 1 := by simp
      simp only [oSl, scrD, see, cutL, HT.sIx, List.drop_zero, if_neg (show ¬ (1 : Int) < 0 by decide), h1, List.map_cons]
      rfl))
end

section
set_option linter.all false
set_option maxHeartbeats 4100000
set_option maxRecDepth 10000
open PySem L2 Iv K11
namespace Q11
/-! ### works -/
abbrev J := Str × List Int
def ob (j : J) : P := .obj 2 [("name", .str j.1), ("minutes", .tup (j.2.map .int))]
def lj (js : List J) : D := .p (.lst (js.map ob))
structure JOk (B : Nat) (js : List J) : Prop where
  b : 1 ≤ B ∧ B ≤ 4
  n : 1 ≤ js.length ∧ js.length ≤ 5
  d : (js.map (·.1)).Nodup
  l : ∀ j ∈ js, j.2.length = B
  m : ∀ j ∈ js, ∀ x ∈ j.2, 0 ≤ x ∧ x ≤ 19
/-! ### dicts of data -/
theorem dcL_data {α : Type} {t : Tv} {ek ev : Ev D} {δ0 : Iv.Env} {st : Store} (enc : α → P) (kf : α → Key) (vf : α → D) : ∀ (xs : List α) (acc : List (Key × D)), (∀ x ∈ xs, ∃ δ1, t (.p (enc x)) δ0 = some δ1 ∧ ek δ1 st = .ok (.p (kP (kf x))) st ∧ ev δ1 st = .ok (vf x) st) →
    ∀ len n, dcL none len t bYes ek ev δ0 ((xs.map enc).map .p) n acc st = .ok (xs.foldl (fun a x => putX a (kf x) (vf x)) acc) st
  | [], acc, _, len, n => rfl
  | x :: xs, acc, h, len, n => by
    obtain ⟨δ1, h1, h2, h3⟩ := h x (List.mem_cons_self ..)
    have ih := dcL_data enc kf vf xs (putX acc (kf x) (vf x)) (fun y hy => h y (List.mem_cons_of_mem _ hy)) len (n + 1)
    rw [List.map_cons]; rw [List.map_cons]
    rw [List.foldl_cons]
    unfold dcL getI
    simp only [h1, h2, h3, bYes, keyD, keyP_kP]
    exact ih
theorem vDc_data {α : Type} {fi : Ev Its} {t : Tv} {ek ev : Ev D} {vs : List Nat} {δ : Iv.Env} {s : Store} (enc : α → P) (kf : α → Key) (vf : α → P) (xs : List α) (hl : xs.length ≤ szLine) (hi : fi δ s = .ok ⟨(xs.map enc).map .p, none⟩ s)
    (h : ∀ x ∈ xs, ∃ δ1, t (.p (enc x)) (wipE δ vs) = some δ1 ∧ ek δ1 s = .ok (.p (kP (kf x))) s ∧ ev δ1 s = .ok (.p (vf x)) s) (ps : List (P × P)) (hp : pKs (xs.foldl (fun a x => putX a (kf x) (D.p (vf x))) []) = some ps) :
    vDcD fi t bYes ek ev vs kDct δ s = .ok (.p (.dct ps)) s := by
  have d := dcL_data (t := t) (ek := ek) (ev := ev) (δ0 := wipE δ vs) (st := s) enc kf (fun x => D.p (vf x)) xs [] h xs.length 0
  unfold vDcD
  simp only [hi, List.length_map, hl, if_true, d, kDct, hp]
theorem fold_new {α : Type} (kf : α → Key) (vf : α → D) : ∀ (xs : List α) (acc : List (Key × D)), (acc.map (·.1) ++ xs.map kf).Nodup → xs.foldl (fun a x => putX a (kf x) (vf x)) acc = acc ++ xs.map fun x => (kf x, vf x)
  | [], acc, _ => by simp
  | x :: xs, acc, h => by
    have hx : ¬ (acc.any fun kv => decide (kv.1 = kf x)) = true := by
      rw [List.any_eq_true]
      rintro ⟨kv, hk, e⟩
      rw [decide_eq_true_eq] at e
      rw [List.nodup_append] at h
      exact h.2.2 kv.1 (List.mem_map_of_mem hk) (kf x) (by simp) e
    rw [List.foldl_cons]
    have e : putX acc (kf x) (vf x) = acc ++ [(kf x, vf x)] := by unfold putX; rw [if_neg hx]
    rw [e, fold_new kf vf xs _ (by simpa using h)]
    simp
theorem pKs_map {α : Type} (kf : α → Key) (vf : α → P) : ∀ xs : List α, pKs (xs.map fun x => (kf x, D.p (vf x))) = some (xs.map fun x => (kP (kf x), vf x))
  | [] => rfl
  | x :: xs => by
    rw [List.map_cons]
    unfold pKs
    simp only [pKs_map kf vf xs]
    rfl
theorem fold_same {α : Type} (k : Key) (v : D) : ∀ xs : List α, xs.foldl (fun a _ => putX a k v) [(k, v)] = [(k, v)]
  | [] => rfl
  | x :: xs => by
    rw [List.foldl_cons]
    have e : putX [(k, v)] k v = [(k, v)] := by unfold putX; simp
    rw [e]
    exact fold_same k v xs
theorem nd_key {js : List J} (h : (js.map (·.1)).Nodup) : (js.map fun j => (Sum.inr j.1 : Key)).Nodup := by
  have : (js.map fun j => (Sum.inr j.1 : Key)) = (js.map (·.1)).map Sum.inr := by rw [List.map_map]; rfl
  rw [this]
  unfold List.Nodup at *
  rw [List.pairwise_map]
  exact h.imp fun h e => h (by cases e; rfl)
theorem check_ok {B : Nat} {js : List J} (h : JOk B js) (s : Store) : f_check_works [lj js] s = .ok (.p .non) s := by
  have hn := h.n
  have sz : js.length ≤ szLine := by rw [szLine_eq]; omega
  have d1 := vDc_data (fi := itA (vV 0)) (t := tvN 1) (ek := vFld [2] "name" (vV 1)) (ev := vK (.bl true)) (vs := [1]) (δ := [some (lj js), none]) (s := s) ob (fun j => .inr j.1) (fun _ => .bl true) js sz rfl (fun j _ => ⟨_, rfl, rfl, rfl⟩) _ (by
    rw [fold_new _ _ js [] (by simpa using nd_key h.d), List.nil_append]
    exact pKs_map (fun j : J => .inr j.1) (fun _ => .bl true) js)
  obtain ⟨j0, js', rfl⟩ : ∃ j js', js = j :: js' := by
    cases js with
    | nil => simp at hn
    | cons j js' => exact ⟨j, js', rfl⟩
  have d2 := vDc_data (fi := itA (vV 0)) (t := tvN 1) (ek := vCal fLen (aC (vFld [2] "minutes" (vV 1)) (aN))) (ev := vK (.bl true)) (vs := [1]) (δ := [some (lj (j0 :: js')), none]) (s := s) ob (fun _ => .inl (B : Int)) (fun _ => .bl true) (j0 :: js') sz rfl (fun j hj => ⟨_, rfl, by
      have l := h.l j hj
      show Res.ok (D.p (P.int ((j.2.map P.int).length))) s = _
      rw [List.length_map, l]
      rfl, rfl⟩) [(.int B, .bl true)] (by
    rw [List.foldl_cons]
    have e : putX [] (.inl (B : Int)) (D.p (.bl true)) = [(.inl (B : Int), D.p (.bl true))] := rfl
    rw [e, fold_same]
    rfl)
  have ln : fLen [lj (j0 :: js')] s = .ok (.p (.int ((j0 :: js').length : Nat))) s := by
    show Res.ok (D.p (P.int ((((j0 :: js').map ob).length : Nat) : Int))) s = _
    rw [List.length_map]
  have x1 : fLenX [.p (.dct ((j0 :: js').map fun x => (kP (.inr x.1), P.bl true)))] s = .ok (.p (.int ((j0 :: js').length : Nat))) s := by
    unfold fLenX
    simp only [see, Option.bind_some, entP, List.length_map]
  have x2 : fLenX [.p (.dct [(.int B, .bl true)])] s = .ok (.p (.int 1)) s := rfl
  unfold f_check_works b_check_works
  generalize vDcD (itA (vV 0)) (tvN 1) bYes (vFld [2] "name" (vV 1)) (vK (.bl true)) [1] kDct = D1 at *
  generalize vDcD (itA (vV 0)) (tvN 1) bYes (vCal fLen (aC (vFld [2] "minutes" (vV 1)) (aN))) (vK (.bl true)) [1] kDct = D2 at *
  generalize lj (j0 :: js') = L at *
  generalize (j0 :: js').map (fun x => (kP (.inr x.1), P.bl true)) = q at *
  generalize (j0 :: js').length = n at *
  have c1 : (0 : Int) < (n : Int) := by omega
  have c2 : (n : Int) ≤ 7 := by omega
  have c3 : ¬ (n : Int) < n := by omega
  simp (disch := omega) only [bnd_ok, bnd_exc, fnF, startE, sSeq, sIf, sAsg, sRet, sNx, sAug, sPar, sDo, sRaise, bOr, bAnd, bNot, bYes, tstB, v2, vV, vK, aC, aN, vCal, vU, vIf, vCh, vAnd, vFn, oIx, oAdd, oSub, oMul, oDiv, oMod, oNeg, see, seeC, fInt, fAbs_int, fMax_int, fMin_int, ordI_int, retF_same, excF_same, gvN, gvS, gvT, gsC, gsN, iAdd, L2.atI, L2.ixN, mulOk_l, mulOk_r, log_ok, le_t, le_f, lt_t, lt_f, gt_t, gt_f, ge_t, ge_f, List.getElem?_cons_zero, List.getElem?_cons_succ, List.set_cons_zero, List.set_cons_succ, List.length_cons, List.length_nil, List.map_cons, List.map_nil, List.cons_append, List.nil_append, List.append_nil, List.replicate_succ, List.replicate_zero, Nat.zero_add, Nat.reduceAdd, Nat.reduceSub, Nat.reduceLT, Nat.reduceLeDiff, Int.reduceLT, Int.reduceLE, Int.reduceAdd, Int.reduceSub, Int.reduceMul, Int.reduceNeg, decide_true, decide_false, Bool.not_true, Bool.not_false, reduceCtorEq, ↓reduceIte, and_self, and_true, true_and, if_true, if_false, Bool.false_eq_true, if_pos, if_neg, Int.reduceToNat, Int.toNat_zero, Int.toNat_one, Option.bind_some, Option.map_some, pAll, pAll_map, seqP_lst, seqP_tup, seqP_scr, vTup, vLst, vLstM, szLine_eq, vMet, isList, mApp, last_get, last_set, List.length_map, List.length_append, seeC, oIs, Option.map, d1, ln, x1, vCh, ordI, c1, c2, c3]
  try simp (disch := omega) only [bnd_ok, bnd_exc, fnF, startE, sSeq, sIf, sAsg, sRet, sNx, sAug, sPar, sDo, sRaise, bOr, bAnd, bNot, bYes, tstB, v2, vV, vK, aC, aN, vCal, vU, vIf, vCh, vAnd, vFn, oIx, oAdd, oSub, oMul, oDiv, oMod, oNeg, see, seeC, fInt, fAbs_int, fMax_int, fMin_int, ordI_int, retF_same, excF_same, gvN, gvS, gvT, gsC, gsN, iAdd, L2.atI, L2.ixN, mulOk_l, mulOk_r, log_ok, le_t, le_f, lt_t, lt_f, gt_t, gt_f, ge_t, ge_f, List.getElem?_cons_zero, List.getElem?_cons_succ, List.set_cons_zero, List.set_cons_succ, List.length_cons, List.length_nil, List.map_cons, List.map_nil, List.cons_append, List.nil_append, List.append_nil, List.replicate_succ, List.replicate_zero, Nat.zero_add, Nat.reduceAdd, Nat.reduceSub, Nat.reduceLT, Nat.reduceLeDiff, Int.reduceLT, Int.reduceLE, Int.reduceAdd, Int.reduceSub, Int.reduceMul, Int.reduceNeg, decide_true, decide_false, Bool.not_true, Bool.not_false, reduceCtorEq, ↓reduceIte, and_self, and_true, true_and, if_true, if_false, Bool.false_eq_true, if_pos, if_neg, Int.reduceToNat, Int.toNat_zero, Int.toNat_one, Option.bind_some, Option.map_some, pAll, pAll_map, seqP_lst, seqP_tup, seqP_scr, vTup, vLst, vLstM, szLine_eq, vMet, isList, mApp, last_get, last_set, List.length_map, List.length_append, seeC, oIs, Option.map, d2, x2, ordI]
  try simp [d2, x2, retF_same]
end Q11
end

section
set_option linter.all false
set_option maxHeartbeats 4100000
set_option maxRecDepth 10000
open PySem L2 Iv K11
namespace Q11
/-! ### when each is done -/
def stepR (t : Int) : List Int → List Int → List Int
  | f :: fs, m :: ms => (maxI t f + m) :: stepR (maxI t f + m) fs ms
  | _, _ => []
def lastT (t : Int) : List Int → List Int → Int
  | f :: fs, m :: ms => lastT (maxI t f + m) fs ms
  | _, _ => t
def endsL (free : List Int) : List (List Int) → List (List Int)
  | [] => []
  | r :: rs => stepR 0 free r :: endsL (stepR 0 free r) rs
theorem stepR_len : ∀ (fs ms : List Int) (t : Int), fs.length = ms.length → (stepR t fs ms).length = ms.length
  | [], [], t, h => rfl
  | f :: fs, m :: ms, t, h => by
    unfold stepR
    rw [List.length_cons, List.length_cons, stepR_len fs ms _ (by simpa using h)]
def L (xs : List Int) : Cell := .lst ((xs.map P.int).map D.p)
def TP (r : List Int) : P := .tup (r.map .int)
theorem row_get (s g : Store) (a b c : Cell) : (s ++ a :: b :: (g ++ [c]))[s.length + 2 + g.length]? = some c := by
  rw [List.getElem?_append_right (by omega)]
  have : s.length + 2 + g.length - s.length = g.length + 2 := by omega
  rw [this, List.getElem?_cons_succ, List.getElem?_cons_succ]
  simp
theorem row_set (s g : Store) (a b c d : Cell) : (s ++ a :: b :: (g ++ [c])).set (s.length + 2 + g.length) d = s ++ a :: b :: (g ++ [d]) := by
  rw [List.set_append_right _ _ (by omega)]
  have : s.length + 2 + g.length - s.length = g.length + 2 := by omega
  rw [this, List.set_cons_succ, List.set_cons_succ]
  simp
theorem L_at (done fs : List Int) (f : Int) : L2.atI ((((done ++ f :: fs).map P.int).map D.p)) ((done.length : Nat) : Int) = some (D.p (.int f)) := by
  refine Iv.atI_nat ?_
  simp
theorem L_set (done fs : List Int) (f v : Int) : (((done ++ f :: fs).map P.int).map D.p).set done.length (.p (.int v)) = ((done ++ v :: fs).map P.int).map D.p := by
  have l : done.length = ((done.map P.int).map D.p).length := by simp
  rw [List.map_append, List.map_append, List.map_cons, List.map_cons]
  conv => lhs; arg 2; rw [l]
  rw [List.set_append_right _ _ (Nat.le_refl _)]
  simp
def bdE : Sv := sSeq (sAsg (v2 oAdd (vCal (fBest true) (aC (vV 4) (aC (v2 oIx (vV 1) (vV 6)) (aN)))) (vV 7)) (gvN 4))
  (sSeq (sAsg (vV 4) (gvS (vV 1) (vV 6)))
  (sDo (vMet isList mApp (vV 5) (aC (vV 4) (aN)))))
theorem bdE_ok (s g : Store) (done fs : List Int) (f m t : Int) (b : Cell) (hd : done.length ≤ 100) (x0 x3 : Option D) :
    bdE [x0, some (.ref s.length), some (.ref (s.length + 1)), x3, some (.p (.int t)), some (.ref (s.length + 2 + g.length)), some (.p (.int (done.length : Nat))), some (.p (.int m))] (s ++ L (done ++ f :: fs) :: b :: (g ++ [L done]))
    = .nx [x0, some (.ref s.length), some (.ref (s.length + 1)), x3, some (.p (.int (maxI t f + m))), some (.ref (s.length + 2 + g.length)), some (.p (.int (done.length : Nat))), some (.p (.int m))] (s ++ L (done ++ (maxI t f + m) :: fs) :: b :: (g ++ [L (done ++ [maxI t f + m])])) := by
  have g1 : (s ++ L (done ++ f :: fs) :: b :: (g ++ [L done]) : Store)[s.length]? = some (L (done ++ f :: fs)) := ap1 _ _ _
  have e1 : oIx (.ref s.length) (.p (.int (done.length : Nat))) (s ++ L (done ++ f :: fs) :: b :: (g ++ [L done])) = .ok (.p (.int f)) (s ++ L (done ++ f :: fs) :: b :: (g ++ [L done])) := by
    unfold oIx
    simp only [g1]
    unfold L
    simp only [L_at]
  have e2 : oSet (.ref s.length) (.p (.int (done.length : Nat))) (.p (.int (maxI t f + m))) (s ++ L (done ++ f :: fs) :: b :: (g ++ [L done])) = some (s ++ L (done ++ (maxI t f + m) :: fs) :: b :: (g ++ [L done])) := by
    unfold oSet
    simp only [g1]
    unfold L
    have ix : L2.ixN (((done ++ f :: fs).map P.int).map D.p).length ((done.length : Nat) : Int) = some done.length := by
      unfold L2.ixN
      have h1 : ((done.length : Nat) : Int) < ((((done ++ f :: fs).map P.int).map D.p).length : Nat) := by simp; omega
      have h2 : ¬ ((done.length : Nat) : Int) < 0 := by omega
      simp only [h1, h2, if_true, if_false, Int.toNat_natCast]
      try (split <;> first | rfl | omega)
    simp only [ix, L_set]
    rw [sp1]
  have g3 := row_get s g (L (done ++ (maxI t f + m) :: fs)) b (L done)
  have e3 : isList (.ref (s.length + 2 + g.length)) (s ++ L (done ++ (maxI t f + m) :: fs) :: b :: (g ++ [L done])) = true := by
    unfold isList
    simp only [g3]
    rfl
  have e4 : mApp (.ref (s.length + 2 + g.length)) [.p (.int (maxI t f + m))] (s ++ L (done ++ (maxI t f + m) :: fs) :: b :: (g ++ [L done])) = .ok (.p .non) (s ++ L (done ++ (maxI t f + m) :: fs) :: b :: (g ++ [L (done ++ [maxI t f + m])])) := by
    unfold mApp
    simp only [g3]
    unfold L
    simp only [List.length_map]
    rw [if_pos (by rw [szLine_eq]; omega), row_set]
    simp
  unfold bdE
  generalize s ++ L (done ++ f :: fs) :: b :: (g ++ [L done]) = st0 at *
  generalize s ++ L (done ++ (maxI t f + m) :: fs) :: b :: (g ++ [L done]) = st1 at *
  generalize s ++ L (done ++ (maxI t f + m) :: fs) :: b :: (g ++ [L (done ++ [maxI t f + m])]) = st2 at *
  generalize s.length + 2 + g.length = n3 at *
  have mx := fMax_int t f st0
  unfold sSeq sAsg sDo gvS vMet
  simp only [v2, vV, vCal, aC, aN, bnd_ok, List.getElem?_cons_zero, List.getElem?_cons_succ, e1, mx, oAdd, gvN, List.set_cons_zero, List.set_cons_succ, e2, e3, e4, List.length_cons, List.length_nil]
  simp [e2, e3, e4]
end Q11
end

section
set_option linter.all false
set_option maxHeartbeats 4100000
set_option maxRecDepth 10000
open PySem L2 Iv K11
namespace Q11
def tgE : Gv := gvT 2 (gsC (gvN 6) (gsC (gvN 7) (gsN)))
theorem inE (s g : Store) (b : Cell) (x0 x3 : Option D) : ∀ (ms fs done : List Int) (t : Int) (x6 x7 : Option D), fs.length = ms.length → done.length + ms.length ≤ 100 → ∀ len n, ∃ x6' x7', sFor none len tgE bdE (((ms.map P.int).zipIdx done.length).map fun z => D.p (.tup [.int (z.2 : Nat), z.1])) n [x0, some (.ref s.length), some (.ref (s.length + 1)), x3, some (.p (.int t)), some (.ref (s.length + 2 + g.length)), x6, x7] (s ++ L (done ++ fs) :: b :: (g ++ [L done]))
    = .nx [x0, some (.ref s.length), some (.ref (s.length + 1)), x3, some (.p (.int (lastT t fs ms))), some (.ref (s.length + 2 + g.length)), x6', x7'] (s ++ L (done ++ stepR t fs ms) :: b :: (g ++ [L (done ++ stepR t fs ms)]))
  | [], [], done, t, x6, x7, _, _, len, n => ⟨x6, x7, by
    rw [show stepR t [] [] = [] from rfl, List.append_nil]
    rfl⟩
  | m :: ms, f :: fs, done, t, x6, x7, h1, h2, len, n => by
    rw [List.length_cons] at h2
    obtain ⟨x6', x7', ih⟩ := inE s g b x0 x3 ms fs (done ++ [maxI t f + m]) (maxI t f + m) (some (.p (.int (done.length : Nat)))) (some (.p (.int m))) (by simpa using h1) (by rw [List.length_append, List.length_cons, List.length_nil]; omega) len (n + 1)
    refine ⟨x6', x7', ?_⟩
    have bd := bdE_ok s g done fs f m t b (by omega) x0 x3
    rw [List.length_append, List.length_cons, List.length_nil] at ih
    rw [List.append_assoc, List.append_assoc] at ih
    rw [List.map_cons, List.zipIdx_cons, List.map_cons]
    unfold sFor getI
    have tg : tgE (.p (.tup [.int (done.length : Nat), .int m])) [x0, some (.ref s.length), some (.ref (s.length + 1)), x3, some (.p (.int t)), some (.ref (s.length + 2 + g.length)), x6, x7] (s ++ L (done ++ f :: fs) :: b :: (g ++ [L done])) = .nx [x0, some (.ref s.length), some (.ref (s.length + 1)), x3, some (.p (.int t)), some (.ref (s.length + 2 + g.length)), some (.p (.int (done.length : Nat))), some (.p (.int m))] (s ++ L (done ++ f :: fs) :: b :: (g ++ [L done])) := rfl
    simp only [tg, bd]
    exact ih
def RC (rs : List (List Int)) : Cell := .lst ((rs.map TP).map D.p)
def bdO : Sv := sSeq (sPar 4 5 (aC (vK (.int 0)) (aC (vLstM (aN)) (aN))))
  (sSeq (sForI (itE (aC (vFld [2] "minutes" (vV 3)) (aN))) tgE bdE)
  (sDo (vMet isList mApp (vV 2) (aC (vCal fTup (aC (vV 5) (aN))) (aN)))))
theorem see_L (s g : Store) (a b : Cell) (xs : List Int) : fTup [.ref (s.length + 2 + g.length)] (s ++ a :: b :: (g ++ [L xs])) = .ok (.p (TP xs)) (s ++ a :: b :: (g ++ [L xs])) := by
  have h := row_get s g a b (L xs)
  unfold fTup
  simp only [see, h]
  unfold L
  simp only [seeC, pAll_map]
  rfl
theorem bdO_ok (s g : Store) (free : List Int) (found : List (List Int)) (j : J) (hl : free.length = j.2.length) (h4 : j.2.length ≤ 4) (hf : found.length ≤ 100) (x0 x4 x5 x6 x7 : Option D) : ∃ x4' x5' x6' x7' g', bdO [x0, some (.ref s.length), some (.ref (s.length + 1)), some (.p (ob j)), x4, x5, x6, x7] (s ++ L free :: RC found :: g)
    = .nx [x0, some (.ref s.length), some (.ref (s.length + 1)), some (.p (ob j)), x4', x5', x6', x7'] (s ++ L (stepR 0 free j.2) :: RC (found ++ [stepR 0 free j.2]) :: g') := by
  have sz0 : 0 ≤ szLine := by decide
  have ln : (s ++ L free :: RC found :: g : Store).length = s.length + 2 + g.length := by simp; omega
  have ap : (s ++ L free :: RC found :: g) ++ [Cell.lst []] = s ++ L free :: RC found :: (g ++ [L []]) := by simp [L]
  have a1 : sPar 4 5 (aC (vK (.int 0)) (aC (vLstM (aN)) (aN))) [x0, some (.ref s.length), some (.ref (s.length + 1)), some (.p (ob j)), x4, x5, x6, x7] (s ++ L free :: RC found :: g) = .nx [x0, some (.ref s.length), some (.ref (s.length + 1)), some (.p (ob j)), some (.p (.int 0)), some (.ref (s.length + 2 + g.length)), x6, x7] (s ++ L free :: RC found :: (g ++ [L []])) := by
    rw [← ap, ← ln]
    generalize s ++ L free :: RC found :: g = st0
    generalize ob j = o
    simp (disch := omega) only [bnd_ok, bnd_exc, fnF, startE, sSeq, sIf, sAsg, sRet, sNx, sAug, sPar, sDo, sRaise, bOr, bAnd, bNot, bYes, tstB, v2, vV, vK, aC, aN, vCal, vU, vIf, vCh, vAnd, vFn, oIx, oAdd, oSub, oMul, oDiv, oMod, oNeg, see, seeC, fInt, fAbs_int, fMax_int, fMin_int, ordI_int, retF_same, excF_same, gvN, gvS, gvT, gsC, gsN, iAdd, L2.atI, L2.ixN, mulOk_l, mulOk_r, log_ok, le_t, le_f, lt_t, lt_f, gt_t, gt_f, ge_t, ge_f, List.getElem?_cons_zero, List.getElem?_cons_succ, List.set_cons_zero, List.set_cons_succ, List.length_cons, List.length_nil, List.map_cons, List.map_nil, List.cons_append, List.nil_append, List.append_nil, List.replicate_succ, List.replicate_zero, Nat.zero_add, Nat.reduceAdd, Nat.reduceSub, Nat.reduceLT, Nat.reduceLeDiff, Int.reduceLT, Int.reduceLE, Int.reduceAdd, Int.reduceSub, Int.reduceMul, Int.reduceNeg, decide_true, decide_false, Bool.not_true, Bool.not_false, reduceCtorEq, ↓reduceIte, and_self, and_true, true_and, if_true, if_false, Bool.false_eq_true, if_pos, if_neg, Int.reduceToNat, Int.toNat_zero, Int.toNat_one, Option.bind_some, Option.map_some, pAll, pAll_map, seqP_lst, seqP_tup, seqP_scr, vTup, vLst, vLstM, szLine_eq, vMet, isList, mApp, last_get, last_set, List.length_map, List.length_append, seeC, oIs, Option.map, sz0]
  obtain ⟨x6', x7', e⟩ := inE s g (RC found) x0 (some (.p (ob j))) j.2 free [] 0 x6 x7 hl (by simpa using Nat.le_trans h4 (by decide)) 0 0
  have a2 : sForI (itE (aC (vFld [2] "minutes" (vV 3)) (aN))) tgE bdE [x0, some (.ref s.length), some (.ref (s.length + 1)), some (.p (ob j)), some (.p (.int 0)), some (.ref (s.length + 2 + g.length)), x6, x7] (s ++ L free :: RC found :: (g ++ [L []])) = .nx [x0, some (.ref s.length), some (.ref (s.length + 1)), some (.p (ob j)), some (.p (.int (lastT 0 free j.2))), some (.ref (s.length + 2 + g.length)), x6', x7'] (s ++ L (stepR 0 free j.2) :: RC found :: (g ++ [L (stepR 0 free j.2)])) := by
    refine forI_of (ds := ((j.2.map P.int).zipIdx 0).map fun z => D.p (.tup [.int (z.2 : Nat), z.1])) ?_ fun len => (sFor_len len 0).trans e
    have : ((j.2.map P.int).zipIdx 0).map (fun z => D.p (.tup [.int (z.2 : Nat), z.1])) = (enumP (j.2.map P.int)).map D.p := by
      unfold enumP
      rw [List.map_map]
      rfl
    rw [this]
    rfl
  have g3 : (s ++ L (stepR 0 free j.2) :: RC found :: (g ++ [L (stepR 0 free j.2)]) : Store)[s.length + 1]? = some (RC found) := ap2 _ _ _ _
  have t3 := see_L s g (L (stepR 0 free j.2)) (RC found) (stepR 0 free j.2)
  have i3 : isList (.ref (s.length + 1)) (s ++ L (stepR 0 free j.2) :: RC found :: (g ++ [L (stepR 0 free j.2)])) = true := by
    unfold isList
    simp only [g3]
    rfl
  have m3 : mApp (.ref (s.length + 1)) [.p (TP (stepR 0 free j.2))] (s ++ L (stepR 0 free j.2) :: RC found :: (g ++ [L (stepR 0 free j.2)])) = .ok (.p .non) (s ++ L (stepR 0 free j.2) :: RC (found ++ [stepR 0 free j.2]) :: (g ++ [L (stepR 0 free j.2)])) := by
    unfold mApp
    simp only [g3]
    unfold RC
    simp only [List.length_map]
    rw [if_pos (by rw [szLine_eq]; omega), sp2]
    simp
  refine ⟨some (.p (.int (lastT 0 free j.2))), some (.ref (s.length + 2 + g.length)), x6', x7', g ++ [L (stepR 0 free j.2)], (seqn a1).trans ((seqn a2).trans ?_)⟩
  generalize s ++ L (stepR 0 free j.2) :: RC found :: (g ++ [L (stepR 0 free j.2)]) = st0 at *
  generalize s ++ L (stepR 0 free j.2) :: RC (found ++ [stepR 0 free j.2]) :: (g ++ [L (stepR 0 free j.2)]) = st1 at *
  generalize s.length + 2 + g.length = n3 at *
  unfold sDo vMet
  simp only [vV, vCal, aC, aN, bnd_ok, List.getElem?_cons_zero, List.getElem?_cons_succ, i3, t3, m3, if_true]
theorem outE (s : Store) (x0 : Option D) : ∀ (js : List J) (free : List Int) (found : List (List Int)) (g : Store) (x3 x4 x5 x6 x7 : Option D), (∀ j ∈ js, free.length = j.2.length ∧ j.2.length ≤ 4) → found.length + js.length ≤ 100 → ∀ len n, ∃ x3' x4' x5' x6' x7' f' g', sFor none len (gvN 3) bdO ((js.map ob).map D.p) n [x0, some (.ref s.length), some (.ref (s.length + 1)), x3, x4, x5, x6, x7] (s ++ L free :: RC found :: g)
    = .nx [x0, some (.ref s.length), some (.ref (s.length + 1)), x3', x4', x5', x6', x7'] (s ++ f' :: RC (found ++ endsL free (js.map (·.2))) :: g')
  | [], free, found, g, x3, x4, x5, x6, x7, _, _, len, n => ⟨x3, x4, x5, x6, x7, L free, g, by
    rw [show endsL free (([] : List J).map (·.2)) = [] from rfl, List.append_nil]
    rfl⟩
  | j :: js, free, found, g, x3, x4, x5, x6, x7, h1, h2, len, n => by
    rw [List.length_cons] at h2
    have hj := h1 j (List.mem_cons_self ..)
    have sl := stepR_len free j.2 0 hj.1
    obtain ⟨y4, y5, y6, y7, g1, e1⟩ := bdO_ok s g free found j hj.1 hj.2 (by omega) x0 x4 x5 x6 x7
    obtain ⟨z3, z4, z5, z6, z7, f', g', ih⟩ := outE s x0 js (stepR 0 free j.2) (found ++ [stepR 0 free j.2]) g1 (some (.p (ob j))) y4 y5 y6 y7 (fun j' hj' => by
      have := h1 j' (List.mem_cons_of_mem _ hj')
      omega) (by rw [List.length_append, List.length_cons, List.length_nil]; omega) len (n + 1)
    refine ⟨z3, z4, z5, z6, z7, f', g', ?_⟩
    rw [List.map_cons, List.map_cons, List.map_cons]
    unfold sFor getI
    have tg : gvN 3 (.p (ob j)) [x0, some (.ref s.length), some (.ref (s.length + 1)), x3, x4, x5, x6, x7] (s ++ L free :: RC found :: g) = .nx [x0, some (.ref s.length), some (.ref (s.length + 1)), some (.p (ob j)), x4, x5, x6, x7] (s ++ L free :: RC found :: g) := rfl
    simp only [tg, e1]
    rw [ih, show endsL free (j.2 :: js.map (·.2)) = stepR 0 free j.2 :: endsL (stepR 0 free j.2) (js.map (·.2)) from rfl, List.append_assoc]
    rfl
def zer (B : Nat) : List Int := List.replicate B 0
theorem ends_ok {B : Nat} {js : List J} (h : JOk B js) (s : Store) (w0 : WfS s) : f_ends_of [lj js] s = .ok (.p (.tup ((endsL (zer B) (js.map (·.2))).map TP))) s := by
  have ck := check_ok h s
  have hn := h.n
  have hb := h.b
  obtain ⟨x3, x4, x5, x6, x7, f', g', e⟩ := outE s (some (lj js)) js (zer B) [] [] none none none none none (fun j hj => by
    have := h.l j hj
    unfold zer
    rw [List.length_replicate]
    omega) (by simp; omega) 0 0
  rw [List.nil_append] at e
  have lp : sForI (itA (vV 0)) (gvN 3) bdO [some (lj js), some (.ref s.length), some (.ref (s.length + 1)), none, none, none, none, none] (s ++ [L (zer B), RC []]) = .nx [some (lj js), some (.ref s.length), some (.ref (s.length + 1)), x3, x4, x5, x6, x7] (s ++ f' :: RC (endsL (zer B) (js.map (·.2))) :: g') :=
    forI_of (ds := (js.map ob).map D.p) rfl fun len => (sFor_len len 0).trans e
  obtain ⟨j0, js', rfl⟩ : ∃ j js', js = j :: js' := by
    cases js with
    | nil => simp at hn
    | cons j js' => exact ⟨j, js', rfl⟩
  have hl0 := h.l j0 (List.mem_cons_self ..)
  have p1 : sPar 1 2 (aC (v2 oMulM (vLst (aC (vK (.int 0)) (aN))) (vCal fLen (aC (vFld [2] "minutes" (v2 oIx (vV 0) (vK (.int 0)))) (aN)))) (aC (vLstM (aN)) (aN))) [some (lj (j0 :: js')), none, none, none, none, none, none, none] s = .nx [some (lj (j0 :: js')), some (.ref s.length), some (.ref (s.length + 1)), none, none, none, none, none] (s ++ [L (zer B), RC []]) := by
    have at0 : L2.atI (ob j0 :: js'.map ob) 0 = some (ob j0) := Iv.atI_nat (i := 0) rfl
    have i0 : v2 oIx (vV 0) (vK (.int 0)) [some (lj (j0 :: js')), none, none, none, none, none, none, none] s = .ok (.p (ob j0)) s := by
      refine (v2_of (x := lj (j0 :: js')) (y := .p (.int 0)) rfl rfl).trans ?_
      show oIx (.p (.lst (ob j0 :: js'.map ob))) _ _ = _
      unfold oIx
      simp only [seqP_lst, at0]
    have l0 : vCal fLen (aC (vFld [2] "minutes" (v2 oIx (vV 0) (vK (.int 0)))) (aN)) [some (lj (j0 :: js')), none, none, none, none, none, none, none] s = .ok (.p (.int B)) s := by
      refine (cal1_of (d := .p (TP j0.2)) (s1 := s) ?_).trans ?_
      · unfold vFld
        rw [i0]
        rfl
      · show Res.ok (D.p (P.int ((j0.2.map P.int).length : Nat))) s = _
        rw [List.length_map, hl0]
    have mu : v2 oMulM (vLst (aC (vK (.int 0)) (aN))) (vCal fLen (aC (vFld [2] "minutes" (v2 oIx (vV 0) (vK (.int 0)))) (aN))) [some (lj (j0 :: js')), none, none, none, none, none, none, none] s = .ok (.ref s.length) (s ++ [L (zer B)]) := by
      refine (v2_of (x := .p (.lst [.int 0])) (y := .p (.int B)) rfl l0).trans ?_
      have hh : B = 1 ∨ B = 2 ∨ B = 3 ∨ B = 4 := by omega
      rcases hh with rfl | rfl | rfl | rfl <;> rfl
    have la : (s ++ [L (zer B)] : Store).length = s.length + 1 := by simp
    have sz0 : 0 ≤ szLine := by decide
    generalize v2 oMulM (vLst (aC (vK (.int 0)) (aN))) (vCal fLen (aC (vFld [2] "minutes" (v2 oIx (vV 0) (vK (.int 0)))) (aN))) = M at *
    generalize lj (j0 :: js') = q at *
    simp (disch := omega) only [bnd_ok, bnd_exc, fnF, startE, sSeq, sIf, sAsg, sRet, sNx, sAug, sPar, sDo, sRaise, bOr, bAnd, bNot, bYes, tstB, v2, vV, vK, aC, aN, vCal, vU, vIf, vCh, vAnd, vFn, oIx, oAdd, oSub, oMul, oDiv, oMod, oNeg, see, seeC, fInt, fAbs_int, fMax_int, fMin_int, ordI_int, retF_same, excF_same, gvN, gvS, gvT, gsC, gsN, iAdd, L2.atI, L2.ixN, mulOk_l, mulOk_r, log_ok, le_t, le_f, lt_t, lt_f, gt_t, gt_f, ge_t, ge_f, List.getElem?_cons_zero, List.getElem?_cons_succ, List.set_cons_zero, List.set_cons_succ, List.length_cons, List.length_nil, List.map_cons, List.map_nil, List.cons_append, List.nil_append, List.append_nil, List.replicate_succ, List.replicate_zero, Nat.zero_add, Nat.reduceAdd, Nat.reduceSub, Nat.reduceLT, Nat.reduceLeDiff, Int.reduceLT, Int.reduceLE, Int.reduceAdd, Int.reduceSub, Int.reduceMul, Int.reduceNeg, decide_true, decide_false, Bool.not_true, Bool.not_false, reduceCtorEq, ↓reduceIte, and_self, and_true, true_and, if_true, if_false, Bool.false_eq_true, if_pos, if_neg, Int.reduceToNat, Int.toNat_zero, Int.toNat_one, Option.bind_some, Option.map_some, pAll, pAll_map, seqP_lst, seqP_tup, seqP_scr, vTup, vLst, vLstM, szLine_eq, vMet, isList, mApp, last_get, last_set, List.length_map, List.length_append, seeC, oIs, Option.map, mu, la, sz0]
    simp [RC]
  have tp : fTup [.ref (s.length + 1)] (s ++ f' :: RC (endsL (zer B) ((j0 :: js').map (·.2))) :: g') = .ok (.p (.tup ((endsL (zer B) ((j0 :: js').map (·.2))).map TP))) (s ++ f' :: RC (endsL (zer B) ((j0 :: js').map (·.2))) :: g') := by
    have h := ap2 s f' (RC (endsL (zer B) ((j0 :: js').map (·.2)))) g'
    unfold fTup
    simp only [see, h]
    unfold RC
    simp only [seeC, pAll_map]
    rfl
  have rt : retF s.length (.p (.tup ((endsL (zer B) ((j0 :: js').map (·.2))).map TP))) (s ++ f' :: RC (endsL (zer B) ((j0 :: js').map (·.2))) :: g') = .ok (.p (.tup ((endsL (zer B) ((j0 :: js').map (·.2))).map TP))) s := retF_own w0 _ _
  show fnF false 8 1 (sSeq (sDo (vFn f_check_works (aC (vV 0) (aN)) [])) (sSeq (sPar 1 2 (aC (v2 oMulM (vLst (aC (vK (.int 0)) (aN))) (vCal fLen (aC (vFld [2] "minutes" (v2 oIx (vV 0) (vK (.int 0)))) (aN)))) (aC (vLstM (aN)) (aN)))) (sSeq (sForI (itA (vV 0)) (gvN 3) bdO) (sRet (vCal fTup (aC (vV 2) (aN))))))) _ s = _
  generalize sForI (itA (vV 0)) (gvN 3) bdO = B1 at *
  generalize sPar 1 2 (aC (v2 oMulM (vLst (aC (vK (.int 0)) (aN))) (vCal fLen (aC (vFld [2] "minutes" (v2 oIx (vV 0) (vK (.int 0)))) (aN)))) (aC (vLstM (aN)) (aN))) = B2 at *
  generalize lj (j0 :: js') = q at *
  generalize s ++ f' :: RC (endsL (zer B) ((j0 :: js').map (·.2))) :: g' = st2 at *
  generalize s ++ [L (zer B), RC []] = st1 at *
  generalize (endsL (zer B) ((j0 :: js').map (·.2))).map TP = r at *
  simp (disch := omega) only [bnd_ok, bnd_exc, fnF, startE, sSeq, sIf, sAsg, sRet, sNx, sAug, sPar, sDo, sRaise, bOr, bAnd, bNot, bYes, tstB, v2, vV, vK, aC, aN, vCal, vU, vIf, vCh, vAnd, vFn, oIx, oAdd, oSub, oMul, oDiv, oMod, oNeg, see, seeC, fInt, fAbs_int, fMax_int, fMin_int, ordI_int, retF_same, excF_same, gvN, gvS, gvT, gsC, gsN, iAdd, L2.atI, L2.ixN, mulOk_l, mulOk_r, log_ok, le_t, le_f, lt_t, lt_f, gt_t, gt_f, ge_t, ge_f, List.getElem?_cons_zero, List.getElem?_cons_succ, List.set_cons_zero, List.set_cons_succ, List.length_cons, List.length_nil, List.map_cons, List.map_nil, List.cons_append, List.nil_append, List.append_nil, List.replicate_succ, List.replicate_zero, Nat.zero_add, Nat.reduceAdd, Nat.reduceSub, Nat.reduceLT, Nat.reduceLeDiff, Int.reduceLT, Int.reduceLE, Int.reduceAdd, Int.reduceSub, Int.reduceMul, Int.reduceNeg, decide_true, decide_false, Bool.not_true, Bool.not_false, reduceCtorEq, ↓reduceIte, and_self, and_true, true_and, if_true, if_false, Bool.false_eq_true, if_pos, if_neg, Int.reduceToNat, Int.toNat_zero, Int.toNat_one, Option.bind_some, Option.map_some, pAll, pAll_map, seqP_lst, seqP_tup, seqP_scr, vTup, vLst, vLstM, szLine_eq, vMet, isList, mApp, last_get, last_set, List.length_map, List.length_append, seeC, oIs, Option.map, ck, p1, lp, tp, rt]
end Q11
end

section
set_option linter.all false
set_option maxHeartbeats 4100000
set_option maxRecDepth 10000
open PySem L2 Iv K11
namespace Q11
/-! ### the law's own ends -/
def tgL : Gv := gvT 2 (gsC (gvN 5) (gsC (gvN 6) (gsN)))
def bdL : Sv := sSeq (sAsg (vIf (tstB (v2 (oOrd .gt) (vV 5) (vK (.int 0)))) (v2 oIx (vV 4) (v2 oSub (vV 5) (vK (.int 1)))) (vK (.int 0))) (gvN 7))
  (sSeq (sAsg (vIf (tstB (v2 (oOrd .gt) (vV 2) (vK (.int 0)))) (v2 oIx (v2 oIx (vV 1) (v2 oSub (vV 2) (vK (.int 1)))) (vV 5)) (vK (.int 0))) (gvN 8))
  (sAsg (v2 oAdd (vV 4) (vLst (aC (v2 oAdd (vCal (fBest true) (aC (vV 7) (aC (vV 8) (aN)))) (vV 6)) (aN)))) (gvN 4)))
theorem ix_lst (xs : List Int) (i : Nat) (x : Int) (h : xs[i]? = some x) (s : Store) : oIx (.p (.lst (xs.map .int))) (.p (.int (i : Nat))) s = .ok (.p (.int x)) s := by
  have : L2.atI (xs.map P.int) (i : Int) = some (.int x) := Iv.atI_nat (by rw [List.getElem?_map, h]; rfl)
  unfold oIx
  simp only [seqP_lst, this]
theorem ix_tup (xs : List Int) (i : Nat) (x : Int) (h : xs[i]? = some x) (s : Store) : oIx (.p (TP xs)) (.p (.int (i : Nat))) s = .ok (.p (.int x)) s := by
  have : L2.atI (xs.map P.int) (i : Int) = some (.int x) := Iv.atI_nat (by rw [List.getElem?_map, h]; rfl)
  unfold oIx TP
  simp only [seqP_tup, this]
theorem bdL_ok (s : Store) (found : List (List Int)) (k : Nat) (done : List Int) (t f m : Int) (hfr : (k = 0 ∧ f = 0) ∨ (0 < k ∧ ∃ pr, found[k - 1]? = some pr ∧ pr[done.length]? = some f)) (ht : (done = [] ∧ t = 0) ∨ (∃ d, done = d ++ [t])) (hd : done.length ≤ 100) (x0 x3 x7 x8 : Option D) :
    bdL [x0, some (.ref s.length), some (.p (.int (k : Nat))), x3, some (.p (.lst (done.map .int))), some (.p (.int (done.length : Nat))), some (.p (.int m)), x7, x8] (s ++ [RC found])
    = .nx [x0, some (.ref s.length), some (.p (.int (k : Nat))), x3, some (.p (.lst ((done ++ [maxI t f + m]).map .int))), some (.p (.int (done.length : Nat))), some (.p (.int m)), some (.p (.int t)), some (.p (.int f))] (s ++ [RC found]) := by
  have a7 : vIf (tstB (v2 (oOrd .gt) (vV 5) (vK (.int 0)))) (v2 oIx (vV 4) (v2 oSub (vV 5) (vK (.int 1)))) (vK (.int 0)) [x0, some (.ref s.length), some (.p (.int (k : Nat))), x3, some (.p (.lst (done.map .int))), some (.p (.int (done.length : Nat))), some (.p (.int m)), x7, x8] (s ++ [RC found]) = .ok (.p (.int t)) (s ++ [RC found]) := by
    generalize s ++ [RC found] = st
    rcases ht with ⟨rfl, rfl⟩ | ⟨d, rfl⟩
    · have c : ¬ (0 : Int) < (([] : List Int).length : Nat) := by simp
      simp (disch := omega) only [bnd_ok, bnd_exc, fnF, startE, sSeq, sIf, sAsg, sRet, sNx, sAug, sPar, sDo, sRaise, bOr, bAnd, bNot, bYes, tstB, v2, vV, vK, aC, aN, vCal, vU, vIf, vCh, vAnd, vFn, oIx, oAdd, oSub, oMul, oDiv, oMod, oNeg, see, seeC, fInt, fAbs_int, fMax_int, fMin_int, ordI_int, retF_same, excF_same, gvN, gvS, gvT, gsC, gsN, iAdd, L2.atI, L2.ixN, mulOk_l, mulOk_r, log_ok, le_t, le_f, lt_t, lt_f, gt_t, gt_f, ge_t, ge_f, List.getElem?_cons_zero, List.getElem?_cons_succ, List.set_cons_zero, List.set_cons_succ, List.length_cons, List.length_nil, List.map_cons, List.map_nil, List.cons_append, List.nil_append, List.append_nil, List.replicate_succ, List.replicate_zero, Nat.zero_add, Nat.reduceAdd, Nat.reduceSub, Nat.reduceLT, Nat.reduceLeDiff, Int.reduceLT, Int.reduceLE, Int.reduceAdd, Int.reduceSub, Int.reduceMul, Int.reduceNeg, decide_true, decide_false, Bool.not_true, Bool.not_false, reduceCtorEq, ↓reduceIte, and_self, and_true, true_and, if_true, if_false, Bool.false_eq_true, if_pos, if_neg, Int.reduceToNat, Int.toNat_zero, Int.toNat_one, Option.bind_some, Option.map_some, pAll, pAll_map, seqP_lst, seqP_tup, seqP_scr, vTup, vLst, vLstM, szLine_eq, vMet, isList, mApp, last_get, last_set, List.length_map, List.length_append, seeC, oIs, Option.map, ordI, c]
      rfl
    · have c : (0 : Int) < ((d ++ [t]).length : Nat) := by simp
      have e := ix_lst (d ++ [t]) d.length t (by simp) st
      have e2 : (((d ++ [t]).length : Nat) : Int) - 1 = (d.length : Nat) := by simp
      generalize (d ++ [t]).map P.int = q at *
      generalize (((d ++ [t]).length : Nat) : Int) = n at *
      unfold vIf tstB
      simp only [v2, vV, vK, bnd_ok, List.getElem?_cons_zero, List.getElem?_cons_succ, oOrd, ordI, c, decide_true, if_true, oSub, e2, e]
  have a8 : vIf (tstB (v2 (oOrd .gt) (vV 2) (vK (.int 0)))) (v2 oIx (v2 oIx (vV 1) (v2 oSub (vV 2) (vK (.int 1)))) (vV 5)) (vK (.int 0)) [x0, some (.ref s.length), some (.p (.int (k : Nat))), x3, some (.p (.lst (done.map .int))), some (.p (.int (done.length : Nat))), some (.p (.int m)), some (.p (.int t)), x8] (s ++ [RC found]) = .ok (.p (.int f)) (s ++ [RC found]) := by
    rcases hfr with ⟨rfl, rfl⟩ | ⟨hk, pr, h1, h2⟩
    · generalize s ++ [RC found] = st
      generalize done.map P.int = q
      generalize ((done.length : Nat) : Int) = n
      rfl
    · have c : (0 : Int) < (k : Nat) := by omega
      have e2 : ((k : Nat) : Int) - 1 = ((k - 1 : Nat) : Int) := by omega
      have g1 : (s ++ [RC found] : Store)[s.length]? = some (RC found) := ap1 _ _ _
      have e3 : oIx (.ref s.length) (.p (.int ((k - 1 : Nat) : Int))) (s ++ [RC found]) = .ok (.p (TP pr)) (s ++ [RC found]) := by
        have : L2.atI ((found.map TP).map D.p) ((k - 1 : Nat) : Int) = some (.p (TP pr)) := Iv.atI_nat (by rw [List.getElem?_map, List.getElem?_map, h1]; rfl)
        unfold oIx
        simp only [g1]
        unfold RC
        simp only [this]
      have e4 := ix_tup pr done.length f h2 (s ++ [RC found])
      generalize s ++ [RC found] = st at *
      generalize done.map P.int = q at *
      generalize ((done.length : Nat) : Int) = n at *
      generalize ((k - 1 : Nat) : Int) = k1 at *
      generalize ((k : Nat) : Int) = k0 at *
      unfold vIf tstB
      simp only [v2, vV, vK, bnd_ok, List.getElem?_cons_zero, List.getElem?_cons_succ, oOrd, ordI, c, decide_true, if_true, oSub, e2, e3, e4]
  have a9 : v2 oAdd (vV 4) (vLst (aC (v2 oAdd (vCal (fBest true) (aC (vV 7) (aC (vV 8) (aN)))) (vV 6)) (aN))) [x0, some (.ref s.length), some (.p (.int (k : Nat))), x3, some (.p (.lst (done.map .int))), some (.p (.int (done.length : Nat))), some (.p (.int m)), some (.p (.int t)), some (.p (.int f))] (s ++ [RC found]) = .ok (.p (.lst ((done ++ [maxI t f + m]).map .int))) (s ++ [RC found]) := by
    have l : (done.map P.int).length ≤ 999999 := by rw [List.length_map]; omega
    rw [List.map_append, List.map_cons, List.map_nil]
    generalize s ++ [RC found] = st
    generalize done.map P.int = q at *
    have sz1 : 1 ≤ szLine := by decide
    simp (disch := omega) only [bnd_ok, bnd_exc, fnF, startE, sSeq, sIf, sAsg, sRet, sNx, sAug, sPar, sDo, sRaise, bOr, bAnd, bNot, bYes, tstB, v2, vV, vK, aC, aN, vCal, vU, vIf, vCh, vAnd, vFn, oIx, oAdd, oSub, oMul, oDiv, oMod, oNeg, see, seeC, fInt, fAbs_int, fMax_int, fMin_int, ordI_int, retF_same, excF_same, gvN, gvS, gvT, gsC, gsN, iAdd, L2.atI, L2.ixN, mulOk_l, mulOk_r, log_ok, le_t, le_f, lt_t, lt_f, gt_t, gt_f, ge_t, ge_f, List.getElem?_cons_zero, List.getElem?_cons_succ, List.set_cons_zero, List.set_cons_succ, List.length_cons, List.length_nil, List.map_cons, List.map_nil, List.cons_append, List.nil_append, List.append_nil, List.replicate_succ, List.replicate_zero, Nat.zero_add, Nat.reduceAdd, Nat.reduceSub, Nat.reduceLT, Nat.reduceLeDiff, Int.reduceLT, Int.reduceLE, Int.reduceAdd, Int.reduceSub, Int.reduceMul, Int.reduceNeg, decide_true, decide_false, Bool.not_true, Bool.not_false, reduceCtorEq, ↓reduceIte, and_self, and_true, true_and, if_true, if_false, Bool.false_eq_true, if_pos, if_neg, Int.reduceToNat, Int.toNat_zero, Int.toNat_one, Option.bind_some, Option.map_some, pAll, pAll_map, seqP_lst, seqP_tup, seqP_scr, vTup, vLst, vLstM, szLine_eq, vMet, isList, mApp, last_get, last_set, List.length_map, List.length_append, seeC, oIs, Option.map, l, sz1]
  exact (seqn (asg_nx a7 rfl)).trans ((seqn (asg_nx a8 rfl)).trans (asg_nx a9 rfl))
theorem inL (s : Store) (found : List (List Int)) (k : Nat) (x0 x3 : Option D) : ∀ (ms fs pre done : List Int) (t : Int) (x5 x6 x7 x8 : Option D), fs.length = ms.length → pre.length = done.length → ((k = 0 ∧ ∀ x ∈ fs, x = 0) ∨ (0 < k ∧ found[k - 1]? = some (pre ++ fs))) → ((done = [] ∧ t = 0) ∨ (∃ d, done = d ++ [t])) → done.length + ms.length ≤ 100 → ∀ len n, ∃ x5' x6' x7' x8', sFor none len tgL bdL (((ms.map P.int).zipIdx done.length).map fun z => D.p (.tup [.int (z.2 : Nat), z.1])) n [x0, some (.ref s.length), some (.p (.int (k : Nat))), x3, some (.p (.lst (done.map .int))), x5, x6, x7, x8] (s ++ [RC found])
    = .nx [x0, some (.ref s.length), some (.p (.int (k : Nat))), x3, some (.p (.lst ((done ++ stepR t fs ms).map .int))), x5', x6', x7', x8'] (s ++ [RC found])
  | [], [], pre, done, t, x5, x6, x7, x8, _, _, _, _, _, len, n => ⟨x5, x6, x7, x8, by
    rw [show stepR t [] [] = [] from rfl, List.append_nil]
    rfl⟩
  | m :: ms, f :: fs, pre, done, t, x5, x6, x7, x8, h1, h2, h3, h4, h5, len, n => by
    rw [List.length_cons] at h5
    have bd := bdL_ok s found k done t f m (by
      rcases h3 with ⟨a, b⟩ | ⟨a, b⟩
      · exact .inl ⟨a, b f (List.mem_cons_self ..)⟩
      · refine .inr ⟨a, _, b, ?_⟩
        rw [← h2]
        simp) h4 (by omega) x0 x3 x7 x8
    obtain ⟨x5', x6', x7', x8', ih⟩ := inL s found k x0 x3 ms fs (pre ++ [f]) (done ++ [maxI t f + m]) (maxI t f + m) (some (.p (.int (done.length : Nat)))) (some (.p (.int m))) (some (.p (.int t))) (some (.p (.int f))) (by simpa using h1) (by simp [h2]) (by
      rcases h3 with ⟨a, b⟩ | ⟨a, b⟩
      · exact .inl ⟨a, fun x hx => b x (List.mem_cons_of_mem _ hx)⟩
      · exact .inr ⟨a, by simpa using b⟩) (.inr ⟨done, rfl⟩) (by rw [List.length_append, List.length_cons, List.length_nil]; omega) len (n + 1)
    refine ⟨x5', x6', x7', x8', ?_⟩
    rw [List.length_append, List.length_cons, List.length_nil] at ih
    rw [List.append_assoc] at ih
    rw [List.map_cons, List.zipIdx_cons, List.map_cons]
    unfold sFor getI
    have tg : tgL (.p (.tup [.int (done.length : Nat), .int m])) [x0, some (.ref s.length), some (.p (.int (k : Nat))), x3, some (.p (.lst (done.map .int))), x5, x6, x7, x8] (s ++ [RC found]) = .nx [x0, some (.ref s.length), some (.p (.int (k : Nat))), x3, some (.p (.lst (done.map .int))), some (.p (.int (done.length : Nat))), some (.p (.int m)), x7, x8] (s ++ [RC found]) := rfl
    simp only [tg, bd]
    exact ih
def tgL2 : Gv := gvT 2 (gsC (gvN 2) (gsC (gvN 3) (gsN)))
def bdM : Sv := sSeq (sAsg (vLst (aN)) (gvN 4))
  (sSeq (sForI (itE (aC (vV 3) (aN))) tgL bdL)
  (sDo (vMet isList mApp (vV 1) (aC (vCal fTup (aC (vV 4) (aN))) (aN)))))
theorem outL (s : Store) (B : Nat) (hB : B ≤ 4) (x0 : Option D) : ∀ (rs : List (List Int)) (free : List Int) (found : List (List Int)) (x2 x3 x4 x5 x6 x7 x8 : Option D), free.length = B → (∀ r ∈ rs, r.length = B) → ((found = [] ∧ ∀ x ∈ free, x = 0) ∨ (∃ d, found = d ++ [free])) → found.length + rs.length ≤ 100 → ∀ len n, ∃ x2' x3' x4' x5' x6' x7' x8', sFor none len tgL2 bdM (((rs.map TP).zipIdx found.length).map fun z => D.p (.tup [.int (z.2 : Nat), z.1])) n [x0, some (.ref s.length), x2, x3, x4, x5, x6, x7, x8] (s ++ [RC found])
    = .nx [x0, some (.ref s.length), x2', x3', x4', x5', x6', x7', x8'] (s ++ [RC (found ++ endsL free rs)])
  | [], free, found, x2, x3, x4, x5, x6, x7, x8, _, _, _, _, len, n => ⟨x2, x3, x4, x5, x6, x7, x8, by
    rw [show endsL free [] = [] from rfl, List.append_nil]
    rfl⟩
  | r :: rs, free, found, x2, x3, x4, x5, x6, x7, x8, h1, h2, h3, h4, len, n => by
    rw [List.length_cons] at h4
    have hr := h2 r (List.mem_cons_self ..)
    have sl := stepR_len free r 0 (by omega)
    have sz0 : 0 ≤ szLine := by decide
    obtain ⟨y5, y6, y7, y8, e⟩ := inL s found found.length x0 (some (.p (TP r))) r free [] [] 0 x5 x6 x7 x8 (by omega) rfl (by
      rcases h3 with ⟨a, b⟩ | ⟨d, b⟩
      · exact .inl ⟨by rw [a]; rfl, b⟩
      · refine .inr ⟨by rw [b]; simp, ?_⟩
        rw [b]; simp) (.inl ⟨rfl, rfl⟩) (by rw [List.length_nil]; omega) 0 0
    have a1 : sAsg (vLst (aN)) (gvN 4) [x0, some (.ref s.length), some (.p (.int (found.length : Nat))), some (.p (TP r)), x4, x5, x6, x7, x8] (s ++ [RC found]) = .nx [x0, some (.ref s.length), some (.p (.int (found.length : Nat))), some (.p (TP r)), some (.p (.lst [])), x5, x6, x7, x8] (s ++ [RC found]) := rfl
    have a2 : sForI (itE (aC (vV 3) (aN))) tgL bdL [x0, some (.ref s.length), some (.p (.int (found.length : Nat))), some (.p (TP r)), some (.p (.lst [])), x5, x6, x7, x8] (s ++ [RC found]) = .nx [x0, some (.ref s.length), some (.p (.int (found.length : Nat))), some (.p (TP r)), some (.p (.lst ((stepR 0 free r).map .int))), y5, y6, y7, y8] (s ++ [RC found]) := by
      refine forI_of (ds := ((r.map P.int).zipIdx 0).map fun z => D.p (.tup [.int (z.2 : Nat), z.1])) ?_ fun len => (sFor_len len 0).trans e
      have : ((r.map P.int).zipIdx 0).map (fun z => D.p (.tup [.int (z.2 : Nat), z.1])) = (enumP (r.map P.int)).map D.p := by
        unfold enumP
        rw [List.map_map]
        rfl
      rw [this]
      rfl
    have g3 : (s ++ [RC found] : Store)[s.length]? = some (RC found) := ap1 _ _ _
    have i3 : isList (.ref s.length) (s ++ [RC found]) = true := by
      unfold isList
      simp only [g3]
      rfl
    have m3 : mApp (.ref s.length) [.p (TP (stepR 0 free r))] (s ++ [RC found]) = .ok (.p .non) (s ++ [RC (found ++ [stepR 0 free r])]) := by
      unfold mApp
      simp only [g3]
      unfold RC
      simp only [List.length_map]
      rw [if_pos (by rw [szLine_eq]; omega), sp1]
      simp
    have t3 : fTup [.p (.lst ((stepR 0 free r).map .int))] (s ++ [RC found]) = .ok (.p (TP (stepR 0 free r))) (s ++ [RC found]) := rfl
    have bd : bdM [x0, some (.ref s.length), some (.p (.int (found.length : Nat))), some (.p (TP r)), x4, x5, x6, x7, x8] (s ++ [RC found]) = .nx [x0, some (.ref s.length), some (.p (.int (found.length : Nat))), some (.p (TP r)), some (.p (.lst ((stepR 0 free r).map .int))), y5, y6, y7, y8] (s ++ [RC (found ++ [stepR 0 free r])]) := by
      refine (seqn a1).trans ((seqn a2).trans ?_)
      generalize s ++ [RC found] = st0 at *
      generalize s ++ [RC (found ++ [stepR 0 free r])] = st1 at *
      unfold sDo vMet
      simp only [vV, vCal, aC, aN, bnd_ok, List.getElem?_cons_zero, List.getElem?_cons_succ, i3, t3, m3, if_true]
    obtain ⟨z2, z3, z4, z5, z6, z7, z8, ih⟩ := outL s B hB x0 rs (stepR 0 free r) (found ++ [stepR 0 free r]) (some (.p (.int (found.length : Nat)))) (some (.p (TP r))) (some (.p (.lst ((stepR 0 free r).map .int)))) y5 y6 y7 y8 (by omega) (fun r' hr' => h2 r' (List.mem_cons_of_mem _ hr')) (.inr ⟨found, rfl⟩) (by rw [List.length_append, List.length_cons, List.length_nil]; omega) len (n + 1)
    refine ⟨z2, z3, z4, z5, z6, z7, z8, ?_⟩
    rw [List.length_append, List.length_cons, List.length_nil] at ih
    rw [List.map_cons, List.zipIdx_cons, List.map_cons]
    unfold sFor getI
    have tg : tgL2 (.p (.tup [.int (found.length : Nat), TP r])) [x0, some (.ref s.length), x2, x3, x4, x5, x6, x7, x8] (s ++ [RC found]) = .nx [x0, some (.ref s.length), some (.p (.int (found.length : Nat))), some (.p (TP r)), x4, x5, x6, x7, x8] (s ++ [RC found]) := rfl
    simp only [tg, bd]
    rw [show endsL free (r :: rs) = stepR 0 free r :: endsL (stepR 0 free r) rs from rfl]
    rw [List.append_assoc] at ih
    exact ih
theorem lends_ok {B : Nat} (hB : B ≤ 4) {rs : List (List Int)} (h2 : ∀ r ∈ rs, r.length = B) (hl : rs.length ≤ 5) (s : Store) (w0 : WfS s) : f__law_ends [.p (.lst (rs.map TP))] s = .ok (.p (.lst ((endsL (zer B) rs).map TP))) s := by
  obtain ⟨x2, x3, x4, x5, x6, x7, x8, e⟩ := outL s B hB (some (.p (.lst (rs.map TP)))) rs (zer B) [] none none none none none none none (by unfold zer; simp) h2 (.inl ⟨rfl, fun x hx => by unfold zer at hx; exact (List.mem_replicate.mp hx).2⟩) (by simp; omega) 0 0
  rw [List.nil_append] at e
  have lp : sForI (itE (aC (vV 0) (aN))) tgL2 bdM [some (.p (.lst (rs.map TP))), some (.ref s.length), none, none, none, none, none, none, none] (s ++ [RC []]) = .nx [some (.p (.lst (rs.map TP))), some (.ref s.length), x2, x3, x4, x5, x6, x7, x8] (s ++ [RC (endsL (zer B) rs)]) := by
    refine forI_of (ds := ((rs.map TP).zipIdx 0).map fun z => D.p (.tup [.int (z.2 : Nat), z.1])) ?_ fun len => (sFor_len len 0).trans e
    have : ((rs.map TP).zipIdx 0).map (fun z => D.p (.tup [.int (z.2 : Nat), z.1])) = (enumP (rs.map TP)).map D.p := by
      unfold enumP
      rw [List.map_map]
      rfl
    rw [this]
    rfl
  have rt : retF s.length (.ref s.length) (s ++ [RC (endsL (zer B) rs)]) = .ok (.p (.lst ((endsL (zer B) rs).map TP))) s := retF_cell w0 (by unfold RC; show (pAll _).map P.lst = _; rw [pAll_map]; rfl)
  have sz0 : 0 ≤ szLine := by decide
  have a1 : (s ++ [Cell.lst []] : Store) = s ++ [RC []] := rfl
  show fnF false 9 1 (sSeq (sAsg (vLstM (aN)) (gvN 1)) (sSeq (sForI (itE (aC (vV 0) (aN))) tgL2 bdM) (sRet (vV 1)))) _ s = _
  generalize sForI (itE (aC (vV 0) (aN))) tgL2 bdM = B1 at *
  generalize s ++ [RC (endsL (zer B) rs)] = st2 at *
  generalize hst : s ++ [RC []] = st1 at *
  generalize rs.map TP = q at *
  generalize (endsL (zer B) rs).map TP = r at *
  simp (disch := omega) only [bnd_ok, bnd_exc, fnF, startE, sSeq, sIf, sAsg, sRet, sNx, sAug, sPar, sDo, sRaise, bOr, bAnd, bNot, bYes, tstB, v2, vV, vK, aC, aN, vCal, vU, vIf, vCh, vAnd, vFn, oIx, oAdd, oSub, oMul, oDiv, oMod, oNeg, see, seeC, fInt, fAbs_int, fMax_int, fMin_int, ordI_int, retF_same, excF_same, gvN, gvS, gvT, gsC, gsN, iAdd, L2.atI, L2.ixN, mulOk_l, mulOk_r, log_ok, le_t, le_f, lt_t, lt_f, gt_t, gt_f, ge_t, ge_f, List.getElem?_cons_zero, List.getElem?_cons_succ, List.set_cons_zero, List.set_cons_succ, List.length_cons, List.length_nil, List.map_cons, List.map_nil, List.cons_append, List.nil_append, List.append_nil, List.replicate_succ, List.replicate_zero, Nat.zero_add, Nat.reduceAdd, Nat.reduceSub, Nat.reduceLT, Nat.reduceLeDiff, Int.reduceLT, Int.reduceLE, Int.reduceAdd, Int.reduceSub, Int.reduceMul, Int.reduceNeg, decide_true, decide_false, Bool.not_true, Bool.not_false, reduceCtorEq, ↓reduceIte, and_self, and_true, true_and, if_true, if_false, Bool.false_eq_true, if_pos, if_neg, Int.reduceToNat, Int.toNat_zero, Int.toNat_one, Option.bind_some, Option.map_some, pAll, pAll_map, seqP_lst, seqP_tup, seqP_scr, vTup, vLst, vLstM, szLine_eq, vMet, isList, mApp, last_get, last_set, List.length_map, List.length_append, seeC, oIs, Option.map, a1, lp, rt, sz0]
end Q11
end

section
set_option linter.all false
set_option maxHeartbeats 4100000
set_option maxRecDepth 10000
open PySem L2 Iv K11
namespace Q11
def nm (k : Nat) : Str := (("w" : Str) ++ (toString ((k : Nat) : Int) : String) : Str)
theorem nm_nodup (n : Nat) (h : n ≤ 5) : ((List.range n).map nm).Nodup := by
  have hh : n = 0 ∨ n = 1 ∨ n = 2 ∨ n = 3 ∨ n = 4 ∨ n = 5 := by omega
  rcases hh with rfl | rfl | rfl | rfl | rfl | rfl <;> decide +kernel
def S3 (a b m : Int) (c : Cell) : Store := [dC a b m, .lst [.ref 0], c]
def KVs (js : List J) : List (Key × D) := js.map fun j => ((.inr j.1 : Key), D.p (TP j.2))
theorem roll_s3 (a b m many : Int) (c : Cell) (hm : okM m) (h : 0 < many) (h2 : many ≤ 1000) (h3 : many.natAbs.log2 < 9000) : ∃ r a' b' m', f__law_roll [.ref 0, .p (.int many)] (S3 a b m c) = .ok (.p (.int r)) (S3 a' b' m' c) ∧ 0 ≤ r ∧ r < many ∧ okM m' :=
  roll_any [.lst [.ref 0], c] a b m many hm h (by omega) h3
def E (sc : D) (x2 x3 x4 x5 x6 x7 x8 x9 x10 x11 x12 x13 x14 x15 : Option D) : Iv.Env := [some sc, some (.ref 0), x2, x3, x4, x5, x6, x7, x8, x9, x10, x11, x12, x13, x14, x15, none, none, none, none, none, none, none]
theorem t0_ok (sc : D) (a b m : Int) (hm : okM m) : ∃ (B : Nat) (a' b' m' : Int), (1 ≤ B ∧ B ≤ 4) ∧ okM m' ∧ T_0 (E sc none none none none none none none none none none none none none none) [dC a b m, .lst [.ref 0]] = .nx (E sc (some (.p (.int (B : Nat)))) (some (.ref 2)) none none none none none none none none none none none none) (S3 a' b' m' (.dK (KVs []))) := by
  obtain ⟨r, a1, b1, m1, e, p, q, o⟩ := roll_any [.lst [.ref 0]] a b m 4 hm (by decide) (by decide) (by decide)
  refine ⟨1 + r.toNat, a1, b1, m1, by omega, o, ?_⟩
  have hr : ((1 + r.toNat : Nat) : Int) = 1 + r := by omega
  rw [hr]
  unfold E S3 KVs
  simp (disch := omega) only [bnd_ok, bnd_exc, fnF, startE, sSeq, sIf, sAsg, sRet, sNx, sAug, sPar, sDo, sRaise, bOr, bAnd, bNot, bYes, tstB, v2, vV, vK, aC, aN, vCal, vU, vIf, vCh, vAnd, vFn, oIx, oAdd, oSub, oMul, oDiv, oMod, oNeg, see, seeC, fInt, fAbs_int, fMax_int, fMin_int, ordI_int, retF_same, excF_same, gvN, gvS, gvT, gsC, gsN, iAdd, L2.atI, L2.ixN, mulOk_l, mulOk_r, log_ok, le_t, le_f, lt_t, lt_f, gt_t, gt_f, ge_t, ge_f, List.getElem?_cons_zero, List.getElem?_cons_succ, List.set_cons_zero, List.set_cons_succ, List.length_cons, List.length_nil, List.map_cons, List.map_nil, List.cons_append, List.nil_append, List.append_nil, List.replicate_succ, List.replicate_zero, Nat.zero_add, Nat.reduceAdd, Nat.reduceSub, Nat.reduceLT, Nat.reduceLeDiff, Int.reduceLT, Int.reduceLE, Int.reduceAdd, Int.reduceSub, Int.reduceMul, Int.reduceNeg, decide_true, decide_false, Bool.not_true, Bool.not_false, reduceCtorEq, ↓reduceIte, and_self, and_true, true_and, if_true, if_false, Bool.false_eq_true, if_pos, if_neg, Int.reduceToNat, Int.toNat_zero, Int.toNat_one, Option.bind_some, Option.map_some, pAll, pAll_map, seqP_lst, seqP_tup, seqP_scr, vTup, vLst, vLstM, szLine_eq, vMet, isList, mApp, last_get, last_set, List.length_map, List.length_append, seeC, oIs, Option.map, T_0, sAsgT, e, vNewK]
theorem draw_row (δ0 : Iv.Env) (c : Cell) (h1 : ∀ d, (δ0.set 20 (some d))[1]? = some (some (.ref 0))) (hl : δ0.length = 23) : ∀ (ds : List D) (a b m : Int), okM m → ∃ (xs : List Int) (a' b' m' : Int), okM m' ∧ xs.length = ds.length ∧ (∀ x ∈ xs, 0 ≤ x ∧ x ≤ 19) ∧
    ∀ len k, compL none len (tvN 20) (bYes) (vFn f__law_roll (aC (vV 1) (aC (vK (.int 20)) (aN))) []) δ0 ds k (S3 a b m c) = .ok ((xs.map P.int).map .p) (S3 a' b' m' c)
  | [], a, b, m, hm => ⟨[], a, b, m, hm, rfl, by simp, fun _ _ => rfl⟩
  | d :: ds, a, b, m, hm => by
    obtain ⟨r1, a1, b1, m1, e1, p1, q1, o1⟩ := roll_s3 a b m 20 c hm (by decide) (by decide) (by decide)
    obtain ⟨xs, a3, b3, m3, o3, ln, all, ih⟩ := draw_row δ0 c h1 hl ds a1 b1 m1 o1
    refine ⟨r1 :: xs, a3, b3, m3, o3, by simp [ln], ?_, fun len k => ?_⟩
    · intro x hx
      rcases List.mem_cons.mp hx with (rfl | hx)
      · omega
      · exact all x hx
    · have ih := ih len (k + 1)
      have v : vFn f__law_roll (aC (vV 1) (aC (vK (.int 20)) (aN))) [] (δ0.set 20 (some d)) (S3 a b m c) = .ok (.p (.int r1)) (S3 a1 b1 m1 c) := by
        have := h1 d
        generalize δ0.set 20 (some d) = δ at *
        simp (disch := omega) only [bnd_ok, bnd_exc, fnF, startE, sSeq, sIf, sAsg, sRet, sNx, sAug, sPar, sDo, sRaise, bOr, bAnd, bNot, bYes, tstB, v2, vV, vK, aC, aN, vCal, vU, vIf, vCh, vAnd, vFn, oIx, oAdd, oSub, oMul, oDiv, oMod, oNeg, see, seeC, fInt, fAbs_int, fMax_int, fMin_int, ordI_int, retF_same, excF_same, gvN, gvS, gvT, gsC, gsN, iAdd, L2.atI, L2.ixN, mulOk_l, mulOk_r, log_ok, le_t, le_f, lt_t, lt_f, gt_t, gt_f, ge_t, ge_f, List.getElem?_cons_zero, List.getElem?_cons_succ, List.set_cons_zero, List.set_cons_succ, List.length_cons, List.length_nil, List.map_cons, List.map_nil, List.cons_append, List.nil_append, List.append_nil, List.replicate_succ, List.replicate_zero, Nat.zero_add, Nat.reduceAdd, Nat.reduceSub, Nat.reduceLT, Nat.reduceLeDiff, Int.reduceLT, Int.reduceLE, Int.reduceAdd, Int.reduceSub, Int.reduceMul, Int.reduceNeg, decide_true, decide_false, Bool.not_true, Bool.not_false, reduceCtorEq, ↓reduceIte, and_self, and_true, true_and, if_true, if_false, Bool.false_eq_true, if_pos, if_neg, Int.reduceToNat, Int.toNat_zero, Int.toNat_one, Option.bind_some, Option.map_some, pAll, pAll_map, seqP_lst, seqP_tup, seqP_scr, vTup, vLst, vLstM, szLine_eq, vMet, isList, mApp, last_get, last_set, List.length_map, List.length_append, seeC, oIs, Option.map, this, e1]
      have tv : tvN 20 d δ0 = some (δ0.set 20 (some d)) := rfl
      unfold compL getI
      simp only [tv, bYes, v, ih, List.map_cons]
def bdR : Sv := sAsg (vCal fTup (aC (vCmp (itR1 (aC (vV 2) (aN))) (tvN 20) (bYes) (vFn f__law_roll (aC (vV 1) (aC (vK (.int 20)) (aN))) []) [20]) (aN))) (gvD (vV 3) (v2 oAdd (vK (.str "w")) (vCal fStrI (aC (vV 4) (aN)))))
structure Js (B n : Nat) (js : List J) : Prop where
  k : js.map (·.1) = (List.range n).map nm
  l : ∀ j ∈ js, j.2.length = B
  m : ∀ j ∈ js, ∀ x ∈ j.2, 0 ≤ x ∧ x ≤ 19
theorem getX_new {k : Str} : ∀ {js : List J}, k ∉ js.map (·.1) → getX (.inr k : Key) (KVs js) = none
  | [], _ => rfl
  | j :: js, h => by
    simp only [List.map_cons, List.mem_cons, not_or] at h
    show (if (Sum.inr j.1 : Key) = Sum.inr k then _ else getX (.inr k : Key) (KVs js)) = _
    rw [if_neg (fun e => h.1 (by cases e; rfl)), getX_new h.2]
theorem getX_in : ∀ {js : List J}, (js.map (·.1)).Nodup → ∀ j ∈ js, getX (.inr j.1 : Key) (KVs js) = some (.p (TP j.2))
  | [], _, j, h => by cases h
  | j0 :: js, hn, j, h => by
    rw [List.map_cons] at hn; rw [List.nodup_cons] at hn
    show (if (Sum.inr j0.1 : Key) = Sum.inr j.1 then some (D.p (TP j0.2)) else getX (.inr j.1 : Key) (KVs js)) = _
    rcases List.mem_cons.mp h with (rfl | h)
    · rw [if_pos rfl]
    · rw [if_neg (fun e => hn.1 (by injection e with e; rw [e]; exact List.mem_map_of_mem h)), getX_in hn.2 j h]
theorem nm_new (n i : Nat) (h : n ≤ i) (h5 : i < 5) : nm i ∉ (List.range n).map nm := by
  have h1 := nm_nodup (i + 1) (by omega)
  rw [List.range_succ, List.map_append, List.map_cons, List.map_nil, List.nodup_append] at h1
  intro hm
  obtain ⟨j, hj, e⟩ := List.mem_map.mp hm
  rw [List.mem_range] at hj
  exact h1.2.2 (nm j) (List.mem_map.mpr ⟨j, List.mem_range.mpr (by omega), rfl⟩) (nm i) (by simp) e
theorem vCmp_of {fi : Ev Its} {t : Tv} {c : Ev Bool} {e : Ev D} {vs : List Nat} {δ : Iv.Env} {s s1 s2 : Store} {ds : List D} {xs : List P} (hi : fi δ s = .ok ⟨ds, none⟩ s1) (hl : ds.length ≤ szLine) (hc : compL none ds.length t c e (wipE δ vs) ds 0 s1 = .ok (xs.map .p) s2) : vCmp fi t c e vs δ s = .ok (.p (.lst xs)) s2 := by
  unfold vCmp vCmpD
  simp only [hi, hl, if_true, hc, kLst, pAll_map]
theorem itR1_nat {fa : Ev (List D)} {δ : Iv.Env} {s s1 : Store} (n : Nat) (h : n ≤ 1000) (z : Int) (hz : z = (n : Nat)) (ha : fa δ s = .ok [.p (.int z)] s1) : itR1 fa δ s = .ok ⟨(List.range n).map fun j => D.p (.int (j : Nat)), none⟩ s1 := by
  have t1 : -1000000000000 ≤ z ∧ z < 1000000000000 := by omega
  have t2 : z.toNat = n := by omega
  unfold itR1
  rw [ha]
  simp only [bnd_ok]
  rw [if_pos t1, t2]
theorem k1_ok (i : Nat) (h5 : i < 5) (δ : Iv.Env) (h4 : δ[4]? = some (some (.p (.int (i : Nat))))) (st : Store) : v2 oAdd (vK (.str "w")) (vCal fStrI (aC (vV 4) (aN))) δ st = .ok (.p (.str (nm i))) st := by
  have e1 : vV 4 δ st = .ok (.p (.int (i : Nat))) st := by unfold vV; rw [h4]
  have e2 : fStrI [.p (.int (i : Nat))] st = .ok (.p (.str (toString ((i : Nat) : Int) : String))) st := by
    have hh : i = 0 ∨ i = 1 ∨ i = 2 ∨ i = 3 ∨ i = 4 := by omega
    rcases hh with rfl | rfl | rfl | rfl | rfl <;> rfl
  refine (v2_of rfl ((cal1_of e1).trans e2)).trans ?_
  have hh : i = 0 ∨ i = 1 ∨ i = 2 ∨ i = 3 ∨ i = 4 := by omega
  rcases hh with rfl | rfl | rfl | rfl | rfl <;> rfl
theorem ps_ok {B : Nat} (i : Nat) (h5 : i < 5) (js : List J) (hj : Js B i js) (xs : List Int) (a1 b1 m1 : Int) : dSet (.ref 2) (.p (.str (nm i))) (.p (TP xs)) (S3 a1 b1 m1 (.dK (KVs js))) = some (S3 a1 b1 m1 (.dK (KVs (js ++ [(nm i, xs)])))) := by
  have gx := getX_new (k := nm i) (js := js) (by rw [hj.k]; exact nm_new i i (Nat.le_refl _) h5)
  have lk : js.length = i := by
    have := congrArg List.length hj.k
    simpa using this
  have l : (KVs js).length < szLine := by unfold KVs; rw [List.length_map, szLine_eq]; omega
  have kx : kxD (.p (.str (nm i))) = some (.k (.inr (nm i))) := rfl
  have g2 : (S3 a1 b1 m1 (.dK (KVs js)))[2]? = some (.dK (KVs js)) := rfl
  have pz : putZ (KVs js) (.inr (nm i)) (D.p (TP xs)) = KVs (js ++ [(nm i, xs)]) := by
    unfold putZ
    rw [gx]
    unfold KVs
    simp
  unfold dSet
  simp only [kx, g2, l, if_true, pz]
  rfl
theorem bdR_ok (sc : D) {B : Nat} (hB : 1 ≤ B ∧ B ≤ 4) (i : Nat) (h5 : i < 5) (js : List J) (hj : Js B i js) (a b m : Int) (hm : okM m) : ∃ r a' b' m', okM m' ∧ Js B (i + 1) (js ++ [(nm i, r)]) ∧
    bdR (E sc (some (.p (.int (B : Nat)))) (some (.ref 2)) (some (.p (.int (i : Nat)))) none none none none none none none none none none none) (S3 a b m (.dK (KVs js))) = .nx (E sc (some (.p (.int (B : Nat)))) (some (.ref 2)) (some (.p (.int (i : Nat)))) none none none none none none none none none none none) (S3 a' b' m' (.dK (KVs (js ++ [(nm i, r)])))) := by
  obtain ⟨xs, a1, b1, m1, o1, ln, all, c⟩ := draw_row (E sc (some (.p (.int (B : Nat)))) (some (.ref 2)) (some (.p (.int (i : Nat)))) none none none none none none none none none none none) (.dK (KVs js)) (fun _ => rfl) rfl ((List.range B).map fun j => D.p (.int (j : Nat))) a b m hm
  rw [List.length_map, List.length_range] at ln
  refine ⟨xs, a1, b1, m1, o1, ⟨?_, ?_, ?_⟩, ?_⟩
  · rw [List.map_append, hj.k, List.range_succ, List.map_append]
    rfl
  · intro j h
    rcases (List.mem_append.mp h) with h | h
    · exact hj.l j h
    · rw [List.mem_singleton.mp h]; exact ln
  · intro j h
    rcases (List.mem_append.mp h) with h | h
    · exact hj.m j h
    · rw [List.mem_singleton.mp h]; exact all
  have cmp : vCmp (itR1 (aC (vV 2) (aN))) (tvN 20) (bYes) (vFn f__law_roll (aC (vV 1) (aC (vK (.int 20)) (aN))) []) [20] (E sc (some (.p (.int (B : Nat)))) (some (.ref 2)) (some (.p (.int (i : Nat)))) none none none none none none none none none none none) (S3 a b m (.dK (KVs js))) = .ok (.p (.lst (xs.map .int))) (S3 a1 b1 m1 (.dK (KVs js))) := by
    have it : itR1 (aC (vV 2) (aN)) (E sc (some (.p (.int (B : Nat)))) (some (.ref 2)) (some (.p (.int (i : Nat)))) none none none none none none none none none none none) (S3 a b m (.dK (KVs js))) = .ok ⟨(List.range B).map fun j => D.p (.int (j : Nat)), none⟩ (S3 a b m (.dK (KVs js))) := by
      exact itR1_nat B (by omega) (B : Int) rfl rfl
    have w : wipE (E sc (some (.p (.int (B : Nat)))) (some (.ref 2)) (some (.p (.int (i : Nat)))) none none none none none none none none none none none) [20] = E sc (some (.p (.int (B : Nat)))) (some (.ref 2)) (some (.p (.int (i : Nat)))) none none none none none none none none none none none := rfl
    exact vCmp_of it (by rw [List.length_map, List.length_range, szLine_eq]; omega) (c _ 0)
  have tu : vCal fTup (aC (vCmp (itR1 (aC (vV 2) (aN))) (tvN 20) (bYes) (vFn f__law_roll (aC (vV 1) (aC (vK (.int 20)) (aN))) []) [20]) (aN)) (E sc (some (.p (.int (B : Nat)))) (some (.ref 2)) (some (.p (.int (i : Nat)))) none none none none none none none none none none none) (S3 a b m (.dK (KVs js))) = .ok (.p (TP xs)) (S3 a1 b1 m1 (.dK (KVs js))) := (cal1_of cmp).trans rfl
  refine asg_nx tu ?_
  have k1 := k1_ok i h5 (E sc (some (.p (.int (B : Nat)))) (some (.ref 2)) (some (.p (.int (i : Nat)))) none none none none none none none none none none none) rfl (S3 a1 b1 m1 (.dK (KVs js)))
  have ps := ps_ok i h5 js hj xs a1 b1 m1
  unfold gvD
  rw [show vV 3 (E sc (some (.p (.int (B : Nat)))) (some (.ref 2)) (some (.p (.int (i : Nat)))) none none none none none none none none none none none) (S3 a1 b1 m1 (.dK (KVs js))) = .ok (.ref 2) (S3 a1 b1 m1 (.dK (KVs js))) from rfl]
  simp only [k1, ps]
end Q11
end

section
set_option linter.all false
set_option maxHeartbeats 4100000
set_option maxRecDepth 10000
open PySem L2 Iv K11
namespace Q11
theorem t1_ok (sc : D) {B : Nat} (hB : 1 ≤ B ∧ B ≤ 4) (a b m : Int) (hm : okM m) : ∃ (n : Nat) (js : List J) (a' b' m' : Int) (x4 : Option D), (1 ≤ n ∧ n ≤ 5) ∧ Js B n js ∧ okM m' ∧
    T_1 (E sc (some (.p (.int (B : Nat)))) (some (.ref 2)) none none none none none none none none none none none none) (S3 a b m (.dK (KVs []))) = .nx (E sc (some (.p (.int (B : Nat)))) (some (.ref 2)) x4 none none none none none none none none none none none) (S3 a' b' m' (.dK (KVs js))) := by
  obtain ⟨r, a1, b1, m1, e, p, q, o⟩ := roll_s3 a b m 5 (.dK (KVs [])) hm (by decide) (by decide) (by decide)
  obtain ⟨n, hn⟩ : ∃ n : Nat, (1 + r) = (n : Nat) := ⟨(1 + r).toNat, by omega⟩
  obtain ⟨δ', st', ee, js, a2, b2, m2, x4, o2, hj, rfl, rfl⟩ := for_data (t := gvN 4) (b := bdR) (List.range n) (fun j => P.int (j : Nat)) (fun j δ st => ∃ js a b m x4, okM m ∧ Js B j js ∧ δ = E sc (some (.p (.int (B : Nat)))) (some (.ref 2)) x4 none none none none none none none none none none none ∧ st = S3 a b m (.dK (KVs js))) (fun j x δ st hx hJ => by
    obtain ⟨js, a, b, m, x4, hm, hj, rfl, rfl⟩ := hJ
    have hlt := (List.getElem?_eq_some_iff.mp hx).1
    rw [List.length_range] at hlt
    have hxj : x = j := by
      rw [List.getElem?_range hlt] at hx
      exact (Option.some.inj hx).symm
    subst hxj
    obtain ⟨r, a', b', m', o', hj', e'⟩ := bdR_ok sc hB x (by omega) js hj a b m hm
    exact ⟨E sc (some (.p (.int (B : Nat)))) (some (.ref 2)) (some (.p (.int (x : Nat)))) none none none none none none none none none none none, S3 a b m (.dK (KVs js)), _, _, rfl, e', _, _, _, _, _, o', hj', rfl, rfl⟩) (δ := E sc (some (.p (.int (B : Nat)))) (some (.ref 2)) none none none none none none none none none none none none) (st := S3 a1 b1 m1 (.dK (KVs []))) ⟨[], a1, b1, m1, none, o, ⟨rfl, by simp, by simp⟩, rfl, rfl⟩
  rw [List.length_range] at hj
  refine ⟨n, js, a2, b2, m2, x4, by omega, hj, o2, ?_⟩
  have it : itR1 (aC (v2 oAdd (vK (.int 1)) (vFn f__law_roll (aC (vV 1) (aC (vK (.int 5)) (aN))) [])) (aN)) (E sc (some (.p (.int (B : Nat)))) (some (.ref 2)) none none none none none none none none none none none none) (S3 a b m (.dK (KVs []))) = .ok ⟨(List.range n).map fun j => D.p (.int (j : Nat)), none⟩ (S3 a1 b1 m1 (.dK (KVs []))) := by
    refine itR1_nat n (by omega) (1 + r) hn ?_
    unfold E
    simp (disch := omega) only [bnd_ok, bnd_exc, fnF, startE, sSeq, sIf, sAsg, sRet, sNx, sAug, sPar, sDo, sRaise, bOr, bAnd, bNot, bYes, tstB, v2, vV, vK, aC, aN, vCal, vU, vIf, vCh, vAnd, vFn, oIx, oAdd, oSub, oMul, oDiv, oMod, oNeg, see, seeC, fInt, fAbs_int, fMax_int, fMin_int, ordI_int, retF_same, excF_same, gvN, gvS, gvT, gsC, gsN, iAdd, L2.atI, L2.ixN, mulOk_l, mulOk_r, log_ok, le_t, le_f, lt_t, lt_f, gt_t, gt_f, ge_t, ge_f, List.getElem?_cons_zero, List.getElem?_cons_succ, List.set_cons_zero, List.set_cons_succ, List.length_cons, List.length_nil, List.map_cons, List.map_nil, List.cons_append, List.nil_append, List.append_nil, List.replicate_succ, List.replicate_zero, Nat.zero_add, Nat.reduceAdd, Nat.reduceSub, Nat.reduceLT, Nat.reduceLeDiff, Int.reduceLT, Int.reduceLE, Int.reduceAdd, Int.reduceSub, Int.reduceMul, Int.reduceNeg, decide_true, decide_false, Bool.not_true, Bool.not_false, reduceCtorEq, ↓reduceIte, and_self, and_true, true_and, if_true, if_false, Bool.false_eq_true, if_pos, if_neg, Int.reduceToNat, Int.toNat_zero, Int.toNat_one, Option.bind_some, Option.map_some, pAll, pAll_map, seqP_lst, seqP_tup, seqP_scr, vTup, vLst, vLstM, szLine_eq, vMet, isList, mApp, last_get, last_set, List.length_map, List.length_append, seeC, oIs, Option.map, e]
  refine forI_of it fun len => ?_
  have := ee len
  rw [List.map_map] at this
  exact this
theorem args2 {f g : Ev D} {δ : Iv.Env} {s : Store} {d e : D} (hf : f δ s = .ok d s) (hg : g δ s = .ok e s) : aC f (aC g aN) δ s = .ok [d, e] s := by
  unfold aC aN
  rw [hf]
  simp only [bnd_ok, hg]
theorem fn1_of {F : F1} {v : Ev D} {δ : Iv.Env} {s s1 : Store} {d : D} (h : v δ s = .ok d s1) : vFn F (aC v aN) [] δ s = F [d] s1 := by
  unfold vFn aC aN
  rw [h]
  rfl
theorem tst_of {v : Ev D} {δ : Iv.Env} {s s1 : Store} {b : Bool} (h : v δ s = .ok (.p (.bl b)) s1) : tstB v δ s = .ok b s1 := by
  unfold tstB
  rw [h]
  rfl
theorem eq_of {f g : Ev D} {δ : Iv.Env} {s : Store} {x : P} {n : Bool} (h1 : f δ s = .ok (.p x) s) (h2 : g δ s = .ok (.p x) s) (hp : pEq x x = some true) : v2 (oEq n) f g δ s = .ok (.p (.bl (!n))) s := by
  refine (v2_of h1 h2).trans ?_
  unfold oEq
  simp only [see, hp]
  cases n <;> rfl
theorem if_f {c : Ev Bool} {f g : Sv} {δ : Iv.Env} {s s1 : Store} (h : c δ s = .ok false s1) : sIf c f g δ s = g δ s1 := by
  unfold sIf
  rw [h]
theorem or_ff {f g : Ev Bool} {δ : Iv.Env} {s : Store} (h1 : f δ s = .ok false s) (h2 : g δ s = .ok false s) : bOr f g δ s = .ok false s := by
  unfold bOr
  rw [h1]
  simp only [bnd_ok, Bool.false_eq_true, if_false]
  exact h2
theorem fnF_nx {n k : Nat} {b : Sv} {ds : List D} {s s' : Store} {δ : Iv.Env} (h : ds.length = k) (e : b (startE n ds) s = .nx δ s') (hl : s'.length = s.length) : fnF false n k b ds s = .ok (.p .non) s' := by
  unfold fnF
  rw [if_pos h, e]
  simp only [if_false, Bool.false_eq_true]
  unfold retF
  rw [if_pos hl]
theorem fnF_rt {n k : Nat} {b : Sv} {ds : List D} {s : Store} {d : P} (h : ds.length = k) (e : b (startE n ds) s = .rt (.p d) s) : fnF false n k b ds s = .ok (.p d) s := by
  unfold fnF
  rw [if_pos h, e]
  simp only [if_false, Bool.false_eq_true]
  exact retF_same s _
theorem init_ok (s : Store) (j : J) (h1 : j.2 ≠ []) (h2 : ∀ x ∈ j.2, 0 ≤ x) : f_Work___init__ [.ref s.length, .p (.str j.1), .p (TP j.2)] (s ++ [.obj 2 []]) = .ok (.p .non) (s ++ [.obj 2 [("name", .p (.str j.1)), ("minutes", .p (TP j.2))]]) := by
  obtain ⟨mm, hm0, hm⟩ : ∃ mm, 0 ≤ mm ∧ ∀ st, fBest false [.p (TP j.2)] st = .ok (.p (.int mm)) st := ⟨minL j.2, h2 _ (minL_mem h1).1, fun st => fMin_ints (x := TP j.2) rfl rfl h1⟩
  have ln : ∀ st, fLen [.p (TP j.2)] st = .ok (.p (.int (j.2.length : Nat))) st := fun st => by
    show Res.ok (D.p (P.int ((j.2.map P.int).length : Nat))) st = _
    rw [List.length_map]
  have c1 : ¬ (((j.2.length : Nat) : Int) = 0) := by
    have := List.length_pos_iff.mpr h1
    omega
  have c2 : ¬ mm < 0 := by omega
  have g1 : (s ++ [.obj 2 []] : Store)[s.length]? = some (.obj 2 []) := ap1 _ _ _
  have g2 : (s ++ [.obj 2 [("name", .p (.str j.1))]] : Store)[s.length]? = some (.obj 2 [("name", .p (.str j.1))]) := ap1 _ _ _
  have p1 : (s ++ [.obj 2 []] : Store).set s.length (.obj 2 [("name", .p (.str j.1))]) = s ++ [.obj 2 [("name", .p (.str j.1))]] := sp1 _ _ _ _
  have p2 : (s ++ [.obj 2 [("name", .p (.str j.1))]] : Store).set s.length (.obj 2 [("name", .p (.str j.1)), ("minutes", .p (TP j.2))]) = s ++ [.obj 2 [("name", .p (.str j.1)), ("minutes", .p (TP j.2))]] := sp1 _ _ _ _
  have tp : ∀ st, fTup [.p (TP j.2)] st = .ok (.p (TP j.2)) st := fun st => rfl
  have a1 : sIf (bOr (tstB (v2 (oEq false) (vCal fLen (aC (vV 2) (aN))) (vK (.int 0)))) (tstB (v2 (oOrd .lt) (vCal (fBest false) (aC (vV 2) (aN))) (vK (.int 0))))) (sRaise 1) (sNx) [some (.ref s.length), some (.p (.str j.1)), some (.p (TP j.2))] (s ++ [.obj 2 []]) = .nx [some (.ref s.length), some (.p (.str j.1)), some (.p (TP j.2))] (s ++ [.obj 2 []]) := by
    generalize TP j.2 = q at *
    generalize ((j.2.length : Nat) : Int) = n at *
    simp (disch := omega) only [bnd_ok, bnd_exc, fnF, startE, sSeq, sIf, sAsg, sRet, sNx, sAug, sPar, sDo, sRaise, bOr, bAnd, bNot, bYes, tstB, v2, vV, vK, aC, aN, vCal, vU, vIf, vCh, vAnd, vFn, oIx, oAdd, oSub, oMul, oDiv, oMod, oNeg, see, seeC, fInt, fAbs_int, fMax_int, fMin_int, ordI_int, retF_same, excF_same, gvN, gvS, gvT, gsC, gsN, iAdd, L2.atI, L2.ixN, mulOk_l, mulOk_r, log_ok, le_t, le_f, lt_t, lt_f, gt_t, gt_f, ge_t, ge_f, List.getElem?_cons_zero, List.getElem?_cons_succ, List.set_cons_zero, List.set_cons_succ, List.length_cons, List.length_nil, List.map_cons, List.map_nil, List.cons_append, List.nil_append, List.append_nil, List.replicate_succ, List.replicate_zero, Nat.zero_add, Nat.reduceAdd, Nat.reduceSub, Nat.reduceLT, Nat.reduceLeDiff, Int.reduceLT, Int.reduceLE, Int.reduceAdd, Int.reduceSub, Int.reduceMul, Int.reduceNeg, decide_true, decide_false, Bool.not_true, Bool.not_false, reduceCtorEq, ↓reduceIte, and_self, and_true, true_and, if_true, if_false, Bool.false_eq_true, if_pos, if_neg, Int.reduceToNat, Int.toNat_zero, Int.toNat_one, Option.bind_some, Option.map_some, pAll, pAll_map, seqP_lst, seqP_tup, seqP_scr, vTup, vLst, vLstM, szLine_eq, vMet, isList, mApp, last_get, last_set, List.length_map, List.length_append, seeC, oIs, Option.map, ln, hm, oEq_int, ordI, c1, c2]
  have a2 : sSetF [2] "name" (vV 0) (vV 1) [some (.ref s.length), some (.p (.str j.1)), some (.p (TP j.2))] (s ++ [.obj 2 []]) = .nx [some (.ref s.length), some (.p (.str j.1)), some (.p (TP j.2))] (s ++ [.obj 2 [("name", .p (.str j.1))]]) := by
    unfold sSetF
    simp only [vV, List.getElem?_cons_zero, List.getElem?_cons_succ, g1]
    rw [if_pos (by decide)]
    exact congrArg _ p1
  have a3 : sSetF [2] "minutes" (vV 0) (vCal fTup (aC (vV 2) (aN))) [some (.ref s.length), some (.p (.str j.1)), some (.p (TP j.2))] (s ++ [.obj 2 [("name", .p (.str j.1))]]) = .nx [some (.ref s.length), some (.p (.str j.1)), some (.p (TP j.2))] (s ++ [.obj 2 [("name", .p (.str j.1)), ("minutes", .p (TP j.2))]]) := by
    unfold sSetF
    simp only [vV, vCal, aC, aN, bnd_ok, tp, List.getElem?_cons_zero, List.getElem?_cons_succ, g2]
    rw [if_pos (by constructor <;> simp)]
    exact congrArg _ p2
  exact fnF_nx rfl ((seqn a1).trans ((seqn a2).trans a3)) (by simp)
theorem make_ok {fa : Ev (List D)} {δ : Iv.Env} {s : Store} (w0 : WfS s) (j : J) (h1 : j.2 ≠ []) (h2 : ∀ x ∈ j.2, 0 ≤ x) (h : fa δ s = .ok [.p (.str j.1), .p (TP j.2)] s) : vMake 2 f_Work___init__ false fa [] δ s = .ok (.p (ob j)) s := by
  have i := init_ok s j h1 h2
  unfold vMake
  rw [h]
  simp only [bnd_ok, List.append_nil, i]
  exact retF_cell w0 rfl
theorem Js.ok {B n : Nat} {js : List J} (hB : 1 ≤ B ∧ B ≤ 4) (hn : 1 ≤ n ∧ n ≤ 5) (h : Js B n js) : JOk B js := by
  have lk : js.length = n := by
    have := congrArg List.length h.k
    simpa using this
  exact ⟨hB, by omega, by rw [h.k]; exact nm_nodup n hn.2, h.l, h.m⟩
theorem s3_wf (a b m : Int) (js : List J) : WfS (S3 a b m (.fK (KVs js))) := by
  simp [WfS, wfC, wfD, dC, S3, KVs]
theorem dx_ok {B : Nat} {js : List J} (h : JOk B js) {a b m : Int} {δ : Iv.Env} {j : J} (hj : j ∈ js) {i : Nat} (h3 : δ[3]? = some (some (.ref 2))) (hi : δ[i]? = some (some (.p (.str j.1)))) : v2 oDx (vV 3) (vV i) δ (S3 a b m (.fK (KVs js))) = .ok (.p (TP j.2)) (S3 a b m (.fK (KVs js))) := by
  refine (v2_of (x := .ref 2) (y := .p (.str j.1)) (s1 := S3 a b m (.fK (KVs js))) (s2 := S3 a b m (.fK (KVs js))) (by unfold vV; rw [h3]) (by unfold vV; rw [hi])).trans ?_
  have g := getX_in h.d j hj
  have kx : kxD (.p (.str j.1)) = some (.k (.inr j.1)) := rfl
  have g2 : (S3 a b m (.fK (KVs js)))[2]? = some (.fK (KVs js)) := rfl
  unfold oDx
  simp only [kx, dLook, g2, g]
theorem t2_ok (sc : D) {B : Nat} {js : List J} (h : JOk B js) (x2 x4 : Option D) (a b m : Int) : T_2 (E sc x2 (some (.ref 2)) x4 none none none none none none none none none none none) (S3 a b m (.dK (KVs js))) = .nx (E sc x2 (some (.ref 2)) x4 (some (lj js)) none none none none none none none none none none) (S3 a b m (.fK (KVs js))) := by
  have hn := h.n
  have hb := h.b
  refine asg_nx (d := lj js) (s1 := S3 a b m (.fK (KVs js))) ?_ rfl
  have it : itK (vV 3) (E sc x2 (some (.ref 2)) x4 none none none none none none none none none none none) (S3 a b m (.dK (KVs js))) = .ok ⟨(js.map fun j => P.str j.1).map .p, none⟩ (S3 a b m (.fK (KVs js))) := by
    have : (KVs js).map (fun q => D.p (kP q.1)) = (js.map fun j => P.str j.1).map .p := by
      unfold KVs
      rewrite [List.map_map]; rw [List.map_map]
      rfl
    rw [← this]
    rfl
  have c := compL_all (t := tvN 16) (e := vMake 2 f_Work___init__ false (aC (vV 16) (aC (v2 oDx (vV 3) (vV 16)) (aN))) []) (δ0 := E sc x2 (some (.ref 2)) x4 none none none none none none none none none none none) (st := S3 a b m (.fK (KVs js))) js (fun j => P.str j.1) ob (fun j hj => by
    have hl := h.l j hj
    refine ⟨(E sc x2 (some (.ref 2)) x4 none none none none none none none none none none none).set 16 (some (.p (.str j.1))), rfl, make_ok (s3_wf a b m js) j (fun e => by rw [e] at hl; simp at hl; omega) (fun x hx => (h.m j hj x hx).1) ?_⟩
    have d := dx_ok h (a := a) (b := b) (m := m) (δ := (E sc x2 (some (.ref 2)) x4 none none none none none none none none none none none).set 16 (some (.p (.str j.1)))) hj (i := 16) rfl rfl
    exact args2 rfl d)
  exact vCmp_of (xs := js.map ob) it (by rw [List.length_map, List.length_map, szLine_eq]; omega) (c _ 0)
def rws (js : List J) : List (List Int) := js.map (·.2)
theorem vals_ok {js : List J} {δ : Iv.Env} (h3 : δ[3]? = some (some (.ref 2))) (a b m : Int) : vVals (vV 3) δ (S3 a b m (.fK (KVs js))) = .ok (.p (.lst ((rws js).map TP))) (S3 a b m (.fK (KVs js))) := by
  have e : vV 3 δ (S3 a b m (.fK (KVs js))) = .ok (.ref 2) (S3 a b m (.fK (KVs js))) := by unfold vV; rw [h3]
  have pk : pKs (KVs js) = some (js.map fun j => (P.str j.1, TP j.2)) := pKs_map (fun j : J => .inr j.1) (fun j => TP j.2) js
  have s : see (S3 a b m (.fK (KVs js))) (.ref 2) = some (.dct (js.map fun j => (P.str j.1, TP j.2))) := by
    show (pKs (KVs js)).map P.dct = _
    rw [pk]
    rfl
  unfold vVals
  rw [e]
  simp only [bnd_ok, s, Option.bind_some, entP, rws, List.map_map]
  rfl
theorem t34_ok (sc : D) {B : Nat} {js : List J} (h : JOk B js) (x2 x4 : Option D) (a b m : Int) (f : Sv) : sSeq T_3 (sSeq T_4 f) (E sc x2 (some (.ref 2)) x4 (some (lj js)) none none none none none none none none none none) (S3 a b m (.fK (KVs js))) = f (E sc x2 (some (.ref 2)) x4 (some (lj js)) (some (.p (.lst ((endsL (zer B) (rws js)).map TP)))) none none none none none none none none none) (S3 a b m (.fK (KVs js))) := by
  have hn := h.n
  have w0 := s3_wf a b m js
  have v := vals_ok (js := js) (δ := E sc x2 (some (.ref 2)) x4 (some (lj js)) none none none none none none none none none none) rfl a b m
  have le := lends_ok h.b.2 (rs := rws js) (fun r hr => by
    obtain ⟨j, hj, rfl⟩ := List.mem_map.mp hr
    exact h.l j hj) (by unfold rws; rw [List.length_map]; omega) (S3 a b m (.fK (KVs js))) w0
  have eo := ends_ok h (S3 a b m (.fK (KVs js))) w0
  have ck := check_ok h (S3 a b m (.fK (KVs js)))
  have pe : pEq (.lst ((endsL (zer B) (rws js)).map TP)) (.lst ((endsL (zer B) (rws js)).map TP)) = some true := pEq_self (by
    unfold okD
    refine okDs_all _ _ fun y hy => ?_
    obtain ⟨r, _, rfl⟩ := List.mem_map.mp hy
    unfold TP okD
    refine okDs_all _ _ fun z hz => ?_
    obtain ⟨i, _, rfl⟩ := List.mem_map.mp hz
    unfold okD; rfl)
  have a3 : T_3 (E sc x2 (some (.ref 2)) x4 (some (lj js)) none none none none none none none none none none) (S3 a b m (.fK (KVs js))) = .nx (E sc x2 (some (.ref 2)) x4 (some (lj js)) (some (.p (.lst ((endsL (zer B) (rws js)).map TP)))) none none none none none none none none none) (S3 a b m (.fK (KVs js))) := asg_nx ((fn1_of v).trans le) rfl
  have a4 : T_4 (E sc x2 (some (.ref 2)) x4 (some (lj js)) (some (.p (.lst ((endsL (zer B) (rws js)).map TP)))) none none none none none none none none none) (S3 a b m (.fK (KVs js))) = .nx (E sc x2 (some (.ref 2)) x4 (some (lj js)) (some (.p (.lst ((endsL (zer B) (rws js)).map TP)))) none none none none none none none none none) (S3 a b m (.fK (KVs js))) := by
    refine if_f (or_ff ?_ ?_)
    · exact tst_of (eq_of (x := .lst ((endsL (zer B) (rws js)).map TP)) ((cal1_of ((fn1_of (d := lj js) rfl).trans eo)).trans rfl) rfl pe)
    · exact tst_of ((v2_of ((fn1_of (d := lj js) rfl).trans ck) rfl).trans rfl)
  exact (seqn a3).trans (seqn a4)
end Q11
end

section
set_option linter.all false
set_option maxHeartbeats 4100000
set_option maxRecDepth 10000
open PySem L2 Iv K11
namespace Q11
/-! ### how long a bench waits -/
theorem stepR_ge (b : Nat) : ∀ (fs ms : List Int) (t : Int), fs.length = ms.length → b < ms.length → fs.getD b 0 + ms.getD b 0 ≤ (stepR t fs ms).getD b 0 := by
  intro fs
  induction fs generalizing b with
  | nil => intro ms t h hb; rw [← h] at hb; simp at hb
  | cons f fs ih =>
    intro ms t h hb
    cases ms with
    | nil => simp at h
    | cons m ms =>
      unfold stepR
      cases b with
      | zero =>
        simp only [List.getD_cons_zero]
        have := max_r t f
        omega
      | succ b =>
        simp only [List.getD_cons_succ]
        exact ih b ms _ (by simpa using h) (by simpa using hb)
where
  max_r (i j : Int) : j ≤ maxI i j := by unfold maxI; split <;> omega
def bsy (b : Nat) (es rs : List (List Int)) : List (Int × Int) := (es.zip rs).map fun z => (z.1.getD b 0 - z.2.getD b 0, z.1.getD b 0)
def gaps (xs : List (Int × Int)) : List Int := (xs.zip xs.tail).map fun z => maxI 0 (z.2.1 - z.1.2)
def lastE (b : Nat) (es : List (List Int)) : Int := (es.getLastD []).getD b 0
theorem gaps_sum (B b : Nat) (hb : b < B) : ∀ (rs : List (List Int)) (r : List Int) (free : List Int), free.length = B → r.length = B → (∀ q ∈ rs, q.length = B) →
    (gaps (bsy b (endsL free (r :: rs)) (r :: rs))).sum = lastE b (endsL free (r :: rs)) - ((stepR 0 free r).getD b 0 - r.getD b 0) - ((r :: rs).map fun q => q.getD b 0).sum
  | [], r, free, hf, hr, _ => by
    unfold gaps bsy lastE endsL endsL
    simp
    omega
  | r' :: rs, r, free, hf, hr, hq => by
    have hr' := hq r' (List.mem_cons_self ..)
    have sl := stepR_len free r 0 (by omega)
    have ge := stepR_ge b (stepR 0 free r) r' 0 (by omega) (by omega)
    have ih := gaps_sum B b hb rs r' (stepR 0 free r) (by omega) hr' (fun q h => hq q (List.mem_cons_of_mem _ h))
    have e1 : endsL free (r :: r' :: rs) = stepR 0 free r :: endsL (stepR 0 free r) (r' :: rs) := rfl
    have e2 : endsL (stepR 0 free r) (r' :: rs) = stepR 0 (stepR 0 free r) r' :: endsL (stepR 0 (stepR 0 free r) r') rs := rfl
    have l : lastE b (endsL free (r :: r' :: rs)) = lastE b (endsL (stepR 0 free r) (r' :: rs)) := by
      rw [e1, e2]
      unfold lastE
      simp [List.getLastD]
    have g : (gaps (bsy b (endsL free (r :: r' :: rs)) (r :: r' :: rs))).sum = maxI 0 ((stepR 0 (stepR 0 free r) r').getD b 0 - r'.getD b 0 - (stepR 0 free r).getD b 0) + (gaps (bsy b (endsL (stepR 0 free r) (r' :: rs)) (r' :: rs))).sum := by
      rw [e1, e2]
      unfold gaps bsy
      simp
    rw [g, ih, l]
    have mx : maxI 0 ((stepR 0 (stepR 0 free r) r').getD b 0 - r'.getD b 0 - (stepR 0 free r).getD b 0) = (stepR 0 (stepR 0 free r) r').getD b 0 - r'.getD b 0 - (stepR 0 free r).getD b 0 := by
      unfold maxI
      split <;> omega
    rw [mx]
    simp only [List.map_cons, List.sum_cons]
    omega
def idl (b : Nat) (free : List Int) (rs : List (List Int)) : Int := (gaps (bsy b (endsL free rs) rs)).sum
theorem ends_len : ∀ (rs : List (List Int)) (free : List Int), (endsL free rs).length = rs.length
  | [], _ => rfl
  | r :: rs, free => by
    show (stepR 0 free r :: endsL (stepR 0 free r) rs).length = _
    rw [List.length_cons, List.length_cons, ends_len rs]
theorem ends_rows (B : Nat) : ∀ (rs : List (List Int)) (free : List Int), free.length = B → (∀ r ∈ rs, r.length = B) → ∀ e ∈ endsL free rs, e.length = B
  | [], _, _, _, e, h => by cases h
  | r :: rs, free, hf, hr, e, h => by
    have h1 := hr r (List.mem_cons_self ..)
    have sl := stepR_len free r 0 (by omega)
    have h : e ∈ stepR 0 free r :: endsL (stepR 0 free r) rs := h
    rcases List.mem_cons.mp h with (rfl | h)
    · omega
    · exact ends_rows B rs _ (by omega) (fun q hq => hr q (List.mem_cons_of_mem _ hq)) e h
def pr2 (x : Int × Int) : P := .tup [.int x.1, .int x.2]
theorem ixt (xs : List Int) (i : Nat) (h : i < xs.length) (s : Store) : oIx (.p (TP xs)) (.p (.int (i : Nat))) s = .ok (.p (.int (xs.getD i 0))) s :=
  ix_tup xs i _ (by rw [List.getD_eq_getElem?_getD, List.getElem?_eq_getElem h]; rfl) s
theorem ixv {i j : Nat} {k : Nat} {xs : List Int} {δ : Iv.Env} {s : Store} (h1 : δ[i]? = some (some (.p (TP xs)))) (h2 : δ[j]? = some (some (.p (.int (k : Nat))))) (h : k < xs.length) : v2 oIx (vV i) (vV j) δ s = .ok (.p (.int (xs.getD k 0))) s :=
  (v2_of (by unfold vV; rw [h1]) (by unfold vV; rw [h2])).trans (ixt xs k h s)
def busyE : Ev D := vCmp (itZV (vV 6) (vV 3)) (tvT 2 (tsC (tvN 17) (tsC (tvN 18) (tsN)))) (bYes) (vTup (aC (v2 oSub (v2 oIx (vV 17) (vV 8)) (v2 oIx (vV 18) (vV 8))) (aC (v2 oIx (vV 17) (vV 8)) (aN)))) [17, 18]
def gapE : Ev D := vCmp (itZ (aC (vV 9) (aC (vSl (vV 9) (poS (vK (.int 1))) (poN)) (aN)))) (tvT 2 (tsC (tvT 2 (tsC (tvN 12) (tsC (tvN 17) (tsN)))) (tsC (tvT 2 (tsC (tvN 21) (tsC (tvN 22) (tsN)))) (tsN)))) (bYes) (vCal (fBest true) (aC (vK (.int 0)) (aC (v2 oSub (vV 21) (vV 17)) (aN)))) [12, 17, 21, 22]
def S4 (a b m : Int) (js : List J) (r : List Cell) : Store := [dC a b m, .lst [.ref 0], .fK (KVs js)] ++ r
theorem sub_of {f g : Ev D} {δ : Iv.Env} {s : Store} {i j : Int} (h1 : f δ s = .ok (.p (.int i)) s) (h2 : g δ s = .ok (.p (.int j)) s) : v2 oSub f g δ s = .ok (.p (.int (i - j))) s := (v2_of h1 h2).trans rfl
theorem tup2_of {f g : Ev D} {δ : Iv.Env} {s : Store} {x y : P} (h1 : f δ s = .ok (.p x) s) (h2 : g δ s = .ok (.p y) s) : vTup (aC f (aC g aN)) δ s = .ok (.p (.tup [x, y])) s := by
  unfold vTup
  rw [args2 h1 h2]
  rfl
theorem busy_ok (sc : D) {B : Nat} {js : List J} (h : JOk B js) (b : Nat) (hb : b < B) (x2 x4 x5 x7 x9 : Option D) (a c m : Int) (r : List Cell) :
    busyE (E sc x2 (some (.ref 2)) x4 x5 (some (.p (.lst ((endsL (zer B) (rws js)).map TP)))) x7 (some (.p (.int (b : Nat)))) x9 none none none none none none) (S4 a c m js r) = .ok (.p (.lst ((bsy b (endsL (zer B) (rws js)) (rws js)).map pr2))) (S4 a c m js r) := by
  have hl : ∀ q ∈ rws js, q.length = B := fun q hq => by
    obtain ⟨j, hj, rfl⟩ := List.mem_map.mp hq
    exact h.l j hj
  have he := ends_rows B (rws js) (zer B) (by simp [zer]) hl
  have pv : pAll ((KVs js).map (·.2)) = some ((rws js).map TP) := by
    have : (KVs js).map (·.2) = ((rws js).map TP).map D.p := by
      unfold KVs rws
      rw [List.map_map, List.map_map, List.map_map]
      rfl
    rw [this, pAll_map]
  have it : itZV (vV 6) (vV 3) (E sc x2 (some (.ref 2)) x4 x5 (some (.p (.lst ((endsL (zer B) (rws js)).map TP)))) x7 (some (.p (.int (b : Nat)))) x9 none none none none none none) (S4 a c m js r) = .ok ⟨(((endsL (zer B) (rws js)).zip (rws js)).map fun z => P.tup [TP z.1, TP z.2]).map .p, none⟩ (S4 a c m js r) := by
    have g2 : (S4 a c m js r)[2]? = some (.fK (KVs js)) := rfl
    have z : zipP ((endsL (zer B) (rws js)).map TP) ((rws js).map TP) = ((endsL (zer B) (rws js)).zip (rws js)).map fun z => P.tup [TP z.1, TP z.2] := by
      unfold zipP
      rw [List.zip_map, List.map_map]
      rfl
    rw [← z]
    have e1 : vV 6 (E sc x2 (some (.ref 2)) x4 x5 (some (.p (.lst ((endsL (zer B) (rws js)).map TP)))) x7 (some (.p (.int (b : Nat)))) x9 none none none none none none) (S4 a c m js r) = .ok (.p (.lst ((endsL (zer B) (rws js)).map TP))) (S4 a c m js r) := rfl
    have e2 : vV 3 (E sc x2 (some (.ref 2)) x4 x5 (some (.p (.lst ((endsL (zer B) (rws js)).map TP)))) x7 (some (.p (.int (b : Nat)))) x9 none none none none none none) (S4 a c m js r) = .ok (.ref 2) (S4 a c m js r) := rfl
    unfold itZV
    rw [e1]
    simp only [bnd_ok, e2, g2, lstP, pv]
  have hn := h.n
  have len : ((endsL (zer B) (rws js)).zip (rws js)).length ≤ szLine := by
    rw [List.length_zip, ends_len, szLine_eq]
    unfold rws
    rw [List.length_map]
    omega
  have q := vCmp_all (t := tvT 2 (tsC (tvN 17) (tsC (tvN 18) (tsN)))) (e := vTup (aC (v2 oSub (v2 oIx (vV 17) (vV 8)) (v2 oIx (vV 18) (vV 8))) (aC (v2 oIx (vV 17) (vV 8)) (aN)))) (vs := [17, 18]) ((endsL (zer B) (rws js)).zip (rws js)) (fun z => P.tup [TP z.1, TP z.2]) (fun z => pr2 (z.1.getD b 0 - z.2.getD b 0, z.1.getD b 0)) len it (fun z hz => by
    obtain ⟨z1, z2⟩ := z
    have hz' := List.of_mem_zip hz
    have l1 := he z1 hz'.1
    have l2 := hl z2 hz'.2
    refine ⟨((E sc x2 (some (.ref 2)) x4 x5 (some (.p (.lst ((endsL (zer B) (rws js)).map TP)))) x7 (some (.p (.int (b : Nat)))) x9 none none none none none none).set 17 (some (.p (TP z1)))).set 18 (some (.p (TP z2))), rfl, ?_⟩
    have k1 : b < z1.length := by omega
    have k2 : b < z2.length := by omega
    exact tup2_of (sub_of (ixv (xs := z1) rfl rfl k1) (ixv (xs := z2) rfl rfl k2)) (ixv (xs := z1) rfl rfl k1))
  unfold busyE
  rw [q]
  unfold bsy
  rw [List.map_map]
  rfl
theorem sl_one (xs : List P) (x : P) (s : Store) : oSl (.p (.lst (x :: xs))) (some 1) none s = .ok (.p (.lst xs)) s := by
  have h1 : HT.sIx (x :: xs).length 0 (some 1) = 1 := by
    unfold HT.sIx
    simp
  have h2 : HT.sIx (x :: xs).length (x :: xs).length none = (x :: xs).length := rfl
  unfold oSl
  simp only [see, cutL, h1, h2]
  simp
theorem gap_ok (xs : List (Int × Int)) (hx : xs ≠ []) (hl : xs.length ≤ 100) (sc : D) (x2 x3 x4 x5 x6 x7 x8 : Option D) (s : Store) :
    gapE (E sc x2 x3 x4 x5 x6 x7 x8 (some (.p (.lst (xs.map pr2)))) none none none none none none) s = .ok (.p (.lst ((gaps xs).map .int))) s := by
  obtain ⟨y, ys, rfl⟩ : ∃ y ys, xs = y :: ys := by
    cases xs with
    | nil => exact (hx rfl).elim
    | cons y ys => exact (⟨y, ys, rfl⟩)
  have it : itZ (aC (vV 9) (aC (vSl (vV 9) (poS (vK (.int 1))) (poN)) (aN))) (E sc x2 x3 x4 x5 x6 x7 x8 (some (.p (.lst ((y :: ys).map pr2)))) none none none none none none) s = .ok ⟨((((y :: ys).zip ys)).map fun z => P.tup [pr2 z.1, pr2 z.2]).map .p, none⟩ s := by
    have z : zipP ((y :: ys).map pr2) (ys.map pr2) = ((y :: ys).zip ys).map fun z => P.tup [pr2 z.1, pr2 z.2] := by
      unfold zipP
      rw [List.zip_map, List.map_map]
      rfl
    rw [← z]
    have sl : oSl (.p (.lst ((y :: ys).map pr2))) (some 1) none s = .ok (.p (.lst (ys.map pr2))) s := sl_one (ys.map pr2) (pr2 y) s
    have e1 : vV 9 (E sc x2 x3 x4 x5 x6 x7 x8 (some (.p (.lst ((y :: ys).map pr2)))) none none none none none none) s = .ok (.p (.lst ((y :: ys).map pr2))) s := rfl
    have e2 : vSl (vV 9) (poS (vK (.int 1))) (poN) (E sc x2 x3 x4 x5 x6 x7 x8 (some (.p (.lst ((y :: ys).map pr2)))) none none none none none none) s = .ok (.p (.lst (ys.map pr2))) s := by
      unfold vSl poS poN
      rw [e1]
      exact sl
    unfold itZ
    rw [args2 e1 e2]
    rfl
  have q := vCmp_all (t := tvT 2 (tsC (tvT 2 (tsC (tvN 12) (tsC (tvN 17) (tsN)))) (tsC (tvT 2 (tsC (tvN 21) (tsC (tvN 22) (tsN)))) (tsN)))) (e := vCal (fBest true) (aC (vK (.int 0)) (aC (v2 oSub (vV 21) (vV 17)) (aN)))) (vs := [12, 17, 21, 22]) ((y :: ys).zip ys) (fun z => P.tup [pr2 z.1, pr2 z.2]) (fun z => .int (maxI 0 (z.2.1 - z.1.2))) (by rw [List.length_zip, szLine_eq]; rw [List.length_cons] at hl ⊢; omega) it (fun z hz => by
    obtain ⟨⟨z1, z2⟩, z3, z4⟩ := z
    exact ⟨((((E sc x2 x3 x4 x5 x6 x7 x8 (some (.p (.lst ((y :: ys).map pr2)))) none none none none none none).set 12 (some (.p (.int z1)))).set 17 (some (.p (.int z2)))).set 21 (some (.p (.int z3)))).set 22 (some (.p (.int z4))), rfl, rfl⟩)
  unfold gapE
  rw [q]
  unfold gaps
  rw [List.map_map]
  rfl
end Q11
end

section
set_option linter.all false
set_option maxHeartbeats 4100000
set_option maxRecDepth 10000
open PySem L2 Iv K11
namespace Q11
def ids (B n : Nat) (js : List J) : List Int := (List.range n).map fun b => idl b (zer B) (rws js)
def bdI : Sv := sSeq (sAsg busyE (gvN 9)) (sDo (vMet isList mApp (vV 7) (aC (vCal fSum (aC gapE (aN))) (aN))))
theorem bsy_ne {B : Nat} {js : List J} (h : JOk B js) (b : Nat) : bsy b (endsL (zer B) (rws js)) (rws js) ≠ [] ∧ (bsy b (endsL (zer B) (rws js)) (rws js)).length ≤ 100 := by
  have hn := h.n
  have l : (bsy b (endsL (zer B) (rws js)) (rws js)).length = js.length := by
    unfold bsy
    rw [List.length_map, List.length_zip, ends_len]
    unfold rws
    rw [List.length_map]
    omega
  refine ⟨fun e => ?_, by omega⟩
  rw [e] at l
  simp at l
  omega
theorem S4_get (a c m : Int) (js : List J) (x : Cell) : (S4 a c m js [x])[3]? = some x := rfl
theorem app_of {i n : Nat} {v : Ev D} {δ : Iv.Env} {s s' : Store} {d : D} (h1 : δ[i]? = some (some (.ref n))) (h2 : v δ s = .ok d s) (h3 : isList (.ref n) s = true) (h4 : mApp (.ref n) [d] s = .ok (.p .non) s') : sDo (vMet isList mApp (vV i) (aC v aN)) δ s = .nx δ s' := by
  unfold sDo vMet vV aC aN
  rw [h1]
  simp only [bnd_ok, h2, h3, h4, if_true]
theorem bdI_ok (sc : D) {B : Nat} {js : List J} (h : JOk B js) (b : Nat) (hb : b < B) (x2 x4 x5 x9 : Option D) (a c m : Int) : ∃ x9', bdI (E sc x2 (some (.ref 2)) x4 x5 (some (.p (.lst ((endsL (zer B) (rws js)).map TP)))) (some (.ref 3)) (some (.p (.int (b : Nat)))) x9 none none none none none none) (S4 a c m js [L (ids B b js)])
    = .nx (E sc x2 (some (.ref 2)) x4 x5 (some (.p (.lst ((endsL (zer B) (rws js)).map TP)))) (some (.ref 3)) (some (.p (.int (b : Nat)))) x9' none none none none none none) (S4 a c m js [L (ids B (b + 1) js)]) := by
  have hB := h.b
  have b1 := busy_ok sc h b hb x2 x4 x5 (some (.ref 3)) x9 a c m [L (ids B b js)]
  have ne := bsy_ne h b
  have g1 := gap_ok _ ne.1 ne.2 sc x2 (some (.ref 2)) x4 x5 (some (.p (.lst ((endsL (zer B) (rws js)).map TP)))) (some (.ref 3)) (some (.p (.int (b : Nat)))) (S4 a c m js [L (ids B b js)])
  have a1 : sAsg busyE (gvN 9) (E sc x2 (some (.ref 2)) x4 x5 (some (.p (.lst ((endsL (zer B) (rws js)).map TP)))) (some (.ref 3)) (some (.p (.int (b : Nat)))) x9 none none none none none none) (S4 a c m js [L (ids B b js)]) = .nx (E sc x2 (some (.ref 2)) x4 x5 (some (.p (.lst ((endsL (zer B) (rws js)).map TP)))) (some (.ref 3)) (some (.p (.int (b : Nat)))) (some (.p (.lst ((bsy b (endsL (zer B) (rws js)) (rws js)).map pr2)))) none none none none none none) (S4 a c m js [L (ids B b js)]) := asg_nx b1 rfl
  refine ⟨some (.p (.lst ((bsy b (endsL (zer B) (rws js)) (rws js)).map pr2))), (seqn a1).trans ?_⟩
  have sm : fSum [.p (.lst ((gaps (bsy b (endsL (zer B) (rws js)) (rws js))).map .int))] (S4 a c m js [L (ids B b js)]) = .ok (.p (.int (idl b (zer B) (rws js)))) (S4 a c m js [L (ids B b js)]) := by
    have al := allInt_map (fun x : Int => x) (gaps (bsy b (endsL (zer B) (rws js)) (rws js)))
    rw [List.map_id'] at al
    unfold fSum
    simp only [see]
    rw [show ((gaps (bsy b (endsL (zer B) (rws js)) (rws js))).map P.int) = (gaps (bsy b (endsL (zer B) (rws js)) (rws js))).map (fun x => P.int x) from rfl, al]
    rfl
  have i3 : isList (.ref 3) (S4 a c m js [L (ids B b js)]) = true := rfl
  have m3 : mApp (.ref 3) [.p (.int (idl b (zer B) (rws js)))] (S4 a c m js [L (ids B b js)]) = .ok (.p .non) (S4 a c m js [L (ids B (b + 1) js)]) := by
    have e : L (ids B (b + 1) js) = .lst (((ids B b js).map P.int).map D.p ++ [.p (.int (idl b (zer B) (rws js)))]) := by
      unfold L ids
      rw [List.range_succ, List.map_append, List.map_append, List.map_append]
      rfl
    have l : (((ids B b js).map P.int).map D.p).length < szLine := by
      unfold ids
      rw [List.length_map, List.length_map, List.length_map, List.length_range, szLine_eq]
      omega
    rw [e]
    show (if (((ids B b js).map P.int).map D.p).length < szLine then Res.ok (D.p P.non) ((S4 a c m js [L (ids B b js)]).set 3 (.lst (((ids B b js).map P.int).map D.p ++ [.p (.int (idl b (zer B) (rws js)))]))) else .bad) = _
    rw [if_pos l]
    rfl
  exact app_of rfl ((cal1_of g1).trans sm) i3 m3
theorem t56_ok (sc : D) {B : Nat} {js : List J} (h : JOk B js) (x4 x5 : Option D) (a c m : Int) : ∃ x8 x9, ∀ f : Sv, sSeq T_5 (sSeq T_6 f) (E sc (some (.p (.int (B : Nat)))) (some (.ref 2)) x4 x5 (some (.p (.lst ((endsL (zer B) (rws js)).map TP)))) none none none none none none none none none) (S3 a c m (.fK (KVs js)))
    = f (E sc (some (.p (.int (B : Nat)))) (some (.ref 2)) x4 x5 (some (.p (.lst ((endsL (zer B) (rws js)).map TP)))) (some (.ref 3)) x8 x9 none none none none none none) (S4 a c m js [L (ids B B js)]) := by
  have hB := h.b
  have a5 : T_5 (E sc (some (.p (.int (B : Nat)))) (some (.ref 2)) x4 x5 (some (.p (.lst ((endsL (zer B) (rws js)).map TP)))) none none none none none none none none none) (S3 a c m (.fK (KVs js))) = .nx (E sc (some (.p (.int (B : Nat)))) (some (.ref 2)) x4 x5 (some (.p (.lst ((endsL (zer B) (rws js)).map TP)))) (some (.ref 3)) none none none none none none none none) (S4 a c m js [L (ids B 0 js)]) := rfl
  obtain ⟨δ', st', ee, x8, x9, rfl, rfl⟩ := for_data (t := gvN 8) (b := bdI) (List.range B) (fun j => P.int (j : Nat)) (fun j δ st => ∃ x8 x9, δ = E sc (some (.p (.int (B : Nat)))) (some (.ref 2)) x4 x5 (some (.p (.lst ((endsL (zer B) (rws js)).map TP)))) (some (.ref 3)) x8 x9 none none none none none none ∧ st = S4 a c m js [L (ids B j js)]) (fun j x δ st hx hJ => by
    obtain ⟨x8, x9, rfl, rfl⟩ := hJ
    have hlt := (List.getElem?_eq_some_iff.mp hx).1
    rw [List.length_range] at hlt
    have hxj : x = j := by
      rw [List.getElem?_range hlt] at hx
      exact (Option.some.inj hx).symm
    subst hxj
    obtain ⟨x9', e'⟩ := bdI_ok sc h x hlt (some (.p (.int (B : Nat)))) x4 x5 x9 a c m
    exact ⟨E sc (some (.p (.int (B : Nat)))) (some (.ref 2)) x4 x5 (some (.p (.lst ((endsL (zer B) (rws js)).map TP)))) (some (.ref 3)) (some (.p (.int (x : Nat)))) x9 none none none none none none, S4 a c m js [L (ids B x js)], _, _, rfl, e', _, _, rfl, rfl⟩) (δ := E sc (some (.p (.int (B : Nat)))) (some (.ref 2)) x4 x5 (some (.p (.lst ((endsL (zer B) (rws js)).map TP)))) (some (.ref 3)) none none none none none none none none) (st := S4 a c m js [L (ids B 0 js)]) ⟨none, none, rfl, rfl⟩
  rw [List.length_range] at ee
  refine ⟨x8, x9, fun f => (seqn a5).trans (seqn (forI_of (itR1_nat B (by omega) (B : Int) rfl rfl) fun len => ?_))⟩
  have := ee len
  rw [List.map_map] at this
  exact this
end Q11
end

section
set_option linter.all false
set_option maxHeartbeats 4100000
set_option maxRecDepth 10000
open PySem L2 Iv K11
namespace Q11
theorem args1 {f : Ev D} {δ : Iv.Env} {s s1 : Store} {d : D} (hf : f δ s = .ok d s1) : aC f aN δ s = .ok [d] s1 := by
  unfold aC
  rw [hf]
  rfl
theorem atI_last {α : Type} (xs : List α) (x : α) : L2.atI (xs ++ [x]) (-1) = some x := by
  unfold L2.atI L2.ixN
  have h1 : ¬ (0 : Int) ≤ -1 := by decide
  have h2 : -(((xs ++ [x]).length : Nat) : Int) ≤ -1 := by simp; omega
  have h3 : ((-1 : Int) + (((xs ++ [x]).length : Nat) : Int)).toNat = xs.length := by simp; omega
  rw [if_neg h1, if_pos h2]
  simp only [Option.bind_some, h3]
  simp
theorem wf_app {s : Store} (h : WfS s) (xs : List Int) : WfS (s ++ [L xs]) := by
  unfold WfS at *
  rw [List.all_append, Bool.and_eq_true]
  constructor
  · rw [List.all_eq_true] at *
    intro c hc
    exact wfC_mono (by simp) c (h c hc)
  · simp [L, wfC, wfD]
def sm (b : Nat) (js : List J) : Int := ((rws js).map fun q => q.getD b 0).sum
theorem sum_ok {B : Nat} {js : List J} (h : JOk B js) (b : Nat) (hb : b < B) (x1 x2 x4 : Option D) (s : Store) : vGenD (itA (vV 0)) (tvN 5) (bYes) (v2 oIx (vFld [2] "minutes" (vV 5)) (vV 3)) [5] kSum [some (lj js), x1, x2, some (.p (.int (b : Nat))), x4, none] s = .ok (.p (.int (sm b js))) s := by
  have hn := h.n
  have k := compL_all (t := tvN 5) (e := v2 oIx (vFld [2] "minutes" (vV 5)) (vV 3)) (δ0 := [some (lj js), x1, x2, some (.p (.int (b : Nat))), x4, none]) (st := s) js ob (fun j => P.int (j.2.getD b 0)) (fun j hj => by
    have l := h.l j hj
    refine ⟨[some (lj js), x1, x2, some (.p (.int (b : Nat))), x4, some (.p (ob j))], rfl, ?_⟩
    exact (v2_of (x := .p (TP j.2)) rfl rfl).trans (ixt j.2 b (by omega) s))
  have sp : (js.map fun j => P.int (j.2.getD b 0)) = ((rws js).map fun q => q.getD b 0).map .int := by
    unfold rws
    rewrite [List.map_map]; rw [List.map_map]
    rfl
  have so : sumOk ((rws js).map fun q => q.getD b 0) = true := by
    unfold sumOk sumLe
    rw [Bool.or_eq_true]
    left
    rw [List.all_eq_true]
    intro y hy
    obtain ⟨q, hq, rfl⟩ := List.mem_map.mp hy
    obtain ⟨j, hj, rfl⟩ := List.mem_map.mp hq
    have l := h.l j hj
    have m := h.m j hj (j.2.getD b 0) (by rw [List.getD_eq_getElem?_getD, List.getElem?_eq_getElem (by omega)]; exact List.getElem_mem _)
    generalize j.2.getD b 0 = z at *
    rewrite [Bool.and_eq_true]; rw [decide_eq_true_eq, decide_eq_true_eq]
    omega
  have al := allInt_map (fun x : Int => x) ((rws js).map fun q => q.getD b 0)
  rw [List.map_id'] at al
  have it : itA (vV 0) [some (lj js), x1, x2, some (.p (.int (b : Nat))), x4, none] s = .ok ⟨(js.map ob).map .p, none⟩ s := rfl
  have w : wipE [some (lj js), x1, x2, some (.p (.int (b : Nat))), x4, none] [5] = [some (lj js), x1, x2, some (.p (.int (b : Nat))), x4, none] := rfl
  have hl : js.length ≤ szLine := by rw [szLine_eq]; omega
  have hl2 : (((rws js).map fun q => q.getD b 0).map P.int).length ≤ szLine := by
    unfold rws
    rw [List.length_map, List.length_map, List.length_map]
    exact hl
  unfold vGenD
  rw [it]
  simp only [List.length_map, hl, if_true, w, k]
  rw [sp]
  unfold kSum
  simp only [pAll_map]
  rw [show (((rws js).map fun q => q.getD b 0).map P.int) = ((rws js).map fun q => q.getD b 0).map (fun x => P.int x) from rfl, al]
  simp only [List.length_map, so, and_true]
  rw [if_pos (by unfold rws; rw [List.length_map]; exact hl)]
  rfl
def bdJ : Sv := sSeq (sAsg (v2 oSub (v2 oIx (v2 oIx (vV 2) (vK (.int 0))) (vV 3)) (v2 oIx (vFld [2] "minutes" (v2 oIx (vV 0) (vK (.int 0)))) (vV 3))) (gvN 4))
  (sDo (vMet isList mApp (vV 1) (aC (v2 oSub (v2 oSub (v2 oIx (v2 oIx (vV 2) (vU oNeg (vK (.int 1)))) (vV 3)) (vV 4)) (vGenD (itA (vV 0)) (tvN 5) (bYes) (v2 oIx (vFld [2] "minutes" (vV 5)) (vV 3)) [5] kSum)) (aN))))
theorem lastE_eq (b : Nat) (xs : List (List Int)) (x : List Int) : lastE b (xs ++ [x]) = x.getD b 0 := by
  unfold lastE
  simp [List.getLastD_eq_getLast?]
theorem idle_ok {B : Nat} {js : List J} (h : JOk B js) (s : Store) (w0 : WfS s) : f_idle_minutes [lj js] s = .ok (.p (TP (ids B B js))) s := by
  have hB := h.b
  have hn := h.n
  have eo := ends_ok h (s ++ [L []]) (wf_app w0 [])
  change f_ends_of [lj js] _ = .ok (.p (.tup ((endsL (zer B) (rws js)).map TP))) _ at eo
  have hl : ∀ q ∈ rws js, q.length = B := fun q hq => by
    obtain ⟨j, hj, rfl⟩ := List.mem_map.mp hq
    exact h.l j hj
  have he := ends_rows B (rws js) (zer B) (by simp [zer]) hl
  have hle := ends_len (rws js) (zer B)
  -- the first and the last
  obtain ⟨j0, js', hjs⟩ : ∃ j js', js = j :: js' := by
    cases js with
    | nil => simp at hn
    | cons j js' => exact ⟨j, js', rfl⟩
  have hr : rws js = j0.2 :: rws js' := by rw [hjs]; rfl
  have hes : endsL (zer B) (rws js) = stepR 0 (zer B) j0.2 :: endsL (stepR 0 (zer B) j0.2) (rws js') := by rw [hr]; rfl
  obtain ⟨ys, y, hy⟩ : ∃ ys y, endsL (zer B) (rws js) = ys ++ [y] := by
    have ne : endsL (zer B) (rws js) ≠ [] := by rw [hes]; simp
    exact ⟨_, _, (List.dropLast_concat_getLast ne).symm⟩
  have ly : y.length = B := he y (by rw [hy]; simp)
  have l0 : (stepR 0 (zer B) j0.2).length = B := he _ (by rw [hes]; simp)
  have lj0 : j0.2.length = B := hl j0.2 (by rw [hr]; simp)
  have val : ∀ b, b < B → idl b (zer B) (rws js) = y.getD b 0 - ((stepR 0 (zer B) j0.2).getD b 0 - j0.2.getD b 0) - sm b js := by
    intro b hb
    have g := gaps_sum B b hb (rws js') j0.2 (zer B) (by simp [zer]) lj0 (fun q hq => hl q (by rw [hr]; exact List.mem_cons_of_mem _ hq))
    rw [← hr, hy, lastE_eq] at g
    unfold idl sm
    rw [hy]
    exact g
  have bd : ∀ b, b < B → ∀ x4, ∃ x4', bdJ [some (lj js), some (.ref s.length), some (.p (.tup ((endsL (zer B) (rws js)).map TP))), some (.p (.int (b : Nat))), x4, none] (s ++ [L (ids B b js)]) = .nx [some (lj js), some (.ref s.length), some (.p (.tup ((endsL (zer B) (rws js)).map TP))), some (.p (.int (b : Nat))), x4', none] (s ++ [L (ids B (b + 1) js)]) := by
    intro b hb x4
    have i0 : v2 oIx (vV 2) (vK (.int 0)) [some (lj js), some (.ref s.length), some (.p (.tup ((endsL (zer B) (rws js)).map TP))), some (.p (.int (b : Nat))), x4, none] (s ++ [L (ids B b js)]) = .ok (.p (TP (stepR 0 (zer B) j0.2))) (s ++ [L (ids B b js)]) := by
      refine (v2_of (x := .p (.tup ((endsL (zer B) (rws js)).map TP))) (y := .p (.int 0)) rfl rfl).trans ?_
      have : L2.atI ((endsL (zer B) (rws js)).map TP) 0 = some (TP (stepR 0 (zer B) j0.2)) := Iv.atI_nat (i := 0) (by rw [hes]; rfl)
      unfold oIx
      simp only [seqP_tup, this]
    have w0' : vFld [2] "minutes" (v2 oIx (vV 0) (vK (.int 0))) [some (lj js), some (.ref s.length), some (.p (.tup ((endsL (zer B) (rws js)).map TP))), some (.p (.int (b : Nat))), x4, none] (s ++ [L (ids B b js)]) = .ok (.p (TP j0.2)) (s ++ [L (ids B b js)]) := by
      have : v2 oIx (vV 0) (vK (.int 0)) [some (lj js), some (.ref s.length), some (.p (.tup ((endsL (zer B) (rws js)).map TP))), some (.p (.int (b : Nat))), x4, none] (s ++ [L (ids B b js)]) = .ok (.p (ob j0)) (s ++ [L (ids B b js)]) := by
        refine (v2_of (x := lj js) (y := .p (.int 0)) rfl rfl).trans ?_
        have : L2.atI (js.map ob) 0 = some (ob j0) := Iv.atI_nat (i := 0) (by rw [hjs]; rfl)
        unfold lj oIx
        simp only [seqP_lst, this]
      unfold vFld
      rw [this]
      rfl
    have st : v2 oSub (v2 oIx (v2 oIx (vV 2) (vK (.int 0))) (vV 3)) (v2 oIx (vFld [2] "minutes" (v2 oIx (vV 0) (vK (.int 0)))) (vV 3)) [some (lj js), some (.ref s.length), some (.p (.tup ((endsL (zer B) (rws js)).map TP))), some (.p (.int (b : Nat))), x4, none] (s ++ [L (ids B b js)]) = .ok (.p (.int ((stepR 0 (zer B) j0.2).getD b 0 - j0.2.getD b 0))) (s ++ [L (ids B b js)]) :=
      sub_of ((v2_of i0 rfl).trans (ixt _ b (by omega) _)) ((v2_of w0' rfl).trans (ixt _ b (by omega) _))
    refine ⟨some (.p (.int ((stepR 0 (zer B) j0.2).getD b 0 - j0.2.getD b 0))), ?_⟩
    have a1 : sAsg (v2 oSub (v2 oIx (v2 oIx (vV 2) (vK (.int 0))) (vV 3)) (v2 oIx (vFld [2] "minutes" (v2 oIx (vV 0) (vK (.int 0)))) (vV 3))) (gvN 4) [some (lj js), some (.ref s.length), some (.p (.tup ((endsL (zer B) (rws js)).map TP))), some (.p (.int (b : Nat))), x4, none] (s ++ [L (ids B b js)]) = .nx [some (lj js), some (.ref s.length), some (.p (.tup ((endsL (zer B) (rws js)).map TP))), some (.p (.int (b : Nat))), some (.p (.int ((stepR 0 (zer B) j0.2).getD b 0 - j0.2.getD b 0))), none] (s ++ [L (ids B b js)]) := asg_nx st rfl
    refine (seqn a1).trans ?_
    have il : v2 oIx (vV 2) (vU oNeg (vK (.int 1))) [some (lj js), some (.ref s.length), some (.p (.tup ((endsL (zer B) (rws js)).map TP))), some (.p (.int (b : Nat))), some (.p (.int ((stepR 0 (zer B) j0.2).getD b 0 - j0.2.getD b 0))), none] (s ++ [L (ids B b js)]) = .ok (.p (TP y)) (s ++ [L (ids B b js)]) := by
      refine (v2_of (x := .p (.tup ((endsL (zer B) (rws js)).map TP))) (y := .p (.int (-1))) rfl rfl).trans ?_
      have : L2.atI ((endsL (zer B) (rws js)).map TP) (-1) = some (TP y) := by
        rw [hy, List.map_append]
        exact atI_last _ _
      unfold oIx
      simp only [seqP_tup, this]
    have v := sub_of (sub_of ((v2_of (b := vV 3) il rfl).trans (ixt y b (by omega) _)) (g := vV 4) rfl) (sum_ok h b hb (some (.ref s.length)) (some (.p (.tup ((endsL (zer B) (rws js)).map TP)))) (some (.p (.int ((stepR 0 (zer B) j0.2).getD b 0 - j0.2.getD b 0)))) (s ++ [L (ids B b js)]))
    rw [← val b hb] at v
    have g3 : (s ++ [L (ids B b js)] : Store)[s.length]? = some (L (ids B b js)) := ap1 _ _ _
    refine app_of (n := s.length) (d := .p (.int (idl b (zer B) (rws js)))) rfl v ?_ ?_
    · unfold isList
      simp only [g3]
      rfl
    · have e : L (ids B (b + 1) js) = .lst (((ids B b js).map P.int).map D.p ++ [.p (.int (idl b (zer B) (rws js)))]) := by
        unfold L ids
        rw [List.range_succ, List.map_append, List.map_append, List.map_append]
        rfl
      have l : (((ids B b js).map P.int).map D.p).length < szLine := by
        unfold ids
        rw [List.length_map, List.length_map, List.length_map, List.length_range, szLine_eq]
        omega
      rw [e]
      unfold mApp
      simp only [g3]
      unfold L
      simp only [l, if_true]
      rw [sp1]
  obtain ⟨δ', st', ee, x3, x4, rfl, rfl⟩ := for_data (t := gvN 3) (b := bdJ) (List.range B) (fun j => P.int (j : Nat)) (fun j δ st => ∃ x3 x4, δ = [some (lj js), some (.ref s.length), some (.p (.tup ((endsL (zer B) (rws js)).map TP))), x3, x4, none] ∧ st = s ++ [L (ids B j js)]) (fun j x δ st hx hJ => by
    obtain ⟨x3, x4, rfl, rfl⟩ := hJ
    have hlt := (List.getElem?_eq_some_iff.mp hx).1
    rw [List.length_range] at hlt
    have hxj : x = j := by
      rw [List.getElem?_range hlt] at hx
      exact (Option.some.inj hx).symm
    subst hxj
    obtain ⟨x4', e'⟩ := bd x hlt x4
    exact ⟨[some (lj js), some (.ref s.length), some (.p (.tup ((endsL (zer B) (rws js)).map TP))), some (.p (.int (x : Nat))), x4, none], s ++ [L (ids B x js)], _, _, rfl, e', _, _, rfl, rfl⟩) (δ := [some (lj js), some (.ref s.length), some (.p (.tup ((endsL (zer B) (rws js)).map TP))), none, none, none]) (st := s ++ [L (ids B 0 js)]) ⟨none, none, rfl, rfl⟩
  rw [List.length_range] at ee
  have lp : sForI (itR1 (aC (vCal fLen (aC (vFld [2] "minutes" (v2 oIx (vV 0) (vK (.int 0)))) (aN))) (aN))) (gvN 3) bdJ [some (lj js), some (.ref s.length), some (.p (.tup ((endsL (zer B) (rws js)).map TP))), none, none, none] (s ++ [L []]) = .nx [some (lj js), some (.ref s.length), some (.p (.tup ((endsL (zer B) (rws js)).map TP))), x3, x4, none] (s ++ [L (ids B B js)]) := by
    refine forI_of (s1 := s ++ [L []]) (itR1_nat B (by omega) (B : Int) rfl ?_) fun len => ?_
    · have i1 : vCal fLen (aC (vFld [2] "minutes" (v2 oIx (vV 0) (vK (.int 0)))) (aN)) [some (lj js), some (.ref s.length), some (.p (.tup ((endsL (zer B) (rws js)).map TP))), none, none, none] (s ++ [L []]) = .ok (.p (.int (B : Nat))) (s ++ [L []]) := by
        have : v2 oIx (vV 0) (vK (.int 0)) [some (lj js), some (.ref s.length), some (.p (.tup ((endsL (zer B) (rws js)).map TP))), none, none, none] (s ++ [L []]) = .ok (.p (ob j0)) (s ++ [L []]) := by
          refine (v2_of (x := lj js) (y := .p (.int 0)) rfl rfl).trans ?_
          have : L2.atI (js.map ob) 0 = some (ob j0) := Iv.atI_nat (i := 0) (by rw [hjs]; rfl)
          unfold lj oIx
          simp only [seqP_lst, this]
        refine (cal1_of (d := .p (TP j0.2)) (s1 := s ++ [L []]) ?_).trans ?_
        · unfold vFld
          rw [this]
          rfl
        · show Res.ok (D.p (P.int ((j0.2.map P.int).length : Nat))) (s ++ [L []]) = _
          rw [List.length_map, lj0]
      exact args1 i1
    · have := ee len
      rw [List.map_map] at this
      exact this
  have tp : fTup [.ref s.length] (s ++ [L (ids B B js)]) = .ok (.p (TP (ids B B js))) (s ++ [L (ids B B js)]) := by
    have g3 : (s ++ [L (ids B B js)] : Store)[s.length]? = some (L (ids B B js)) := ap1 _ _ _
    unfold fTup
    simp only [see, g3]
    unfold L
    simp only [seeC, pAll_map]
    rfl
  have rt : retF s.length (.p (TP (ids B B js))) (s ++ [L (ids B B js)]) = .ok (.p (TP (ids B B js))) s := retF_own w0 _ _
  have a1 : (s ++ [Cell.lst []] : Store) = s ++ [L []] := rfl
  have sz0 : 0 ≤ szLine := by decide
  show fnF false 6 1 (sSeq (sAsg (vLstM (aN)) (gvN 1)) (sSeq (sAsg (vFn f_ends_of (aC (vV 0) (aN)) []) (gvN 2)) (sSeq (sForI (itR1 (aC (vCal fLen (aC (vFld [2] "minutes" (v2 oIx (vV 0) (vK (.int 0)))) (aN))) (aN))) (gvN 3) bdJ) (sRet (vCal fTup (aC (vV 1) (aN))))))) _ s = _
  generalize sForI (itR1 (aC (vCal fLen (aC (vFld [2] "minutes" (v2 oIx (vV 0) (vK (.int 0)))) (aN))) (aN))) (gvN 3) bdJ = LP at *
  generalize lj js = q at *
  generalize (endsL (zer B) (rws js)).map TP = r at *
  generalize s ++ [L (ids B B js)] = st2 at *
  generalize s ++ [L []] = st1 at *
  generalize TP (ids B B js) = v at *
  simp (disch := omega) only [bnd_ok, bnd_exc, fnF, startE, sSeq, sIf, sAsg, sRet, sNx, sAug, sPar, sDo, sRaise, bOr, bAnd, bNot, bYes, tstB, v2, vV, vK, aC, aN, vCal, vU, vIf, vCh, vAnd, vFn, oIx, oAdd, oSub, oMul, oDiv, oMod, oNeg, see, seeC, fInt, fAbs_int, fMax_int, fMin_int, ordI_int, retF_same, excF_same, gvN, gvS, gvT, gsC, gsN, iAdd, L2.atI, L2.ixN, mulOk_l, mulOk_r, log_ok, le_t, le_f, lt_t, lt_f, gt_t, gt_f, ge_t, ge_f, List.getElem?_cons_zero, List.getElem?_cons_succ, List.set_cons_zero, List.set_cons_succ, List.length_cons, List.length_nil, List.map_cons, List.map_nil, List.cons_append, List.nil_append, List.append_nil, List.replicate_succ, List.replicate_zero, Nat.zero_add, Nat.reduceAdd, Nat.reduceSub, Nat.reduceLT, Nat.reduceLeDiff, Int.reduceLT, Int.reduceLE, Int.reduceAdd, Int.reduceSub, Int.reduceMul, Int.reduceNeg, decide_true, decide_false, Bool.not_true, Bool.not_false, reduceCtorEq, ↓reduceIte, and_self, and_true, true_and, if_true, if_false, Bool.false_eq_true, if_pos, if_neg, Int.reduceToNat, Int.toNat_zero, Int.toNat_one, Option.bind_some, Option.map_some, pAll, pAll_map, seqP_lst, seqP_tup, seqP_scr, vTup, vLst, vLstM, szLine_eq, vMet, isList, mApp, last_get, last_set, List.length_map, List.length_append, seeC, oIs, Option.map, a1, eo, lp, tp, rt, sz0]
end Q11
end

section
set_option linter.all false
set_option maxHeartbeats 4100000
set_option maxRecDepth 10000
open PySem L2 Iv K11
namespace Q11
/-! ### what cannot be -/
theorem excF_own2 {s : Store} (w : WfS s) (c : Nat) (cs : List Cell) : excF s.length c (s ++ cs) = .exc c s := by
  unfold excF
  by_cases h : cs = []
  · subst h; simp
  · have : (s ++ cs).length ≠ s.length := by
      have := List.length_pos_iff.mpr h
      simp; omega
    rw [if_neg this]
    have t : (s ++ cs).take s.length = s := by simp
    rw [t]
    unfold WfS at w
    rw [if_pos w]
theorem make_bad {fa : Ev (List D)} {δ : Iv.Env} {s : Store} (w0 : WfS s) (ds : List D) (h : fa δ s = .ok ds s) (hi : f_Work___init__ (.ref s.length :: ds) (s ++ [.obj 2 []]) = .exc 1 (s ++ [.obj 2 []])) : vMake 2 f_Work___init__ false fa [] δ s = .exc 1 s := by
  unfold vMake
  rw [h]
  simp only [bnd_ok, List.append_nil, hi]
  exact excF_own2 w0 1 _
theorem init_lst (s : Store) (j : J) (h1 : j.2 ≠ []) (h2 : ∀ x ∈ j.2, 0 ≤ x) : f_Work___init__ [.ref s.length, .p (.str j.1), .p (.lst (j.2.map .int))] (s ++ [.obj 2 []]) = .ok (.p .non) (s ++ [.obj 2 [("name", .p (.str j.1)), ("minutes", .p (TP j.2))]]) := by
  obtain ⟨mm, hm0, hm⟩ : ∃ mm, 0 ≤ mm ∧ ∀ st, fBest false [.p (.lst (j.2.map .int))] st = .ok (.p (.int mm)) st := ⟨minL j.2, h2 _ (minL_mem h1).1, fun st => fMin_ints (x := .lst (j.2.map .int)) rfl rfl h1⟩
  have ln : ∀ st, fLen [.p (.lst (j.2.map .int))] st = .ok (.p (.int (j.2.length : Nat))) st := fun st => by
    show Res.ok (D.p (P.int ((j.2.map P.int).length : Nat))) st = _
    rw [List.length_map]
  have c1 : ¬ (((j.2.length : Nat) : Int) = 0) := by
    have := List.length_pos_iff.mpr h1
    omega
  have c2 : ¬ mm < 0 := by omega
  have g1 : (s ++ [.obj 2 []] : Store)[s.length]? = some (.obj 2 []) := ap1 _ _ _
  have g2 : (s ++ [.obj 2 [("name", .p (.str j.1))]] : Store)[s.length]? = some (.obj 2 [("name", .p (.str j.1))]) := ap1 _ _ _
  have p1 : (s ++ [.obj 2 []] : Store).set s.length (.obj 2 [("name", .p (.str j.1))]) = s ++ [.obj 2 [("name", .p (.str j.1))]] := sp1 _ _ _ _
  have p2 : (s ++ [.obj 2 [("name", .p (.str j.1))]] : Store).set s.length (.obj 2 [("name", .p (.str j.1)), ("minutes", .p (TP j.2))]) = s ++ [.obj 2 [("name", .p (.str j.1)), ("minutes", .p (TP j.2))]] := sp1 _ _ _ _
  have tp : ∀ st, fTup [.p (.lst (j.2.map .int))] st = .ok (.p (TP j.2)) st := fun st => rfl
  have a1 : sIf (bOr (tstB (v2 (oEq false) (vCal fLen (aC (vV 2) (aN))) (vK (.int 0)))) (tstB (v2 (oOrd .lt) (vCal (fBest false) (aC (vV 2) (aN))) (vK (.int 0))))) (sRaise 1) (sNx) [some (.ref s.length), some (.p (.str j.1)), some (.p (.lst (j.2.map .int)))] (s ++ [.obj 2 []]) = .nx [some (.ref s.length), some (.p (.str j.1)), some (.p (.lst (j.2.map .int)))] (s ++ [.obj 2 []]) := by
    generalize j.2.map P.int = q at *
    generalize ((j.2.length : Nat) : Int) = n at *
    simp (disch := omega) only [bnd_ok, bnd_exc, fnF, startE, sSeq, sIf, sAsg, sRet, sNx, sAug, sPar, sDo, sRaise, bOr, bAnd, bNot, bYes, tstB, v2, vV, vK, aC, aN, vCal, vU, vIf, vCh, vAnd, vFn, oIx, oAdd, oSub, oMul, oDiv, oMod, oNeg, see, seeC, fInt, fAbs_int, fMax_int, fMin_int, ordI_int, retF_same, excF_same, gvN, gvS, gvT, gsC, gsN, iAdd, L2.atI, L2.ixN, mulOk_l, mulOk_r, log_ok, le_t, le_f, lt_t, lt_f, gt_t, gt_f, ge_t, ge_f, List.getElem?_cons_zero, List.getElem?_cons_succ, List.set_cons_zero, List.set_cons_succ, List.length_cons, List.length_nil, List.map_cons, List.map_nil, List.cons_append, List.nil_append, List.append_nil, List.replicate_succ, List.replicate_zero, Nat.zero_add, Nat.reduceAdd, Nat.reduceSub, Nat.reduceLT, Nat.reduceLeDiff, Int.reduceLT, Int.reduceLE, Int.reduceAdd, Int.reduceSub, Int.reduceMul, Int.reduceNeg, decide_true, decide_false, Bool.not_true, Bool.not_false, reduceCtorEq, ↓reduceIte, and_self, and_true, true_and, if_true, if_false, Bool.false_eq_true, if_pos, if_neg, Int.reduceToNat, Int.toNat_zero, Int.toNat_one, Option.bind_some, Option.map_some, pAll, pAll_map, seqP_lst, seqP_tup, seqP_scr, vTup, vLst, vLstM, szLine_eq, vMet, isList, mApp, last_get, last_set, List.length_map, List.length_append, seeC, oIs, Option.map, ln, hm, oEq_int, ordI, c1, c2]
  have a2 : sSetF [2] "name" (vV 0) (vV 1) [some (.ref s.length), some (.p (.str j.1)), some (.p (.lst (j.2.map .int)))] (s ++ [.obj 2 []]) = .nx [some (.ref s.length), some (.p (.str j.1)), some (.p (.lst (j.2.map .int)))] (s ++ [.obj 2 [("name", .p (.str j.1))]]) := by
    unfold sSetF
    simp only [vV, List.getElem?_cons_zero, List.getElem?_cons_succ, g1]
    rw [if_pos (by decide)]
    exact congrArg _ p1
  have a3 : sSetF [2] "minutes" (vV 0) (vCal fTup (aC (vV 2) (aN))) [some (.ref s.length), some (.p (.str j.1)), some (.p (.lst (j.2.map .int)))] (s ++ [.obj 2 [("name", .p (.str j.1))]]) = .nx [some (.ref s.length), some (.p (.str j.1)), some (.p (.lst (j.2.map .int)))] (s ++ [.obj 2 [("name", .p (.str j.1)), ("minutes", .p (TP j.2))]]) := by
    unfold sSetF
    simp only [vV, vCal, aC, aN, bnd_ok, tp, List.getElem?_cons_zero, List.getElem?_cons_succ, g2]
    rw [if_pos (by constructor <;> simp)]
    exact congrArg _ p2
  exact fnF_nx rfl ((seqn a1).trans ((seqn a2).trans a3)) (by simp)
/-- a work of a list -/
theorem make_ok2 {fa : Ev (List D)} {δ : Iv.Env} {s : Store} (w0 : WfS s) (j : J) (h1 : j.2 ≠ []) (h2 : ∀ x ∈ j.2, 0 ≤ x) (h : fa δ s = .ok [.p (.str j.1), .p (.lst (j.2.map .int))] s) : vMake 2 f_Work___init__ false fa [] δ s = .ok (.p (ob j)) s := by
  have i := init_lst s j h1 h2
  unfold vMake
  rw [h]
  simp only [bnd_ok, List.append_nil, i]
  exact retF_cell w0 rfl
theorem lam_0 (δ : Iv.Env) {s : Store} (w0 : WfS s) : lams_law 0 δ s = .exc 1 s := by
  refine make_bad w0 [.p (.str "a"), .p (.lst [])] rfl ?_
  generalize s ++ [Cell.obj 2 []] = st
  have l : fLen [.p (.lst [])] st = .ok (.p (.int 0)) st := rfl
  simp (disch := omega) only [bnd_ok, bnd_exc, fnF, startE, sSeq, sIf, sAsg, sRet, sNx, sAug, sPar, sDo, sRaise, bOr, bAnd, bNot, bYes, tstB, v2, vV, vK, aC, aN, vCal, vU, vIf, vCh, vAnd, vFn, oIx, oAdd, oSub, oMul, oDiv, oMod, oNeg, see, seeC, fInt, fAbs_int, fMax_int, fMin_int, ordI_int, retF_same, excF_same, gvN, gvS, gvT, gsC, gsN, iAdd, L2.atI, L2.ixN, mulOk_l, mulOk_r, log_ok, le_t, le_f, lt_t, lt_f, gt_t, gt_f, ge_t, ge_f, List.getElem?_cons_zero, List.getElem?_cons_succ, List.set_cons_zero, List.set_cons_succ, List.length_cons, List.length_nil, List.map_cons, List.map_nil, List.cons_append, List.nil_append, List.append_nil, List.replicate_succ, List.replicate_zero, Nat.zero_add, Nat.reduceAdd, Nat.reduceSub, Nat.reduceLT, Nat.reduceLeDiff, Int.reduceLT, Int.reduceLE, Int.reduceAdd, Int.reduceSub, Int.reduceMul, Int.reduceNeg, decide_true, decide_false, Bool.not_true, Bool.not_false, reduceCtorEq, ↓reduceIte, and_self, and_true, true_and, if_true, if_false, Bool.false_eq_true, if_pos, if_neg, Int.reduceToNat, Int.toNat_zero, Int.toNat_one, Option.bind_some, Option.map_some, pAll, pAll_map, seqP_lst, seqP_tup, seqP_scr, vTup, vLst, vLstM, szLine_eq, vMet, isList, mApp, last_get, last_set, List.length_map, List.length_append, seeC, oIs, Option.map, f_Work___init__, b_Work___init__, l, oEq_int]
theorem lam_1 (δ : Iv.Env) {s : Store} (w0 : WfS s) : lams_law 1 δ s = .exc 1 s := by
  refine make_bad w0 [.p (.str "a"), .p (.lst [.int (-1)])] rfl ?_
  generalize s ++ [Cell.obj 2 []] = st
  have l : fLen [.p (.lst [.int (-1)])] st = .ok (.p (.int 1)) st := rfl
  have b : fBest false [.p (.lst [.int (-1)])] st = .ok (.p (.int (-1))) st := rfl
  simp (disch := omega) only [bnd_ok, bnd_exc, fnF, startE, sSeq, sIf, sAsg, sRet, sNx, sAug, sPar, sDo, sRaise, bOr, bAnd, bNot, bYes, tstB, v2, vV, vK, aC, aN, vCal, vU, vIf, vCh, vAnd, vFn, oIx, oAdd, oSub, oMul, oDiv, oMod, oNeg, see, seeC, fInt, fAbs_int, fMax_int, fMin_int, ordI_int, retF_same, excF_same, gvN, gvS, gvT, gsC, gsN, iAdd, L2.atI, L2.ixN, mulOk_l, mulOk_r, log_ok, le_t, le_f, lt_t, lt_f, gt_t, gt_f, ge_t, ge_f, List.getElem?_cons_zero, List.getElem?_cons_succ, List.set_cons_zero, List.set_cons_succ, List.length_cons, List.length_nil, List.map_cons, List.map_nil, List.cons_append, List.nil_append, List.append_nil, List.replicate_succ, List.replicate_zero, Nat.zero_add, Nat.reduceAdd, Nat.reduceSub, Nat.reduceLT, Nat.reduceLeDiff, Int.reduceLT, Int.reduceLE, Int.reduceAdd, Int.reduceSub, Int.reduceMul, Int.reduceNeg, decide_true, decide_false, Bool.not_true, Bool.not_false, reduceCtorEq, ↓reduceIte, and_self, and_true, true_and, if_true, if_false, Bool.false_eq_true, if_pos, if_neg, Int.reduceToNat, Int.toNat_zero, Int.toNat_one, Option.bind_some, Option.map_some, pAll, pAll_map, seqP_lst, seqP_tup, seqP_scr, vTup, vLst, vLstM, szLine_eq, vMet, isList, mApp, last_get, last_set, List.length_map, List.length_append, seeC, oIs, Option.map, f_Work___init__, b_Work___init__, l, b, oEq_int, ordI]
  simp [excF_same]
theorem fnF_exc {n k : Nat} {b : Sv} {ds : List D} {s : Store} {c : Nat} (h : ds.length = k) (e : b (startE n ds) s = .exc c s) : fnF false n k b ds s = .exc c s := by
  unfold fnF
  rw [if_pos h, e]
  simp only [if_false, Bool.false_eq_true]
  exact excF_same s c
theorem seqx {f g : Sv} {δ : Iv.Env} {s s1 : Store} {c : Nat} (h : f δ s = .exc c s1) : sSeq f g δ s = .exc c s1 := by
  unfold sSeq
  rw [h]
theorem do_exc {v : Ev D} {δ : Iv.Env} {s s1 : Store} {c : Nat} (h : v δ s = .exc c s1) : sDo v δ s = .exc c s1 := by
  unfold sDo
  rw [h]
theorem asg_exc {v : Ev D} {g : Gv} {δ : Iv.Env} {s s1 : Store} {c : Nat} (h : v δ s = .exc c s1) : sAsg v g δ s = .exc c s1 := by
  unfold sAsg
  rw [h]
theorem chk_nil (s : Store) : f_check_works [.p (.lst [])] s = .exc 1 s := fnF_exc rfl rfl
def o12 : J := ("a", [1, 2])
theorem chk_twice (s : Store) : f_check_works [.p (.lst [ob o12, ob o12])] s = .exc 1 s := fnF_exc rfl rfl
theorem chk_other (s : Store) : f_check_works [.p (.lst [ob o12, ob ("b", [1])])] s = .exc 1 s := fnF_exc rfl rfl
theorem lam_2 (δ : Iv.Env) (s : Store) : lams_law 2 δ s = .exc 1 s := (fn1_of (d := .p (.lst [])) rfl).trans (chk_nil s)
theorem lst2_of {f g : Ev D} {δ : Iv.Env} {s : Store} {x y : P} (h1 : f δ s = .ok (.p x) s) (h2 : g δ s = .ok (.p y) s) : vLst (aC f (aC g aN)) δ s = .ok (.p (.lst [x, y])) s := by
  unfold vLst
  rw [args2 h1 h2]
  rfl
theorem lst1_of {f : Ev D} {δ : Iv.Env} {s : Store} {x : P} (h1 : f δ s = .ok (.p x) s) : vLst (aC f aN) δ s = .ok (.p (.lst [x])) s := by
  unfold vLst
  rw [args1 h1]
  rfl
theorem lam_3 {δ : Iv.Env} (h : δ[14]? = some (some (.p (ob o12)))) (s : Store) : lams_law 3 δ s = .exc 1 s := by
  have e : vV 14 δ s = .ok (.p (ob o12)) s := by unfold vV; rw [h]
  exact (fn1_of (lst2_of e e)).trans (chk_twice s)
theorem lam_4 {δ : Iv.Env} (h : δ[14]? = some (some (.p (ob o12)))) {s : Store} (w0 : WfS s) : lams_law 4 δ s = .exc 1 s := by
  have e : vV 14 δ s = .ok (.p (ob o12)) s := by unfold vV; rw [h]
  have e2 : vMake 2 f_Work___init__ false (aC (vK (.str "b")) (aC (vLst (aC (vK (.int 1)) (aN))) (aN))) [] δ s = .ok (.p (ob ("b", [1]))) s := make_ok2 w0 ("b", [1]) (by simp) (by simp) rfl
  exact (fn1_of (lst2_of e e2)).trans (chk_other s)
def w8 : List J := (List.range 8).map fun k => (((toString ((k : Nat) : Int) : String) : Str), [1])
theorem chk_8 (s : Store) : f_check_works [lj w8] s = .exc 1 s := fnF_exc rfl rfl
theorem lam_6 (δ : Iv.Env) (s : Store) : lams_law 6 δ s = .exc 1 s := (fn1_of (d := .p (.lst [])) rfl).trans (fnF_exc rfl (seqx (do_exc ((fn1_of (d := .p (.lst [])) rfl).trans (chk_nil s)))))
theorem lam_7 (δ : Iv.Env) (s : Store) : lams_law 7 δ s = .exc 1 s := (fn1_of (d := .p (.lst [])) rfl).trans (fnF_exc rfl (seqx (do_exc ((fn1_of (d := .p (.lst [])) rfl).trans (chk_nil s)))))
theorem lam_9 (δ : Iv.Env) {s : Store} (w0 : WfS s) : lams_law 9 δ s = .exc 1 s := by
  refine (fn1_of (d := .p (.lst [])) rfl).trans ?_
  have a1 : sAsg (vLstM (aN)) (gvN 1) (startE 6 [.p (.lst [])]) s = .nx [some (.p (.lst [])), some (.ref s.length), none, none, none, none] (s ++ [.lst []]) := rfl
  have e6 : f_ends_of [.p (.lst [])] (s ++ [.lst []]) = .exc 1 (s ++ [.lst []]) := fnF_exc rfl (seqx (do_exc ((fn1_of (d := .p (.lst [])) rfl).trans (chk_nil _))))
  have run : b_idle_minutes (startE 6 [.p (.lst [])]) s = .exc 1 (s ++ [.lst []]) := (seqn a1).trans (seqx (asg_exc ((fn1_of (d := .p (.lst [])) rfl).trans e6)))
  show fnF false 6 1 b_idle_minutes _ s = _
  unfold fnF
  rw [if_pos (by rfl), run]
  exact excF_own2 w0 1 _
theorem lam_8 (δ : Iv.Env) {s : Store} (w0 : WfS s) : lams_law 8 δ s = .exc 1 s := by
  have e2 : vMake 2 f_Work___init__ false (aC (vK (.str "a")) (aC (vLst (aC (vK (.int 1)) (aN))) (aN))) [] δ s = .ok (.p (ob ("a", [1]))) s := make_ok2 w0 ("a", [1]) (by simp) (by simp) rfl
  refine (fn1_of (lst1_of e2)).trans ?_
  have jok : JOk 1 [("a", [1])] := ⟨by decide, by decide, by simp, by simp, by simp⟩
  have ck := check_ok jok s
  refine fnF_exc rfl ?_
  have d1 : sDo (vFn f_check_works (aC (vV 0) (aN)) []) (startE 6 [.p (.lst [ob ("a", [1])])]) s = .nx (startE 6 [.p (.lst [ob ("a", [1])])]) s := by
    unfold sDo
    rw [(fn1_of (d := .p (.lst [ob ("a", [1])])) rfl).trans ck]
  refine (seqn d1).trans (seqx rfl)
theorem lam_5 (δ : Iv.Env) (hd : δ.length = 23) {s : Store} (w0 : WfS s) : lams_law 5 δ s = .exc 1 s := by
  have c : vCmp (itR1 (aC (vK (.int 8)) (aN))) (tvN 4) (bYes) (vMake 2 f_Work___init__ false (aC (vCal fStrI (aC (vV 4) (aN))) (aC (vLst (aC (vK (.int 1)) (aN))) (aN))) []) [4] δ s = .ok (lj w8) s := by
    refine (vCmp_all (List.range 8) (fun k => P.int (k : Nat)) (fun k => ob (((toString ((k : Nat) : Int) : String) : Str), [1])) (by decide) rfl fun k hk => ⟨(wipE δ [4]).set 4 (some (.p (.int (k : Nat)))), rfl, ?_⟩).trans ?_
    · refine make_ok2 w0 (((toString ((k : Nat) : Int) : String) : Str), [1]) (by simp) (by simp) ?_
      have lw : (wipE δ [4]).length = 23 := by
        show (wipE (δ.set 4 none) []).length = 23
        show (δ.set 4 none).length = 23
        rw [List.length_set, hd]
      have g4 : ((wipE δ [4]).set 4 (some (.p (.int (k : Nat)))))[4]? = some (some (.p (.int (k : Nat)))) := by
        rw [List.getElem?_set_self (by omega)]
      have e1 : vV 4 ((wipE δ [4]).set 4 (some (.p (.int (k : Nat))))) s = .ok (.p (.int (k : Nat))) s := by unfold vV; rw [g4]
      have e2 : fStrI [.p (.int (k : Nat))] s = .ok (.p (.str (toString ((k : Nat) : Int) : String))) s := by
        rw [List.mem_range] at hk
        have hh : k = 0 ∨ k = 1 ∨ k = 2 ∨ k = 3 ∨ k = 4 ∨ k = 5 ∨ k = 6 ∨ k = 7 := by omega
        rcases hh with rfl | rfl | rfl | rfl | rfl | rfl | rfl | rfl <;> rfl
      exact args2 ((cal1_of e1).trans e2) rfl
    · unfold lj w8
      rw [List.map_map]
      rfl
  exact (fn1_of c).trans (chk_8 s)
end Q11
end

section
set_option linter.all false
set_option maxHeartbeats 4100000
set_option maxRecDepth 10000
open PySem L2 Iv K11
namespace Q11
theorem s4_wf (a c m : Int) (js : List J) (xs : List Int) : WfS (S4 a c m js [L xs]) := by
  have : S4 a c m js [L xs] = S3 a c m (.fK (KVs js)) ++ [L xs] := rfl
  rw [this]
  exact wf_app (s3_wf a c m js) xs
theorem pEq_ints (xs : List Int) : pEq (.lst (xs.map .int)) (.lst (xs.map .int)) = some true := pEq_self (by
  unfold okD
  exact okDs_all _ _ fun y hy => by
    obtain ⟨w, _, rfl⟩ := List.mem_map.mp hy
    unfold okD; rfl)
theorem t7_ok (sc : D) {B : Nat} {js : List J} (h : JOk B js) (x2 x4 x6 x8 x9 : Option D) (a c m : Int) : T_7 (E sc x2 (some (.ref 2)) x4 (some (lj js)) x6 (some (.ref 3)) x8 x9 none none none none none none) (S4 a c m js [L (ids B B js)])
    = .nx (E sc x2 (some (.ref 2)) x4 (some (lj js)) x6 (some (.ref 3)) x8 x9 none none none none none none) (S4 a c m js [L (ids B B js)]) := by
  have io := idle_ok h (S4 a c m js [L (ids B B js)]) (s4_wf ..)
  have pe := pEq_ints (ids B B js)
  refine if_f (tst_of ((v2_of ((cal1_of ((fn1_of (d := lj js) rfl).trans io)).trans (show fList [.p (TP (ids B B js))] _ = .ok (.p (.lst ((ids B B js).map .int))) (S4 a c m js [L (ids B B js)]) from rfl)) (show vV 7 _ _ = .ok (.ref 3) (S4 a c m js [L (ids B B js)]) from rfl)).trans ?_))
  have se : see (S4 a c m js [L (ids B B js)]) (.ref 3) = some (.lst ((ids B B js).map .int)) := by
    show (pAll (((ids B B js).map P.int).map D.p)).map P.lst = _
    rw [pAll_map]
    rfl
  unfold oEq
  simp only [se]
  simp only [see, pe]
  rfl
/-! ### all orders -/
def TS (is : List Nat) : P := .tup (is.map fun i => .str (nm i))
def LS (is : List Nat) : P := .lst (is.map fun i => .str (nm i))
def permsN : Nat → List Nat → List (List Nat)
  | _, [] => [[]]
  | 0, _ :: _ => []
  | m + 1, i :: is => (i :: is).flatMap fun k => (permsN m ((i :: is).filter (· ≠ k))).map (k :: ·)
def fact : Nat → Nat
  | 0 => 1
  | n + 1 => (n + 1) * fact n
theorem fact_mono {a b : Nat} (h : a ≤ b) : fact a ≤ fact b := by
  induction b with
  | zero => rw [Nat.le_zero.mp h]; exact Nat.le_refl _
  | succ b ih =>
    rcases Nat.lt_or_eq_of_le h with h | rfl
    · exact Nat.le_trans (ih (Nat.le_of_lt_succ h)) (by
        rw [show fact (b + 1) = (b + 1) * fact b from rfl]
        exact Nat.le_mul_of_pos_left _ (Nat.succ_pos b))
    · exact Nat.le_refl _
theorem filter_lt {is : List Nat} {k : Nat} (h : k ∈ is) : (is.filter (· ≠ k)).length < is.length := by
  induction is with
  | nil => cases h
  | cons i is ih =>
    by_cases e : i = k
    · subst e
      rw [List.filter_cons_of_neg (by simp)]
      rw [List.length_cons]
      exact Nat.lt_succ_of_le (List.length_filter_le ..)
    · rw [List.filter_cons_of_pos (by simp [e]), List.length_cons, List.length_cons]
      have := ih (by
        rcases List.mem_cons.mp h with h | h
        · exact (e h.symm).elim
        · exact h)
      omega
theorem flatM_len {α β : Type} (g : α → List β) (n : Nat) : ∀ xs : List α, (∀ x ∈ xs, (g x).length ≤ n) → (xs.flatMap g).length ≤ xs.length * n
  | [], _ => by simp
  | x :: xs, h => by
    have := flatM_len g n xs fun y hy => h y (List.mem_cons_of_mem _ hy)
    have := h x (List.mem_cons_self ..)
    rw [List.flatMap_cons, List.length_append, List.length_cons, Nat.succ_mul]
    omega
theorem perms_len : ∀ (m : Nat) (is : List Nat), (permsN m is).length ≤ fact is.length
  | _, [] => by unfold permsN; simp [fact]
  | 0, _ :: _ => by unfold permsN; simp
  | m + 1, i :: is => by
    have h := flatM_len (fun k => (permsN m ((i :: is).filter (· ≠ k))).map (k :: ·)) (fact is.length) (i :: is) fun k hk => by
      rw [List.length_map]
      refine Nat.le_trans (perms_len m _) (fact_mono ?_)
      have := filter_lt hk
      rw [List.length_cons] at this
      omega
    exact h
theorem perms_each : ∀ (m : Nat) (is o : List Nat), o ∈ permsN m is → o.length ≤ m
  | _, [], o, h => by
    unfold permsN at h
    rw [List.mem_singleton.mp h]
    exact Nat.zero_le _
  | 0, _ :: _, o, h => by
    unfold permsN at h
    cases h
  | m + 1, i :: is, o, h => by
    have h : o ∈ (i :: is).flatMap fun k => (permsN m ((i :: is).filter (· ≠ k))).map (k :: ·) := h
    obtain ⟨k, _, h⟩ := List.mem_flatMap.mp h
    obtain ⟨o', h', rfl⟩ := List.mem_map.mp h
    have := perms_each m _ o' h'
    rw [List.length_cons]
    omega
theorem nm_eq (i j : Nat) (hi : i < 5) (hj : j < 5) : pEq (.str (nm i)) (.str (nm j)) = some (decide (i = j)) := by
  have : ∀ i, i < 5 → ∀ j, j < 5 → pEq (.str (nm i)) (.str (nm j)) = some (decide (i = j)) := by decide +kernel
  exact this i hi j hj
theorem pEq_LS (is : List Nat) (h : ∀ i ∈ is, i < 5) : pEq (LS is) (.lst []) = some is.isEmpty := by
  have ok : ∀ i, i < 5 → okD 58 (.str (nm i)) = true := by decide +kernel
  have := pEq_nil (xs := is.map fun i => P.str (nm i)) (okDs_all 59 _ fun y hy => by
    obtain ⟨i, hi, rfl⟩ := List.mem_map.mp hy
    exact ok i (h i hi))
  unfold LS
  rw [this]
  cases is <;> rfl
def bdP (rec_ : F1) : Sv := sAsg (v2 oAdd (vV 1) (vCmp (itA (vFn rec_ (aC (vCmp (itA (vV 0)) (tvN 4) (tstB (v2 (oEq true) (vV 4) (vV 2))) (vV 4) [4]) (aN)) [])) (tvN 3) (bYes) (v2 oAdd (vTup (aC (vV 2) (aN))) (vV 3)) [3])) (gvN 1)
theorem orders_ok (s : Store) : ∀ (is : List Nat) (m : Nat), m ≤ 5 → is.length ≤ m → is.length ≤ 5 → (∀ i ∈ is, i < 5) → f__law_orders (m + 1) [.p (LS is)] s = .ok (.p (.lst ((permsN m is).map TS))) s := by
  intro is m
  induction m generalizing is with
  | zero =>
    intro hm h1 h2 h3
    have : is = [] := List.length_eq_zero_iff.mp (Nat.le_zero.mp h1)
    subst this
    have pe := pEq_LS [] (by simp)
    show fnF false 5 1 (b__law_orders (f__law_orders 0)) _ s = _
    refine fnF_rt (d := .lst [.tup []]) rfl ?_
    have sz1 : 1 ≤ szLine := by decide
    have sz0 : 0 ≤ szLine := by decide
    unfold LS at *
    rw [List.map_nil] at *
    generalize f__law_orders 0 = rr
    simp (disch := omega) only [bnd_ok, bnd_exc, fnF, startE, sSeq, sIf, sAsg, sRet, sNx, sAug, sPar, sDo, sRaise, bOr, bAnd, bNot, bYes, tstB, v2, vV, vK, aC, aN, vCal, vU, vIf, vCh, vAnd, vFn, oIx, oAdd, oSub, oMul, oDiv, oMod, oNeg, see, seeC, fInt, fAbs_int, fMax_int, fMin_int, ordI_int, retF_same, excF_same, gvN, gvS, gvT, gsC, gsN, iAdd, L2.atI, L2.ixN, mulOk_l, mulOk_r, log_ok, le_t, le_f, lt_t, lt_f, gt_t, gt_f, ge_t, ge_f, List.getElem?_cons_zero, List.getElem?_cons_succ, List.set_cons_zero, List.set_cons_succ, List.length_cons, List.length_nil, List.map_cons, List.map_nil, List.cons_append, List.nil_append, List.append_nil, List.replicate_succ, List.replicate_zero, Nat.zero_add, Nat.reduceAdd, Nat.reduceSub, Nat.reduceLT, Nat.reduceLeDiff, Int.reduceLT, Int.reduceLE, Int.reduceAdd, Int.reduceSub, Int.reduceMul, Int.reduceNeg, decide_true, decide_false, Bool.not_true, Bool.not_false, reduceCtorEq, ↓reduceIte, and_self, and_true, true_and, if_true, if_false, Bool.false_eq_true, if_pos, if_neg, Int.reduceToNat, Int.toNat_zero, Int.toNat_one, Option.bind_some, Option.map_some, pAll, pAll_map, seqP_lst, seqP_tup, seqP_scr, vTup, vLst, vLstM, szLine_eq, vMet, isList, mApp, last_get, last_set, List.length_map, List.length_append, seeC, oIs, Option.map, b__law_orders, oEq, pe, sz0, sz1, List.isEmpty_nil]
  | succ m ih =>
    intro hm h1 h2 h3
    cases is with
    | nil =>
      have pe := pEq_LS [] (by simp)
      show fnF false 5 1 (b__law_orders (f__law_orders (m + 1))) _ s = _
      refine fnF_rt (d := .lst [.tup []]) rfl ?_
      have sz1 : 1 ≤ szLine := by decide
      have sz0 : 0 ≤ szLine := by decide
      unfold LS at *
      rw [List.map_nil] at *
      generalize f__law_orders (m + 1) = rr
      simp (disch := omega) only [bnd_ok, bnd_exc, fnF, startE, sSeq, sIf, sAsg, sRet, sNx, sAug, sPar, sDo, sRaise, bOr, bAnd, bNot, bYes, tstB, v2, vV, vK, aC, aN, vCal, vU, vIf, vCh, vAnd, vFn, oIx, oAdd, oSub, oMul, oDiv, oMod, oNeg, see, seeC, fInt, fAbs_int, fMax_int, fMin_int, ordI_int, retF_same, excF_same, gvN, gvS, gvT, gsC, gsN, iAdd, L2.atI, L2.ixN, mulOk_l, mulOk_r, log_ok, le_t, le_f, lt_t, lt_f, gt_t, gt_f, ge_t, ge_f, List.getElem?_cons_zero, List.getElem?_cons_succ, List.set_cons_zero, List.set_cons_succ, List.length_cons, List.length_nil, List.map_cons, List.map_nil, List.cons_append, List.nil_append, List.append_nil, List.replicate_succ, List.replicate_zero, Nat.zero_add, Nat.reduceAdd, Nat.reduceSub, Nat.reduceLT, Nat.reduceLeDiff, Int.reduceLT, Int.reduceLE, Int.reduceAdd, Int.reduceSub, Int.reduceMul, Int.reduceNeg, decide_true, decide_false, Bool.not_true, Bool.not_false, reduceCtorEq, ↓reduceIte, and_self, and_true, true_and, if_true, if_false, Bool.false_eq_true, if_pos, if_neg, Int.reduceToNat, Int.toNat_zero, Int.toNat_one, Option.bind_some, Option.map_some, pAll, pAll_map, seqP_lst, seqP_tup, seqP_scr, vTup, vLst, vLstM, szLine_eq, vMet, isList, mApp, last_get, last_set, List.length_map, List.length_append, seeC, oIs, Option.map, b__law_orders, oEq, pe, sz0, sz1, List.isEmpty_nil]
    | cons i is =>
      have pe := pEq_LS (i :: is) h3
      have sz0 : 0 ≤ szLine := by decide
      show fnF false 5 1 (b__law_orders (f__law_orders (m + 1))) _ s = _
      refine fnF_rt (d := .lst ((permsN (m + 1) (i :: is)).map TS)) rfl ?_
      have t0 : sIf (tstB (v2 (oEq false) (vV 0) (vLst (aN)))) (sRet (vLst (aC (vTup (aN)) (aN)))) (sNx) [some (.p (LS (i :: is))), none, none, none, none] s = .nx [some (.p (LS (i :: is))), none, none, none, none] s := by
        generalize LS (i :: is) = q at *
        simp (disch := omega) only [bnd_ok, bnd_exc, fnF, startE, sSeq, sIf, sAsg, sRet, sNx, sAug, sPar, sDo, sRaise, bOr, bAnd, bNot, bYes, tstB, v2, vV, vK, aC, aN, vCal, vU, vIf, vCh, vAnd, vFn, oIx, oAdd, oSub, oMul, oDiv, oMod, oNeg, see, seeC, fInt, fAbs_int, fMax_int, fMin_int, ordI_int, retF_same, excF_same, gvN, gvS, gvT, gsC, gsN, iAdd, L2.atI, L2.ixN, mulOk_l, mulOk_r, log_ok, le_t, le_f, lt_t, lt_f, gt_t, gt_f, ge_t, ge_f, List.getElem?_cons_zero, List.getElem?_cons_succ, List.set_cons_zero, List.set_cons_succ, List.length_cons, List.length_nil, List.map_cons, List.map_nil, List.cons_append, List.nil_append, List.append_nil, List.replicate_succ, List.replicate_zero, Nat.zero_add, Nat.reduceAdd, Nat.reduceSub, Nat.reduceLT, Nat.reduceLeDiff, Int.reduceLT, Int.reduceLE, Int.reduceAdd, Int.reduceSub, Int.reduceMul, Int.reduceNeg, decide_true, decide_false, Bool.not_true, Bool.not_false, reduceCtorEq, ↓reduceIte, and_self, and_true, true_and, if_true, if_false, Bool.false_eq_true, if_pos, if_neg, Int.reduceToNat, Int.toNat_zero, Int.toNat_one, Option.bind_some, Option.map_some, pAll, pAll_map, seqP_lst, seqP_tup, seqP_scr, vTup, vLst, vLstM, szLine_eq, vMet, isList, mApp, last_get, last_set, List.length_map, List.length_append, seeC, oIs, Option.map, oEq, pe, sz0, List.isEmpty_cons]
      have t1 : sAsg (vLst (aN)) (gvN 1) [some (.p (LS (i :: is))), none, none, none, none] s = .nx [some (.p (LS (i :: is))), some (.p (.lst [])), none, none, none] s := rfl
      have step : ∀ k ∈ (i :: is), ∀ (acc : List (List Nat)) (x2 : Option D), (acc ++ (permsN m ((i :: is).filter (· ≠ k))).map (k :: ·)).length ≤ 200 → bdP (f__law_orders (m + 1)) [some (.p (LS (i :: is))), some (.p (.lst (acc.map TS))), some (.p (.str (nm k))), none, none] s = .nx [some (.p (LS (i :: is))), some (.p (.lst ((acc ++ (permsN m ((i :: is).filter (· ≠ k))).map (k :: ·)).map TS))), some (.p (.str (nm k))), none, none] s := by
        intro k hk acc x2 hlen
        have hk5 := h3 k hk
        have fl := filter_lt hk
        have r := ih ((i :: is).filter (· ≠ k)) (by omega) (by rw [List.length_cons] at *; omega) (by rw [List.length_cons] at *; omega) (fun x hx => h3 x (List.mem_filter.mp hx).1)
        have c1 : vCmp (itA (vV 0)) (tvN 4) (tstB (v2 (oEq true) (vV 4) (vV 2))) (vV 4) [4] [some (.p (LS (i :: is))), some (.p (.lst (acc.map TS))), some (.p (.str (nm k))), none, none] s = .ok (.p (LS ((i :: is).filter (· ≠ k)))) s := by
          refine (vCmp_gen (i :: is) (fun j => P.str (nm j)) (fun j => decide (j ≠ k)) (fun j => P.str (nm j)) (by rw [szLine_eq]; omega) rfl fun j hj => ⟨[some (.p (LS (i :: is))), some (.p (.lst (acc.map TS))), some (.p (.str (nm k))), none, some (.p (.str (nm j)))], rfl, ?_, fun _ => rfl⟩).trans ?_
          · have ne := nm_eq j k (h3 j hj) hk5
            refine tst_of ((v2_of (x := .p (.str (nm j))) (y := .p (.str (nm k))) rfl rfl).trans ?_)
            unfold oEq
            simp only [see, ne]
            by_cases e : j = k <;> simp [e]
          · rfl
        have c2 : vCmp (itA (vFn (f__law_orders (m + 1)) (aC (vCmp (itA (vV 0)) (tvN 4) (tstB (v2 (oEq true) (vV 4) (vV 2))) (vV 4) [4]) (aN)) [])) (tvN 3) (bYes) (v2 oAdd (vTup (aC (vV 2) (aN))) (vV 3)) [3] [some (.p (LS (i :: is))), some (.p (.lst (acc.map TS))), some (.p (.str (nm k))), none, none] s = .ok (.p (.lst (((permsN m ((i :: is).filter (· ≠ k))).map (k :: ·)).map TS))) s := by
          have pl := perms_len m ((i :: is).filter (· ≠ k))
          have f5 : fact ((i :: is).filter (· ≠ k)).length ≤ 24 := Nat.le_trans (fact_mono (show _ ≤ 4 by omega)) (by decide)
          refine (vCmp_all (permsN m ((i :: is).filter (· ≠ k))) TS (fun o => TS (k :: o)) (by rw [szLine_eq]; omega) (itA_of (x := .lst ((permsN m ((i :: is).filter (· ≠ k))).map TS)) ((fn1_of c1).trans r) rfl) fun o ho => ⟨[some (.p (LS (i :: is))), some (.p (.lst (acc.map TS))), some (.p (.str (nm k))), some (.p (TS o)), none], rfl, ?_⟩).trans ?_
          · refine (v2_of (x := .p (.tup [.str (nm k)])) (y := .p (TS o)) rfl rfl).trans ?_
            have lo := perms_each m _ o ho
            unfold TS oAdd
            simp only [see, List.length_map, List.length_cons, List.length_nil]
            rw [if_pos (by rw [szLine_eq]; rw [List.length_cons] at h1 h2; omega)]
            rfl
          · rw [List.map_map]
            rfl
        have c3 := (v2_of (f := oAdd) (a := vV 1) (x := .p (.lst (acc.map TS))) rfl c2).trans (show oAdd (.p (.lst (acc.map TS))) (.p (.lst (((permsN m ((i :: is).filter (· ≠ k))).map (k :: ·)).map TS))) s = .ok (.p (.lst ((acc ++ (permsN m ((i :: is).filter (· ≠ k))).map (k :: ·)).map TS))) s by
          unfold oAdd
          simp only [see, List.length_map]
          rw [List.length_append, List.length_map] at hlen
          rw [if_pos (by rw [szLine_eq]; omega), List.map_append])
        exact asg_nx c3 rfl
      have pl := perms_len (m + 1) (i :: is)
      have f5 : fact (i :: is).length ≤ 120 := Nat.le_trans (fact_mono h2) (by decide)
      obtain ⟨δ', st', e, hs, x2, rfl⟩ := for_app (t := gvN 2) (b := bdP (f__law_orders (m + 1))) (fun k => P.str (nm k)) (fun k => (permsN m ((i :: is).filter (· ≠ k))).map (k :: ·)) 200
        (fun acc δ st => st = s ∧ ∃ x2, δ = [some (.p (LS (i :: is))), some (.p (.lst (acc.map TS))), x2, none, none]) (i :: is) [] (by rw [List.nil_append]; exact Nat.le_trans pl (by omega)) (fun k hk acc δ st hlen hJ => by
          obtain ⟨hs, x2, rfl⟩ := hJ
          rw [hs]
          exact ⟨[some (.p (LS (i :: is))), some (.p (.lst (acc.map TS))), some (.p (.str (nm k))), none, none], s, _, s, rfl, step k hk acc x2 hlen, rfl, _, rfl⟩) [some (.p (LS (i :: is))), some (.p (.lst [])), none, none, none] s ⟨rfl, none, rfl⟩
      rw [List.nil_append, hs] at e
      have lp : sForI (itA (vV 0)) (gvN 2) (bdP (f__law_orders (m + 1))) [some (.p (LS (i :: is))), some (.p (.lst [])), none, none, none] s = .nx [some (.p (LS (i :: is))), some (.p (.lst ((permsN (m + 1) (i :: is)).map TS))), x2, none, none] s := forI_of (ds := ((i :: is).map fun k => P.str (nm k)).map .p) rfl fun len => e len 0
      refine (seqn t0).trans ((seqn t1).trans ?_)
      exact (seqn lp).trans rfl
end Q11
end

section
set_option linter.all false
set_option maxHeartbeats 4100000
set_option maxRecDepth 10000
open PySem L2 Iv K11
namespace Q11
/-! ### the order of (when done, names) -/
def pO (z : Int × List Nat) : P := .tup [.int z.1, TS z.2]
def ltO (y z : Int × List Nat) : Bool := PySem.W.dataLt (pO y).toD (pO z).toD
theorem ltO_irrefl (z : Int × List Nat) : ltO z z = false := PyProof.Rows.lex_irrefl _
theorem ltO_trans {x y z : Int × List Nat} (h1 : ltO x y = true) (h2 : ltO y z = true) : ltO x z = true := PyProof.Rows.lex_trans _ _ _ h1 h2
theorem toks_strs : ∀ (a b : List Nat), (∀ i ∈ a, i < 5) → (∀ i ∈ b, i < 5) → PySem.W.keyToksAll (P.toDs (a.map fun i => P.str (nm i))) = PySem.W.keyToksAll (P.toDs (b.map fun i => P.str (nm i))) → a = b
  | [], [], _, _, _ => rfl
  | [], j :: b, _, _, h => by
    simp only [List.map_nil, List.map_cons, P.toDs, PySem.W.keyToksAll, List.cons.injEq] at h
    exact absurd h.1 (by simp)
  | i :: a, [], _, _, h => by
    simp only [List.map_nil, List.map_cons, P.toDs, PySem.W.keyToksAll, List.cons.injEq] at h
    exact absurd h.1 (by simp)
  | i :: a, j :: b, ha, hb, h => by
    simp only [List.map_cons, P.toDs, P.toD, PySem.W.keyToksAll, PySem.W.keyToks, List.cons.injEq, true_and, List.cons_append, List.nil_append, Sum.inr.injEq] at h
    have inj : ∀ i, i < 5 → ∀ j, j < 5 → (nm i).cps.toList = (nm j).cps.toList → i = j := by decide +kernel
    have e := inj i (ha i (List.mem_cons_self ..)) j (hb j (List.mem_cons_self ..)) h.1
    rw [e, toks_strs a b (fun k hk => ha k (List.mem_cons_of_mem _ hk)) (fun k hk => hb k (List.mem_cons_of_mem _ hk)) h.2]
theorem ltO_total {y z : Int × List Nat} (hy : ∀ i ∈ y.2, i < 5) (hz : ∀ i ∈ z.2, i < 5) (h1 : ltO y z = false) (h2 : ltO z y = false) : y = z := by
  have e := PyProof.Rows.lex_total _ _ h1 h2
  obtain ⟨a, p⟩ := y
  obtain ⟨b, q⟩ := z
  simp only [pO, TS, P.toD, P.toDs, PySem.W.keyToksAll, PySem.W.keyToks, List.cons.injEq, true_and, List.cons_append, List.nil_append, Sum.inl.injEq] at e
  obtain ⟨rfl, e⟩ := e
  have := toks_strs p q hy hz (List.append_cancel_right e)
  rw [this]
theorem lePP_pO (y z : Int × List Nat) : lePP (pO y) (pO z) = !ltO z y := rfl
/-- the least of a list, found from left to right -/
def leO (y z : Int × List Nat) : Bool := !ltO z y
theorem alikeAll_strs : ∀ (a b : List Nat), PySem.W.alikeAll (P.toDs (a.map fun i => P.str (nm i))) (P.toDs (b.map fun i => P.str (nm i))) = true
  | [], b => by simp [P.toDs, PySem.W.alikeAll]
  | i :: a, [] => by simp [P.toDs, PySem.W.alikeAll]
  | i :: a, j :: b => by
    simp only [List.map_cons, P.toDs, P.toD, PySem.W.alikeAll, PySem.W.alike, Bool.true_and]
    exact alikeAll_strs a b
theorem alike_pO (y z : Int × List Nat) : PySem.W.alike (pO y).toD (pO z).toD = true := by
  simp only [pO, TS, P.toD, P.toDs, PySem.W.alike, PySem.W.alikeAll, Bool.true_and, Bool.and_true]
  exact alikeAll_strs _ _
theorem alikeP_pO (xs : List (Int × List Nat)) (h : ∀ z ∈ xs, ∀ i ∈ z.2, i < 5) : alikeP (xs.map pO) = true := by
  have ok : ∀ i, i < 5 → okD 58 (.str (nm i)) = true := by decide +kernel
  unfold alikeP
  rw [List.all_eq_true]
  intro a ha
  obtain ⟨x, hx, rfl⟩ := List.mem_map.mp ha
  have o : okD 60 (pO x) = true := by
    unfold pO TS okD
    refine okDs_all _ _ fun y hy => ?_
    simp only [List.mem_cons, List.not_mem_nil, or_false] at hy
    rcases hy with (rfl | rfl)
    · unfold okD; rfl
    · unfold okD
      refine okDs_all _ _ fun y hy => ?_
      obtain ⟨i, hi, rfl⟩ := List.mem_map.mp hy
      exact ok i (h x hx i hi)
  have h1 : SeqAt.shaped (pO x).toD = true := okD_shaped (by decide) o
  have h2 : isNon (pO x).toD = false := rfl
  rw [h1, h2, Bool.true_and, Bool.not_false, Bool.true_and, List.all_eq_true]
  intro b hb
  obtain ⟨y, _, rfl⟩ := List.mem_map.mp hb
  exact alike_pO x y
theorem sortB_pO (xs : List (Int × List Nat)) : sortB (xs.map pO) = true := by
  simp [sortB, pO, tup1]
def sortO (xs : List (Int × List Nat)) : List (Int × List Nat) := xs.mergeSort leO
theorem sortP_pO (xs : List (Int × List Nat)) : sortP (xs.map pO) = (sortO xs).map pO := by
  unfold sortP sortO
  exact (List.map_mergeSort (fun a _ b _ => (lePP_pO a b).symm)).symm
theorem fSorted_pO (xs : List (Int × List Nat)) (h : ∀ z ∈ xs, ∀ i ∈ z.2, i < 5) (hl : xs.length ≤ 200) (s : Store) : fSorted [.p (.lst (xs.map pO))] s = .ok (.p (.lst ((sortO xs).map pO))) s := by
  have c : alikeP (xs.map pO) = true ∧ sortB (xs.map pO) = true ∧ (xs.map pO).length ≤ szLine := ⟨alikeP_pO xs h, sortB_pO xs, by rw [List.length_map, szLine_eq]; omega⟩
  unfold fSorted
  simp only [see, lstP]
  rw [if_pos c, sortP_pO]
end Q11
end

section
set_option linter.all false
set_option maxHeartbeats 4100000
set_option maxRecDepth 10000
open PySem L2 Iv K11
namespace Q11
theorem ltO_asymm {y z : Int × List Nat} (h : ltO y z = true) : ltO z y = false := by
  cases h2 : ltO z y
  · rfl
  · have := ltO_trans h h2
    rw [ltO_irrefl] at this
    cases this
theorem leO_total (y z : Int × List Nat) : (leO y z || leO z y) = true := by
  unfold leO
  cases h : ltO z y
  · rfl
  · rw [ltO_asymm h]; rfl
theorem leO_trans {x y z : Int × List Nat} (h1 : leO x y = true) (h2 : leO y z = true) : leO x z = true := by
  unfold leO at *
  rw [Bool.not_eq_true'] at *
  cases h : ltO z x
  · rfl
  · cases h3 : ltO x y
    · have e : PySem.W.keyToks (pO y).toD = PySem.W.keyToks (pO x).toD := PyProof.Rows.lex_total _ _ h1 h3
      have : ltO z y = ltO z x := by
        unfold ltO PySem.W.dataLt
        rw [e]
      rw [this, h] at h2
      cases h2
    · have := ltO_trans h h3
      rw [this] at h2
      cases h2
def IsMin (xs : List (Int × List Nat)) (m : Int × List Nat) : Prop := m ∈ xs ∧ ∀ z ∈ xs, ltO z m = false
theorem min_uniq {xs ys : List (Int × List Nat)} {m m' : Int × List Nat} (h : ∀ z, z ∈ xs ↔ z ∈ ys) (h1 : IsMin xs m) (h2 : IsMin ys m') (hb : ∀ z ∈ xs, ∀ i ∈ z.2, i < 5) : m = m' :=
  ltO_total (hb m h1.1) (hb m' ((h m').mpr h2.1)) (h2.2 m ((h m).mp h1.1)) (h1.2 m' ((h m').mpr h2.1))
theorem sort_head {xs : List (Int × List Nat)} (h : xs ≠ []) : ∃ m r, sortO xs = m :: r ∧ IsMin xs m := by
  have hp : (sortO xs).Perm xs := List.mergeSort_perm _ _
  have hw : (sortO xs).Pairwise fun a b => leO a b = true := List.pairwise_mergeSort (le := leO) (fun a b c h1 h2 => leO_trans h1 h2) leO_total xs
  cases hs : sortO xs with
  | nil =>
    rw [hs] at hp
    exact (h (List.Perm.eq_nil hp.symm)).elim
  | cons m r =>
    rw [hs] at hp hw
    refine ⟨m, r, rfl, hp.mem_iff.mp (List.mem_cons_self ..), fun z hz => ?_⟩
    rcases List.mem_cons.mp (hp.mem_iff.mpr hz) with (rfl | hz)
    · exact ltO_irrefl _
    · have := List.rel_of_pairwise_cons hw hz
      unfold leO at this
      rwa [Bool.not_eq_true'] at this
/-! ### the search with a stack: what it visits -/
def ext (n : Nat) (p : List Nat) : List (List Nat) := ((List.range n).reverse.filter fun i => !p.contains i).map fun i => p ++ [i]
def visitF (n : Nat) : Nat → List (List Nat) → Option (List (List Nat))
  | 0, _ => none
  | k + 1, st => match st.getLast? with
    | none => some []
    | some p => if (decide (st.length ≤ 100) && (decide (p.length ≤ 5) && (p.all (fun i => decide (i < n)) && decide p.Nodup))) = true then match visitF n k (st.dropLast ++ ext n p) with
        | some vs => some (if p.length = n then p :: vs else vs)
        | none => none
      else none
def chkV (n : Nat) : Bool := match visitF n 400 [[]] with
  | some vs => vs.all (fun o => (permsN n (List.range n)).contains o) && (permsN n (List.range n)).all (fun o => vs.contains o)
  | none => false
theorem chkV_ok (n : Nat) (h : 1 ≤ n ∧ n ≤ 5) : chkV n = true := by
  have hh : n = 1 ∨ n = 2 ∨ n = 3 ∨ n = 4 ∨ n = 5 := by omega
  rcases hh with rfl | rfl | rfl | rfl | rfl <;> decide +kernel
/-- the better one -/
def better (b : Option (Int × List Nat)) (z : Int × List Nat) : Option (Int × List Nat) := match b with
  | none => some z
  | some m => if ltO z m = true then some z else some m
theorem fold_min : ∀ (xs seen : List (Int × List Nat)) (m : Int × List Nat), IsMin seen m → ∃ m', xs.foldl better (some m) = some m' ∧ IsMin (seen ++ xs) m'
  | [], seen, m, h => ⟨m, rfl, by rw [List.append_nil]; exact h⟩
  | x :: xs, seen, m, h => by
    rw [List.foldl_cons]
    unfold better
    simp only []
    by_cases c : ltO x m = true
    · rw [if_pos c]
      have : IsMin (seen ++ [x]) x := ⟨by simp, fun z hz => by
        rcases List.mem_append.mp hz with hz | hz
        · cases e : ltO z x
          · rfl
          · have := ltO_trans e c
            rw [h.2 z hz] at this
            cases this
        · rw [List.mem_singleton.mp hz]; exact ltO_irrefl x⟩
      obtain ⟨m', e, hm⟩ := fold_min xs (seen ++ [x]) x this
      exact ⟨m', e, by rwa [List.append_assoc] at hm⟩
    · rw [if_neg c]
      have : IsMin (seen ++ [x]) m := ⟨List.mem_append_left _ h.1, fun z hz => by
        rcases List.mem_append.mp hz with hz | hz
        · exact h.2 z hz
        · rw [List.mem_singleton.mp hz]
          cases e : ltO x m
          · rfl
          · exact (c e).elim⟩
      obtain ⟨m', e, hm⟩ := fold_min xs (seen ++ [x]) m this
      exact ⟨m', e, by rwa [List.append_assoc] at hm⟩
theorem fold_min0 (xs : List (Int × List Nat)) (h : xs ≠ []) : ∃ m, xs.foldl better none = some m ∧ IsMin xs m := by
  cases xs with
  | nil => exact (h rfl).elim
  | cons x xs =>
    obtain ⟨m, e, hm⟩ := fold_min xs [x] x ⟨by simp, fun z hz => by rw [List.mem_singleton.mp hz]; exact ltO_irrefl x⟩
    exact ⟨m, e, hm⟩
end Q11
end

section
set_option linter.all false
set_option maxHeartbeats 4100000
set_option maxRecDepth 10000
open PySem L2 Iv K11
namespace Q11
def rowOf (js : List J) (i : Nat) : List Int := (js.getD i ("", [])).2
def jobs (js : List J) (o : List Nat) : List J := o.map fun i => (nm i, rowOf js i)
def endO (B : Nat) (js : List J) (o : List Nat) : Int := lastE (B - 1) (endsL (zer B) (o.map (rowOf js)))
def zO (B : Nat) (js : List J) (o : List Nat) : Int × List Nat := (endO B js o, o)
theorem js_at {B n : Nat} {js : List J} (h : Js B n js) {i : Nat} (hi : i < n) : (nm i, rowOf js i) ∈ js ∧ js[i]? = some (nm i, rowOf js i) := by
  have lk : js.length = n := by
    have := congrArg List.length h.k
    simpa using this
  have e1 : js[i]? = some js[i] := List.getElem?_eq_getElem (by omega)
  have e2 : (js.map (·.1))[i]? = some (nm i) := by
    rw [h.k, List.getElem?_map, List.getElem?_range hi]
    rfl
  rw [List.getElem?_map, e1] at e2
  have e3 : js[i].1 = nm i := Option.some.inj e2
  have e4 : rowOf js i = js[i].2 := by
    unfold rowOf
    rw [List.getD_eq_getElem?_getD, e1]
    rfl
  have e5 : (nm i, rowOf js i) = js[i] := by rw [e4, ← e3]
  exact ⟨by rw [e5]; exact List.getElem_mem _, by rw [e5, e1]⟩
theorem nm_inj {i j : Nat} (hi : i < 5) (hj : j < 5) (h : nm i = nm j) : i = j := by
  have : ∀ i, i < 5 → ∀ j, j < 5 → nm i = nm j → i = j := by decide +kernel
  exact this i hi j hj h
theorem jobs_ok {B n : Nat} (hB : 1 ≤ B ∧ B ≤ 4) (hn : 1 ≤ n ∧ n ≤ 5) {js : List J} (h : Js B n js) {o : List Nat} (ho : ∀ i ∈ o, i < n) (hd : o.Nodup) (hl : 1 ≤ o.length ∧ o.length ≤ 5) : JOk B (jobs js o) := by
  refine ⟨hB, by unfold jobs; rw [List.length_map]; exact hl, ?_, ?_, ?_⟩
  · unfold jobs List.Nodup
    rw [List.map_map, List.pairwise_map]
    refine List.Pairwise.imp_of_mem (fun hx hy ne e => ne ?_) hd
    exact nm_inj (by have := ho _ hx; omega) (by have := ho _ hy; omega) e
  · intro j hj
    obtain ⟨i, hi, rfl⟩ := List.mem_map.mp hj
    exact h.l _ (js_at h (ho i hi)).1
  · intro j hj
    obtain ⟨i, hi, rfl⟩ := List.mem_map.mp hj
    exact h.m _ (js_at h (ho i hi)).1
theorem rev_ok {B : Nat} {js : List J} (h : JOk B js) : JOk B js.reverse :=
  ⟨h.b, by rw [List.length_reverse]; exact h.n, by rw [List.map_reverse]; exact (List.reverse_perm _).nodup_iff.mpr h.d, fun j hj => h.l j (List.mem_reverse.mp hj), fun j hj => h.m j (List.mem_reverse.mp hj)⟩
def tbl (js : List J) : List (P × P) := js.map fun j => (P.str j.1, ob j)
theorem getK_in : ∀ {js : List J}, (js.map (·.1)).Nodup → ∀ j ∈ js, getK (.inr j.1) (tbl js) = some (ob j)
  | [], _, j, h => by cases h
  | j0 :: js, hn, j, h => by
    rw [List.map_cons] at hn; rw [List.nodup_cons] at hn
    have e : ∀ k : Str, getK (.inr k) (tbl (j0 :: js)) = if j0.1 = k then some (ob j0) else getK (.inr k) (tbl js) := by
      intro k
      show (if keyP (P.str j0.1) = some (.inr k) then some (ob j0) else getK (.inr k) (tbl js)) = _
      by_cases q : j0.1 = k
      · subst q; simp [keyP]
      · simp [keyP, q]
    rw [e]
    rcases List.mem_cons.mp h with (rfl | h)
    · rw [if_pos rfl]
    · rw [if_neg (fun q => hn.1 (by rw [q]; exact List.mem_map_of_mem h)), getK_in hn.2 j h]
theorem strs_nm : ∀ p : List Nat, strsP (p.map fun i => P.str (nm i)) = some (p.map nm)
  | [] => rfl
  | i :: p => by
    rw [List.map_cons]
    unfold strsP
    rw [strs_nm p]
    rfl
theorem any_nm (p : List Nat) (hp : ∀ i ∈ p, i < 5) (i : Nat) (hi : i < 5) : ((p.map nm).any fun z => z == nm i) = p.contains i := by
  rw [Bool.eq_iff_iff, List.any_eq_true, List.contains_iff_mem]
  constructor
  · rintro ⟨z, hz, e⟩
    obtain ⟨j, hj, rfl⟩ := List.mem_map.mp hz
    rw [← nm_inj (hp j hj) hi (by simpa using e)]
    exact hj
  · intro h
    exact ⟨nm i, List.mem_map_of_mem h, by simp⟩
theorem shaped_pO (z : Int × List Nat) (h : ∀ i ∈ z.2, i < 5) : SeqAt.shaped (pO z).toD = true := by
  have := alikeP_pO [z] (by intro y hy; rw [List.mem_singleton.mp hy]; exact h)
  unfold alikeP at this
  simp only [List.map_cons, List.map_nil, List.all_cons, List.all_nil, Bool.and_true, Bool.and_eq_true] at this
  exact this.1.1
def bP : Option (Int × List Nat) → P
  | none => .non
  | some z => pO z
def SK (s : Store) (st : List (List Nat)) : Store := s ++ [.lst ((st.map TS).map D.p)]
def rowE : Ev D := vTup (aC (v2 oIx (v2 oIx (vFn f_ends_of (aC (vCmp (itA (vV 4)) (tvN 7) (bYes) (v2 oDx (vV 1) (vV 7)) [7]) (aN)) []) (vU oNeg (vK (.int 1)))) (vU oNeg (vK (.int 1)))) (aC (vV 4) (aN)))
def extE : Ev D := vCmp (itK (vV 1)) (tvN 7) (tstB (v2 (oInS true) (vV 7) (vV 4))) (v2 oAdd (vV 4) (vTup (aC (vV 7) (aN)))) [7]
def bstE : Ev D := vIf (bOr (tstB (v2 (oIs false) (vV 2) (vK .non))) (tstB (v2 (oOrd .lt) (vV 5) (vV 2)))) (vV 5) (vV 2)
def bdW : Sv := sSeq (sAsg (vMet0 isList mPop (vV 3)) (gvN 4))
  (sSeq (sIf (tstB (v2 (oEq false) (vCal fLen (aC (vV 4) (aN))) (vCal fLenX (aC (vV 1) (aN)))))
  (sSeq (sAsg rowE (gvN 5)) (sAsg bstE (gvN 2)))
  (sNx))
  (sAug 3 iAdd extE))
section
variable {B n : Nat} (hB : 1 ≤ B ∧ B ≤ 4) (hn : 1 ≤ n ∧ n ≤ 5) {js : List J} (h : Js B n js) {s : Store} (w0 : WfS s)
def EW (js : List J) (s : Store) (b : Option (Int × List Nat)) (x4 x5 : Option D) : Iv.Env := [some (lj js.reverse), some (.p (.dct (tbl js.reverse))), some (.p (bP b)), some (.ref s.length), x4, x5, none, none]
include h hn
theorem ext_ok (b : Option (Int × List Nat)) (p : List Nat) (hp : ∀ i ∈ p, i < n) (hl : p.length ≤ 5) (x5 : Option D) (st : Store) : extE (EW js s b (some (.p (TS p))) x5) st = .ok (.p (.lst ((ext n p).map TS))) st := by
  have hr : js.reverse.map (fun j => P.str j.1) = (List.range n).reverse.map fun i => P.str (nm i) := by
    have : js.map (fun j => P.str j.1) = (js.map (·.1)).map P.str := by rw [List.map_map]; rfl
    rw [List.map_reverse, this, h.k, List.map_map, List.map_reverse]
    rfl
  have it : itK (vV 1) (EW js s b (some (.p (TS p))) x5) st = .ok ⟨((List.range n).reverse.map fun i => P.str (nm i)).map .p, none⟩ st := by
    rw [← hr]
    have : (tbl js.reverse).map (fun q => D.p q.1) = (js.reverse.map fun j => P.str j.1).map .p := by
      unfold tbl
      rewrite [List.map_map]; rw [List.map_map]
      rfl
    rw [← this]
    rfl
  refine (vCmp_gen (List.range n).reverse (fun i => P.str (nm i)) (fun i => !p.contains i) (fun i => TS (p ++ [i])) (by rw [List.length_reverse, List.length_range, szLine_eq]; omega) it fun i hi => ⟨[some (lj js.reverse), some (.p (.dct (tbl js.reverse))), some (.p (bP b)), some (.ref s.length), some (.p (TS p)), x5, none, some (.p (.str (nm i)))], rfl, ?_, fun _ => ?_⟩).trans ?_
  · have hi' : i < n := List.mem_range.mp (List.mem_reverse.mp hi)
    have an := any_nm p (fun i hi => by have := hp i hi; omega) i (by omega)
    refine tst_of ((v2_of (x := .p (.str (nm i))) (y := .p (TS p)) rfl rfl).trans ?_)
    unfold oInS TS
    simp only [strs_nm, if_true, an]
  · refine (v2_of (x := .p (TS p)) (y := .p (.tup [.str (nm i)])) rfl rfl).trans ?_
    unfold TS oAdd
    simp only [see, List.length_map, List.length_cons, List.length_nil]
    rw [if_pos (by rw [szLine_eq]; omega), List.map_append]
    rfl
  · unfold ext
    rw [List.map_map]
    rfl
include hB w0
theorem row_ok (b : Option (Int × List Nat)) (p : List Nat) (hp : ∀ i ∈ p, i < n) (hd : p.Nodup) (hl : p.length = n) (x5 : Option D) (st : List (List Nat)) : rowE (EW js s b (some (.p (TS p))) x5) (SK s st) = .ok (.p (pO (zO B js p))) (SK s st) := by
  have jo := jobs_ok hB hn h hp hd (by omega)
  have wk : WfS (SK s st) := by
    unfold SK WfS at *
    rw [List.all_append, Bool.and_eq_true]
    constructor
    · rw [List.all_eq_true] at *
      intro c hc
      exact wfC_mono (by simp) c (w0 c hc)
    · simp [wfC, wfD]
  have eo := ends_ok jo (SK s st) wk
  have lk : js.length = n := by
    have := congrArg List.length h.k
    simpa using this
  have nd : (js.reverse.map (·.1)).Nodup := by
    rw [List.map_reverse]
    exact (List.reverse_perm _).nodup_iff.mpr (by rw [h.k]; exact nm_nodup n hn.2)
  have c : vCmp (itA (vV 4)) (tvN 7) (bYes) (v2 oDx (vV 1) (vV 7)) [7] (EW js s b (some (.p (TS p))) x5) (SK s st) = .ok (lj (jobs js p)) (SK s st) := by
    refine (vCmp_all p (fun i => P.str (nm i)) (fun i => ob (nm i, rowOf js i)) (by rw [szLine_eq]; omega) rfl fun i hi => ⟨[some (lj js.reverse), some (.p (.dct (tbl js.reverse))), some (.p (bP b)), some (.ref s.length), some (.p (TS p)), x5, none, some (.p (.str (nm i)))], rfl, ?_⟩).trans ?_
    · have g := getK_in nd (nm i, rowOf js i) (List.mem_reverse.mpr (js_at h (hp i hi)).1)
      refine (v2_of (x := .p (.dct (tbl js.reverse))) (y := .p (.str (nm i))) rfl rfl).trans ?_
      have kx : kxD (.p (.str (nm i))) = some (.k (.inr (nm i))) := rfl
      unfold oDx
      simp only [kx, dLook, g]
      rfl
    · unfold lj jobs
      rw [List.map_map]
      rfl
  have rw' : (jobs js p).map (·.2) = p.map (rowOf js) := by
    unfold jobs
    rw [List.map_map]
    rfl
  rw [rw'] at eo
  have ne : endsL (zer B) (p.map (rowOf js)) ≠ [] := by
    intro e
    have := congrArg List.length e
    rw [ends_len, List.length_map, hl, List.length_nil] at this
    omega
  obtain ⟨ys, y, hy⟩ : ∃ ys y, endsL (zer B) (p.map (rowOf js)) = ys ++ [y] := ⟨_, _, (List.dropLast_concat_getLast ne).symm⟩
  have ly : y.length = B := ends_rows B (p.map (rowOf js)) (zer B) (by simp [zer]) (fun r hr => by
    obtain ⟨i, hi, rfl⟩ := List.mem_map.mp hr
    exact h.l (nm i, rowOf js i) (js_at h (hp i hi)).1) y (by rw [hy]; simp)
  have il : v2 oIx (vFn f_ends_of (aC (vCmp (itA (vV 4)) (tvN 7) (bYes) (v2 oDx (vV 1) (vV 7)) [7]) (aN)) []) (vU oNeg (vK (.int 1))) (EW js s b (some (.p (TS p))) x5) (SK s st) = .ok (.p (TP y)) (SK s st) := by
    refine (v2_of (y := .p (.int (-1))) ((fn1_of c).trans eo) rfl).trans ?_
    have : L2.atI ((endsL (zer B) (p.map (rowOf js))).map TP) (-1) = some (TP y) := by
      rw [hy, List.map_append]
      exact atI_last _ _
    unfold oIx
    simp only [seqP_tup, this]
  have i2 : v2 oIx (v2 oIx (vFn f_ends_of (aC (vCmp (itA (vV 4)) (tvN 7) (bYes) (v2 oDx (vV 1) (vV 7)) [7]) (aN)) []) (vU oNeg (vK (.int 1)))) (vU oNeg (vK (.int 1))) (EW js s b (some (.p (TS p))) x5) (SK s st) = .ok (.p (.int (endO B js p))) (SK s st) := by
    refine (v2_of (y := .p (.int (-1))) il rfl).trans ?_
    obtain ⟨zs, z, hz⟩ : ∃ zs z, y = zs ++ [z] := ⟨_, _, (List.dropLast_concat_getLast (l := y) (by intro e; rw [e] at ly; simp at ly; omega)).symm⟩
    have e : endO B js p = z := by
      unfold endO
      rw [hy, lastE_eq, hz]
      have : zs.length = B - 1 := by rw [hz] at ly; simp at ly; omega
      rw [← this]
      simp
    have : L2.atI (y.map P.int) (-1) = some (.int z) := by
      rw [hz, List.map_append]
      exact atI_last _ _
    rw [e]
    unfold oIx TP
    simp only [seqP_tup, this]
  exact tup2_of i2 rfl
theorem bst_ok (b : Option (Int × List Nat)) (z : Int × List Nat) (hz : ∀ i ∈ z.2, i < 5) (hb : ∀ m, b = some m → ∀ i ∈ m.2, i < 5) (x4 : Option D) (st : Store) : bstE (EW js s b x4 (some (.p (pO z)))) st = .ok (.p (bP (better b z))) st := by
  cases b with
  | none => rfl
  | some m =>
    have s1 := shaped_pO z hz
    have s2 := shaped_pO m (hb _ rfl)
    have od : v2 (oOrd .lt) (vV 5) (vV 2) (EW js s (some m) x4 (some (.p (pO z)))) st = .ok (.p (.bl (ltO z m))) st := by
      refine (v2_of (x := .p (pO z)) (y := .p (pO m)) rfl rfl).trans ?_
      show (if SeqAt.shaped (pO z).toD = true ∧ SeqAt.shaped (pO m).toD = true ∧ PySem.W.alike (pO z).toD (pO m).toD = true ∧ isNon (pO z).toD = false then Res.ok (D.p (.bl (ordD .lt (pO z).toD (pO m).toD))) st else .bad) = _
      rw [if_pos ⟨s1, s2, alike_pO z m, rfl⟩]
      rfl
    have c : bOr (tstB (v2 (oIs false) (vV 2) (vK .non))) (tstB (v2 (oOrd .lt) (vV 5) (vV 2))) (EW js s (some m) x4 (some (.p (pO z)))) st = .ok (ltO z m) st := by
      have c1 : tstB (v2 (oIs false) (vV 2) (vK .non)) (EW js s (some m) x4 (some (.p (pO z)))) st = .ok false st := rfl
      unfold bOr
      rw [c1]
      simp only [bnd_ok, Bool.false_eq_true, if_false]
      exact tst_of od
    unfold bstE vIf
    rw [c]
    cases hlt : ltO z m
    · show Res.ok (D.p (pO m)) st = .ok (.p (bP (if ltO z m = true then some z else some m))) st
      rw [hlt]
      rfl
    · show Res.ok (D.p (pO z)) st = .ok (.p (bP (if ltO z m = true then some z else some m))) st
      rw [hlt]
      rfl
theorem bdW_ok (b : Option (Int × List Nat)) (hb : ∀ m, b = some m → ∀ i ∈ m.2, i < 5) (st : List (List Nat)) (p : List Nat) (hp : ∀ i ∈ p, i < n) (hd : p.Nodup) (hl : p.length ≤ 5) (hst : st.length ≤ 100) (x4 x5 : Option D) : ∃ x4' x5', bdW (EW js s b x4 x5) (SK s (st ++ [p])) = .nx (EW js s (if p.length = n then better b (zO B js p) else b) x4' x5') (SK s (st ++ ext n p)) := by
  have lk : js.length = n := by
    have := congrArg List.length h.k
    simpa using this
  have g0 : (SK s (st ++ [p]))[s.length]? = some (.lst (((st ++ [p]).map TS).map D.p)) := ap1 _ _ _
  have a0 : sAsg (vMet0 isList mPop (vV 3)) (gvN 4) (EW js s b x4 x5) (SK s (st ++ [p])) = .nx (EW js s b (some (.p (TS p))) x5) (SK s st) := by
    refine asg_nx (d := .p (TS p)) (s1 := SK s st) ?_ rfl
    have e : vV 3 (EW js s b x4 x5) (SK s (st ++ [p])) = .ok (.ref s.length) (SK s (st ++ [p])) := rfl
    have i3 : isList (.ref s.length) (SK s (st ++ [p])) = true := by
      unfold isList
      simp only [g0]
    have m3 : mPop (.ref s.length) [] (SK s (st ++ [p])) = .ok (.p (TS p)) (SK s st) := by
      have x1 : (((st ++ [p]).map TS).map D.p)[(((st ++ [p]).map TS).map D.p).length - 1]? = some (.p (TS p)) := by simp
      have x2 : (((st ++ [p]).map TS).map D.p).dropLast = (st.map TS).map D.p := by
        rw [List.map_append, List.map_append]
        simp
      unfold mPop
      simp only [g0, x1, x2]
      unfold SK
      rw [sp1]
    unfold vMet0
    rw [e]
    simp only [bnd_ok, i3, if_true, m3]
  have tst : tstB (v2 (oEq false) (vCal fLen (aC (vV 4) (aN))) (vCal fLenX (aC (vV 1) (aN)))) (EW js s b (some (.p (TS p))) x5) (SK s st) = .ok (decide (p.length = n)) (SK s st) := by
    have l1 : vCal fLen (aC (vV 4) (aN)) (EW js s b (some (.p (TS p))) x5) (SK s st) = .ok (.p (.int (p.length : Nat))) (SK s st) := by
      refine (cal1_of (d := .p (TS p)) rfl).trans ?_
      show Res.ok (D.p (P.int ((p.map fun i => P.str (nm i)).length : Nat))) (SK s st) = _
      rw [List.length_map]
    have l2 : vCal fLenX (aC (vV 1) (aN)) (EW js s b (some (.p (TS p))) x5) (SK s st) = .ok (.p (.int (n : Nat))) (SK s st) := by
      refine (cal1_of (d := .p (.dct (tbl js.reverse))) rfl).trans ?_
      show Res.ok (D.p (P.int ((tbl js.reverse).length : Nat))) (SK s st) = _
      unfold tbl
      rw [List.length_map, List.length_reverse, lk]
    refine tst_of ((v2_of l1 l2).trans ?_)
    have e : pEq (.int (p.length : Nat)) (.int (n : Nat)) = some (decide (p.length = n)) := by
      have : decide (((p.length : Nat) : Int) = (n : Nat)) = decide (p.length = n) := by
        apply decide_eq_decide.mpr
        omega
      rw [← this]
      rfl
    unfold oEq
    simp only [see, e]
    rfl
  have fin : ∀ (b' : Option (Int × List Nat)) (y5 : Option D), sAug 3 iAdd extE (EW js s b' (some (.p (TS p))) y5) (SK s st) = .nx (EW js s b' (some (.p (TS p))) y5) (SK s (st ++ ext n p)) := by
    intro b' y5
    have e := ext_ok hn h (s := s) b' p hp hl y5 (SK s st)
    have le : (ext n p).length ≤ 5 := by
      unfold ext
      rw [List.length_map]
      refine Nat.le_trans (List.length_filter_le ..) ?_
      rw [List.length_reverse, List.length_range]
      exact hn.2
    have g1 : (SK s st)[s.length]? = some (.lst ((st.map TS).map D.p)) := ap1 _ _ _
    have ad : iAdd (.ref s.length) (.p (.lst ((ext n p).map TS))) (SK s st) = .ok (.ref s.length) (SK s (st ++ ext n p)) := by
      unfold iAdd
      simp only [g1, see, List.length_map]
      rw [if_pos (by rw [szLine_eq]; omega)]
      unfold SK
      rw [sp1, List.map_append, List.map_append]
    have g3 : (EW js s b' (some (.p (TS p))) y5)[3]? = some (some (.ref s.length)) := rfl
    unfold sAug
    simp only [g3, e, ad]
    rfl
  by_cases c : p.length = n
  · have r := row_ok hB hn h w0 b p hp hd c x5 st
    have bs := bst_ok hB hn h w0 b (zO B js p) (fun i hi => by have := hp i hi; omega) hb (some (.p (TS p))) (SK s st)
    have a1 : sIf (tstB (v2 (oEq false) (vCal fLen (aC (vV 4) (aN))) (vCal fLenX (aC (vV 1) (aN))))) (sSeq (sAsg rowE (gvN 5)) (sAsg bstE (gvN 2))) (sNx) (EW js s b (some (.p (TS p))) x5) (SK s st) = .nx (EW js s (better b (zO B js p)) (some (.p (TS p))) (some (.p (pO (zO B js p))))) (SK s st) := by
      have r1 : sAsg rowE (gvN 5) (EW js s b (some (.p (TS p))) x5) (SK s st) = .nx (EW js s b (some (.p (TS p))) (some (.p (pO (zO B js p))))) (SK s st) := asg_nx r rfl
      have r2 : sAsg bstE (gvN 2) (EW js s b (some (.p (TS p))) (some (.p (pO (zO B js p))))) (SK s st) = .nx (EW js s (better b (zO B js p)) (some (.p (TS p))) (some (.p (pO (zO B js p))))) (SK s st) := asg_nx bs rfl
      unfold sIf
      rw [tst, decide_eq_true c]
      exact (seqn r1).trans r2
    exact ⟨_, _, (seqn a0).trans ((seqn a1).trans (by rw [if_pos c]; exact fin _ _))⟩
  · have a1 : sIf (tstB (v2 (oEq false) (vCal fLen (aC (vV 4) (aN))) (vCal fLenX (aC (vV 1) (aN))))) (sSeq (sAsg rowE (gvN 5)) (sAsg bstE (gvN 2))) (sNx) (EW js s b (some (.p (TS p))) x5) (SK s st) = .nx (EW js s b (some (.p (TS p))) x5) (SK s st) := by
      unfold sIf
      rw [tst, decide_eq_false c]
      rfl
    exact ⟨_, _, (seqn a0).trans ((seqn a1).trans (by rw [if_neg c]; exact fin _ _))⟩
end
end Q11
end

section
set_option linter.all false
set_option maxHeartbeats 4100000
set_option maxRecDepth 10000
open PySem L2 Iv K11
namespace Q11
theorem pEq_stack (st : List (List Nat)) (h : ∀ p ∈ st, ∀ i ∈ p, i < 5) : pEq (.lst (st.map TS)) (.lst []) = some st.isEmpty := by
  have ok : ∀ i, i < 5 → okD 57 (.str (nm i)) = true := by decide +kernel
  have := pEq_nil (xs := st.map TS) (okDs_all 59 _ fun y hy => by
    obtain ⟨p, hp, rfl⟩ := List.mem_map.mp hy
    unfold TS okD
    refine okDs_all 58 _ fun y hy => ?_
    obtain ⟨i, hi, rfl⟩ := List.mem_map.mp hy
    have := ok i (h p hp i hi)
    unfold okD at this ⊢
    exact this)
  rw [this]
  cases st <;> rfl
def cW : Ev Bool := tstB (v2 (oEq true) (vV 3) (vLst (aN)))
theorem better_lt {n : Nat} (hn : n ≤ 5) {b : Option (Int × List Nat)} {z : Int × List Nat} (hb : ∀ m, b = some m → ∀ i ∈ m.2, i < 5) (hz : ∀ i ∈ z.2, i < n) : ∀ m, better b z = some m → ∀ i ∈ m.2, i < 5 := by
  intro m e
  unfold better at e
  split at e
  · cases e
    intro i hi
    have := hz i hi
    omega
  · split at e
    · cases e
      intro i hi
      have := hz i hi
      omega
    · cases e
      exact hb m rfl
section
variable {B n : Nat} (hB : 1 ≤ B ∧ B ≤ 4) (hn : 1 ≤ n ∧ n ≤ 5) {js : List J} (h : Js B n js) {s : Store} (w0 : WfS s)
include hB hn h w0
theorem wh_ok : ∀ (k : Nat) (st vs : List (List Nat)) (b : Option (Int × List Nat)) (x4 x5 : Option D), visitF n k st = some vs → (∀ p ∈ st, ∀ i ∈ p, i < n) → (∀ m, b = some m → ∀ i ∈ m.2, i < 5) → ∃ x4' x5', ∀ d, sWh cW bdW (k + d) (EW js s b x4 x5) (SK s st) = .nx (EW js s ((vs.map (zO B js)).foldl better b) x4' x5') (SK s [])
  | 0, st, vs, b, x4, x5, e, _, _ => by
    unfold visitF at e
    cases e
  | k + 1, st, vs, b, x4, x5, e, hs, hb => by
    have cw : cW (EW js s b x4 x5) (SK s st) = .ok (!st.isEmpty) (SK s st) := by
      have pe := pEq_stack st (fun p hp i hi => by have := hs p hp i hi; omega)
      refine tst_of ((v2_of (x := .ref s.length) (y := .p (.lst [])) rfl rfl).trans ?_)
      have g : (SK s st)[s.length]? = some (.lst ((st.map TS).map D.p)) := ap1 _ _ _
      unfold oEq
      simp only [see, g, seeC, pAll_map, Option.map_some, pe, if_true]
    unfold visitF at e
    cases hl : st.getLast? with
    | none =>
      rw [hl] at e
      cases e
      have hst : st = [] := List.getLast?_eq_none_iff.mp hl
      subst hst
      refine ⟨x4, x5, fun d => ?_⟩
      rw [show k + 1 + d = (k + d) + 1 by omega]
      unfold sWh
      rw [cw]
      rfl
    | some p =>
      rw [hl] at e
      simp only [] at e
      split at e
      · rename_i hc
        simp only [Bool.and_eq_true, decide_eq_true_eq, List.all_eq_true] at hc
        obtain ⟨h100, hp5, hpn, hpd⟩ := hc
        have hst : st = st.dropLast ++ [p] := by
          obtain ⟨ys, e'⟩ := List.getLast?_eq_some_iff.mp hl
          rw [e']
          simp
        have hdl : st.dropLast.length ≤ 100 := by rw [List.length_dropLast]; omega
        have pl : ∀ i ∈ p, i < n := fun i hi => by simpa using hpn i hi
        cases hv : visitF n k (st.dropLast ++ ext n p) with
        | none => rw [hv] at e; cases e
        | some ws =>
          rw [hv] at e
          simp only [Option.some.injEq] at e
          obtain ⟨y4, y5, eb⟩ := bdW_ok hB hn h w0 b hb st.dropLast p pl hpd hp5 hdl x4 x5
          rw [← hst] at eb
          obtain ⟨z4, z5, ih⟩ := wh_ok k (st.dropLast ++ ext n p) ws (if p.length = n then better b (zO B js p) else b) y4 y5 hv (by
            intro q hq i hi
            rcases (List.mem_append.mp hq) with hq | hq
            · exact hs q (List.dropLast_subset _ hq) i hi
            · unfold ext at hq
              obtain ⟨j, hj, rfl⟩ := List.mem_map.mp hq
              rcases List.mem_append.mp hi with hi | hi
              · exact pl i hi
              · rw [List.mem_singleton.mp hi]
                exact List.mem_range.mp (List.mem_reverse.mp (List.mem_filter.mp hj).1)) (by
            split
            · exact better_lt hn.2 hb pl
            · exact hb)
          refine ⟨z4, z5, fun d => ?_⟩
          rw [show k + 1 + d = (k + d) + 1 by omega]
          unfold sWh
          have ne : st.isEmpty = false := by
            rw [hst]
            simp
          rw [cw, ne]
          simp only [Bool.not_false, eb, ih d]
          subst e
          split <;> rfl
      · cases e
end
end Q11
end

section
set_option linter.all false
set_option maxHeartbeats 4100000
set_option maxRecDepth 10000
open PySem L2 Iv K11
namespace Q11
def Om (n : Nat) : List (List Nat) := permsN n (List.range n)
def chkP (n : Nat) : Bool := (Om n).all (fun o => decide (o.length = n) && (o.all (fun i => decide (i < n)) && decide o.Nodup)) && !(Om n).isEmpty
theorem chkP_ok (n : Nat) (h : 1 ≤ n ∧ n ≤ 5) : chkP n = true := by
  have hh : n = 1 ∨ n = 2 ∨ n = 3 ∨ n = 4 ∨ n = 5 := by omega
  rcases hh with rfl | rfl | rfl | rfl | rfl <;> decide +kernel
theorem om_mem {n : Nat} (h : 1 ≤ n ∧ n ≤ 5) {o : List Nat} (ho : o ∈ Om n) : o.length = n ∧ (∀ i ∈ o, i < n) ∧ o.Nodup := by
  have := chkP_ok n h
  unfold chkP at this
  rw [Bool.and_eq_true, List.all_eq_true] at this
  have := this.1 o ho
  simp only [Bool.and_eq_true, decide_eq_true_eq, List.all_eq_true] at this
  exact this
theorem om_ne {n : Nat} (h : 1 ≤ n ∧ n ≤ 5) : Om n ≠ [] := by
  have := chkP_ok n h
  unfold chkP at this
  rw [Bool.and_eq_true] at this
  intro e
  rw [e] at this
  exact absurd this.2 (by decide)
theorem best_ok {B n : Nat} (hB : 1 ≤ B ∧ B ≤ 4) (hn : 1 ≤ n ∧ n ≤ 5) {js : List J} (h : Js B n js) {s : Store} (w0 : WfS s) : ∃ m, IsMin ((Om n).map (zO B js)) m ∧ f_best_order_of [lj js.reverse] s = .ok (.p (pO m)) s := by
  have jr := rev_ok (h.ok hB hn)
  have ck := check_ok jr s
  have cv := chkV_ok n hn
  unfold chkV at cv
  cases hv : visitF n 400 [[]] with
  | none => rw [hv] at cv; cases cv
  | some vs =>
    rw [hv] at cv
    simp only [Bool.and_eq_true, List.all_eq_true, List.contains_iff_mem] at cv
    have mem : ∀ o, o ∈ vs ↔ o ∈ Om n := fun o => ⟨fun h => cv.1 o h, fun h => cv.2 o h⟩
    have ne : vs.map (zO B js) ≠ [] := by
      intro e
      have e2 : vs = [] := List.map_eq_nil_iff.mp e
      cases ho : Om n with
      | nil => exact om_ne hn ho
      | cons o r =>
        have := (mem o).mpr (by rw [ho]; exact List.mem_cons_self ..)
        rw [e2] at this
        cases this
    obtain ⟨m, fm, hm⟩ := fold_min0 (vs.map (zO B js)) ne
    refine ⟨m, ⟨?_, fun z hz => ?_⟩, ?_⟩
    · obtain ⟨o, ho, e⟩ := List.mem_map.mp hm.1
      exact List.mem_map.mpr ⟨o, (mem o).mp ho, e⟩
    · obtain ⟨o, ho, rfl⟩ := List.mem_map.mp hz
      exact hm.2 _ (List.mem_map.mpr ⟨o, (mem o).mpr ho, rfl⟩)
    obtain ⟨x4, x5, wh⟩ := wh_ok hB hn h w0 400 [[]] vs none none none hv (by intro p hp; rw [List.mem_singleton.mp hp]; simp) (by simp)
    have wh := wh 1600
    rw [fm] at wh
    have lk : js.reverse.length ≤ szLine := by
      have := jr.n
      rw [szLine_eq]
      omega
    have d1 := vDc_data (fi := itA (vV 0)) (t := tvN 6) (ek := vFld [2] "name" (vV 6)) (ev := vV 6) (vs := [6]) (δ := [some (lj js.reverse), none, none, none, none, none, none, none]) (s := s) ob (fun j => .inr j.1) ob js.reverse lk rfl (fun j _ => ⟨_, rfl, rfl, rfl⟩) (tbl js.reverse) (by
      rw [fold_new _ _ js.reverse [] (by simpa using nd_key jr.d), List.nil_append]
      exact pKs_map (fun j : J => .inr j.1) ob js.reverse)
    have a0 : sDo (vFn f_check_works (aC (vV 0) (aN)) []) [some (lj js.reverse), none, none, none, none, none, none, none] s = .nx [some (lj js.reverse), none, none, none, none, none, none, none] s := by
      unfold sDo
      rw [(fn1_of (d := lj js.reverse) rfl).trans ck]
    have a1 : sAsgT 3 (aC (vDcD (itA (vV 0)) (tvN 6) (bYes) (vFld [2] "name" (vV 6)) (vV 6) [6] kDct) (aC (vK .non) (aC (vLstM (aC (vTup (aN)) (aN))) (aN)))) (gsC (gvN 1) (gsC (gvN 2) (gsC (gvN 3) (gsN)))) [some (lj js.reverse), none, none, none, none, none, none, none] s = .nx (EW js s none none none) (SK s [[]]) := by
      have ar : aC (vDcD (itA (vV 0)) (tvN 6) (bYes) (vFld [2] "name" (vV 6)) (vV 6) [6] kDct) (aC (vK .non) (aC (vLstM (aC (vTup (aN)) (aN))) (aN))) [some (lj js.reverse), none, none, none, none, none, none, none] s = .ok [.p (.dct (tbl js.reverse)), .p .non, .ref s.length] (SK s [[]]) := by
        generalize vDcD (itA (vV 0)) (tvN 6) (bYes) (vFld [2] "name" (vV 6)) (vV 6) [6] kDct = D1 at *
        unfold aC
        rw [d1]
        rfl
      unfold sAsgT
      rw [ar]
      rfl
    have rt : retF s.length (.p (pO m)) (SK s []) = .ok (.p (pO m)) s := retF_own w0 _ _
    have run : b_best_order_of (startE 8 [lj js.reverse]) s = .rt (.p (pO m)) (SK s []) := by
      refine (seqn a0).trans ((seqn a1).trans ?_)
      exact (seqn wh).trans rfl
    show fnF false 8 1 b_best_order_of _ s = _
    unfold fnF
    rw [if_pos (by rfl), run]
    exact rt
theorem names_sorted (n : Nat) (h : n ≤ 5) : sortS ((List.range n).map nm) = (List.range n).map nm := by
  refine (sortS_uniq (List.Perm.refl _) ?_).symm
  have hh : n = 0 ∨ n = 1 ∨ n = 2 ∨ n = 3 ∨ n = 4 ∨ n = 5 := by omega
  rcases hh with rfl | rfl | rfl | rfl | rfl | rfl <;> decide +kernel
theorem strKs_map : ∀ js : List J, strKs (js.map fun j => (P.str j.1, TP j.2)) = some (js.map (·.1))
  | [] => rfl
  | j :: js => by
    rw [List.map_cons]
    unfold strKs
    rw [strKs_map js]
    rfl
end Q11
end

section
set_option linter.all false
set_option maxHeartbeats 4100000
set_option maxRecDepth 10000
open PySem L2 Iv K11
namespace Q11
theorem dx4_ok {js : List J} (hd : (js.map (·.1)).Nodup) {a c m : Int} {r : List Cell} {δ : Iv.Env} {j : J} (hj : j ∈ js) {i : Nat} (h3 : δ[3]? = some (some (.ref 2))) (hi : δ[i]? = some (some (.p (.str j.1)))) : v2 oDx (vV 3) (vV i) δ (S4 a c m js r) = .ok (.p (TP j.2)) (S4 a c m js r) := by
  refine (v2_of (x := .ref 2) (y := .p (.str j.1)) (s1 := S4 a c m js r) (s2 := S4 a c m js r) (by unfold vV; rw [h3]) (by unfold vV; rw [hi])).trans ?_
  have g := getX_in hd j hj
  have kx : kxD (.p (.str j.1)) = some (.k (.inr j.1)) := rfl
  have g2 : (S4 a c m js r)[2]? = some (.fK (KVs js)) := rfl
  unfold oDx
  simp only [kx, dLook, g2, g]
theorem see_dct (a c m : Int) (js : List J) (r : List Cell) : see (S4 a c m js r) (.ref 2) = some (.dct (js.map fun j => (P.str j.1, TP j.2))) := by
  have pk : pKs (KVs js) = some (js.map fun j => (P.str j.1, TP j.2)) := pKs_map (fun j : J => .inr j.1) (fun j => TP j.2) js
  show (pKs (KVs js)).map P.dct = _
  rw [pk]
  rfl
theorem om5 (n : Nat) (h : 1 ≤ n ∧ n ≤ 5) : permsN 5 (List.range n) = Om n := by
  have hh : n = 1 ∨ n = 2 ∨ n = 3 ∨ n = 4 ∨ n = 5 := by omega
  rcases hh with rfl | rfl | rfl | rfl | rfl <;> decide +kernel
theorem okD_pO (x : Int × List Nat) (h : ∀ i ∈ x.2, i < 5) : okD 60 (pO x) = true := by
  have ok : ∀ i, i < 5 → okD 58 (.str (nm i)) = true := by decide +kernel
  unfold pO TS okD
  refine okDs_all _ _ fun y hy => ?_
  simp only [List.mem_cons, List.not_mem_nil, or_false] at hy
  rcases hy with (rfl | rfl)
  · unfold okD; rfl
  · unfold okD
    refine okDs_all _ _ fun y hy => ?_
    obtain ⟨i, hi, rfl⟩ := List.mem_map.mp hy
    exact ok i (h i hi)
section
variable (sc : D) {B n : Nat} (hB : 1 ≤ B ∧ B ≤ 4) (hn : 1 ≤ n ∧ n ≤ 5) {js : List J} (h : Js B n js) (x4 x5 x6 x7 x8 x9 : Option D) (a c m : Int) (xs : List Int)
include hB hn h
/-- rows in an order; their last end -/
theorem lend_ok (o : List Nat) (ho : ∀ i ∈ o, i < n) (hl : o.length = n) (δ : Iv.Env) {k : Nat} (h2 : δ[2]? = some (some (.p (.int (B : Nat))))) (h3 : δ[3]? = some (some (.ref 2))) (hk : δ[k]? = some (some (.p (TS o)))) (h16 : δ.length = 23) (hk3 : k ≠ 16) :
    v2 oIx (v2 oIx (vFn f__law_ends (aC (vCmp (itA (vV k)) (tvN 16) (bYes) (v2 oDx (vV 3) (vV 16)) [16]) (aN)) []) (v2 oSub (vCal fLenX (aC (vV 3) (aN))) (vK (.int 1)))) (v2 oSub (vV 2) (vK (.int 1))) δ (S4 a c m js [L xs]) = .ok (.p (.int (endO B js o))) (S4 a c m js [L xs]) := by
  have lk : js.length = n := by
    have := congrArg List.length h.k
    simpa using this
  have nd : (js.map (·.1)).Nodup := by rw [h.k]; exact nm_nodup n hn.2
  have e4 : vV k δ (S4 a c m js [L xs]) = .ok (.p (TS o)) (S4 a c m js [L xs]) := by unfold vV; rw [hk]
  have cm : vCmp (itA (vV k)) (tvN 16) (bYes) (v2 oDx (vV 3) (vV 16)) [16] δ (S4 a c m js [L xs]) = .ok (.p (.lst ((o.map (rowOf js)).map TP))) (S4 a c m js [L xs]) := by
    refine (vCmp_all o (fun i => P.str (nm i)) (fun i => TP (rowOf js i)) (by rw [szLine_eq]; omega) (itA_of (x := TS o) e4 rfl) fun i hi => ⟨((δ.set 16 none).set 16 (some (.p (.str (nm i))))), rfl, ?_⟩).trans ?_
    · exact dx4_ok nd (js_at h (ho i hi)).1 (by rw [List.getElem?_set_ne (by decide), List.getElem?_set_ne (by decide)]; exact h3) (by rw [List.getElem?_set_self (by rw [List.length_set]; omega)])
    · rw [List.map_map]
      rfl
  have hr : ∀ r ∈ o.map (rowOf js), r.length = B := fun r hr => by
    obtain ⟨i, hi, rfl⟩ := List.mem_map.mp hr
    exact h.l (nm i, rowOf js i) (js_at h (ho i hi)).1
  have le := lends_ok hB.2 (rs := o.map (rowOf js)) hr (by rw [List.length_map]; omega) (S4 a c m js [L xs]) (s4_wf ..)
  have ne : endsL (zer B) (o.map (rowOf js)) ≠ [] := by
    intro e
    have := congrArg List.length e
    rw [ends_len, List.length_map, hl, List.length_nil] at this
    omega
  obtain ⟨ys, y, hy⟩ : ∃ ys y, endsL (zer B) (o.map (rowOf js)) = ys ++ [y] := ⟨_, _, (List.dropLast_concat_getLast ne).symm⟩
  have lys : ys.length = n - 1 := by
    have := congrArg List.length hy
    rw [ends_len, List.length_map, hl, List.length_append, List.length_cons, List.length_nil] at this
    omega
  have ly : y.length = B := ends_rows B (o.map (rowOf js)) (zer B) (by simp [zer]) hr y (by rw [hy]; simp)
  have n1 : v2 oSub (vCal fLenX (aC (vV 3) (aN))) (vK (.int 1)) δ (S4 a c m js [L xs]) = .ok (.p (.int ((n - 1 : Nat) : Int))) (S4 a c m js [L xs]) := by
    have e3 : vV 3 δ (S4 a c m js [L xs]) = .ok (.ref 2) (S4 a c m js [L xs]) := by unfold vV; rw [h3]
    have l : vCal fLenX (aC (vV 3) (aN)) δ (S4 a c m js [L xs]) = .ok (.p (.int (n : Nat))) (S4 a c m js [L xs]) := by
      refine (cal1_of e3).trans ?_
      unfold fLenX
      simp only [see_dct, Option.bind_some, entP, List.length_map, lk]
    have e := sub_of l (g := vK (.int 1)) rfl
    rw [show ((n : Nat) : Int) - 1 = ((n - 1 : Nat) : Int) by omega] at e
    exact e
  have b1 : v2 oSub (vV 2) (vK (.int 1)) δ (S4 a c m js [L xs]) = .ok (.p (.int ((B - 1 : Nat) : Int))) (S4 a c m js [L xs]) := by
    have e2 : vV 2 δ (S4 a c m js [L xs]) = .ok (.p (.int (B : Nat))) (S4 a c m js [L xs]) := by unfold vV; rw [h2]
    have e := sub_of e2 (g := vK (.int 1)) rfl
    rw [show ((B : Nat) : Int) - 1 = ((B - 1 : Nat) : Int) by omega] at e
    exact e
  have i1 : v2 oIx (vFn f__law_ends (aC (vCmp (itA (vV k)) (tvN 16) (bYes) (v2 oDx (vV 3) (vV 16)) [16]) (aN)) []) (v2 oSub (vCal fLenX (aC (vV 3) (aN))) (vK (.int 1))) δ (S4 a c m js [L xs]) = .ok (.p (TP y)) (S4 a c m js [L xs]) := by
    refine (v2_of ((fn1_of cm).trans le) n1).trans ?_
    have : L2.atI ((endsL (zer B) (o.map (rowOf js))).map TP) ((n - 1 : Nat) : Int) = some (TP y) := Iv.atI_nat (by rw [hy, ← lys]; simp)
    unfold oIx
    simp only [seqP_lst, this]
  refine (v2_of i1 b1).trans ((ixt y (B - 1) (by omega) _).trans ?_)
  unfold endO
  rw [hy, lastE_eq]
theorem t89_ok : ∃ mm, IsMin ((Om n).map (zO B js)) mm ∧ ∃ x10, (∃ r, x10 = some (.p (.lst (pO mm :: r)))) ∧ ∀ f : Sv, sSeq T_8 (sSeq T_9 f) (E sc (some (.p (.int (B : Nat)))) (some (.ref 2)) x4 (some (lj js)) x6 x7 x8 x9 none none none none none none) (S4 a c m js [L xs]) = f (E sc (some (.p (.int (B : Nat)))) (some (.ref 2)) x4 (some (lj js)) x6 x7 x8 x9 x10 none none none none none) (S4 a c m js [L xs]) := by
  obtain ⟨m', r, hs, hm⟩ := sort_head (xs := (Om n).map (zO B js)) (fun e => om_ne hn (List.map_eq_nil_iff.mp e))
  have hlt : ∀ z ∈ (Om n).map (zO B js), ∀ i ∈ z.2, i < 5 := fun z hz i hi => by
    obtain ⟨o, ho, rfl⟩ := List.mem_map.mp hz
    have := (om_mem hn ho).2.1 i hi
    omega
  have ol : (Om n).length ≤ 120 := by
    have := perms_len n (List.range n)
    rw [List.length_range] at this
    exact Nat.le_trans this (Nat.le_trans (fact_mono hn.2) (by decide))
  have nm_ : vCal fSortedS (aC (vV 3) (aN)) (E sc (some (.p (.int (B : Nat)))) (some (.ref 2)) x4 (some (lj js)) x6 x7 x8 x9 none none none none none none) (S4 a c m js [L xs]) = .ok (.p (LS (List.range n))) (S4 a c m js [L xs]) := by
    refine (cal1_of (d := .ref 2) rfl).trans ?_
    unfold fSortedS
    simp only [see_dct, strKs_map, h.k, names_sorted n hn.2, List.length_map, List.length_range]
    rw [if_pos (by omega), List.map_map]
    rfl
  have oo : ∀ q, f__law_orders 6 [.p (LS (List.range n))] q = .ok (.p (.lst ((Om n).map TS))) q := fun q => by
    have := orders_ok q (List.range n) 5 (by omega) (by rw [List.length_range]; omega) (by rw [List.length_range]; omega) (fun i hi => by have := List.mem_range.mp hi; omega)
    rw [this, om5 n hn]
  have cm : vCmp (itA (vFn (f__law_orders 6) (aC (vCal fSortedS (aC (vV 3) (aN))) (aN)) [])) (tvN 11) (bYes) (vTup (aC (v2 oIx (v2 oIx (vFn f__law_ends (aC (vCmp (itA (vV 11)) (tvN 16) (bYes) (v2 oDx (vV 3) (vV 16)) [16]) (aN)) []) (v2 oSub (vCal fLenX (aC (vV 3) (aN))) (vK (.int 1)))) (v2 oSub (vV 2) (vK (.int 1)))) (aC (vV 11) (aN)))) [11] (E sc (some (.p (.int (B : Nat)))) (some (.ref 2)) x4 (some (lj js)) x6 x7 x8 x9 none none none none none none) (S4 a c m js [L xs]) = .ok (.p (.lst (((Om n).map (zO B js)).map pO))) (S4 a c m js [L xs]) := by
    refine (vCmp_all (Om n) TS (fun o => pO (zO B js o)) (by rw [szLine_eq]; omega) (itA_of (x := .lst ((Om n).map TS)) ((fn1_of nm_).trans (oo _)) rfl) fun o ho => ⟨(E sc (some (.p (.int (B : Nat)))) (some (.ref 2)) x4 (some (lj js)) x6 x7 x8 x9 none none none none none none).set 11 (some (.p (TS o))), rfl, ?_⟩).trans ?_
    · have q := om_mem hn ho
      exact tup2_of (lend_ok hB hn h a c m xs o q.2.1 q.1 _ (k := 11) rfl rfl rfl rfl (by decide)) rfl
    · rw [List.map_map]
      rfl
  have so := fSorted_pO ((Om n).map (zO B js)) hlt (by rw [List.length_map]; omega) (S4 a c m js [L xs])
  rw [hs, List.map_cons] at so
  have a8 : T_8 (E sc (some (.p (.int (B : Nat)))) (some (.ref 2)) x4 (some (lj js)) x6 x7 x8 x9 none none none none none none) (S4 a c m js [L xs]) = .nx (E sc (some (.p (.int (B : Nat)))) (some (.ref 2)) x4 (some (lj js)) x6 x7 x8 x9 (some (.p (.lst (pO m' :: r.map pO)))) none none none none none) (S4 a c m js [L xs]) := asg_nx ((cal1_of cm).trans so) rfl
  obtain ⟨mb, hmb, bo⟩ := best_ok hB hn h (s4_wf a c m js xs)
  have em : mb = m' := min_uniq (fun z => Iff.rfl) hmb hm hlt
  subst em
  refine ⟨mb, hm, _, ⟨r.map pO, rfl⟩, fun f => (seqn a8).trans (seqn ?_)⟩
  have pe : pEq (pO mb) (pO mb) = some true := pEq_self (okD_pO mb (hlt mb hm.1))
  have rv : vRev (vV 5) (E sc (some (.p (.int (B : Nat)))) (some (.ref 2)) x4 (some (lj js)) x6 x7 x8 x9 (some (.p (.lst (pO mb :: r.map pO)))) none none none none none) (S4 a c m js [L xs]) = .ok (lj js.reverse) (S4 a c m js [L xs]) := by
    show Res.ok (D.p (.lst (js.map ob).reverse)) (S4 a c m js [L xs]) = _
    unfold lj
    rw [List.map_reverse]
  have i0 : v2 oIx (vV 10) (vK (.int 0)) (E sc (some (.p (.int (B : Nat)))) (some (.ref 2)) x4 (some (lj js)) x6 x7 x8 x9 (some (.p (.lst (pO mb :: r.map pO)))) none none none none none) (S4 a c m js [L xs]) = .ok (.p (pO mb)) (S4 a c m js [L xs]) := by
    refine (v2_of (x := .p (.lst (pO mb :: r.map pO))) (y := .p (.int 0)) rfl rfl).trans ?_
    have : L2.atI (pO mb :: r.map pO) 0 = some (pO mb) := Iv.atI_nat (i := 0) rfl
    unfold oIx
    simp only [seqP_lst, this]
  exact if_f (tst_of (eq_of ((fn1_of rv).trans bo) i0 pe))
end
end Q11
end

section
set_option linter.all false
set_option maxHeartbeats 4100000
set_option maxRecDepth 10000
open PySem L2 Iv K11
namespace Q11
/-! ### two benches -/
theorem perm_in : ∀ (m : Nat) (is o : List Nat), is.length ≤ m → is.Nodup → o.Perm is → o ∈ permsN m is
  | m, [], o, _, _, hp => by
    rw [List.Perm.eq_nil hp]
    cases m <;> (unfold permsN; simp)
  | 0, i :: is, o, hl, _, _ => by simp at hl
  | m + 1, i :: is, o, hl, hd, hp => by
    cases o with
    | nil => exact absurd hp.symm.eq_nil (by simp)
    | cons k o' =>
      have hk : k ∈ i :: is := hp.mem_iff.mp (List.mem_cons_self ..)
      have he : (i :: is).erase k = (i :: is).filter (· ≠ k) := by
        rw [List.Nodup.erase_eq_filter hd]
        apply List.filter_congr
        intro x _
        by_cases e : x = k <;> simp [bne, e]
      have hp' : o'.Perm ((i :: is).filter (· ≠ k)) := by
        rw [← he]
        have := hp.erase k
        rwa [List.erase_cons_head] at this
      show k :: o' ∈ (i :: is).flatMap fun k => (permsN m ((i :: is).filter (· ≠ k))).map (k :: ·)
      refine List.mem_flatMap.mpr ⟨k, hk, List.mem_map.mpr ⟨o', perm_in m _ o' ?_ (hd.filter _) hp', rfl⟩⟩
      have := filter_lt hk
      rw [List.length_cons] at hl this
      omega
def ab (r : List Int) : Int × Int := (r.getD 0 0, r.getD 1 0)
theorem ends2 : ∀ (rs : List (List Int)) (r : List Int) (f0 f1 : Int), (∀ q ∈ r :: rs, q.length = 2) → 0 ≤ f0 → (∀ q ∈ r :: rs, 0 ≤ q.getD 0 0) → lastE 1 (endsL [f0, f1] (r :: rs)) = ms f0 f1 ((r :: rs).map ab)
  | rs, r, f0, f1, h, h0, hp => by
    have hr := h r (List.mem_cons_self ..)
    obtain ⟨x, y, rfl⟩ : ∃ x y, r = [x, y] := by
      match r, hr with
      | [x, y], _ => exact ⟨x, y, rfl⟩
    have hx : 0 ≤ x := hp [x, y] (List.mem_cons_self ..)
    have m0 : maxI 0 f0 = f0 := by unfold maxI; split <;> omega
    have st : stepR 0 [f0, f1] [x, y] = [f0 + x, maxI (f0 + x) f1 + y] := by
      show [maxI 0 f0 + x, maxI (maxI 0 f0 + x) f1 + y] = _
      rw [m0]
    have mc : maxI (f0 + x) f1 = maxI f1 (f0 + x) := by unfold maxI; split <;> split <;> omega
    cases rs with
    | nil =>
      show lastE 1 [stepR 0 [f0, f1] [x, y]] = _
      rw [st]
      show maxI (f0 + x) f1 + y = maxI f1 (f0 + x) + y
      rw [mc]
    | cons r' rs =>
      have ih := ends2 rs r' (f0 + x) (maxI (f0 + x) f1 + y) (fun q hq => h q (List.mem_cons_of_mem _ hq)) (by omega) (fun q hq => hp q (List.mem_cons_of_mem _ hq))
      have e : lastE 1 (endsL [f0, f1] ([x, y] :: r' :: rs)) = lastE 1 (endsL (stepR 0 [f0, f1] [x, y]) (r' :: rs)) := by
        show lastE 1 (stepR 0 [f0, f1] [x, y] :: endsL (stepR 0 [f0, f1] [x, y]) (r' :: rs)) = _
        unfold lastE
        have ne : endsL (stepR 0 [f0, f1] [x, y]) (r' :: rs) ≠ [] := by
          intro e
          have := congrArg List.length e
          rw [ends_len] at this
          simp at this
        cases hh : endsL (stepR 0 [f0, f1] [x, y]) (r' :: rs) with
        | nil => exact (ne hh).elim
        | cons a b => simp [List.getLastD]
      rw [e, st, ih]
      show ms (f0 + x) (maxI (f0 + x) f1 + y) ((r' :: rs).map ab) = ms (f0 + x) (maxI f1 (f0 + x) + y) ((r' :: rs).map ab)
      rw [mc]
theorem ltO_fst {y z : Int × List Nat} (h : y.1 < z.1) : ltO y z = true := by
  have k : PySem.W.alike (.int y.1) (.int z.1) = true := rfl
  have ne : y.1 ≠ z.1 := by omega
  unfold ltO
  simp only [pO, P.toD, P.toDs, PySem.W.dataLt_tuple]
  rw [PySem.W.dataLt_all_no k (by simp [PyData.eqv, ne]), PySem.W.dataLt_int]
  simp [h]
end Q11
end

section
set_option linter.all false
set_option maxHeartbeats 4100000
set_option maxRecDepth 10000
open PySem L2 Iv K11
namespace Q11
/-! ### pairs of a number and a name -/
section
variable (ν : Nat → Str)
def pS (x : Int × Nat) : P := .tup [.int x.1, .str (ν x.2)]
def ltS2 (y z : Int × Nat) : Bool := PySem.W.dataLt (pS ν y).toD (pS ν z).toD
def leS2 (y z : Int × Nat) : Bool := !ltS2 ν z y
theorem lePP_pS (y z : Int × Nat) : lePP (pS ν y) (pS ν z) = leS2 ν y z := rfl
def sortT (xs : List (Int × Nat)) : List (Int × Nat) := xs.mergeSort (leS2 ν)
theorem sortP_pS (xs : List (Int × Nat)) : sortP (xs.map (pS ν)) = (sortT ν xs).map (pS ν) := by
  unfold sortP sortT
  exact (List.map_mergeSort (fun a _ b _ => (lePP_pS ν a b).symm)).symm
theorem alike_pS (y z : Int × Nat) : PySem.W.alike (pS ν y).toD (pS ν z).toD = true := rfl
variable (ok : ∀ i, i < 5 → okD 58 (.str (ν i)) = true)
include ok in
theorem alikeP_pS (xs : List (Int × Nat)) (h : ∀ z ∈ xs, z.2 < 5) : alikeP (xs.map (pS ν)) = true := by
  unfold alikeP
  rw [List.all_eq_true]
  intro a ha
  obtain ⟨x, hx, rfl⟩ := List.mem_map.mp ha
  have o : okD 60 (pS ν x) = true := by
    unfold pS okD
    refine okDs_all _ _ fun y hy => ?_
    simp only [List.mem_cons, List.not_mem_nil, or_false] at hy
    rcases hy with (rfl | rfl)
    · unfold okD; rfl
    · have := ok x.2 (h x hx)
      unfold okD at this ⊢
      exact this
  have h1 : SeqAt.shaped (pS ν x).toD = true := okD_shaped (by decide) o
  have h2 : isNon (pS ν x).toD = false := rfl
  rw [h1, h2, Bool.true_and, Bool.not_false, Bool.true_and, List.all_eq_true]
  intro b hb
  obtain ⟨y, _, rfl⟩ := List.mem_map.mp hb
  exact alike_pS ν x y
theorem sortB_pS (xs : List (Int × Nat)) : sortB (xs.map (pS ν)) = true := by
  simp [sortB, pS, tup1]
include ok in
theorem fSorted_pS (xs : List (Int × Nat)) (h : ∀ z ∈ xs, z.2 < 5) (hl : xs.length ≤ 200) (s : Store) : fSorted [.p (.lst (xs.map (pS ν)))] s = .ok (.p (.lst ((sortT ν xs).map (pS ν)))) s := by
  have c : alikeP (xs.map (pS ν)) = true ∧ sortB (xs.map (pS ν)) = true ∧ (xs.map (pS ν)).length ≤ szLine := ⟨alikeP_pS ν ok xs h, sortB_pS ν xs, by rw [List.length_map, szLine_eq]; omega⟩
  unfold fSorted
  simp only [see, lstP]
  rw [if_pos c, sortP_pS ν]
theorem ltS2_irrefl (z : Int × Nat) : ltS2 ν z z = false := PyProof.Rows.lex_irrefl _
theorem ltS2_trans {x y z : Int × Nat} (h1 : ltS2 ν x y = true) (h2 : ltS2 ν y z = true) : ltS2 ν x z = true := PyProof.Rows.lex_trans _ _ _ h1 h2
theorem leS2_total (y z : Int × Nat) : (leS2 ν y z || leS2 ν z y) = true := by
  unfold leS2
  cases h : ltS2 ν z y
  · rfl
  · cases h2 : ltS2 ν y z
    · rfl
    · have := ltS2_trans ν h h2
      rw [ltS2_irrefl ν] at this
      cases this
theorem leS2_trans {x y z : Int × Nat} (h1 : leS2 ν x y = true) (h2 : leS2 ν y z = true) : leS2 ν x z = true := by
  unfold leS2 at *
  rw [Bool.not_eq_true'] at *
  cases h : ltS2 ν z x
  · rfl
  · cases h3 : ltS2 ν x y
    · have e : PySem.W.keyToks (pS ν y).toD = PySem.W.keyToks (pS ν x).toD := PyProof.Rows.lex_total _ _ h1 h3
      have : ltS2 ν z y = ltS2 ν z x := by
        unfold ltS2 PySem.W.dataLt
        rw [e]
      rw [this, h] at h2
      cases h2
    · have := ltS2_trans ν h h3
      rw [this] at h2
      cases h2
theorem sortT_perm (xs : List (Int × Nat)) : (sortT ν xs).Perm xs := List.mergeSort_perm _ _
theorem sortT_pw (xs : List (Int × Nat)) : (sortT ν xs).Pairwise fun a b => a.1 ≤ b.1 := by
  have hw : (sortT ν xs).Pairwise fun a b => leS2 ν a b = true := List.pairwise_mergeSort (le := leS2 ν) (fun a b c h1 h2 => leS2_trans ν h1 h2) (leS2_total ν) xs
  refine hw.imp fun {a b} h => ?_
  by_cases hlt : b.1 < a.1
  · have k : PySem.W.alike (.int b.1) (.int a.1) = true := rfl
    have ne : b.1 ≠ a.1 := by omega
    have : ltS2 ν b a = true := by
      unfold ltS2
      simp only [pS, P.toD, P.toDs, PySem.W.dataLt_tuple]
      rw [PySem.W.dataLt_all_no k (by simp [PyData.eqv, ne]), PySem.W.dataLt_int]
      simp [hlt]
    unfold leS2 at h
    rw [this] at h
    cases h
  · omega
end
end Q11
end

section
set_option linter.all false
set_option maxHeartbeats 4100000
set_option maxRecDepth 10000
open PySem L2 Iv K11
namespace Q11
/-! ### two_bench_order -/
def obν (ν : Nat → Str) (R : Nat → List Int) (i : Nat) : P := ob (ν i, R i)
def fstL (R : Nat → List Int) (is : List Nat) : List (Int × Nat) := (is.filter fun i => decide ((R i).getD 0 0 < (R i).getD 1 0)).map fun i => ((R i).getD 0 0, i)
def sndL (R : Nat → List Int) (is : List Nat) : List (Int × Nat) := (is.filter fun i => decide ((R i).getD 1 0 ≤ (R i).getD 0 0)).map fun i => (-((R i).getD 1 0), i)
def twoO (ν : Nat → Str) (R : Nat → List Int) (is : List Nat) : List Nat := (sortT ν (fstL R is)).map (·.2) ++ (sortT ν (sndL R is)).map (·.2)
theorem two_ok (ν : Nat → Str) (ok : ∀ i, i < 5 → okD 58 (.str (ν i)) = true) (R : Nat → List Int) (is : List Nat) (h5 : ∀ i ∈ is, i < 5) (h2 : ∀ i ∈ is, (R i).length = 2) (hj : JOk 2 (is.map fun i => (ν i, R i))) (s : Store) :
    f_two_bench_order [lj (is.map fun i => (ν i, R i))] s = .ok (.p (.tup ((twoO ν R is).map fun i => .str (ν i)))) s := by
  have ck := check_ok hj s
  have hn := hj.n
  rw [List.length_map] at hn
  have el : lj (is.map fun i => (ν i, R i)) = .p (.lst (is.map (obν ν R))) := by
    unfold lj
    rw [List.map_map]
    rfl
  have sl : is.length ≤ szLine := by rw [szLine_eq]; omega
  -- a generator of pairs, sorted
  have gen : ∀ (c : Ev Bool) (e1 : Ev D) (p : Nat → Bool) (f : Nat → Int) (x1 x2 : Option D),
      (∀ i ∈ is, c [some (.p (.lst (is.map (obν ν R)))), x1, x2, some (.p (obν ν R i)), none, none] s = .ok (p i) s) → (∀ i ∈ is, e1 [some (.p (.lst (is.map (obν ν R)))), x1, x2, some (.p (obν ν R i)), none, none] s = .ok (.p (.int (f i))) s) →
      vGenD (itA (vV 0)) (tvN 3) c (vTup (aC e1 (aC (vFld [2] "name" (vV 3)) (aN)))) [3] kSort [some (.p (.lst (is.map (obν ν R)))), x1, x2, none, none, none] s = .ok (.p (.lst ((sortT ν ((is.filter p).map fun i => (f i, i))).map (pS ν)))) s := by
    intro c e1 p f x1 x2 hc he
    have k := compL_gen (t := tvN 3) (c := c) (e := vTup (aC e1 (aC (vFld [2] "name" (vV 3)) (aN)))) (δ0 := [some (.p (.lst (is.map (obν ν R)))), x1, x2, none, none, none]) (st := s) is (obν ν R) p (fun i => pS ν (f i, i)) (fun i hi => ⟨[some (.p (.lst (is.map (obν ν R)))), x1, x2, some (.p (obν ν R i)), none, none], rfl, hc i hi, fun _ => tup2_of (he i hi) rfl⟩)
    have lf : (is.filter p).length ≤ is.length := List.length_filter_le ..
    have ms : ((is.filter p).map fun i => pS ν (f i, i)) = ((is.filter p).map fun i => (f i, i)).map (pS ν) := by
      rw [List.map_map]
      rfl
    have hlt : ∀ z ∈ (is.filter p).map (fun i => (f i, i)), z.2 < 5 := fun z hz => by
      obtain ⟨i, hi, rfl⟩ := List.mem_map.mp hz
      exact h5 i (List.mem_filter.mp hi).1
    have cc : alikeP (((is.filter p).map fun i => (f i, i)).map (pS ν)) = true ∧ sortB (((is.filter p).map fun i => (f i, i)).map (pS ν)) = true ∧ ((((is.filter p).map fun i => (f i, i)).map (pS ν)).map D.p).length ≤ szLine :=
      ⟨alikeP_pS ν ok _ hlt, sortB_pS ν _, by rw [List.length_map, List.length_map, List.length_map]; exact Nat.le_trans lf sl⟩
    have it : itA (vV 0) [some (.p (.lst (is.map (obν ν R)))), x1, x2, none, none, none] s = .ok ⟨(is.map (obν ν R)).map .p, none⟩ s := rfl
    have w : wipE [some (.p (.lst (is.map (obν ν R)))), x1, x2, none, none, none] [3] = [some (.p (.lst (is.map (obν ν R)))), x1, x2, none, none, none] := rfl
    unfold vGenD
    rw [it]
    simp only [List.length_map, sl, if_true, w, k, ms]
    unfold kSort
    simp only [pAll_map]
    rw [if_pos cc, sortP_pS ν]
  have mi : ∀ (k : Nat), k < 2 → ∀ i ∈ is, ∀ x1 x2 : Option D, v2 oIx (vFld [2] "minutes" (vV 3)) (vK (.int (k : Nat))) [some (.p (.lst (is.map (obν ν R)))), x1, x2, some (.p (obν ν R i)), none, none] s = .ok (.p (.int ((R i).getD k 0))) s := fun k hk i hi x1 x2 =>
    (v2_of (x := .p (TP (R i))) rfl rfl).trans (ixt (R i) k (by rw [h2 i hi]; exact hk) s)
  have g1 := gen (tstB (v2 (oOrd .lt) (v2 oIx (vFld [2] "minutes" (vV 3)) (vK (.int 0))) (v2 oIx (vFld [2] "minutes" (vV 3)) (vK (.int 1))))) (v2 oIx (vFld [2] "minutes" (vV 3)) (vK (.int 0))) (fun i => decide ((R i).getD 0 0 < (R i).getD 1 0)) (fun i => (R i).getD 0 0) none none
    (fun i hi => tst_of ((v2_of (mi 0 (by decide) i hi none none) (mi 1 (by decide) i hi none none)).trans rfl)) (fun i hi => mi 0 (by decide) i hi none none)
  have g2 := gen (tstB (v2 (oOrd .ge) (v2 oIx (vFld [2] "minutes" (vV 3)) (vK (.int 0))) (v2 oIx (vFld [2] "minutes" (vV 3)) (vK (.int 1))))) (v2 oSub (vK (.int 0)) (v2 oIx (vFld [2] "minutes" (vV 3)) (vK (.int 1)))) (fun i => decide ((R i).getD 1 0 ≤ (R i).getD 0 0)) (fun i => -((R i).getD 1 0)) (some (.p (.lst ((sortT ν (fstL R is)).map (pS ν))))) none
    (fun i hi => tst_of ((v2_of (mi 0 (by decide) i hi _ none) (mi 1 (by decide) i hi _ none)).trans rfl)) (fun i hi => by
      have e := sub_of (f := vK (.int 0)) (i := 0) rfl (mi 1 (by decide) i hi (some (.p (.lst ((sortT ν (fstL R is)).map (pS ν))))) none)
      rwa [Int.zero_sub] at e)
  rw [el] at ck ⊢
  have i0 : v2 (oEq true) (vCal fLen (aC (vFld [2] "minutes" (v2 oIx (vV 0) (vK (.int 0)))) (aN))) (vK (.int 2)) [some (.p (.lst (is.map (obν ν R)))), none, none, none, none, none] s = .ok (.p (.bl false)) s := by
    obtain ⟨i, is', rfl⟩ : ∃ i is', is = i :: is' := by
      cases is with
      | nil => simp at hn
      | cons i is' => exact ⟨i, is', rfl⟩
    have x0 : v2 oIx (vV 0) (vK (.int 0)) [some (.p (.lst ((i :: is').map (obν ν R)))), none, none, none, none, none] s = .ok (.p (obν ν R i)) s := by
      refine (v2_of (x := .p (.lst ((i :: is').map (obν ν R)))) (y := .p (.int 0)) rfl rfl).trans ?_
      have : L2.atI ((i :: is').map (obν ν R)) 0 = some (obν ν R i) := Iv.atI_nat (i := 0) rfl
      unfold oIx
      simp only [seqP_lst, this]
    have x1 : vCal fLen (aC (vFld [2] "minutes" (v2 oIx (vV 0) (vK (.int 0)))) (aN)) [some (.p (.lst ((i :: is').map (obν ν R)))), none, none, none, none, none] s = .ok (.p (.int (2 : Nat))) s := by
      refine (cal1_of (d := .p (TP (R i))) (s1 := s) ?_).trans ?_
      · unfold vFld
        rw [x0]
        rfl
      · show Res.ok (D.p (P.int (((R i).map P.int).length : Nat))) s = _
        rw [List.length_map, h2 i (List.mem_cons_self ..)]
    exact (v2_of x1 rfl).trans rfl
  have cp : ∀ (j : Nat) (xs : List (Int × Nat)) (δ : Iv.Env), xs.length ≤ 5 → δ.length = 6 → vV j δ s = .ok (.p (.lst (xs.map (pS ν)))) s → vCmp (itA (vV j)) (tvT 2 (tsC (tvN 4) (tsC (tvN 5) (tsN)))) (bYes) (vV 5) [4, 5] δ s = .ok (.p (.lst (xs.map fun x => P.str (ν x.2)))) s := by
    intro j xs δ hx hd hv
    refine vCmp_all xs (pS ν) (fun x => P.str (ν x.2)) (by rw [szLine_eq]; omega) (itA_of hv rfl) fun x _ => ⟨((wipE δ [4, 5]).set 4 (some (.p (.int x.1)))).set 5 (some (.p (.str (ν x.2)))), rfl, ?_⟩
    have l6 : (wipE δ [4, 5]).length = 6 := by
      show ((δ.set 5 none).set 4 none).length = 6
      rw [List.length_set, List.length_set, hd]
    unfold vV
    rw [List.getElem?_set_self (by rw [List.length_set]; omega)]
  have lf : (sortT ν (fstL R is)).length ≤ 5 := by
    rw [(sortT_perm ν _).length_eq]
    unfold fstL
    rw [List.length_map]
    exact Nat.le_trans (List.length_filter_le ..) hn.2
  have ls : (sortT ν (sndL R is)).length ≤ 5 := by
    rw [(sortT_perm ν _).length_eq]
    unfold sndL
    rw [List.length_map]
    exact Nat.le_trans (List.length_filter_le ..) hn.2
  have c1 := cp 1 (sortT ν (fstL R is)) [some (.p (.lst (is.map (obν ν R)))), some (.p (.lst ((sortT ν (fstL R is)).map (pS ν)))), some (.p (.lst ((sortT ν (sndL R is)).map (pS ν)))), none, none, none] lf rfl rfl
  have c2 := cp 2 (sortT ν (sndL R is)) [some (.p (.lst (is.map (obν ν R)))), some (.p (.lst ((sortT ν (fstL R is)).map (pS ν)))), some (.p (.lst ((sortT ν (sndL R is)).map (pS ν)))), none, none, none] ls rfl rfl
  have ad := (v2_of (f := oAdd) c1 c2).trans (show oAdd _ _ s = .ok (.p (.lst ((twoO ν R is).map fun i => P.str (ν i)))) s by
    unfold oAdd
    simp only [see, List.length_map]
    rw [if_pos (by rw [szLine_eq]; omega)]
    unfold twoO
    rw [List.map_append, List.map_map, List.map_map]
    rfl)
  have a0 : sDo (vFn f_check_works (aC (vV 0) (aN)) []) [some (.p (.lst (is.map (obν ν R)))), none, none, none, none, none] s = .nx [some (.p (.lst (is.map (obν ν R)))), none, none, none, none, none] s := by
    unfold sDo
    rw [(fn1_of (d := .p (.lst (is.map (obν ν R)))) rfl).trans ck]
  have rr : sRet (vCal fTup (aC (v2 oAdd (vCmp (itA (vV 1)) (tvT 2 (tsC (tvN 4) (tsC (tvN 5) (tsN)))) (bYes) (vV 5) [4, 5]) (vCmp (itA (vV 2)) (tvT 2 (tsC (tvN 4) (tsC (tvN 5) (tsN)))) (bYes) (vV 5) [4, 5])) (aN))) [some (.p (.lst (is.map (obν ν R)))), some (.p (.lst ((sortT ν (fstL R is)).map (pS ν)))), some (.p (.lst ((sortT ν (sndL R is)).map (pS ν)))), none, none, none] s = .rt (.p (.tup ((twoO ν R is).map fun i => P.str (ν i)))) s := by
    unfold sRet
    rw [(cal1_of ad).trans (show fTup [.p (.lst ((twoO ν R is).map fun i => P.str (ν i)))] s = .ok (.p (.tup ((twoO ν R is).map fun i => P.str (ν i)))) s from rfl)]
  exact fnF_rt rfl ((seqn a0).trans ((seqn (if_f (tst_of i0))).trans ((seqn (asg_nx g1 rfl)).trans ((seqn (asg_nx g2 rfl)).trans rr))))
end Q11
end

section
set_option linter.all false
set_option maxHeartbeats 4100000
set_option maxRecDepth 10000
open PySem L2 Iv K11
namespace Q11
section
variable (sc : D) {B n : Nat} (hB : 1 ≤ B ∧ B ≤ 4) (hn : 1 ≤ n ∧ n ≤ 5) {js : List J} (h : Js B n js) (a c m : Int) (xs : List Int)
include hB hn h
/-- rows in an order; their last end -/
theorem lend_g (o : List Nat) (ho : ∀ i ∈ o, i < n) (hl : o.length = n) (δ : Iv.Env) {k : Nat} (h2 : δ[2]? = some (some (.p (.int (B : Nat))))) (h3 : δ[3]? = some (some (.ref 2))) (hk : δ[k]? = some (some (.p (TS o)))) (h16 : δ.length = 23) (hk3 : k ≠ 16) (gE : Ev D) (b1 : gE δ (S4 a c m js [L xs]) = .ok (.p (.int ((B - 1 : Nat) : Int))) (S4 a c m js [L xs])) :
    v2 oIx (v2 oIx (vFn f__law_ends (aC (vCmp (itA (vV k)) (tvN 16) (bYes) (v2 oDx (vV 3) (vV 16)) [16]) (aN)) []) (v2 oSub (vCal fLenX (aC (vV 3) (aN))) (vK (.int 1)))) gE δ (S4 a c m js [L xs]) = .ok (.p (.int (endO B js o))) (S4 a c m js [L xs]) := by
  have lk : js.length = n := by
    have := congrArg List.length h.k
    simpa using this
  have nd : (js.map (·.1)).Nodup := by rw [h.k]; exact nm_nodup n hn.2
  have e4 : vV k δ (S4 a c m js [L xs]) = .ok (.p (TS o)) (S4 a c m js [L xs]) := by unfold vV; rw [hk]
  have cm : vCmp (itA (vV k)) (tvN 16) (bYes) (v2 oDx (vV 3) (vV 16)) [16] δ (S4 a c m js [L xs]) = .ok (.p (.lst ((o.map (rowOf js)).map TP))) (S4 a c m js [L xs]) := by
    refine (vCmp_all o (fun i => P.str (nm i)) (fun i => TP (rowOf js i)) (by rw [szLine_eq]; omega) (itA_of (x := TS o) e4 rfl) fun i hi => ⟨((δ.set 16 none).set 16 (some (.p (.str (nm i))))), rfl, ?_⟩).trans ?_
    · exact dx4_ok nd (js_at h (ho i hi)).1 (by rw [List.getElem?_set_ne (by decide), List.getElem?_set_ne (by decide)]; exact h3) (by rw [List.getElem?_set_self (by rw [List.length_set]; omega)])
    · rw [List.map_map]
      rfl
  have hr : ∀ r ∈ o.map (rowOf js), r.length = B := fun r hr => by
    obtain ⟨i, hi, rfl⟩ := List.mem_map.mp hr
    exact h.l (nm i, rowOf js i) (js_at h (ho i hi)).1
  have le := lends_ok hB.2 (rs := o.map (rowOf js)) hr (by rw [List.length_map]; omega) (S4 a c m js [L xs]) (s4_wf ..)
  have ne : endsL (zer B) (o.map (rowOf js)) ≠ [] := by
    intro e
    have := congrArg List.length e
    rw [ends_len, List.length_map, hl, List.length_nil] at this
    omega
  obtain ⟨ys, y, hy⟩ : ∃ ys y, endsL (zer B) (o.map (rowOf js)) = ys ++ [y] := ⟨_, _, (List.dropLast_concat_getLast ne).symm⟩
  have lys : ys.length = n - 1 := by
    have := congrArg List.length hy
    rw [ends_len, List.length_map, hl, List.length_append, List.length_cons, List.length_nil] at this
    omega
  have ly : y.length = B := ends_rows B (o.map (rowOf js)) (zer B) (by simp [zer]) hr y (by rw [hy]; simp)
  have n1 : v2 oSub (vCal fLenX (aC (vV 3) (aN))) (vK (.int 1)) δ (S4 a c m js [L xs]) = .ok (.p (.int ((n - 1 : Nat) : Int))) (S4 a c m js [L xs]) := by
    have e3 : vV 3 δ (S4 a c m js [L xs]) = .ok (.ref 2) (S4 a c m js [L xs]) := by unfold vV; rw [h3]
    have l : vCal fLenX (aC (vV 3) (aN)) δ (S4 a c m js [L xs]) = .ok (.p (.int (n : Nat))) (S4 a c m js [L xs]) := by
      refine (cal1_of e3).trans ?_
      unfold fLenX
      simp only [see_dct, Option.bind_some, entP, List.length_map, lk]
    have e := sub_of l (g := vK (.int 1)) rfl
    rw [show ((n : Nat) : Int) - 1 = ((n - 1 : Nat) : Int) by omega] at e
    exact e
  have i1 : v2 oIx (vFn f__law_ends (aC (vCmp (itA (vV k)) (tvN 16) (bYes) (v2 oDx (vV 3) (vV 16)) [16]) (aN)) []) (v2 oSub (vCal fLenX (aC (vV 3) (aN))) (vK (.int 1))) δ (S4 a c m js [L xs]) = .ok (.p (TP y)) (S4 a c m js [L xs]) := by
    refine (v2_of ((fn1_of cm).trans le) n1).trans ?_
    have : L2.atI ((endsL (zer B) (o.map (rowOf js))).map TP) ((n - 1 : Nat) : Int) = some (TP y) := Iv.atI_nat (by rw [hy, ← lys]; simp)
    unfold oIx
    simp only [seqP_lst, this]
  refine (v2_of i1 b1).trans ((ixt y (B - 1) (by omega) _).trans ?_)
  unfold endO
  rw [hy, lastE_eq]
end
theorem js_eq {B n : Nat} {js : List J} (h : Js B n js) : js = (List.range n).map fun i => (nm i, rowOf js i) := by
  have lk : js.length = n := by
    have := congrArg List.length h.k
    simpa using this
  refine List.ext_getElem? fun i => ?_
  by_cases hi : i < n
  · rw [(js_at h hi).2, List.getElem?_map, List.getElem?_range hi]
    rfl
  · rw [List.getElem?_eq_none (by omega), List.getElem?_eq_none (by rw [List.length_map, List.length_range]; omega)]
theorem two_perm (ν : Nat → Str) (R : Nat → List Int) (is : List Nat) : (twoO ν R is).Perm is := by
  unfold twoO
  have p1 : ((sortT ν (fstL R is)).map (·.2)).Perm (is.filter fun i => decide ((R i).getD 0 0 < (R i).getD 1 0)) := by
    have := (sortT_perm ν (fstL R is)).map (·.2)
    unfold fstL at this
    rw [List.map_map] at this
    simpa [Function.comp_def, fstL] using this
  have p2 : ((sortT ν (sndL R is)).map (·.2)).Perm (is.filter fun i => !decide ((R i).getD 0 0 < (R i).getD 1 0)) := by
    have := (sortT_perm ν (sndL R is)).map (·.2)
    unfold sndL at this
    rw [List.map_map] at this
    have e : (is.filter fun i => decide ((R i).getD 1 0 ≤ (R i).getD 0 0)) = is.filter fun i => !decide ((R i).getD 0 0 < (R i).getD 1 0) := by
      apply List.filter_congr
      intro i _
      by_cases q : (R i).getD 0 0 < (R i).getD 1 0
      · simp only [q, decide_true, Bool.not_true, decide_eq_false_iff_not]
        omega
      · simp only [q, decide_false, Bool.not_false, decide_eq_true_eq]
        omega
    rw [← e]
    simpa [Function.comp_def, sndL] using this
  exact (p1.append p2).trans (List.filter_append_perm _ is)
end Q11
end

section
set_option linter.all false
set_option maxHeartbeats 4100000
set_option maxRecDepth 10000
open PySem L2 Iv K11
namespace Q11
def chkQ (n : Nat) : Bool := (Om n).all fun o => o.isPerm (List.range n)
theorem chkQ_ok (n : Nat) (h : 1 ≤ n ∧ n ≤ 5) : chkQ n = true := by
  have hh : n = 1 ∨ n = 2 ∨ n = 3 ∨ n = 4 ∨ n = 5 := by omega
  rcases hh with rfl | rfl | rfl | rfl | rfl <;> decide +kernel
theorem om_perm {n : Nat} (h : 1 ≤ n ∧ n ≤ 5) {o : List Nat} (ho : o ∈ Om n) : o.Perm (List.range n) := by
  have := chkQ_ok n h
  unfold chkQ at this
  rw [List.all_eq_true] at this
  exact List.isPerm_iff.mp (this o ho)
theorem end_ms {n : Nat} (hn : 1 ≤ n ∧ n ≤ 5) {js : List J} (h : Js 2 n js) {o : List Nat} (ho : o.Perm (List.range n)) : endO 2 js o = ms 0 0 (o.map fun i => ab (rowOf js i)) := by
  have hl : o.length = n := by rw [ho.length_eq, List.length_range]
  have hi : ∀ i ∈ o, i < n := fun i hi => List.mem_range.mp (ho.mem_iff.mp hi)
  cases o with
  | nil => simp at hl; omega
  | cons i o =>
    have e := ends2 (o.map (rowOf js)) (rowOf js i) 0 0 (fun q hq => by
      have hq : q ∈ (i :: o).map (rowOf js) := hq
      obtain ⟨k, hk, rfl⟩ := List.mem_map.mp hq
      exact h.l (nm k, rowOf js k) (js_at h (hi k hk)).1) (by decide) (fun q hq => by
      have hq : q ∈ (i :: o).map (rowOf js) := hq
      obtain ⟨k, hk, rfl⟩ := List.mem_map.mp hq
      have l := h.l (nm k, rowOf js k) (js_at h (hi k hk)).1
      have m := h.m (nm k, rowOf js k) (js_at h (hi k hk)).1
      dsimp only at l m
      refine (m _ ?_).1
      rw [List.getD_eq_getElem?_getD, List.getElem?_eq_getElem (by omega)]
      exact List.getElem_mem _)
    have e2 : endO 2 js (i :: o) = lastE 1 (endsL [0, 0] (rowOf js i :: o.map (rowOf js))) := rfl
    rw [e2, e]
    simp only [List.map_cons, List.map_map]
    rfl
theorem two_best {n : Nat} (hn : 1 ≤ n ∧ n ≤ 5) {js : List J} (h : Js 2 n js) {mm : Int × List Nat} (hm : IsMin ((Om n).map (zO 2 js)) mm) : endO 2 js (twoO nm (rowOf js) (List.range n)) = mm.1 := by
  have p := two_perm nm (rowOf js) (List.range n)
  have ho : twoO nm (rowOf js) (List.range n) ∈ Om n := perm_in n (List.range n) _ (by rw [List.length_range]; exact Nat.le_refl _) List.nodup_range p
  have lo : ltO (zO 2 js (twoO nm (rowOf js) (List.range n))) mm = false := hm.2 _ (List.mem_map.mpr ⟨_, ho, rfl⟩)
  obtain ⟨o', ho', rfl⟩ := List.mem_map.mp hm.1
  have p' := om_perm hn ho'
  have e1 := end_ms hn h p
  have e2 := end_ms hn h p'
  have good : ((twoO nm (rowOf js) (List.range n)).map fun i => ab (rowOf js i)).Pairwise good2 := by
    unfold twoO
    rw [List.map_append, List.map_map, List.map_map]
    have f1 : ∀ x ∈ sortT nm (fstL (rowOf js) (List.range n)), x.1 = (ab (rowOf js x.2)).1 ∧ (ab (rowOf js x.2)).1 < (ab (rowOf js x.2)).2 := by
      intro x hx
      have hx := (sortT_perm nm _).mem_iff.mp hx
      unfold fstL at hx
      obtain ⟨i, hi, rfl⟩ := List.mem_map.mp hx
      have := (List.mem_filter.mp hi).2
      rw [decide_eq_true_eq] at this
      exact ⟨rfl, this⟩
    have f2 : ∀ x ∈ sortT nm (sndL (rowOf js) (List.range n)), x.1 = -(ab (rowOf js x.2)).2 ∧ (ab (rowOf js x.2)).2 ≤ (ab (rowOf js x.2)).1 := by
      intro x hx
      have hx := (sortT_perm nm _).mem_iff.mp hx
      unfold sndL at hx
      obtain ⟨i, hi, rfl⟩ := List.mem_map.mp hx
      have := (List.mem_filter.mp hi).2
      rw [decide_eq_true_eq] at this
      exact ⟨rfl, this⟩
    refine john_good (fun x hx => ?_) (fun x hx => ?_) ?_ ?_
    · obtain ⟨z, hz, rfl⟩ := List.mem_map.mp hx
      exact (f1 z hz).2
    · obtain ⟨z, hz, rfl⟩ := List.mem_map.mp hx
      exact (f2 z hz).2
    · rw [List.pairwise_map]
      refine List.Pairwise.imp_of_mem (fun {x y} hx hy hxy => ?_) (sortT_pw nm (fstL (rowOf js) (List.range n)))
      have a := (f1 x hx).1
      have b := (f1 y hy).1
      simp only [Function.comp]
      omega
    · rw [List.pairwise_map]
      refine List.Pairwise.imp_of_mem (fun {x y} hx hy hxy => ?_) (sortT_pw nm (sndL (rowOf js) (List.range n)))
      have a := (f2 x hx).1
      have b := (f2 y hy).1
      simp only [Function.comp]
      omega
  have le := ms_best _ (o'.map fun i => ab (rowOf js i)) 0 0 good ((p'.trans p.symm).map _)
  have le1 : endO 2 js (twoO nm (rowOf js) (List.range n)) ≤ endO 2 js o' := by rw [e1, e2]; exact le
  have ge1 : endO 2 js o' ≤ endO 2 js (twoO nm (rowOf js) (List.range n)) := by
    apply Classical.byContradiction
    intro hc
    have : ltO (zO 2 js (twoO nm (rowOf js) (List.range n))) (zO 2 js o') = true := ltO_fst (Int.not_le.mp hc)
    rw [this] at lo
    cases lo
  exact Int.le_antisymm le1 ge1
end Q11
end

section
set_option linter.all false
set_option maxHeartbeats 4100000
set_option maxRecDepth 10000
open PySem L2 Iv K11
namespace Q11
theorem ok_nm : ∀ i, i < 5 → okD 58 (.str (nm i)) = true := by decide +kernel
theorem neg_of {f : Ev D} {δ : Iv.Env} {s : Store} {i : Int} (h : f δ s = .ok (.p (.int i)) s) : vU oNeg f δ s = .ok (.p (.int (-i))) s := by
  unfold vU
  rw [h]
  rfl
theorem okD_ge {x : Str} (h : okD 58 (.str x) = true) (n : Nat) : okD n (.str x) = true := by
  unfold okD at h ⊢
  exact h
section
variable (sc : D) {n : Nat} (hn : 1 ≤ n ∧ n ≤ 5) {js : List J} (h : Js 2 n js) (x4 x6 x7 x8 x9 : Option D) (a c m : Int) (xs : List Int) {mm : Int × List Nat} (hm : IsMin ((Om n).map (zO 2 js)) mm) (r : List P)
include hn h hm
theorem t10_two : ∃ x11 x12 x13, T_10 (E sc (some (.p (.int 2))) (some (.ref 2)) x4 (some (lj js)) x6 x7 x8 x9 (some (.p (.lst (pO mm :: r)))) none none none none none) (S4 a c m js [L xs]) = .nx (E sc (some (.p (.int 2))) (some (.ref 2)) x4 (some (lj js)) x6 x7 x8 x9 (some (.p (.lst (pO mm :: r)))) x11 x12 x13 none none) (S4 a c m js [L xs]) := by
  have hB : 1 ≤ 2 ∧ 2 ≤ 4 := by decide
  have je := js_eq h
  have i5 : ∀ i ∈ List.range n, i < 5 := fun i hi => by have := List.mem_range.mp hi; omega
  have il : ∀ i ∈ List.range n, (rowOf js i).length = 2 := fun i hi => h.l (nm i, rowOf js i) (js_at h (List.mem_range.mp hi)).1
  have nd : (js.map (·.1)).Nodup := by rw [h.k]; exact nm_nodup n hn.2
  have tw := two_ok nm ok_nm (rowOf js) (List.range n) i5 il (by rw [← je]; exact h.ok hB hn) (S4 a c m js [L xs])
  rw [← je] at tw
  have op := two_perm nm (rowOf js) (List.range n)
  have ol : (twoO nm (rowOf js) (List.range n)).length = n := by rw [op.length_eq, List.length_range]
  have oi : ∀ i ∈ twoO nm (rowOf js) (List.range n), i < n := fun i hi => List.mem_range.mp (op.mem_iff.mp hi)
  have best := two_best hn h hm
  have i3 : v2 (oEq false) (vV 2) (vK (.int 2)) (E sc (some (.p (.int 2))) (some (.ref 2)) x4 (some (lj js)) x6 x7 x8 x9 (some (.p (.lst (pO mm :: r)))) none none none none none) (S4 a c m js [L xs]) = .ok (.p (.bl true)) (S4 a c m js [L xs]) := rfl
  have a1 : sAsg (vFn f_two_bench_order (aC (vV 5) (aN)) []) (gvN 11) (E sc (some (.p (.int 2))) (some (.ref 2)) x4 (some (lj js)) x6 x7 x8 x9 (some (.p (.lst (pO mm :: r)))) none none none none none) (S4 a c m js [L xs]) = .nx (E sc (some (.p (.int 2))) (some (.ref 2)) x4 (some (lj js)) x6 x7 x8 x9 (some (.p (.lst (pO mm :: r)))) (some (.p (TS (twoO nm (rowOf js) (List.range n))))) none none none none) (S4 a c m js [L xs]) := asg_nx ((fn1_of (d := lj js) rfl).trans tw) rfl
  -- the law's sorted pairs
  have gen : ∀ (x11 x12 : Option D) (cc : Ev Bool) (e1 : Ev D) (p : Nat → Bool) (f : Nat → Int),
      (∀ i ∈ List.range n, cc ((E sc (some (.p (.int 2))) (some (.ref 2)) x4 (some (lj js)) x6 x7 x8 x9 (some (.p (.lst (pO mm :: r)))) x11 x12 none none none).set 16 (some (.p (.str (nm i))))) (S4 a c m js [L xs]) = .ok (p i) (S4 a c m js [L xs])) →
      (∀ i ∈ List.range n, e1 ((E sc (some (.p (.int 2))) (some (.ref 2)) x4 (some (lj js)) x6 x7 x8 x9 (some (.p (.lst (pO mm :: r)))) x11 x12 none none none).set 16 (some (.p (.str (nm i))))) (S4 a c m js [L xs]) = .ok (.p (.int (f i))) (S4 a c m js [L xs])) →
      vCal fSorted (aC (vCmp (itK (vV 3)) (tvN 16) cc (vTup (aC e1 (aC (vV 16) (aN)))) [16]) (aN)) (E sc (some (.p (.int 2))) (some (.ref 2)) x4 (some (lj js)) x6 x7 x8 x9 (some (.p (.lst (pO mm :: r)))) x11 x12 none none none) (S4 a c m js [L xs]) = .ok (.p (.lst ((sortT nm (((List.range n).filter p).map fun i => (f i, i))).map (pS nm)))) (S4 a c m js [L xs]) := by
    intro x11 x12 cc e1 p f hc he
    have it : itK (vV 3) (E sc (some (.p (.int 2))) (some (.ref 2)) x4 (some (lj js)) x6 x7 x8 x9 (some (.p (.lst (pO mm :: r)))) x11 x12 none none none) (S4 a c m js [L xs]) = .ok ⟨((List.range n).map fun i => P.str (nm i)).map .p, none⟩ (S4 a c m js [L xs]) := by
      have : (KVs js).map (fun q => D.p (kP q.1)) = ((List.range n).map fun i => P.str (nm i)).map .p := by
        have e : (KVs js).map (fun q => D.p (kP q.1)) = (js.map (·.1)).map fun s => D.p (.str s) := by
          unfold KVs
          rewrite [List.map_map]; rw [List.map_map]
          rfl
        rw [e, h.k, List.map_map, List.map_map]
        rfl
      rw [← this]
      rfl
    have q := vCmp_gen (List.range n) (fun i => P.str (nm i)) p (fun i => pS nm (f i, i)) (by rw [List.length_range, szLine_eq]; omega) it (vs := [16]) (t := tvN 16) (c := cc) (e := vTup (aC e1 (aC (vV 16) (aN)))) fun i hi => ⟨(E sc (some (.p (.int 2))) (some (.ref 2)) x4 (some (lj js)) x6 x7 x8 x9 (some (.p (.lst (pO mm :: r)))) x11 x12 none none none).set 16 (some (.p (.str (nm i)))), rfl, hc i hi, fun _ => tup2_of (he i hi) rfl⟩
    have ms : ((List.range n).filter p).map (fun i => pS nm (f i, i)) = (((List.range n).filter p).map fun i => (f i, i)).map (pS nm) := by
      rw [List.map_map]
      rfl
    rw [ms] at q
    refine (cal1_of q).trans (fSorted_pS nm ok_nm _ (fun z hz => ?_) ?_ _)
    · obtain ⟨i, hi, rfl⟩ := List.mem_map.mp hz
      exact i5 i (List.mem_filter.mp hi).1
    · rw [List.length_map]
      have := List.length_filter_le p (List.range n)
      rw [List.length_range] at this
      omega
  have mi : ∀ (x11 x12 : Option D) (k : Nat), k < 2 → ∀ i ∈ List.range n, v2 oIx (v2 oDx (vV 3) (vV 16)) (vK (.int (k : Nat))) ((E sc (some (.p (.int 2))) (some (.ref 2)) x4 (some (lj js)) x6 x7 x8 x9 (some (.p (.lst (pO mm :: r)))) x11 x12 none none none).set 16 (some (.p (.str (nm i))))) (S4 a c m js [L xs]) = .ok (.p (.int ((rowOf js i).getD k 0))) (S4 a c m js [L xs]) := fun x11 x12 k hk i hi =>
    (v2_of (dx4_ok nd (js_at h (List.mem_range.mp hi)).1 rfl rfl) rfl).trans (ixt (rowOf js i) k (by rw [il i hi]; exact hk) _)
  have a2 : sAsg (vCal fSorted (aC (vCmp (itK (vV 3)) (tvN 16) (tstB (v2 (oOrd .lt) (v2 oIx (v2 oDx (vV 3) (vV 16)) (vK (.int 0))) (v2 oIx (v2 oDx (vV 3) (vV 16)) (vK (.int 1))))) (vTup (aC (v2 oIx (v2 oDx (vV 3) (vV 16)) (vK (.int 0))) (aC (vV 16) (aN)))) [16]) (aN))) (gvN 12) (E sc (some (.p (.int 2))) (some (.ref 2)) x4 (some (lj js)) x6 x7 x8 x9 (some (.p (.lst (pO mm :: r)))) (some (.p (TS (twoO nm (rowOf js) (List.range n))))) none none none none) (S4 a c m js [L xs]) = .nx (E sc (some (.p (.int 2))) (some (.ref 2)) x4 (some (lj js)) x6 x7 x8 x9 (some (.p (.lst (pO mm :: r)))) (some (.p (TS (twoO nm (rowOf js) (List.range n))))) (some (.p (.lst ((sortT nm (fstL (rowOf js) (List.range n))).map (pS nm))))) none none none) (S4 a c m js [L xs]) :=
    asg_nx (gen _ _ _ _ (fun i => decide ((rowOf js i).getD 0 0 < (rowOf js i).getD 1 0)) (fun i => (rowOf js i).getD 0 0) (fun i hi => tst_of ((v2_of (mi _ _ 0 (by decide) i hi) (mi _ _ 1 (by decide) i hi)).trans rfl)) (fun i hi => mi _ _ 0 (by decide) i hi)) rfl
  have a3 : sAsg (vCal fSorted (aC (vCmp (itK (vV 3)) (tvN 16) (tstB (v2 (oOrd .ge) (v2 oIx (v2 oDx (vV 3) (vV 16)) (vK (.int 0))) (v2 oIx (v2 oDx (vV 3) (vV 16)) (vK (.int 1))))) (vTup (aC (vU oNeg (v2 oIx (v2 oDx (vV 3) (vV 16)) (vK (.int 1)))) (aC (vV 16) (aN)))) [16]) (aN))) (gvN 13) (E sc (some (.p (.int 2))) (some (.ref 2)) x4 (some (lj js)) x6 x7 x8 x9 (some (.p (.lst (pO mm :: r)))) (some (.p (TS (twoO nm (rowOf js) (List.range n))))) (some (.p (.lst ((sortT nm (fstL (rowOf js) (List.range n))).map (pS nm))))) none none none) (S4 a c m js [L xs]) = .nx (E sc (some (.p (.int 2))) (some (.ref 2)) x4 (some (lj js)) x6 x7 x8 x9 (some (.p (.lst (pO mm :: r)))) (some (.p (TS (twoO nm (rowOf js) (List.range n))))) (some (.p (.lst ((sortT nm (fstL (rowOf js) (List.range n))).map (pS nm))))) (some (.p (.lst ((sortT nm (sndL (rowOf js) (List.range n))).map (pS nm))))) none none) (S4 a c m js [L xs]) :=
    asg_nx (gen _ _ _ _ (fun i => decide ((rowOf js i).getD 1 0 ≤ (rowOf js i).getD 0 0)) (fun i => -((rowOf js i).getD 1 0)) (fun i hi => tst_of ((v2_of (mi _ _ 0 (by decide) i hi) (mi _ _ 1 (by decide) i hi)).trans rfl)) (fun i hi => by
      exact neg_of (mi _ _ 1 (by decide) i hi))) rfl
  refine ⟨some (.p (TS (twoO nm (rowOf js) (List.range n)))), some (.p (.lst ((sortT nm (fstL (rowOf js) (List.range n))).map (pS nm)))), some (.p (.lst ((sortT nm (sndL (rowOf js) (List.range n))).map (pS nm)))), ?_⟩
  have ift : ∀ (f g : Sv), sIf (tstB (v2 (oEq false) (vV 2) (vK (.int 2)))) f g (E sc (some (.p (.int 2))) (some (.ref 2)) x4 (some (lj js)) x6 x7 x8 x9 (some (.p (.lst (pO mm :: r)))) none none none none none) (S4 a c m js [L xs]) = f (E sc (some (.p (.int 2))) (some (.ref 2)) x4 (some (lj js)) x6 x7 x8 x9 (some (.p (.lst (pO mm :: r)))) none none none none none) (S4 a c m js [L xs]) := fun f g => by
    unfold sIf
    rw [tst_of i3]
  have lf : (sortT nm (fstL (rowOf js) (List.range n))).length ≤ 5 := by
    rw [(sortT_perm nm _).length_eq]
    unfold fstL
    rw [List.length_map]
    refine Nat.le_trans (List.length_filter_le ..) ?_
    rw [List.length_range]; exact hn.2
  have ls : (sortT nm (sndL (rowOf js) (List.range n))).length ≤ 5 := by
    rw [(sortT_perm nm _).length_eq]
    unfold sndL
    rw [List.length_map]
    refine Nat.le_trans (List.length_filter_le ..) ?_
    rw [List.length_range]; exact hn.2
  have pe : pEq (LS (twoO nm (rowOf js) (List.range n))) (LS (twoO nm (rowOf js) (List.range n))) = some true := pEq_self (by
    unfold LS okD
    refine okDs_all _ _ fun y hy => ?_
    obtain ⟨i, hi, rfl⟩ := List.mem_map.mp hy
    exact okD_ge (ok_nm i (by have := oi i hi; omega)) _)
  have cA : ∀ δ : Iv.Env, δ[12]? = some (some (.p (.lst ((sortT nm (fstL (rowOf js) (List.range n))).map (pS nm))))) → δ[13]? = some (some (.p (.lst ((sortT nm (sndL (rowOf js) (List.range n))).map (pS nm))))) → δ.length = 23 → vCmp (itA (v2 oAdd (vV 12) (vV 13))) (tvN 18) (bYes) (v2 oIx (vV 18) (vK (.int 1))) [18] δ (S4 a c m js [L xs]) = .ok (.p (LS (twoO nm (rowOf js) (List.range n)))) (S4 a c m js [L xs]) := by
    intro δ h12 h13 hd
    have ad : v2 oAdd (vV 12) (vV 13) δ (S4 a c m js [L xs]) = .ok (.p (.lst ((sortT nm (fstL (rowOf js) (List.range n)) ++ sortT nm (sndL (rowOf js) (List.range n))).map (pS nm)))) (S4 a c m js [L xs]) := by
      refine (v2_of (x := .p (.lst ((sortT nm (fstL (rowOf js) (List.range n))).map (pS nm)))) (y := .p (.lst ((sortT nm (sndL (rowOf js) (List.range n))).map (pS nm)))) (s1 := S4 a c m js [L xs]) (s2 := S4 a c m js [L xs]) (by unfold vV; rw [h12]) (by unfold vV; rw [h13])).trans ?_
      unfold oAdd
      simp only [see, List.length_map]
      rw [if_pos (by rw [szLine_eq]; omega), List.map_append]
    refine (vCmp_all (sortT nm (fstL (rowOf js) (List.range n)) ++ sortT nm (sndL (rowOf js) (List.range n))) (pS nm) (fun x => P.str (nm x.2)) (by rw [List.length_append, szLine_eq]; omega) (itA_of ad rfl) fun x _ => ⟨(δ.set 18 none).set 18 (some (.p (pS nm x))), rfl, ?_⟩).trans ?_
    · refine (v2_of (x := .p (pS nm x)) (y := .p (.int 1)) (s1 := S4 a c m js [L xs]) (s2 := S4 a c m js [L xs]) (by unfold vV; rw [List.getElem?_set_self (by rw [List.length_set]; omega)]) rfl).trans ?_
      rfl
    · unfold LS twoO
      rw [List.map_append, List.map_append, List.map_map, List.map_map]
      rfl
  have cE : ∀ δ : Iv.Env, δ[2]? = some (some (.p (.int (2 : Nat)))) → δ[3]? = some (some (.ref 2)) → δ[11]? = some (some (.p (TS (twoO nm (rowOf js) (List.range n))))) → δ.length = 23 → v2 oIx (v2 oIx (vFn f__law_ends (aC (vCmp (itA (vV 11)) (tvN 16) (bYes) (v2 oDx (vV 3) (vV 16)) [16]) (aN)) []) (v2 oSub (vCal fLenX (aC (vV 3) (aN))) (vK (.int 1)))) (vK (.int 1)) δ (S4 a c m js [L xs]) = .ok (.p (.int mm.1)) (S4 a c m js [L xs]) := by
    intro δ h2 h3 h11 hd
    rw [← best]
    exact lend_g hB hn h a c m xs _ oi ol δ h2 h3 h11 hd (by decide) (vK (.int 1)) rfl
  refine (ift _ _).trans ((seqn a1).trans ((seqn a2).trans ((seqn a3).trans ?_)))
  refine if_f (or_ff (tst_of (eq_of (x := LS (twoO nm (rowOf js) (List.range n))) rfl (cA _ rfl rfl rfl) pe)) (tst_of (eq_of (x := .int mm.1) (cE _ rfl rfl rfl rfl) ?_ (pEq_self rfl))))
  refine (v2_of (x := .p (pO mm)) (y := .p (.int 0)) (s1 := S4 a c m js [L xs]) (s2 := S4 a c m js [L xs]) ((v2_of (x := .p (.lst (pO mm :: r))) (y := .p (.int 0)) rfl rfl).trans ?_) rfl).trans rfl
  have : L2.atI (pO mm :: r) 0 = some (pO mm) := Iv.atI_nat (i := 0) rfl
  unfold oIx
  simp only [seqP_lst, this]
end
end Q11
end

section
set_option linter.all false
set_option maxHeartbeats 4100000
set_option maxRecDepth 10000
open PySem L2 Iv K11
namespace Q11
theorem int_neq {i j : Int} (h : i ≠ j) : pEq (.int i) (.int j) = some false := by
  unfold pEq
  simp [h]
theorem t10_ok (sc : D) {n B : Nat} (hB : 1 ≤ B ∧ B ≤ 4) (hn : 1 ≤ n ∧ n ≤ 5) {js : List J} (h : Js B n js) (x4 x6 x7 x8 x9 : Option D) (a c m : Int) (xs : List Int) {mm : Int × List Nat} (hm : IsMin ((Om n).map (zO B js)) mm) (r : List P) :
    ∃ x11 x12 x13, T_10 (E sc (some (.p (.int (B : Nat)))) (some (.ref 2)) x4 (some (lj js)) x6 x7 x8 x9 (some (.p (.lst (pO mm :: r)))) none none none none none) (S4 a c m js [L xs]) = .nx (E sc (some (.p (.int (B : Nat)))) (some (.ref 2)) x4 (some (lj js)) x6 x7 x8 x9 (some (.p (.lst (pO mm :: r)))) x11 x12 x13 none none) (S4 a c m js [L xs]) := by
  by_cases hb : B = 2
  · subst hb
    exact t10_two sc hn h x4 x6 x7 x8 x9 a c m xs hm r
  · refine ⟨none, none, none, ?_⟩
    have ne : pEq (.int (B : Nat)) (.int 2) = some false := int_neq (by omega)
    refine if_f (tst_of ((v2_of (x := .p (.int (B : Nat))) (y := .p (.int 2)) (s1 := S4 a c m js [L xs]) (s2 := S4 a c m js [L xs]) rfl rfl).trans ?_))
    unfold oEq
    simp only [see, ne]
    rfl
theorem tb_ok (sc : D) (a b m : Int) (hm : okM m) : ∃ x2 x3 x4 x5 x6 x7 x8 x9 x10 x11 x12 x13 a' b' m' js xs, TB (E sc none none none none none none none none none none none none none none) [dC a b m, .lst [.ref 0]] = .nx (E sc x2 x3 x4 x5 x6 x7 x8 x9 x10 x11 x12 x13 none none) (S4 a' b' m' js [L xs]) := by
  obtain ⟨B, a0, b0, m0, hB, o0, e0⟩ := t0_ok sc a b m hm
  obtain ⟨n, js, a1, b1, m1, x4, hn, hj, o1, e1⟩ := t1_ok sc hB a0 b0 m0 o0
  have jk := hj.ok hB hn
  have e2 := t2_ok sc jk (some (.p (.int (B : Nat)))) x4 a1 b1 m1
  have e34 := t34_ok sc jk (some (.p (.int (B : Nat)))) x4 a1 b1 m1
  obtain ⟨x8, x9, e56⟩ := t56_ok sc jk x4 (some (lj js)) a1 b1 m1
  have e7 := t7_ok sc jk (some (.p (.int (B : Nat)))) x4 (some (.p (.lst ((endsL (zer B) (rws js)).map TP)))) x8 x9 a1 b1 m1
  obtain ⟨mm, hmm, x10, ⟨r, rfl⟩, e89⟩ := t89_ok sc hB hn hj x4 (some (.p (.lst ((endsL (zer B) (rws js)).map TP)))) (some (.ref 3)) x8 x9 a1 b1 m1 (ids B B js)
  obtain ⟨x11, x12, x13, e10⟩ := t10_ok sc hB hn hj x4 (some (.p (.lst ((endsL (zer B) (rws js)).map TP)))) (some (.ref 3)) x8 x9 a1 b1 m1 (ids B B js) hmm r
  have fin : TB (E sc none none none none none none none none none none none none none none) [dC a b m, .lst [.ref 0]] = .nx (E sc (some (.p (.int (B : Nat)))) (some (.ref 2)) x4 (some (lj js)) (some (.p (.lst ((endsL (zer B) (rws js)).map TP)))) (some (.ref 3)) x8 x9 (some (.p (.lst (pO mm :: r)))) x11 x12 x13 none none) (S4 a1 b1 m1 js [L (ids B B js)]) := by
    show sSeq T_0 (sSeq T_1 (sSeq T_2 (sSeq T_3 (sSeq T_4 (sSeq T_5 (sSeq T_6 (sSeq T_7 (sSeq T_8 (sSeq T_9 (T_10)))))))))) _ _ = _
    exact (seqn e0).trans ((seqn e1).trans ((seqn e2).trans ((e34 _).trans ((e56 _).trans ((seqn e7).trans ((e89 _).trans e10))))))
  exact ⟨_, _, _, _, _, _, _, _, _, _, _, _, _, _, _, _, _, fin⟩
end Q11
end

section
set_option linter.all false
set_option maxHeartbeats 4100000
set_option maxRecDepth 10000
open PySem L2 Iv K11
namespace Q11
def LL : D := .p (.lst ((List.range 10).map P.lam))
def o31 : J := ("b", [3, 1])
section
variable (sc : D) (x2 x3 x4 x5 x6 x7 x8 x9 x10 x11 x12 x13 : Option D) {s : Store} (w0 : WfS s)
def E2 : Iv.Env := E sc x2 x3 x4 x5 x6 x7 x8 x9 x10 x11 x12 x13 (some (.p (ob o12))) (some LL)
include w0
theorem v1_ok : V_1 (E sc x2 x3 x4 x5 x6 x7 x8 x9 x10 x11 x12 x13 none none) s = .nx (E sc x2 x3 x4 x5 x6 x7 x8 x9 x10 x11 x12 x13 (some (.p (ob o12))) none) s :=
  asg_nx (d := .p (ob o12)) (s1 := s) (make_ok2 w0 o12 (by decide) (by decide) rfl) rfl
omit w0 in
theorem v2_ok : V_2 (E sc x2 x3 x4 x5 x6 x7 x8 x9 x10 x11 x12 x13 (some (.p (ob o12))) none) s = .nx (E2 sc x2 x3 x4 x5 x6 x7 x8 x9 x10 x11 x12 x13) s := rfl
theorem lam_all (k : Nat) (hk : k ∈ List.range 10) : lams_law k (E2 sc x2 x3 x4 x5 x6 x7 x8 x9 x10 x11 x12 x13) s = .exc 1 s := by
  rw [List.mem_range] at hk
  have : k = 0 ∨ k = 1 ∨ k = 2 ∨ k = 3 ∨ k = 4 ∨ k = 5 ∨ k = 6 ∨ k = 7 ∨ k = 8 ∨ k = 9 := by omega
  rcases this with rfl | rfl | rfl | rfl | rfl | rfl | rfl | rfl | rfl | rfl
  · exact lam_0 _ w0
  · exact lam_1 _ w0
  · exact lam_2 _ s
  · exact lam_3 rfl s
  · exact lam_4 rfl w0
  · exact lam_5 _ rfl w0
  · exact lam_6 _ s
  · exact lam_7 _ s
  · exact lam_8 _ w0
  · exact lam_9 _ w0
def badE : Ev D := vCmp (itA (vV 15)) (tvN 19) (tstB (v2 (oEq true) (vToldL 19 [19] 1 "CutError" lams_law) (vK (.str "CutError")))) (vK (.int 1)) [19]
def E3 (x : Nat) : Iv.Env := [some sc, some (.ref 0), x2, x3, x4, x5, x6, x7, x8, x9, x10, x11, x12, x13, some (.p (ob o12)), some LL, none, none, none, some (.p (.lam x)), none, none, none]
theorem c0_ok : badE (E2 sc x2 x3 x4 x5 x6 x7 x8 x9 x10 x11 x12 x13) s = .ok (.p (.lst [])) s := by
  have st : pEq (.str "CutError") (.str "CutError") = some true := by decide +kernel
  have k := vCmp_gen (fi := itA (vV 15)) (t := tvN 19) (c := tstB (v2 (oEq true) (vToldL 19 [19] 1 "CutError" lams_law) (vK (.str "CutError")))) (e := vK (.int 1)) (vs := [19]) (δ := E2 sc x2 x3 x4 x5 x6 x7 x8 x9 x10 x11 x12 x13) (s := s) (List.range 10) P.lam (fun _ => false) (fun _ => .int 1) (by decide) rfl (fun x hx => by
    refine ⟨E3 sc x2 x3 x4 x5 x6 x7 x8 x9 x10 x11 x12 x13 x, rfl, ?_, fun h => by cases h⟩
    have h := lam_all sc x2 x3 x4 x5 x6 x7 x8 x9 x10 x11 x12 x13 w0 x hx
    have h2 : vToldL 19 [19] 1 "CutError" lams_law (E3 sc x2 x3 x4 x5 x6 x7 x8 x9 x10 x11 x12 x13 x) s = .ok (.p (.str "CutError")) s := by
      show vTold 1 "CutError" (lams_law x) (E2 sc x2 x3 x4 x5 x6 x7 x8 x9 x10 x11 x12 x13) s = _
      unfold vTold
      rw [h]
      rfl
    simp (disch := omega) only [bnd_ok, bnd_exc, fnF, startE, sSeq, sIf, sAsg, sRet, sNx, sAug, sPar, sDo, sRaise, bOr, bAnd, bNot, bYes, tstB, v2, vV, vK, aC, aN, vCal, vU, vIf, vCh, vAnd, vFn, oIx, oAdd, oSub, oMul, oDiv, oMod, oNeg, see, seeC, fInt, fAbs_int, fMax_int, fMin_int, ordI_int, retF_same, excF_same, gvN, gvS, gvT, gsC, gsN, iAdd, L2.atI, L2.ixN, mulOk_l, mulOk_r, log_ok, le_t, le_f, lt_t, lt_f, gt_t, gt_f, ge_t, ge_f, List.getElem?_cons_zero, List.getElem?_cons_succ, List.set_cons_zero, List.set_cons_succ, List.length_cons, List.length_nil, List.map_cons, List.map_nil, List.cons_append, List.nil_append, List.append_nil, List.replicate_succ, List.replicate_zero, Nat.zero_add, Nat.reduceAdd, Nat.reduceSub, Nat.reduceLT, Nat.reduceLeDiff, Int.reduceLT, Int.reduceLE, Int.reduceAdd, Int.reduceSub, Int.reduceMul, Int.reduceNeg, decide_true, decide_false, Bool.not_true, Bool.not_false, reduceCtorEq, ↓reduceIte, and_self, and_true, true_and, if_true, if_false, Bool.false_eq_true, if_pos, if_neg, Int.reduceToNat, Int.toNat_zero, Int.toNat_one, Option.bind_some, Option.map_some, pAll, pAll_map, seqP_lst, seqP_tup, seqP_scr, vTup, vLst, vLstM, szLine_eq, vMet, isList, mApp, last_get, last_set, List.length_map, List.length_append, seeC, oIs, Option.map, h2, oEq, st])
  have nil : ((List.range 10).filter fun _ => false) = [] := by decide
  rw [nil] at k
  exact k
def mkB : Ev D := vMake 2 f_Work___init__ false (aC (vK (.str "b")) (aC (vLst (aC (vK (.int 3)) (aC (vK (.int 1)) (aN)))) (aN))) []
theorem mk_ok (δ : Iv.Env) : mkB δ s = .ok (.p (ob o31)) s := make_ok2 w0 o31 (by decide) (by decide) rfl
end
theorem jk1 : JOk 2 [o12, o31] := ⟨by decide, by decide, by decide, by decide, by decide⟩
theorem jk2 : JOk 2 [o31, o12] := ⟨by decide, by decide, by decide, by decide, by decide⟩
end Q11
end

section
set_option linter.all false
set_option maxHeartbeats 4100000
set_option maxRecDepth 10000
open PySem L2 Iv K11
namespace Q11
def νb (i : Nat) : Str := if i = 0 then "b" else "a"
def Rb (i : Nat) : List Int := if i = 0 then [3, 1] else [1, 2]
theorem twoO_b : twoO νb Rb [0, 1] = [1, 0] := by
  have f1 : fstL Rb [0, 1] = [(1, 1)] := by decide
  have f2 : sndL Rb [0, 1] = [(-1, 0)] := by decide
  unfold twoO
  rw [f1, f2]
  unfold sortT
  rw [List.mergeSort_singleton, List.mergeSort_singleton]
  rfl
section
variable (sc : D) (x2 x3 x4 x5 x6 x7 x8 x9 x10 x11 x12 x13 : Option D) {s : Store} (w0 : WfS s)
include w0
theorem v3_ok : V_3 (E2 sc x2 x3 x4 x5 x6 x7 x8 x9 x10 x11 x12 x13) s = .rt (.p (.bl true)) s := by
  have c0 := c0_ok sc x2 x3 x4 x5 x6 x7 x8 x9 x10 x11 x12 x13 w0
  have mk := mk_ok w0 (E2 sc x2 x3 x4 x5 x6 x7 x8 x9 x10 x11 x12 x13)
  have eo : f_ends_of [.p (.lst [ob o12, ob o31])] s = .ok (.p (.tup [.tup [.int 1, .int 3], .tup [.int 4, .int 5]])) s := (ends_ok jk1 s w0).trans rfl
  have io : f_idle_minutes [.p (.lst [ob o12, ob o31])] s = .ok (.p (.tup [.int 0, .int 1])) s := (idle_ok jk1 s w0).trans rfl
  have tw := two_ok νb (by decide +kernel) Rb [0, 1] (by decide) (by decide) jk2 s
  rw [twoO_b] at tw
  have tw' : f_two_bench_order [.p (.lst [ob o31, ob o12])] s = .ok (.p (.tup [.str "a", .str "b"])) s := tw
  have pn := pEq_nil0
  have p7 : pEq (.int 7) (.int 7) = some true := pEq_self rfl
  have q1 : pEq (.tup [.tup [.int 1, .int 3], .tup [.int 4, .int 5]]) (.tup [.tup [.int 1, .int 3], .tup [.int 4, .int 5]]) = some true := pEq_self (by rfl)
  have q2 : pEq (.tup [.int 0, .int 1]) (.tup [.int 0, .int 1]) = some true := pEq_self (by rfl)
  have q3 : pEq (.tup [.str "a", .str "b"]) (.tup [.str "a", .str "b"]) = some true := by decide +kernel
  have v14 : (E2 sc x2 x3 x4 x5 x6 x7 x8 x9 x10 x11 x12 x13)[14]? = some (some (.p (ob o12))) := rfl
  have sz0 : 0 ≤ szLine := by decide
  unfold V_3
  have hb : vCmp (itA (vV 15)) (tvN 19) (tstB (v2 (oEq true) (vToldL 19 [19] 1 "CutError" lams_law) (vK (.str "CutError")))) (vK (.int 1)) [19] = badE := rfl
  have hm : vMake 2 f_Work___init__ false (aC (vK (.str "b")) (aC (vLst (aC (vK (.int 3)) (aC (vK (.int 1)) (aN)))) (aN))) [] = mkB := rfl
  rw [hb, hm]
  generalize badE = Bd at *
  generalize mkB = Mb at *
  generalize E2 sc x2 x3 x4 x5 x6 x7 x8 x9 x10 x11 x12 x13 = δ at *
  generalize ob o12 = A at *
  generalize ob o31 = C at *
  simp (disch := omega) only [bnd_ok, bnd_exc, fnF, startE, sSeq, sIf, sAsg, sRet, sNx, sAug, sPar, sDo, sRaise, bOr, bAnd, bNot, bYes, tstB, v2, vV, vK, aC, aN, vCal, vU, vIf, vCh, vAnd, vFn, oIx, oAdd, oSub, oMul, oDiv, oMod, oNeg, see, seeC, fInt, fAbs_int, fMax_int, fMin_int, ordI_int, retF_same, excF_same, gvN, gvS, gvT, gsC, gsN, iAdd, L2.atI, L2.ixN, mulOk_l, mulOk_r, log_ok, le_t, le_f, lt_t, lt_f, gt_t, gt_f, ge_t, ge_f, List.getElem?_cons_zero, List.getElem?_cons_succ, List.set_cons_zero, List.set_cons_succ, List.length_cons, List.length_nil, List.map_cons, List.map_nil, List.cons_append, List.nil_append, List.append_nil, List.replicate_succ, List.replicate_zero, Nat.zero_add, Nat.reduceAdd, Nat.reduceSub, Nat.reduceLT, Nat.reduceLeDiff, Int.reduceLT, Int.reduceLE, Int.reduceAdd, Int.reduceSub, Int.reduceMul, Int.reduceNeg, decide_true, decide_false, Bool.not_true, Bool.not_false, reduceCtorEq, ↓reduceIte, and_self, and_true, true_and, if_true, if_false, Bool.false_eq_true, if_pos, if_neg, Int.reduceToNat, Int.toNat_zero, Int.toNat_one, Option.bind_some, Option.map_some, pAll, pAll_map, seqP_lst, seqP_tup, seqP_scr, vTup, vLst, vLstM, szLine_eq, vMet, isList, mApp, last_get, last_set, List.length_map, List.length_append, seeC, oIs, Option.map, c0, mk, v14, eo, io, tw', oEq, pn, p7, q1, q2, q3, sz0]
end
theorem law_true (ns : List Int) (hl : ns.length ≤ 63) (hb : ∀ z ∈ ns, Builtin.Int.intBits z ≤ 1048576) : ∃ s, b_law (startE 23 [scrD ns]) [] = .rt (.p (.bl true)) s := by
  obtain ⟨a, b, m, e, hm⟩ := rounds_ok ns
  obtain ⟨x2, x3, x4, x5, x6, x7, x8, x9, x10, x11, x12, x13, a', b', m', js, xs, e2⟩ := tb_ok (scrD ns) a b m hm
  have w0 := s4_wf a' b' m' js xs
  refine ⟨S4 a' b' m' js [L xs], ?_⟩
  rw [law_eq]
  have f : sForI (itA (vFn f__law_rounds (aC (vV 0) (aC (vK (.int 1)) (aN))) [])) (gvN 1) TB (startE 23 [scrD ns]) [] = .nx (E (scrD ns) x2 x3 x4 x5 x6 x7 x8 x9 x10 x11 x12 x13 none none) (S4 a' b' m' js [L xs]) := by
    unfold E S4 at *
    generalize TB = br at *
    simp (disch := omega) only [bnd_ok, bnd_exc, fnF, startE, sSeq, sIf, sAsg, sRet, sNx, sAug, sPar, sDo, sRaise, bOr, bAnd, bNot, bYes, tstB, v2, vV, vK, aC, aN, vCal, vU, vIf, vCh, vAnd, vFn, oIx, oAdd, oSub, oMul, oDiv, oMod, oNeg, see, seeC, fInt, fAbs_int, fMax_int, fMin_int, ordI_int, retF_same, excF_same, gvN, gvS, gvT, gsC, gsN, iAdd, L2.atI, L2.ixN, mulOk_l, mulOk_r, log_ok, le_t, le_f, lt_t, lt_f, gt_t, gt_f, ge_t, ge_f, List.getElem?_cons_zero, List.getElem?_cons_succ, List.set_cons_zero, List.set_cons_succ, List.length_cons, List.length_nil, List.map_cons, List.map_nil, List.cons_append, List.nil_append, List.append_nil, List.replicate_succ, List.replicate_zero, Nat.zero_add, Nat.reduceAdd, Nat.reduceSub, Nat.reduceLT, Nat.reduceLeDiff, Int.reduceLT, Int.reduceLE, Int.reduceAdd, Int.reduceSub, Int.reduceMul, Int.reduceNeg, decide_true, decide_false, Bool.not_true, Bool.not_false, reduceCtorEq, ↓reduceIte, and_self, and_true, true_and, if_true, if_false, Bool.false_eq_true, if_pos, if_neg, Int.reduceToNat, Int.toNat_zero, Int.toNat_one, Option.bind_some, Option.map_some, pAll, pAll_map, seqP_lst, seqP_tup, seqP_scr, vTup, vLst, vLstM, szLine_eq, vMet, isList, mApp, last_get, last_set, List.length_map, List.length_append, seeC, oIs, Option.map, sForI, itA, e, sFor, getI, endI, e2]
  exact (seqn f).trans ((seqn (v1_ok _ _ _ _ _ _ _ _ _ _ _ _ _ w0)).trans ((seqn (v2_ok ..)).trans (v3_ok _ _ _ _ _ _ _ _ _ _ _ _ _ w0)))
end Q11
end

section
theorem PySem.Challenge.cw_woodstack_k11_works_from_bench_to_bench_holds : PySem.Challenge.rw_woodstack_k11_works_from_bench_to_bench.Holds := by
  exact k11_of Q11.law_true
end
